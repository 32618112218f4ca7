import PyProof.Rows.All
import Wide.All
import OpenK.AllK
import Wide.FinOn
import PyProof.EqAt
import PyProof.EqKinds
import PyProof.TupleCall
import HandS.ForMost
import HandS.Exc
import HandS.Lambda
import HandS.ExcInit
import HandS.Wide
import HandS.WideBits
import HandS.Deep
import HandS.Style
import HandS.TupAny
import HandS.IsInst
import HandS.Codes
import HandS.TupLen
import HandS.Sort
import HandS.SortRule
import HandS.SortInts
import HandS.Small
import HandS.Text
import HandS.Walk
import HandS.Iter
import HandS.Zip
import PyProof.EnumMake
import PyProof.Draws
import HandS.Zip0
import HandS.Comp
import HandS.Defaults
import HandS.Dict
import HandS.DictComp
import KE.SortKeyHeap
import PyProof.StrOps
import KE.KDictList
import KE.KDictSum
import HandS.Conv
import KE.KStateDown
import HandS.Head0
import HandS.Head1
import HandS.Head2
import HandS.HeadEnd
import HandS.HeadHook1
import HandS.HeadHook2
import HandS.HeadHook3
import HandS.HeadHook4
import HandS.HeadWalk
import KE.KExcSuper
import HandS.ExcIs
import KE.KExcIs
import HandS.ExcOwn
import HandS.ExcValue
import HandS.TryMany
import HandS.ExcField
import HandS.TupLe
import HandS.ReplaceLit
import HandS.OwnEq
import HandS.More
import PyProof.ReprRoads
import OpenK.KMore
import KE.SortData
import PyProof.TupleOfSeq
import KE.GoesZip
import KE.GoesMore
import KE.DataMinMax
import KE.KTupSum
import KE.KUnpack
import HandS.Property
import HandS.SetFor
import HandS.SetKeys
import Wide.More
import HandS.Strs
import PyProof.Rows.SortShellAny
import PyProof.StrReplace2
import KE.KOpsOwn
import KE.KCallOwn
import HandS.FStr
import PyProof.Rows.RegStrFacts
import PySem.Challenge.RW_leastjoined_k35_ratios
set_option Elab.async false
set_option linter.all false
set_option maxRecDepth 100000
set_option maxHeartbeats 2000000
namespace VL
open PySem PySem.Spec L2
inductive PV where
  | non | bl (b : Bool) | int (i : Int) | str (x : Str)
  | tup (xs : List PV) | lst (xs : List PV) | scr (ns : List Int)
  | dK (ks : List Key) (vs : List PV) | dT (ks : List (List Key)) (vs : List PV)
  | ins (c : Nat) (vs : List PV)
  | exc (c : Nat) (vs : List PV)
  | lnk (j : Nat)
  /-- a tuple made here by tuple(): its object has no dict -/
  | ftp (xs : List PV)
  deriving Inhabited
/-- what is fixed: the written part, where the classes stand, their fields in order, the fields' names -/
structure Ct where
  K : PySem.W.Frag
  ad : Nat → Addr
  L : Nat → List Nat
  nm : Nat → Str
  T : List (Addr × Str) := []
  ea : Nat → Addr := fun _ => 0
  eL : Nat → List Nat := fun _ => []
  /-- where the linked containers stand -/
  lk : Nat → Option Addr := fun _ => none
def Ct.fl (C : Ct) (c : Nat) : List Str := (C.L c).map C.nm
/-- the errors: where their classes stand, their fields -/
def Ct.el (C : Ct) (c : Nat) : List Str := (C.eL c).map C.nm
/-- the fields of an error, the last one first -/
def flds (fs : List Str) (ws : List V) (done : List (Str × V)) : List (Str × V) := (fs.zip ws).reverse ++ done
/-- an error of the class C stands at a, its fields in its dict -/
def EvR (C : Addr) (fs : List Str) (vs : List V) (a : Addr) (F : Hp) : Prop := vs.length = fs.length ∧ ((fs = [] ∧ F a = some (exo a C none)) ∨ ∃ dx, F a = some (exo a C (some dx)) ∧ F dx = some (exd dx (flds fs vs [])))
mutual
def R (C : Ct) (F : Hp) : PV → V → Prop
  | .non, v => v = .non
  | .bl b, v => v = .bl b
  | .int i, v => v = .int i
  | .str x, v => v = .str x
  | .tup xs, v => ∃ a vs, v = .ref a ∧ F a = some (.tup vs) ∧ Rs C F xs vs
  | .lst xs, v => ∃ a vs, v = .ref a ∧ F a = some (.lst vs) ∧ Rs C F xs vs
  | .scr ns, v => ∃ a, v = .ref a ∧ SqL C.K F a (ns.map V.int)
  | .dK ks xs, v => ∃ (a : Addr) (kvs : List (Key × V)), v = .ref a ∧ Rd F a (.dK kvs) ∧ kvs.map Prod.fst = ks ∧ Rs C F xs (kvs.map Prod.snd)
  | .dT ks xs, v => ∃ (a : Addr) (kvs : List (List Key × V)), v = .ref a ∧ Rd F a (.dT kvs) ∧ kvs.map Prod.fst = ks ∧ Rs C F xs (kvs.map Prod.snd)
  | .ins c xs, v => ∃ (a dx : Addr) (fs : List (Str × V)), v = .ref a ∧ F a = some (.ins (C.ad c) dx fs) ∧ fs.map Prod.fst = (C.fl c).take xs.length ∧ Rs C F xs (fs.map Prod.snd)
  | .exc c xs, v => ∃ (a : Addr) (vs : List V), v = .ref a ∧ EvR (C.ea c) (C.el c) vs a F ∧ Rs C F xs vs
  | .lnk j, v => ∃ a, C.lk j = some a ∧ v = .ref a
  | .ftp xs, v => ∃ (a : Addr) (vs : List V) (o : Obj), v = .ref a ∧ F a = some (.frz o (.tup vs)) ∧ o.dict = none ∧ Rs C F xs vs
def Rs (C : Ct) (F : Hp) : List PV → List V → Prop
  | [], vs => vs = []
  | x :: xs, vs => ∃ v r, vs = v :: r ∧ R C F x v ∧ Rs C F xs r
end
def Ex (F F' : Hp) : Prop := ∀ b o, F b = some o → F' b = some o
/-- stays, or a table that grows -/
def Kpt (o : HO) (x : Option HO) : Prop := x = some o ∨ ∃ ps ps', o = .tbl ps ∧ x = some (.tbl ps')
theorem Kpt.some {o : HO} {x : Option HO} (h : Kpt o x) : ∃ o', x = some o' := by
  rcases h with h | ⟨_, _, _, h⟩
  · exact ⟨_, h⟩
  · exact ⟨_, h⟩
theorem Kpt.eq {o : HO} {x : Option HO} (h : Kpt o x) (n : ∀ ps, o ≠ .tbl ps) : x = Option.some o := by
  rcases h with h | ⟨ps, _, e, _⟩
  · exact h
  · exact (n ps e).elim
theorem Kpt.trans {o : HO} {x y : Option HO} (h : Kpt o x) (k : ∀ o', x = Option.some o' → Kpt o' y) : Kpt o y := by
  rcases h with h | ⟨ps, ps', e, h⟩
  · exact k o h
  · rcases k _ h with z | ⟨_, ps2, e2, z⟩
    · exact .inr ⟨ps, ps', e, z⟩
    · exact .inr ⟨ps, ps2, e, z⟩
theorem Kpt.ex {o : HO} {b : Addr} {H H' : Hp} (h : Kpt o (H b)) (e : Ex H H') : Kpt o (H' b) := h.trans fun o' q => .inl (e b o' q)
theorem Kpt.no {o : HO} {x : Option HO} (h : Kpt o x) (n : x = none) : False := by
  obtain ⟨o', q⟩ := h.some
  rw [n] at q; cases q
/-- F's things stand in H (a dict of F's may be walked there, a table may have grown) -/
def Le (F H : Hp) : Prop := ∀ b o, F b = some o → Kpt o (H b) ∨ ((∃ kvs, o = .dK kvs) ∨ ∃ kvs, o = .dT kvs) ∧ ∃ ob, H b = some (.frz ob o)
theorem Ex.refl (F : Hp) : Ex F F := fun _ _ h => h
theorem Ex.trans {F F1 F2 : Hp} (a : Ex F F1) (b : Ex F1 F2) : Ex F F2 := fun x o h => b x o (a x o h)
theorem Ex.le {F F' : Hp} (h : Ex F F') : Le F F' := fun b o q => .inl (.inl (h b o q))
theorem Ex.new {F : Hp} {p : Addr} {o : HO} (h : F p = none) : Ex F (upd F p o) := fun b u q => by
  rw [upd_ne (ne_of_none q h)]; exact q
theorem Le.ex {F H H' : Hp} (a : Le F H) (b : Ex H H') : Le F H' := fun x o h => by
  rcases a x o h with q | ⟨k, ob, q⟩
  · exact .inl (q.ex b)
  · exact .inr ⟨k, ob, b _ _ q⟩
section
variable {C : Ct} {F H : Hp}
theorem Le.rd {a : Addr} {u : HO} (l : Le F H) (h : Rd F a u) (nt : ∀ ps, u ≠ .tbl ps := by intro ps e; cases e) : Rd H a u := by
  rcases h with h | ⟨o, h⟩
  · rcases l a u h with q | ⟨_, ob, q⟩
    · rcases q with q | ⟨ps, ps', e, q⟩
      · exact .inl q
      · exact (nt ps e).elim
    · exact .inr ⟨ob, q⟩
  · rcases l a _ h with q | ⟨k, ob, q⟩
    · exact .inr ⟨o, q.eq fun ps e => by cases e⟩
    · rcases k with ⟨_, k⟩ | ⟨_, k⟩ <;> cases k
theorem Le.sqL {K : PySem.W.Frag} {a : Addr} {xs : List V} (l : Le F H) (h : SqL K F a xs) : SqL K H a xs := by
  rcases h with h | h
  · exact .inl (l.rd h)
  · exact .inr h
theorem Le.lst {a : Addr} {xs : List V} (l : Le F H) (h : F a = some (.lst xs)) : H a = some (.lst xs) := by
  rcases l a _ h with q | ⟨k, _⟩
  · exact q.eq fun ps e => by cases e
  · rcases k with ⟨_, k⟩ | ⟨_, k⟩ <;> cases k
theorem Le.tup {a : Addr} {xs : List V} (l : Le F H) (h : F a = some (.tup xs)) : H a = some (.tup xs) := by
  rcases l a _ h with q | ⟨k, _⟩
  · exact q.eq fun ps e => by cases e
  · rcases k with ⟨_, k⟩ | ⟨_, k⟩ <;> cases k
theorem Le.ins {a D dx : Addr} {fs : List (Str × V)} (l : Le F H) (h : F a = some (.ins D dx fs)) : H a = some (.ins D dx fs) := by
  rcases l a _ h with q | ⟨k, _⟩
  · exact q.eq fun ps e => by cases e
  · rcases k with ⟨_, k⟩ | ⟨_, k⟩ <;> cases k
theorem Le.ext {a : Addr} {φ : Heap → Prop} (l : Le F H) (h : F a = some (.ext φ)) : H a = some (.ext φ) := by
  rcases l a _ h with q | ⟨k, _⟩
  · exact q.eq fun ps e => by cases e
  · rcases k with ⟨_, k⟩ | ⟨_, k⟩ <;> cases k
theorem Le.frz {a : Addr} {o : Obj} {u : HO} (l : Le F H) (h : F a = some (.frz o u)) : H a = some (.frz o u) := by
  rcases l a _ h with q | ⟨k, _⟩
  · exact q.eq fun ps e => by cases e
  · rcases k with ⟨_, k⟩ | ⟨_, k⟩ <;> cases k
theorem Le.evr {D a : Addr} {fs : List Str} {vs : List V} (l : Le F H) (h : EvR D fs vs a F) : EvR D fs vs a H := by
  obtain ⟨h0, ⟨h1, h2⟩ | ⟨dx, h1, h2⟩⟩ := h
  · exact ⟨h0, .inl ⟨h1, l.ext h2⟩⟩
  · exact ⟨h0, .inr ⟨dx, l.ext h1, l.ext h2⟩⟩
mutual
theorem R.mono (l : Le F H) : ∀ {p : PV} {v : V}, R C F p v → R C H p v
  | .non, _, h => h
  | .bl _, _, h => h
  | .int _, _, h => h
  | .str _, _, h => h
  | .tup xs, v, h => by
    unfold R at h ⊢
    obtain ⟨a, vs, e, q, r⟩ := h
    exact ⟨a, vs, e, l.tup q, Rs.mono l r⟩
  | .lst xs, v, h => by
    unfold R at h ⊢
    obtain ⟨a, vs, e, q, r⟩ := h
    exact ⟨a, vs, e, l.lst q, Rs.mono l r⟩
  | .scr ns, v, h => by
    unfold R at h ⊢
    obtain ⟨a, e, q⟩ := h
    exact ⟨a, e, l.sqL q⟩
  | .dK ks xs, v, h => by
    unfold R at h ⊢
    obtain ⟨a, kvs, e, q, k, r⟩ := h
    exact ⟨a, kvs, e, l.rd q, k, Rs.mono l r⟩
  | .dT ks xs, v, h => by
    unfold R at h ⊢
    obtain ⟨a, kvs, e, q, k, r⟩ := h
    exact ⟨a, kvs, e, l.rd q, k, Rs.mono l r⟩
  | .ins c xs, v, h => by
    unfold R at h ⊢
    obtain ⟨a, dx, fs, e, q, k, r⟩ := h
    exact ⟨a, dx, fs, e, l.ins q, k, Rs.mono l r⟩
  | .exc c xs, v, h => by
    unfold R at h ⊢
    obtain ⟨a, vs, e, q, r⟩ := h
    exact ⟨a, vs, e, l.evr q, Rs.mono l r⟩
  | .lnk j, v, h => by
    unfold R at h ⊢
    exact h
  | .ftp xs, v, h => by
    unfold R at h ⊢
    obtain ⟨a, vs, o, e, q, d, r⟩ := h
    exact ⟨a, vs, o, e, l.frz q, d, Rs.mono l r⟩
theorem Rs.mono (l : Le F H) : ∀ {p : List PV} {v : List V}, Rs C F p v → Rs C H p v
  | [], _, h => h
  | x :: xs, v, h => by
    unfold Rs at h ⊢
    obtain ⟨y, r, e, q, t⟩ := h
    exact ⟨y, r, e, R.mono l q, Rs.mono l t⟩
end
end
end VL
set_option maxRecDepth 100000
set_option maxHeartbeats 2000000
namespace VL
open PySem PySem.Spec L2
section
variable {C : Ct} {F H : Hp}
theorem Rs.nil : Rs C F [] [] := by unfold Rs; rfl
theorem Rs.cons {x : PV} {xs : List PV} {v : V} {vs : List V} (h : R C F x v) (t : Rs C F xs vs) : Rs C F (x :: xs) (v :: vs) := by
  unfold Rs; exact ⟨v, vs, rfl, h, t⟩
theorem Rs.nil_inv {vs : List V} (h : Rs C F [] vs) : vs = [] := by unfold Rs at h; exact h
theorem Rs.cons_inv {x : PV} {xs : List PV} {vs : List V} (h : Rs C F (x :: xs) vs) : ∃ v r, vs = v :: r ∧ R C F x v ∧ Rs C F xs r := by unfold Rs at h; exact h
theorem Rs.length : ∀ {xs : List PV} {vs : List V}, Rs C F xs vs → vs.length = xs.length
  | [], vs, h => by rw [h.nil_inv]; rfl
  | x :: xs, vs, h => by
    obtain ⟨v, r, rfl, _, t⟩ := h.cons_inv
    simp [Rs.length t]
theorem Rs.get : ∀ {xs : List PV} {vs : List V} {i : Nat} {x : PV}, Rs C F xs vs → xs[i]? = some x → ∃ v, vs[i]? = some v ∧ R C F x v
  | [], _, i, x, _, e => by simp at e
  | y :: xs, vs, 0, x, h, e => by
    obtain ⟨v, r, rfl, q, t⟩ := h.cons_inv
    simp at e; subst e
    exact ⟨v, rfl, q⟩
  | y :: xs, vs, i + 1, x, h, e => by
    obtain ⟨v, r, rfl, q, t⟩ := h.cons_inv
    obtain ⟨w, h1, h2⟩ := Rs.get (i := i) (x := x) t (by simpa using e)
    exact ⟨w, by simpa using h1, h2⟩
theorem Rs.append : ∀ {xs ys : List PV} {vs ws : List V}, Rs C F xs vs → Rs C F ys ws → Rs C F (xs ++ ys) (vs ++ ws)
  | [], ys, vs, ws, h, t => by rw [h.nil_inv]; exact t
  | x :: xs, ys, vs, ws, h, t => by
    obtain ⟨v, r, rfl, q, u⟩ := h.cons_inv
    exact Rs.cons q (Rs.append u t)
theorem Rs.take : ∀ {xs : List PV} {vs : List V} (n : Nat), Rs C F xs vs → Rs C F (xs.take n) (vs.take n)
  | _, _, 0, _ => by simp; exact Rs.nil
  | [], vs, n + 1, h => by rw [h.nil_inv]; simp; exact Rs.nil
  | x :: xs, vs, n + 1, h => by
    obtain ⟨v, r, rfl, q, u⟩ := h.cons_inv
    simp only [List.take_succ_cons]
    exact Rs.cons q (Rs.take n u)
theorem Rs.drop : ∀ {xs : List PV} {vs : List V} (n : Nat), Rs C F xs vs → Rs C F (xs.drop n) (vs.drop n)
  | _, _, 0, h => by simpa using h
  | [], vs, n + 1, h => by rw [h.nil_inv]; simp; exact Rs.nil
  | x :: xs, vs, n + 1, h => by
    obtain ⟨v, r, rfl, q, u⟩ := h.cons_inv
    simp only [List.drop_succ_cons]
    exact Rs.drop n u
theorem Rs.set : ∀ {xs : List PV} {vs : List V} (i : Nat) {x : PV} {v : V}, Rs C F xs vs → R C F x v → Rs C F (xs.set i x) (vs.set i v)
  | [], vs, _, _, _, h, _ => by rw [h.nil_inv]; simp; exact Rs.nil
  | y :: xs, vs, 0, x, v, h, q => by
    obtain ⟨w, r, rfl, q', u⟩ := h.cons_inv
    exact Rs.cons q u
  | y :: xs, vs, i + 1, x, v, h, q => by
    obtain ⟨w, r, rfl, q', u⟩ := h.cons_inv
    exact Rs.cons q' (Rs.set i u q)
theorem Rs.snoc {xs : List PV} {vs : List V} {x : PV} {v : V} (h : Rs C F xs vs) (q : R C F x v) : Rs C F (xs ++ [x]) (vs ++ [v]) := h.append (Rs.cons q Rs.nil)
theorem Rs.reverse : ∀ {xs : List PV} {vs : List V}, Rs C F xs vs → Rs C F xs.reverse vs.reverse
  | [], vs, h => by rw [h.nil_inv]; exact Rs.nil
  | x :: xs, vs, h => by
    obtain ⟨v, r, rfl, q, u⟩ := h.cons_inv
    simp only [List.reverse_cons]
    exact (Rs.reverse u).snoc q
theorem Rs.of_ints : ∀ (ns : List Int), Rs C F (ns.map PV.int) (ns.map V.int)
  | [] => Rs.nil
  | n :: ns => Rs.cons (by unfold R; rfl) (Rs.of_ints ns)
theorem Rs.bls_of : ∀ {ns : List Bool} {vs : List V}, Rs C F (ns.map PV.bl) vs → vs = ns.map V.bl
  | [], vs, h => by rw [h.nil_inv]; rfl
  | n :: ns, vs, h => by
    obtain ⟨v, r, rfl, q, u⟩ := h.cons_inv
    unfold R at q
    subst q
    rw [Rs.bls_of u]; rfl
end
/-- a slot: nothing known; a value that stays; a container whose own cell only this slot holds (b: made here; else the caller's) -/
inductive Sl where
  | no | fz (p : PV) | ow (b : Bool) (p : PV)
  deriving Inhabited
abbrev Env' := List Sl
inductive Val where
  | fz (p : PV) | bor (i : Nat) | new (p : PV)
  deriving Inhabited
structure Exc' where
  c : Nat
  fs : List PV
  deriving Inhabited
inductive Res (α : Type) where
  | bad | ok (x : α) (e : Env') | err (x : Exc') (e : Env')
  deriving Inhabited
def Res.bind {α β : Type} (r : Res α) (f : α → Env' → Res β) : Res β := match r with
  | .bad => .bad
  | .ok x e => f x e
  | .err x e => .err x e
/-- a container's own cell in H, its parts in F -/
def R1 (C : Ct) (F H : Hp) : PV → Addr → Prop
  | .lst xs, a => ∃ vs, H a = some (.lst vs) ∧ Rs C F xs vs
  | .dK ks xs, a => ∃ kvs : List (Key × V), H a = some (.dK kvs) ∧ kvs.map Prod.fst = ks ∧ Rs C F xs (kvs.map Prod.snd)
  | .dT ks xs, a => ∃ kvs : List (List Key × V), H a = some (.dT kvs) ∧ kvs.map Prod.fst = ks ∧ Rs C F xs (kvs.map Prod.snd)
  | .ins c xs, a => ∃ (dx : Addr) (fs : List (Str × V)), H a = some (.ins (C.ad c) dx fs) ∧ fs.map Prod.fst = (C.fl c).take xs.length ∧ Rs C F xs (fs.map Prod.snd)
  | _, _ => False
theorem R1.mono {C : Ct} {F F' H H' : Hp} (l : Le F F') {p : PV} {a : Addr} (h : R1 C F H p a) (e : H' a = H a) : R1 C F' H' p a := by
  cases p <;> try exact h.elim
  all_goals simp only [R1] at h ⊢
  all_goals rw [e]
  · obtain ⟨vs, q, r⟩ := h; exact ⟨vs, q, r.mono l⟩
  · obtain ⟨vs, q, k, r⟩ := h; exact ⟨vs, q, k, r.mono l⟩
  · obtain ⟨vs, q, k, r⟩ := h; exact ⟨vs, q, k, r.mono l⟩
  · obtain ⟨dx, fs, q, k, r⟩ := h; exact ⟨dx, fs, q, k, r.mono l⟩
theorem R1.cell {C : Ct} {F H : Hp} {p : PV} {a : Addr} (h : R1 C F H p a) : ∃ o, H a = some o := by
  cases p <;> try exact h.elim
  all_goals simp only [R1] at h
  · obtain ⟨vs, q, r⟩ := h; exact ⟨_, q⟩
  · obtain ⟨vs, q, k, r⟩ := h; exact ⟨_, q⟩
  · obtain ⟨vs, q, k, r⟩ := h; exact ⟨_, q⟩
  · obtain ⟨dx, fs, q, k, r⟩ := h; exact ⟨_, q⟩
/-- frozen: F knows the cell now -/
theorem R1.frozen {C : Ct} {F H : Hp} {p : PV} {a : Addr} {o : HO} (h : R1 C F H p a) (ho : H a = some o) (hf : F a = none) : R C (upd F a o) p (.ref a) := by
  have l : Le F (upd F a o) := (Ex.new hf).le
  cases p <;> try exact h.elim
  all_goals simp only [R1] at h
  all_goals unfold R
  · obtain ⟨vs, q, r⟩ := h
    rw [ho] at q; cases q
    exact ⟨a, vs, rfl, upd_same, r.mono l⟩
  · obtain ⟨vs, q, k, r⟩ := h
    rw [ho] at q; cases q
    exact ⟨a, vs, rfl, .inl upd_same, k, r.mono l⟩
  · obtain ⟨vs, q, k, r⟩ := h
    rw [ho] at q; cases q
    exact ⟨a, vs, rfl, .inl upd_same, k, r.mono l⟩
  · obtain ⟨dx, fs, q, k, r⟩ := h
    rw [ho] at q; cases q
    exact ⟨a, dx, fs, rfl, upd_same, k, r.mono l⟩
/-- an own cell is no table, and nothing of one's own -/
def Pln (o : HO) : Prop := (∀ ps, o ≠ .tbl ps) ∧ (∀ φ, o ≠ .ext φ) ∧ ∀ vs, o ≠ .tup vs
theorem R1.pln {C : Ct} {F H : Hp} {p : PV} {a : Addr} {o : HO} (h : R1 C F H p a) (e : H a = some o) : Pln o := by
  cases p <;> try exact h.elim
  · obtain ⟨vs, q, _⟩ := h; rw [e] at q; cases q; exact ⟨fun _ z => (by cases z), fun _ z => (by cases z), fun _ z => (by cases z)⟩
  · obtain ⟨vs, q, _⟩ := h; rw [e] at q; cases q; exact ⟨fun _ z => (by cases z), fun _ z => (by cases z), fun _ z => (by cases z)⟩
  · obtain ⟨vs, q, _⟩ := h; rw [e] at q; cases q; exact ⟨fun _ z => (by cases z), fun _ z => (by cases z), fun _ z => (by cases z)⟩
  · obtain ⟨dx, fs, q, _⟩ := h; rw [e] at q; cases q; exact ⟨fun _ z => (by cases z), fun _ z => (by cases z), fun _ z => (by cases z)⟩
theorem tabs_upd {T : List (Addr × Str)} {H : Hp} {a : Addr} {o u : HO} (t : LamX.Tabs T H) (e : H a = some u) (n : Pln u) : LamX.Tabs T (upd H a o) := fun p hp => by
  obtain ⟨ps, h1, h2, h3⟩ := t p hp
  have n1 : p.1 ≠ a := fun z => by rw [z, e] at h1; cases h1; exact n.1 _ rfl
  refine ⟨ps, by rw [upd_ne n1]; exact h1, h2, fun pos cv hc => ?_⟩
  obtain ⟨c, e1, e2⟩ := h3 pos cv hc
  have n2 : c ≠ a := fun z => by rw [z, e] at e2; unfold LamX.CodeO at e2; cases e2; exact n.2.1 _ rfl
  exact ⟨c, e1, by rw [upd_ne n2]; exact e2⟩
/-- one activation: what stood at its entry, which cells it may write, what is wanted of an error -/
structure Gm where
  C : Ct
  F0 : Hp
  H0 : Hp
  P : Nat → Option Addr
  W : Exc' → Env' → St → Hp → Hp → Prop
/-- new since H, or a tuple: F may come to know any tuple -/
def Nw (H : Hp) (b : Addr) (o : HO) : Prop := H b = none ∨ ∃ vs, o = .tup vs
theorem nw_no {F2 H H2 : Hp} {b : Addr} {o u : HO} (l : Le F2 H2) (q : F2 b = some o) (z : Nw H b o) (h : H b = some u) (h2 : H2 b = some u) (n : ∀ vs, u ≠ .tup vs) : False := by
  rcases z with z | ⟨vs, rfl⟩
  · rw [h] at z; cases z
  · rcases l b _ q with k | ⟨k, ob, e⟩
    · have k2 := k.eq (fun ps e => by cases e)
      rw [h2] at k2
      exact n vs (Option.some.inj k2)
    · rcases k with ⟨_, k⟩ | ⟨_, k⟩ <;> cases k
/-- lent by the caller -/
def Gm.O (g : Gm) (a : Addr) : Prop := ∃ i, g.P i = some a
structure Stt (g : Gm) (F H : Hp) (σ : St) (env : Env') : Prop where
  len : σ.length = env.length
  frame : ∀ b o, g.H0 b = some o → ¬ g.O b → Kpt o (H b)
  live : ∀ b, g.O b → ∃ o, H b = some o
  ext : Ex g.F0 F
  fresh : ∀ b o, F b = some o → g.F0 b = some o ∨ Nw g.H0 b o
  sub : Le F H
  fz : ∀ (i : Nat) p, env[i]? = some (.fz p) → ∃ v, σ[i]? = some (some v) ∧ R g.C F p v
  ow : ∀ (i : Nat) b p, env[i]? = some (.ow b p) → ∃ a, σ[i]? = some (some (.ref a)) ∧ R1 g.C F H p a ∧ F a = none ∧ (if b = true then g.H0 a = none else g.P i = some a)
  inj : ∀ (i j : Nat) b c p q a, env[i]? = some (.ow b p) → env[j]? = some (.ow c q) → σ[i]? = some (some (.ref a)) → σ[j]? = some (some (.ref a)) → i = j
  tab : LamX.Tabs g.C.T H
def RV (g : Gm) (F H : Hp) (σ : St) (env : Env') : Val → V → Prop
  | .fz p, v => R g.C F p v
  | .bor i, v => σ[i]? = some (some v)
  | .new p, v => ∃ a, v = .ref a ∧ R1 g.C F H p a ∧ F a = none ∧ g.H0 a = none ∧ ∀ (i : Nat) b q, env[i]? = some (.ow b q) → σ[i]? ≠ some (some (.ref a))
section
variable {g : Gm} {F H : Hp} {σ : St} {env : Env'}
theorem Stt.new0 (S : Stt g F H σ env) {p : Addr} (hp : H p = none) : F p = none ∧ g.H0 p = none ∧ ¬ g.O p := by
  have ho : ¬ g.O p := fun z => by
    obtain ⟨o, e⟩ := S.live p z
    rw [hp] at e; cases e
  refine ⟨?_, ?_, ho⟩
  · cases q : F p with
    | none => rfl
    | some o =>
      rcases S.sub p o q with z | ⟨_, ob, z⟩
      · exact (z.no hp).elim
      · rw [hp] at z; cases z
  · cases q : g.H0 p with
    | none => rfl
    | some o =>
      exact ((S.frame p o q ho).no hp).elim
/-- the heap grows -/
theorem Stt.grow (S : Stt g F H σ env) {H' : Hp} (e : Ex H H') : Stt g F H' σ env where
  len := S.len
  frame := fun b o q n => (S.frame b o q n).ex e
  live := fun b hb => let ⟨o, q⟩ := S.live b hb; ⟨o, e b o q⟩
  ext := S.ext
  fresh := S.fresh
  sub := S.sub.ex e
  fz := S.fz
  ow := fun i b p q => by
    obtain ⟨a, h1, h2, h3⟩ := S.ow i b p q
    obtain ⟨o, ho⟩ := h2.cell
    exact ⟨a, h1, h2.mono (Ex.refl F).le ((e a o ho).trans ho.symm), h3⟩
  inj := S.inj
  tab := S.tab.ext e
/-- F knows more -/
theorem Stt.know (S : Stt g F H σ env) {a : Addr} {o : HO} (hf : F a = none) (ho : H a = some o) (h0 : g.H0 a = none) (ho' : ∀ (i : Nat) b q, env[i]? = some (.ow b q) → σ[i]? ≠ some (some (.ref a))) : Stt g (upd F a o) H σ env where
  len := S.len
  frame := S.frame
  live := S.live
  ext := S.ext.trans (Ex.new hf)
  fresh := fun b u q => by
    by_cases hb : b = a
    · subst hb; exact .inr (.inl h0)
    · rw [upd_ne hb] at q; exact S.fresh b u q
  sub := fun b u q => by
    by_cases hb : b = a
    · subst hb; rw [upd_same] at q; cases q; exact .inl (.inl ho)
    · rw [upd_ne hb] at q; exact S.sub b u q
  fz := fun i p q => by
    obtain ⟨v, h1, h2⟩ := S.fz i p q
    exact ⟨v, h1, h2.mono (Ex.new hf).le⟩
  ow := fun i f p q => by
    obtain ⟨b, h1, h2, h3, h4⟩ := S.ow i f p q
    have hb : b ≠ a := fun z => ho' i f p q (by rw [h1, z])
    exact ⟨b, h1, h2.mono (Ex.new hf).le rfl, by rw [upd_ne hb]; exact h3, h4⟩
  inj := S.inj
  tab := S.tab
theorem getElem?_set_cases {α : Type} {l : List α} {i j : Nat} {x y : α} (h : (l.set i x)[j]? = some y) : (i = j ∧ x = y ∧ i < l.length) ∨ (i ≠ j ∧ l[j]? = some y) := by
  by_cases e : i = j
  · subst e
    by_cases hl : i < l.length
    · rw [List.getElem?_set_self hl] at h
      exact .inl ⟨rfl, Option.some.inj h, hl⟩
    · rw [List.getElem?_eq_none (by simpa using hl)] at h; cases h
  · rw [List.getElem?_set_ne e] at h
    exact .inr ⟨e, h⟩
/-- a slot's own container becomes one that stays -/
theorem Stt.freeze (S : Stt g F H σ env) {i : Nat} {p : PV} {a : Addr} {o : HO} (hi : env[i]? = some (.ow true p)) (ha : σ[i]? = some (some (.ref a))) (ho : H a = some o) :
    Stt g (upd F a o) H σ (env.set i (.fz p)) ∧ R g.C (upd F a o) p (.ref a) := by
  obtain ⟨b, h1, h2, h3, h4⟩ := S.ow i _ p hi
  rw [ha] at h1; cases h1
  have h0 : g.H0 a = none := by rw [if_pos rfl] at h4; exact h4
  have rr := h2.frozen ho h3
  have l : Le F (upd F a o) := (Ex.new h3).le
  refine ⟨⟨by simpa using S.len, S.frame, S.live, S.ext.trans (Ex.new h3), fun b u q => ?_, fun b u q => ?_, fun j q hq => ?_, fun j f q hq => ?_, fun j k f f' q r b hj hk e1 e2 => ?_, S.tab⟩, rr⟩
  · by_cases hb : b = a
    · subst hb; exact .inr (.inl h0)
    · rw [upd_ne hb] at q; exact S.fresh b u q
  · by_cases hb : b = a
    · subst hb; rw [upd_same] at q; cases q; exact .inl (.inl ho)
    · rw [upd_ne hb] at q; exact S.sub b u q
  · rcases getElem?_set_cases hq with ⟨rfl, e, _⟩ | ⟨hne, e⟩
    · cases e; exact ⟨_, ha, rr⟩
    · obtain ⟨v, e1, e2⟩ := S.fz j q e
      exact ⟨v, e1, e2.mono l⟩
  · rcases getElem?_set_cases hq with ⟨rfl, e, _⟩ | ⟨hne, e⟩
    · cases e
    · obtain ⟨b, e1, e2, e3, e4⟩ := S.ow j f q e
      have hb : b ≠ a := fun z => hne (S.inj i j _ _ p q a hi e ha (by rw [e1, z]))
      exact ⟨b, e1, e2.mono l rfl, by rw [upd_ne hb]; exact e3, e4⟩
  · rcases getElem?_set_cases hj with ⟨_, e, _⟩ | ⟨_, hj'⟩
    · cases e
    · rcases getElem?_set_cases hk with ⟨_, e, _⟩ | ⟨_, hk'⟩
      · cases e
      · exact S.inj j k _ _ q r b hj' hk' e1 e2
/-- the container of slot i is written -/
theorem Stt.write (S : Stt g F H σ env) {i : Nat} {f : Bool} {p p' : PV} {a : Addr} {o : HO} (hi : env[i]? = some (.ow f p)) (ha : σ[i]? = some (some (.ref a))) (h' : R1 g.C F (upd H a o) p' a) : Stt g F (upd H a o) σ (env.set i (.ow f p')) := by
  obtain ⟨b, h1, h2, h3, h4⟩ := S.ow i f p hi
  rw [ha] at h1; cases h1
  refine ⟨by simpa using S.len, fun b u q n => ?_, fun b hb => ?_, S.ext, S.fresh, fun b u q => ?_, fun j q hq => ?_, fun j f' q hq => ?_, fun j k f' f'' q r b hj hk e1 e2 => ?_, (let ⟨_, hu⟩ := h2.cell; tabs_upd S.tab hu (h2.pln hu))⟩
  · have hb : b ≠ a := fun z => by
      subst z
      cases f with
      | true =>
        rw [if_pos rfl] at h4
        rw [q] at h4; cases h4
      | false =>
        rw [if_neg Bool.false_ne_true] at h4
        exact n ⟨i, h4⟩
    rw [upd_ne hb]; exact S.frame b u q n
  · by_cases e : b = a
    · subst e; exact ⟨o, upd_same⟩
    · obtain ⟨u, q⟩ := S.live b hb
      exact ⟨u, by rw [upd_ne e]; exact q⟩
  · have hb : b ≠ a := fun z => by rw [z, h3] at q; cases q
    rw [upd_ne hb]; exact S.sub b u q
  · rcases getElem?_set_cases hq with ⟨rfl, e, _⟩ | ⟨hne, e⟩
    · cases e
    · exact S.fz j q e
  · rcases getElem?_set_cases hq with ⟨rfl, e, _⟩ | ⟨hne, e⟩
    · cases e
      exact ⟨a, ha, h', h3, h4⟩
    · obtain ⟨b, e1, e2, e3, e4⟩ := S.ow j f' q e
      have hb : b ≠ a := fun z => hne (S.inj i j _ _ p q a hi e ha (by rw [e1, z]))
      exact ⟨b, e1, e2.mono (Ex.refl F).le (upd_ne hb), e3, e4⟩
  · rcases getElem?_set_cases hj with ⟨rfl, e, _⟩ | ⟨_, hj'⟩
    · rcases getElem?_set_cases hk with ⟨h, _, _⟩ | ⟨_, hk'⟩
      · exact h
      · exact S.inj _ k _ _ _ r b hi hk' e1 e2
    · rcases getElem?_set_cases hk with ⟨rfl, e, _⟩ | ⟨_, hk'⟩
      · exact S.inj j _ _ _ q _ b hj' hi e1 e2
      · exact S.inj j k _ _ q r b hj' hk' e1 e2
/-- a value that stays is stored in slot i -/
theorem Stt.setFz (S : Stt g F H σ env) {i : Nat} {p : PV} {v : V} (h : R g.C F p v) : Stt g F H (σ.set i (some v)) (env.set i (.fz p)) := by
  refine ⟨by simpa using S.len, S.frame, S.live, S.ext, S.fresh, S.sub, fun j q hq => ?_, fun j f q hq => ?_, fun j k f f' q r b hj hk e1 e2 => ?_, S.tab⟩
  · rcases getElem?_set_cases hq with ⟨rfl, e, hl⟩ | ⟨hne, e⟩
    · cases e
      exact ⟨v, by rw [List.getElem?_set_self (by rw [S.len]; exact hl)], h⟩
    · rw [List.getElem?_set_ne hne]; exact S.fz j q e
  · rcases getElem?_set_cases hq with ⟨rfl, e, _⟩ | ⟨hne, e⟩
    · cases e
    · rw [List.getElem?_set_ne hne]; exact S.ow j f q e
  · rcases getElem?_set_cases hj with ⟨_, e, _⟩ | ⟨n1, hj'⟩
    · cases e
    · rcases getElem?_set_cases hk with ⟨_, e, _⟩ | ⟨n2, hk'⟩
      · cases e
      · rw [List.getElem?_set_ne n1] at e1
        rw [List.getElem?_set_ne n2] at e2
        exact S.inj j k _ _ q r b hj' hk' e1 e2
/-- a new container is stored in slot i -/
theorem Stt.setOw (S : Stt g F H σ env) {i : Nat} {p : PV} {a : Addr} (h : R1 g.C F H p a) (hf : F a = none) (h0 : g.H0 a = none) (hn : ∀ (i : Nat) b q, env[i]? = some (.ow b q) → σ[i]? ≠ some (some (.ref a))) :
    Stt g F H (σ.set i (some (.ref a))) (env.set i (.ow true p)) := by
  refine ⟨by simpa using S.len, S.frame, S.live, S.ext, S.fresh, S.sub, fun j q hq => ?_, fun j f q hq => ?_, fun j k f f' q r b hj hk e1 e2 => ?_, S.tab⟩
  · rcases getElem?_set_cases hq with ⟨rfl, e, hl⟩ | ⟨hne, e⟩
    · cases e
    · rw [List.getElem?_set_ne hne]; exact S.fz j q e
  · rcases getElem?_set_cases hq with ⟨rfl, e, hl⟩ | ⟨hne, e⟩
    · cases e
      exact ⟨a, by rw [List.getElem?_set_self (by rw [S.len]; exact hl)], h, hf, by rw [if_pos rfl]; exact h0⟩
    · rw [List.getElem?_set_ne hne]; exact S.ow j f q e
  · rcases getElem?_set_cases hj with ⟨rfl, _, hl1⟩ | ⟨n1, hj'⟩
    · rcases getElem?_set_cases hk with ⟨h, _, _⟩ | ⟨n2, hk'⟩
      · exact h
      · rw [List.getElem?_set_self (by rw [S.len]; exact hl1)] at e1
        cases e1
        rw [List.getElem?_set_ne n2] at e2
        exact (hn k _ r hk' e2).elim
    · rw [List.getElem?_set_ne n1] at e1
      rcases getElem?_set_cases hk with ⟨rfl, _, hl2⟩ | ⟨n2, hk'⟩
      · rw [List.getElem?_set_self (by rw [S.len]; exact hl2)] at e2
        cases e2
        exact (hn j _ q hj' e1).elim
      · rw [List.getElem?_set_ne n2] at e2
        exact S.inj j k _ _ q r b hj' hk' e1 e2
/-- forgetting a slot -/
theorem Stt.drop (S : Stt g F H σ env) (i : Nat) : Stt g F H σ (env.set i .no) := by
  refine ⟨by simpa using S.len, S.frame, S.live, S.ext, S.fresh, S.sub, fun j q hq => ?_, fun j f q hq => ?_, fun j k f f' q r b hj hk e1 e2 => ?_, S.tab⟩
  · rcases getElem?_set_cases hq with ⟨_, e, hl⟩ | ⟨_, e⟩
    · cases e
    · exact S.fz j q e
  · rcases getElem?_set_cases hq with ⟨_, e, hl⟩ | ⟨_, e⟩
    · cases e
    · exact S.ow j f q e
  · rcases getElem?_set_cases hj with ⟨_, e, _⟩ | ⟨_, hj'⟩
    · cases e
    · rcases getElem?_set_cases hk with ⟨_, e, _⟩ | ⟨_, hk'⟩
      · cases e
      · exact S.inj j k _ _ q r b hj' hk' e1 e2
end
def Go {α : Type} (g : Gm) (F : Hp) (σ : St) (r : Res α) (K : α → Env' → Hp → Hp → Prop) : Prop := match r with
  | .bad => False
  | .err x e => ∀ F' H', Ex F F' → Stt g F' H' σ e → g.W x e σ F' H'
  | .ok x e => ∀ F' H', Ex F F' → Stt g F' H' σ e → K x e F' H'
theorem Go.bind {α β : Type} {g : Gm} {F : Hp} {σ : St} {r : Res α} {f : α → Env' → Res β} {K : β → Env' → Hp → Hp → Prop} (h : Go g F σ (r.bind f) K) : Go g F σ r (fun x e F' H' => Go g F' σ (f x e) K) := by
  cases r with
  | bad => exact h
  | err x e => exact h
  | ok x e =>
    intro F' H' e1 S
    have h' : Go g F σ (f x e) K := h
    cases q : f x e with
    | bad => rw [q] at h'; exact h'
    | err y e' => rw [q] at h'; exact fun F2 H2 e2 S2 => h' F2 H2 (e1.trans e2) S2
    | ok y e' => rw [q] at h'; exact fun F2 H2 e2 S2 => h' F2 H2 (e1.trans e2) S2
theorem Go.mono {α : Type} {g : Gm} {F : Hp} {σ : St} {r : Res α} {K K' : α → Env' → Hp → Hp → Prop} (h : Go g F σ r K) (k : ∀ x e F' H', Ex F F' → Stt g F' H' σ e → K x e F' H' → K' x e F' H') : Go g F σ r K' := by
  cases r with
  | bad => exact h
  | err x e => exact h
  | ok x e => exact fun F' H' a b => k x e F' H' a b (h F' H' a b)
/-- an expression's readings by what it gives -/
def tE (g : Gm) (d : Env' → Res Val) : TE := fun σ H Q => ∃ F env, Stt g F H σ env ∧ Go g F σ (d env) fun x env' F' H' => ∀ v, RV g F' H' σ env' x v → Q v H'
def tT (g : Gm) (d : Env' → Res Bool) : TT := fun σ H Q => ∃ F env, Stt g F H σ env ∧ Go g F σ (d env) fun b env' F' H' => Q b H'
def RVs (g : Gm) (F H : Hp) (σ : St) (env : Env') : List Val → List V → Prop
  | [], vs => vs = []
  | x :: xs, vs => ∃ v r, vs = v :: r ∧ RV g F H σ env x v ∧ RVs g F H σ env xs r
theorem peImp {X : Cx} {e : Expr} {t t' : TE} (h : PE X e t) (k : ∀ σ H Q, t' σ H Q → t σ H Q) : PE X e t' := ⟨fun pins s σ H Q I q => h.run pins s σ H Q I (k σ H Q q)⟩
theorem ptImp {X : Cx} {e : Expr} {t t' : TT} (h : PT X e t) (k : ∀ σ H Q, t' σ H Q → t σ H Q) : PT X e t' := ⟨fun pins s σ H Q I q => h.run pins s σ H Q I (k σ H Q q)⟩
theorem paImp {X : Cx} {e : List Expr} {t t' : TA} (h : PA X e t) (k : ∀ σ H Q, t' σ H Q → t σ H Q) : PA X e t' := ⟨fun p pins s σ H Q I q => h.run p pins s σ H Q I (k σ H Q q)⟩
theorem psImp {X : Cx} {e : Stmt} {t t' : TS} (h : PS X e t) (k : ∀ D σ H, t' D σ H → t D σ H) : PS X e t' := ⟨fun pins s σ H D I q => h.run pins s σ H D I (k D σ H q)⟩
theorem pssImp {X : Cx} {e : List Stmt} {t t' : TS} (h : PSs X e t) (k : ∀ D σ H, t' D σ H → t D σ H) : PSs X e t' := ⟨fun pins s σ H D I q => h.run pins s σ H D I (k D σ H q)⟩
end VL
set_option maxRecDepth 100000
set_option maxHeartbeats 2000000
namespace VL
open PySem PySem.Spec L2
open PyProof.Rows hiding St
def big : Nat := 16777216
theorem big_eq : sizeLine = big := by rw [sizeLine_eq]; rfl
def peek (x : Val) (e : Env') : Option PV := match x with
  | .fz p => some p
  | .new p => some p
  | .bor i => match e[i]? with
    | some (.ow _ p) => some p
    | some (.fz p) => some p
    | _ => none
def peeks (e : Env') : List Val → Option (List PV)
  | [] => some []
  | x :: xs => match peek x e, peeks e xs with
    | some p, some ps => some (p :: ps)
    | _, _ => none
def Rt (C : Ct) (F H : Hp) : PV → V → Prop
  | .tup xs, v => ∃ a vs, v = .ref a ∧ H a = some (.tup vs) ∧ Rs C F xs vs ∧ F a = some (.tup vs)
  | .lst xs, v => ∃ a vs, v = .ref a ∧ H a = some (.lst vs) ∧ Rs C F xs vs
  | .dK ks xs, v => ∃ (a : Addr) (kvs : List (Key × V)), v = .ref a ∧ Rd H a (.dK kvs) ∧ kvs.map Prod.fst = ks ∧ Rs C F xs (kvs.map Prod.snd)
  | .dT ks xs, v => ∃ (a : Addr) (kvs : List (List Key × V)), v = .ref a ∧ Rd H a (.dT kvs) ∧ kvs.map Prod.fst = ks ∧ Rs C F xs (kvs.map Prod.snd)
  | .ins c xs, v => ∃ (a dx : Addr) (fs : List (Str × V)), v = .ref a ∧ H a = some (.ins (C.ad c) dx fs) ∧ fs.map Prod.fst = (C.fl c).take xs.length ∧ Rs C F xs (fs.map Prod.snd)
  | .exc c xs, v => ∃ (a : Addr) (vs : List V), v = .ref a ∧ EvR (C.ea c) (C.el c) vs a H ∧ Rs C F xs vs
  | .lnk j, v => ∃ a, C.lk j = some a ∧ v = .ref a
  | .ftp xs, v => ∃ (a : Addr) (vs : List V) (o : Obj), v = .ref a ∧ H a = some (.frz o (.tup vs)) ∧ Rs C F xs vs ∧ F a = some (.frz o (.tup vs)) ∧ o.dict = none
  | .scr ns, v => ∃ a, v = .ref a ∧ SqL C.K H a (ns.map V.int)
  | .non, v => v = .non
  | .bl b, v => v = .bl b
  | .int i, v => v = .int i
  | .str x, v => v = .str x
theorem R.rt {C : Ct} {F H : Hp} {p : PV} {v : V} (h : R C F p v) (l : Le F H) : Rt C F H p v := by
  cases p <;> unfold R at h <;> simp only [Rt]
  · exact h
  · exact h
  · exact h
  · exact h
  · obtain ⟨a, vs, e, q, r⟩ := h; exact ⟨a, vs, e, l.tup q, r, q⟩
  · obtain ⟨a, vs, e, q, r⟩ := h; exact ⟨a, vs, e, l.lst q, r⟩
  · obtain ⟨a, e, q⟩ := h; exact ⟨a, e, l.sqL q⟩
  · obtain ⟨a, kvs, e, q, k, r⟩ := h; exact ⟨a, kvs, e, l.rd q, k, r⟩
  · obtain ⟨a, kvs, e, q, k, r⟩ := h; exact ⟨a, kvs, e, l.rd q, k, r⟩
  · obtain ⟨a, dx, fs, e, q, k, r⟩ := h; exact ⟨a, dx, fs, e, l.ins q, k, r⟩
  · obtain ⟨a, vs, e, q, r⟩ := h; exact ⟨a, vs, e, l.evr q, r⟩
  · exact h
  · obtain ⟨a, vs, o, e, q, d, r⟩ := h; exact ⟨a, vs, o, e, l.frz q, r, q, d⟩
theorem R1.rt {C : Ct} {F H : Hp} {p : PV} {a : Addr} (h : R1 C F H p a) : Rt C F H p (.ref a) := by
  cases p <;> try exact h.elim
  all_goals simp only [R1] at h
  all_goals simp only [Rt]
  · obtain ⟨vs, q, r⟩ := h; exact ⟨a, vs, rfl, q, r⟩
  · obtain ⟨kvs, q, k, r⟩ := h; exact ⟨a, kvs, rfl, .inl q, k, r⟩
  · obtain ⟨kvs, q, k, r⟩ := h; exact ⟨a, kvs, rfl, .inl q, k, r⟩
  · obtain ⟨dx, fs, q, k, r⟩ := h; exact ⟨a, dx, fs, rfl, q, k, r⟩
theorem Rt.r {C : Ct} {F H : Hp} {p : PV} {v : V} (h : Rt C F H p v) (l : Le F H) : R C H p v := by
  cases p <;> simp only [Rt] at h <;> unfold R
  · exact h
  · exact h
  · exact h
  · exact h
  · obtain ⟨a, vs, e, q, r, _⟩ := h; exact ⟨a, vs, e, q, r.mono l⟩
  · obtain ⟨a, vs, e, q, r⟩ := h; exact ⟨a, vs, e, q, r.mono l⟩
  · obtain ⟨a, e, q⟩ := h; exact ⟨a, e, q⟩
  · obtain ⟨a, kvs, e, q, k, r⟩ := h; exact ⟨a, kvs, e, q, k, r.mono l⟩
  · obtain ⟨a, kvs, e, q, k, r⟩ := h; exact ⟨a, kvs, e, q, k, r.mono l⟩
  · obtain ⟨a, dx, fs, e, q, k, r⟩ := h; exact ⟨a, dx, fs, e, q, k, r.mono l⟩
  · obtain ⟨a, vs, e, q, r⟩ := h; exact ⟨a, vs, e, q, r.mono l⟩
  · exact h
  · obtain ⟨a, vs, o, e, q, r, _, d⟩ := h; exact ⟨a, vs, o, e, q, d, r.mono l⟩
section
variable {g : Gm} {F H : Hp} {σ : St} {env : Env'}
theorem peek_ok (S : Stt g F H σ env) {x : Val} {v : V} {p : PV} (r : RV g F H σ env x v) (h : peek x env = some p) : Rt g.C F H p v := by
  cases x with
  | fz q =>
    simp only [peek, Option.some.injEq] at h; subst h
    exact R.rt r S.sub
  | new q =>
    simp only [peek, Option.some.injEq] at h; subst h
    obtain ⟨a, rfl, r1, _⟩ := r
    exact r1.rt
  | bor i =>
    simp only [peek] at h
    split at h
    · rename_i q e
      simp only [Option.some.injEq] at h; subst h
      obtain ⟨a, e1, e2, _⟩ := S.ow i _ _ e
      rw [r] at e1; cases e1
      exact e2.rt
    · rename_i q e
      simp only [Option.some.injEq] at h; subst h
      obtain ⟨w, e1, e2⟩ := S.fz i _ e
      rw [r] at e1; cases e1
      exact e2.rt S.sub
    · cases h
end
end VL
set_option maxRecDepth 100000
set_option maxHeartbeats 2000000
namespace VL
open PySem PySem.Spec L2
open PyProof.Rows hiding St
/-- a new container that is no longer written -/
def Val.stl : Val → Val
  | .new p => .fz p
  | x => x
def stl (d : Env' → Res Val) : Env' → Res Val := fun e => (d e).bind fun x e' => .ok x.stl e'
def Val.old : Val → Prop
  | .new _ => False
  | _ => True
theorem Val.stl_old (x : Val) : x.stl.old := by cases x <;> trivial
section
variable {X : Cx} {g : Gm} {pins : List (Addr × Obj)} {F H F' H' : Hp} {σ : St} {env env' : Env'} {s : Shared}
theorem RV.later {x : Val} {v : V} (o : x.old) (r : RV g F H σ env x v) (e : Ex F F') : RV g F' H' σ env' x v := by
  cases x with
  | fz p => exact R.mono e.le r
  | bor i => exact r
  | new p => exact o.elim
theorem Go.ok {α : Type} {x : α} {K : α → Env' → Hp → Hp → Prop} (h : Go g F σ (.ok x env) K) (S : Stt g F' H' σ env) (e : Ex F F') : K x env F' H' := h F' H' e S
/-- behind a value, the rest -/
def KV' {β : Type} (g : Gm) (F : Hp) (σ : St) (f : Val → Env' → Res β) (K : β → Env' → Hp → Hp → Prop) : V → Hp → Prop := fun v H1 =>
  ∃ F1 env1 x, Ex F F1 ∧ Stt g F1 H1 σ env1 ∧ x.old ∧ RV g F1 H1 σ env1 x v ∧ Go g F1 σ (f x env1) K
theorem settle {Q : VK} {x : Val} (S : Stt g F H σ env) {v : V} (r : RV g F H σ env x v) {P : Prop} (k : ∀ F', Ex F F' → Stt g F' H σ env → RV g F' H σ env x.stl v → P) : P := by
  cases x with
  | fz p => exact k F (Ex.refl F) S r
  | bor i => exact k F (Ex.refl F) S r
  | new p =>
    obtain ⟨a, rfl, r1, hf, h0, hn⟩ := r
    obtain ⟨o, ho⟩ := r1.cell
    exact k _ (Ex.new hf) (S.know hf ho h0 hn) (r1.frozen ho hf)
theorem tE_stl {d : Env' → Res Val} {Q : VK} (h : tE g (stl d) σ H Q) : tE g d σ H Q := by
  obtain ⟨F, env, S, go⟩ := h
  refine ⟨F, env, S, (Go.bind go).mono fun x e F' H' e1 S1 k v r => ?_⟩
  exact settle (Q := Q) S1 r fun F2 e2 S2 r2 => k F2 H' e2 S2 v r2
theorem peStl {e : Expr} {d : Env' → Res Val} (h : PE X e (tE g d)) : PE X e (tE g (stl d)) := peImp h fun _ _ _ => tE_stl
theorem stl_bind {β : Type} (d : Env' → Res Val) (f : Val → Env' → Res β) : (stl d env).bind f = (d env).bind fun x e => f x.stl e := by
  unfold stl
  cases d env <;> rfl
/-- a settled value, then the rest -/
theorem peGo {β : Type} {e : Expr} {d : Env' → Res Val} {f : Val → Env' → Res β} {K : β → Env' → Hp → Hp → Prop} (h : PE X e (tE g d)) (I : Inv X pins σ H s) (S : Stt g F H σ env) (go : Go g F σ ((stl d env).bind f) K) :
    wpAny (model X.prog X.w) X.A (eval e X.env) (EP X pins σ (KV' g F σ f K)) X.xe s := by
  refine h.run pins s σ H _ I ⟨F, env, S, ?_⟩
  rw [stl_bind] at go
  refine (Go.bind go).mono fun x e F' H' e1 S1 k v r => ?_
  exact settle (Q := fun _ _ => True) S1 r fun F2 e2 S2 r2 => ⟨F2, e, x.stl, e1.trans e2, S2, x.stl_old, r2, by
    cases hq : f x.stl e with
    | bad => rw [hq] at k; exact k
    | err y e' => rw [hq] at k; exact fun F3 H3 e3 S3 => k F3 H3 (e2.trans e3) S3
    | ok y e' => rw [hq] at k; exact fun F3 H3 e3 S3 => k F3 H3 (e2.trans e3) S3⟩
def toVal (o : Option Val) (e : Env') : Res Val := match o with
  | some x => .ok x e
  | none => .bad
/-- one on two values -/
def Op2 (X : Cx) (g : Gm) (f : Value → Value → Sem Value) (sem : PV → PV → Option Val) : Prop :=
  ∀ (pins : List (Addr × Obj)) (s : Shared) (σ : St) (F H : Hp) (env : Env') (p q : PV) (v u : V) (vv uu : Value) (r : Val) (Q : VK), Inv X pins σ H s → Stt g F H σ env → RelV v vv → RelV u uu → Rt g.C F H p v → Rt g.C F H q u → sem p q = some r →
    (∀ F' H' w, Ex F F' → Stt g F' H' σ env → RV g F' H' σ env r w → Q w H') → wpAny (model X.prog X.w) X.A (f vv uu) (EP X pins σ Q) X.xe s
def Op1 (X : Cx) (g : Gm) (f : Value → Sem Value) (sem : PV → Option Val) : Prop :=
  ∀ (pins : List (Addr × Obj)) (s : Shared) (σ : St) (F H : Hp) (env : Env') (p : PV) (v : V) (vv : Value) (r : Val) (Q : VK), Inv X pins σ H s → Stt g F H σ env → RelV v vv → Rt g.C F H p v → sem p = some r →
    (∀ F' H' w, Ex F F' → Stt g F' H' σ env → RV g F' H' σ env r w → Q w H') → wpAny (model X.prog X.w) X.A (f vv) (EP X pins σ Q) X.xe s
def Rts (C : Ct) (F H : Hp) : List PV → List V → Prop
  | [], vs => vs = []
  | p :: ps, vs => ∃ v r, vs = v :: r ∧ Rt C F H p v ∧ Rts C F H ps r
def OpN (X : Cx) (g : Gm) (f : List Value → Sem Value) (sem : List PV → Option Val) : Prop :=
  ∀ (pins : List (Addr × Obj)) (s : Shared) (σ : St) (F H : Hp) (env : Env') (ps : List PV) (vs : List V) (us : List Value) (r : Val) (Q : VK), Inv X pins σ H s → Stt g F H σ env → Vals vs us → Rts g.C F H ps vs → sem ps = some r →
    (∀ F' H' w, Ex F F' → Stt g F' H' σ env → RV g F' H' σ env r w → Q w H') → wpAny (model X.prog X.w) X.A (f us) (EP X pins σ Q) X.xe s
theorem Op2.or {f : Value → Value → Sem Value} {s1 s2 : PV → PV → Option Val} (h1 : Op2 X g f s1) (h2 : Op2 X g f s2) : Op2 X g f (fun p q => match s1 p q with | some r => some r | none => s2 p q) := by
  intro pins s σ F H env p q v u vv uu r Q I S r1 r2 t1 t2 e k
  cases h : s1 p q with
  | some r' =>
    simp only [h, Option.some.injEq] at e; subst e
    exact h1 pins s σ F H env p q v u vv uu r' Q I S r1 r2 t1 t2 h k
  | none =>
    simp only [h] at e
    exact h2 pins s σ F H env p q v u vv uu r Q I S r1 r2 t1 t2 e k
theorem OpN.or {f : List Value → Sem Value} {s1 s2 : List PV → Option Val} (h1 : OpN X g f s1) (h2 : OpN X g f s2) : OpN X g f (fun p => match s1 p with | some r => some r | none => s2 p) := by
  intro pins s σ F H env p v vv r Q I S r1 t1 e k
  cases h : s1 p with
  | some r' =>
    simp only [h, Option.some.injEq] at e; subst e
    exact h1 pins s σ F H env p v vv r' Q I S r1 t1 h k
  | none =>
    simp only [h] at e
    exact h2 pins s σ F H env p v vv r Q I S r1 t1 e k
/-- by a rule of the layer -/
theorem Op2.of {f : Value → Value → Sem Value} {r : R2} {sem : PV → PV → Option Val} (h : OpR X f r)
    (k : ∀ (σ : St) (F H : Hp) (env : Env') (p q : PV) (v u : V) (x : Val) (Q : VK), Stt g F H σ env → Rt g.C F H p v → Rt g.C F H q u → sem p q = some x → (∀ F' H' w, Ex F F' → Stt g F' H' σ env → RV g F' H' σ env x w → Q w H') → r v u H Q) : Op2 X g f sem :=
  fun pins s σ F H env p q v u vv uu x Q I S r1 r2 t1 t2 e kk => h pins s σ H v u vv uu Q I r1 r2 (k σ F H env p q v u x Q S t1 t2 e kk)
theorem OpN.of {f : Value} {r : List V → Hp → VK → Prop} {sem : List PV → Option Val} (h : CallR X f r)
    (k : ∀ (σ : St) (F H : Hp) (env : Env') (ps : List PV) (vs : List V) (x : Val) (Q : VK), Stt g F H σ env → Rts g.C F H ps vs → sem ps = some x → (∀ F' H' w, Ex F F' → Stt g F' H' σ env → RV g F' H' σ env x w → Q w H') → r vs H Q) : OpN X g (fun us => PySem.call f us) sem :=
  fun pins s σ F H env ps vs us x Q I S r1 t1 e kk => h pins s σ H vs us Q I r1 (k σ F H env ps vs x Q S t1 e kk)
/-- what comes of an operation, stored nowhere yet: a value that stays -/
theorem fin_fz {p : PV} {v : V} {Q : VK} (S : Stt g F H σ env) (r : R g.C F p v) (k : ∀ F' H' w, Ex F F' → Stt g F' H' σ env → RV g F' H' σ env (.fz p) w → Q w H') : Q v H := k F H v (Ex.refl F) S r
theorem fin_bl {b : Bool} {Q : VK} (S : Stt g F H σ env) (k : ∀ F' H' w, Ex F F' → Stt g F' H' σ env → RV g F' H' σ env (.fz (.bl b)) w → Q w H') : Q (.bl b) H := fin_fz S (by unfold R; rfl) k
theorem fin_int {i : Int} {Q : VK} (S : Stt g F H σ env) (k : ∀ F' H' w, Ex F F' → Stt g F' H' σ env → RV g F' H' σ env (.fz (.int i)) w → Q w H') : Q (.int i) H := fin_fz S (by unfold R; rfl) k
theorem fin_str {x : Str} {Q : VK} (S : Stt g F H σ env) (k : ∀ F' H' w, Ex F F' → Stt g F' H' σ env → RV g F' H' σ env (.fz (.str x)) w → Q w H') : Q (.str x) H := fin_fz S (by unfold R; rfl) k
theorem ex_alloc {p : Addr} {o : HO} (hp : H p = none) : Ex H (upd H p o) := Ex.new hp
/-- a new container, its own cell not known to F -/
theorem fin_new {p : PV} {a : Addr} {o : HO} {Q : VK} (S : Stt g F H σ env) (ha : H a = none) (r : R1 g.C F (upd H a o) p a) (k : ∀ F' H' w, Ex F F' → Stt g F' H' σ env → RV g F' H' σ env (.new p) w → Q w H') : Q (.ref a) (upd H a o) := by
  obtain ⟨n1, n2, n3⟩ := S.new0 ha
  refine k F _ (.ref a) (Ex.refl F) (S.grow (ex_alloc ha)) ⟨a, rfl, r, n1, n2, fun i f q e z => ?_⟩
  obtain ⟨b, e1, e2, _⟩ := S.ow i f q e
  rw [z] at e1; cases e1
  obtain ⟨o', ho⟩ := e2.cell
  rw [ha] at ho; cases ho
theorem fin_lst {xs : List PV} {vs : List V} {a : Addr} {Q : VK} (S : Stt g F H σ env) (ha : H a = none) (r : Rs g.C F xs vs) (k : ∀ F' H' w, Ex F F' → Stt g F' H' σ env → RV g F' H' σ env (.new (.lst xs)) w → Q w H') : Q (.ref a) (upd H a (.lst vs)) :=
  fin_new (p := .lst xs) S ha (by simp only [R1]; exact ⟨vs, upd_same, r⟩) k
/-- a new tuple -/
theorem fin_tup {xs : List PV} {vs : List V} {a : Addr} {Q : VK} (S : Stt g F H σ env) (ha : H a = none) (r : Rs g.C F xs vs) (k : ∀ F' H' w, Ex F F' → Stt g F' H' σ env → RV g F' H' σ env (.fz (.tup xs)) w → Q w H') : Q (.ref a) (upd H a (.tup vs)) := by
  obtain ⟨n1, n2, n3⟩ := S.new0 ha
  have S2 := S.grow (ex_alloc (o := .tup vs) ha)
  have hn : ∀ (i : Nat) f q, env[i]? = some (.ow f q) → σ[i]? ≠ some (some (.ref a)) := fun i f q e z => by
    obtain ⟨b, e1, e2, _⟩ := S.ow i f q e
    rw [z] at e1; cases e1
    obtain ⟨o', ho⟩ := e2.cell
    rw [ha] at ho; cases ho
  refine k _ _ (.ref a) (Ex.new n1) (S2.know n1 upd_same n2 hn) ?_
  show R g.C _ (.tup xs) (.ref a)
  unfold R
  exact ⟨a, vs, rfl, upd_same, r.mono (Ex.new n1).le⟩
end
end VL
set_option maxRecDepth 100000
set_option maxHeartbeats 2000000
namespace VL
open PySem PySem.Spec L2
open PyProof.Rows hiding St
section
variable {X : Cx} {g : Gm} {pins : List (Addr × Obj)} {F H : Hp} {σ : St} {env : Env'} {s : Shared} {a b c : Expr} {da db dc : Env' → Res Val} {pos : Pos}
def truthPV : PV → Option Bool
  | .non => some false
  | .bl b => some b
  | .int i => some (i != 0)
  | .str x => if x.length ≤ big then some ((x.length : Int) != 0) else none
  | .lst xs => some (!xs.isEmpty)
  | .tup xs => some (!xs.isEmpty)
  | .dK ks _ => some (!ks.isEmpty)
  | _ => none
theorem empty_eq {C : Ct} {F : Hp} {xs : List PV} {vs : List V} (h : Rs C F xs vs) : vs.isEmpty = xs.isEmpty := by
  cases xs with
  | nil => rw [h.nil_inv]; rfl
  | cons x xs => obtain ⟨v, r, rfl, _⟩ := h.cons_inv; rfl
theorem truth_ok {p : PV} {v : V} {vv : Value} {b : Bool} {E : Value → Shared → Prop} {Q : Bool → Shared → Prop} (hK : g.C.K = X.K) (I : Inv X pins σ H s) (r : RelV v vv) (t : Rt g.C F H p v) (h : truthPV p = some b)
    (k : ∀ s', Inv X pins σ H s' → Q b s') (hE : E = X.xe := by rfl) : wpAny (model X.prog X.w) X.A (truthy vv) Q E s := by
  subst hE
  have go : ∀ b', TruV X.K v H b' → b' = b → wpAny (model X.prog X.w) X.A (truthy vv) Q X.xe s := fun b' hb e => by
    subst e
    exact thn (tru_ok pins s σ H v vv (fun k H' => H' = H ∧ k = b') I r ⟨b', hb, rfl, rfl⟩) fun z s' ⟨H', I', e1, e2⟩ => by subst e1 e2; exact k s' I'
  cases p <;> simp only [truthPV] at h <;> simp only [Rt] at t
  · cases h; subst t; exact go false rfl rfl
  · cases h; subst t; exact go _ rfl rfl
  · cases h; subst t; exact go _ rfl rfl
  · split at h
    · rename_i hl
      cases h; subst t; exact go _ ⟨by rw [big_eq]; exact hl, rfl⟩ rfl
    · cases h
  · cases h
    obtain ⟨a, vs, rfl, q, rs, _⟩ := t
    exact go _ (.inr (.inl ⟨vs, SqT.of q, rfl⟩)) (by rw [empty_eq rs])
  · cases h
    obtain ⟨a, vs, rfl, q, rs⟩ := t
    exact go _ (.inl ⟨vs, SqL.of q, rfl⟩) (by rw [empty_eq rs])
  · cases h
  · cases h
    obtain ⟨a, kvs, rfl, q, k1, rs⟩ := t
    have e : (!kvs.isEmpty) = (!List.isEmpty (kvs.map Prod.fst)) := by cases kvs <;> rfl
    obtain rfl : vv = Value.ref a := r
    exact d_truth I q fun s' I' => by
      rw [e, k1]
      exact k s' I'
  · cases h
  · cases h
  · cases h
  · cases h
  · cases h
theorem Z0f {i j pos} : PE X (.Constant (.int i) j pos) (tE g fun e => .ok (.fz (.int i)) e) := peImp pe_int fun σ H Q ⟨F, env, S, go⟩ => go F H (Ex.refl F) S _ (by show R _ _ _ _; unfold R; rfl)
theorem se_bl {b j pos} : PE X (.Constant (.bool b) j pos) (tE g fun e => .ok (.fz (.bl b)) e) := peImp pe_bl fun σ H Q ⟨F, env, S, go⟩ => go F H (Ex.refl F) S _ (by show R _ _ _ _; unfold R; rfl)
theorem se_str {x j pos} : PE X (.Constant (.str x) j pos) (tE g fun e => .ok (.fz (.str x)) e) := peImp pe_str fun σ H Q ⟨F, env, S, go⟩ => go F H (Ex.refl F) S _ (by show R _ _ _ _; unfold R; rfl)
def dVar (i : Nat) : Env' → Res Val := fun e => match e[i]? with
  | some (.fz p) => .ok (.fz p) e
  | some (.ow _ _) => .ok (.bor i) e
  | _ => .bad
theorem Z0a {i : Nat} {x : Str} {pos : Pos} (hN : X.N[i]? = some x) (hv : Vis X.env.scope x) (hd : (x == ("__debug__" : Str)) = false) (hcd : (x == ("__classdict__" : Str)) = false) : PE X (.Name x pos) (tE g (dVar i)) :=
  peImp (pe_var hN hv hd hcd) fun σ H Q ⟨F, env, S, go⟩ => by
    unfold dVar at go
    cases e : env[i]? with
    | none => rw [e] at go; exact go.elim
    | some sl =>
      rw [e] at go
      cases sl with
      | no => exact go.elim
      | fz p =>
        obtain ⟨v, h1, h2⟩ := S.fz i p e
        exact ⟨v, h1, go F H (Ex.refl F) S v h2⟩
      | ow f p =>
        obtain ⟨a, h1, h2⟩ := S.ow i f p e
        exact ⟨.ref a, h1, go F H (Ex.refl F) S _ h1⟩
def op2 (sem : PV → PV → Option Val) (x y : Val) (e : Env') : Res Val := match peek x e, peek y e with
  | some p, some q => toVal (sem p q) e
  | _, _ => .bad
def dBin (sem : PV → PV → Option Val) (da db : Env' → Res Val) : Env' → Res Val := fun e => (stl da e).bind fun x e1 => (stl db e1).bind fun y e2 => op2 sem x y e2
theorem op2_go {f : Value → Value → Sem Value} {sem : PV → PV → Option Val} {x y : Val} {v u : V} {vv uu : Value} {K : Val → Env' → Hp → Hp → Prop} (ho : Op2 X g f sem) (I : Inv X pins σ H s) (S : Stt g F H σ env) (r1 : RelV v vv) (r2 : RelV u uu)
    (t1 : RV g F H σ env x v) (t2 : RV g F H σ env y u) (go : Go g F σ (op2 sem x y env) K) :
    wpAny (model X.prog X.w) X.A (f vv uu) (EP X pins σ fun w H' => ∃ F' r, Ex F F' ∧ Stt g F' H' σ env ∧ RV g F' H' σ env r w ∧ K r env F' H') X.xe s := by
  unfold op2 at go
  cases e1 : peek x env with
  | none => simp only [e1] at go; exact go.elim
  | some p =>
    cases e2 : peek y env with
    | none => simp only [e1, e2] at go; exact go.elim
    | some q =>
      simp only [e1, e2] at go
      cases e3 : sem p q with
      | none => rw [e3] at go; exact go.elim
      | some r =>
        rw [e3] at go
        exact ho pins s σ F H env p q v u vv uu r _ I S r1 r2 (peek_ok S t1 e1) (peek_ok S t2 e2) e3 fun F' H' w ex S' rv => ⟨F', r, ex, S', rv, go F' H' ex S'⟩
theorem Z0d {op : Operator} {sem : PV → PV → Option Val} (ha : PE X a (tE g da)) (hb : PE X b (tE g db)) (ho : Op2 X g (binaryOp op) sem) : PE X (.BinOp a op b pos) (tE g (dBin sem da db)) := by
  refine ⟨fun pins s σ H Q I ⟨F, env, S, go⟩ => wpAny_BinOp (thn (peGo ha I S go) fun v s1 ⟨v', H1, I1, r1, F1, e1, x, x1, S1, o1, rv1, go1⟩ => ?_)⟩
  refine thn (peGo hb I1 S1 go1) fun u s2 ⟨u', H2, I2, r2, F2, e2, y, x2, S2, o2, rv2, go2⟩ => ?_
  refine thn (op2_go ho I2 S2 r1 r2 (rv1.later o1 x2) rv2 go2) fun w s3 ⟨w', H3, I3, r3, F3, r, ex, S3, rv, k⟩ => ⟨w', H3, I3, r3, k w' rv⟩
theorem se_cmp {op : CmpOp} {sem : PV → PV → Option Val} (ha : PE X a (tE g da)) (hb : PE X b (tE g db)) (ho : Op2 X g (compareOp op) sem) (hm : behindInMarks op b = false) : PE X (.Compare a [op] [b] pos) (tE g (dBin sem da db)) := by
  refine ⟨fun pins s σ H Q I ⟨F, env, S, go⟩ => wpAny_Compare1 (thn (peGo ha I S go) fun v s1 ⟨v', H1, I1, r1, F1, e1, x, x1, S1, o1, rv1, go1⟩ => ?_) hm⟩
  refine thn (peGo hb I1 S1 go1) fun u s2 ⟨u', H2, I2, r2, F2, e2, y, x2, S2, o2, rv2, go2⟩ => ?_
  refine thn (op2_go ho I2 S2 r1 r2 (rv1.later o1 x2) rv2 go2) fun w s3 ⟨w', H3, I3, r3, F3, r, ex, S3, rv, k⟩ => ⟨w', H3, I3, r3, k w' rv⟩
/-- what comes of a comparison, as a test -/
def asB (d : Env' → Res Val) : Env' → Res Bool := fun e => (d e).bind fun x e1 => match x with
  | .fz (.bl b) => .ok b e1
  | _ => .bad
theorem asB_k {x : Val} {w : V} {w' : Value} {Q : Bool → Shared → Prop} {QB : Bool → Hp → Prop} {ee : Env'} (I : Inv X pins σ H s) (S : Stt g F H σ ee) (r : RelV w w') (rv : RV g F H σ ee x w) (k : Go g F σ (match x with | .fz (.bl b) => Res.ok b ee | _ => .bad) fun b env' F' H' => QB b H')
    (q : ∀ b s', Inv X pins σ H s' → QB b H → Q b s') : wpAny (model X.prog X.w) X.A (truthy w') Q X.xe s := by
  cases x with
  | bor i => exact k.elim
  | new p => exact k.elim
  | fz p =>
    cases p <;> try exact k.elim
    rename_i b
    have e : w = .bl b := by
      have : R g.C F (.bl b) w := rv
      unfold R at this; exact this
    subst e
    cases r
    exact wpAny_truthy_bool (q b s I (k F H (Ex.refl F) S))
theorem st_cmp {op : CmpOp} {sem : PV → PV → Option Val} (ha : PE X a (tE g da)) (hb : PE X b (tE g db)) (ho : Op2 X g (compareOp op) sem) (hm : behindInMarks op b = false) : PT X (.Compare a [op] [b] pos) (tT g (asB (dBin sem da db))) := by
  refine ⟨fun pins s σ H Q I ⟨F, env, S, go⟩ => ?_⟩
  have go := Go.bind go
  refine wpAny_isTrue_Compare1 (thn (peGo ha I S go) fun v s1 ⟨v', H1, I1, r1, F1, e1, x, x1, S1, o1, rv1, go1⟩ => ?_) hm
  refine thn (peGo hb I1 S1 go1) fun u s2 ⟨u', H2, I2, r2, F2, e2, y, x2, S2, o2, rv2, go2⟩ => ?_
  refine thn (op2_go ho I2 S2 r1 r2 (rv1.later o1 x2) rv2 go2) fun w s3 ⟨w', H3, I3, r3, F3, r, ex, S3, rv, k⟩ => ?_
  exact asB_k I3 S3 r3 rv k fun b s' I' q => ⟨H3, I', q⟩
/-- a op b op' c -/
def dChain (sem sem' : PV → PV → Option Val) (da db dc : Env' → Res Val) : Env' → Res Val := fun e => (stl da e).bind fun x e1 => (stl db e1).bind fun y e2 => (op2 sem x y e2).bind fun r e3 => match r with
  | .fz (.bl true) => (stl dc e3).bind fun z e4 => op2 sem' y z e4
  | .fz (.bl false) => .ok (.fz (.bl false)) e3
  | _ => .bad
def dUn (sem : PV → Option Val) (da : Env' → Res Val) : Env' → Res Val := fun e => (stl da e).bind fun x e1 => match peek x e1 with
  | some p => toVal (sem p) e1
  | none => .bad
def dNot (da : Env' → Res Val) : Env' → Res Val := dUn (fun p => (truthPV p).map fun b => .fz (.bl (!b))) da
theorem un_go {f : Value → Sem Value} {sem : PV → Option Val} {x : Val} {v : V} {vv : Value} {K : Val → Env' → Hp → Hp → Prop} (ho : Op1 X g f sem) (I : Inv X pins σ H s) (S : Stt g F H σ env) (r1 : RelV v vv)
    (t1 : RV g F H σ env x v) (go : Go g F σ (match peek x env with | some p => toVal (sem p) env | none => .bad) K) :
    wpAny (model X.prog X.w) X.A (f vv) (EP X pins σ fun w H' => ∃ F' r, Ex F F' ∧ Stt g F' H' σ env ∧ RV g F' H' σ env r w ∧ K r env F' H') X.xe s := by
  cases e1 : peek x env with
  | none => simp only [e1] at go; exact go.elim
  | some p =>
    simp only [e1] at go
    cases e3 : sem p with
    | none => rw [e3] at go; exact go.elim
    | some r =>
      rw [e3] at go
      exact ho pins s σ F H env p v vv r _ I S r1 (peek_ok S t1 e1) e3 fun F' H' w ex S' rv => ⟨F', r, ex, S', rv, go F' H' ex S'⟩
theorem se_un {op : UnaryOp} {sem : PV → Option Val} (ha : PE X a (tE g da)) (ho : Op1 X g (unaryOp op) sem) : PE X (.UnaryOp op a pos) (tE g (dUn sem da)) := by
  refine ⟨fun pins s σ H Q I ⟨F, env, S, go⟩ => UnaryOp_ (thn (peGo ha I S go) fun v s1 ⟨v', H1, I1, r1, F1, e1, x, x1, S1, o1, rv1, go1⟩ => ?_)⟩
  exact thn (un_go ho I1 S1 r1 rv1 go1) fun w s3 ⟨w', H3, I3, r3, F3, r, ex, S3, rv, k⟩ => ⟨w', H3, I3, r3, k w' rv⟩
theorem op_not (hK : g.C.K = X.K) : Op1 X g (unaryOp .Not) (fun p => (truthPV p).map fun b => .fz (.bl (!b))) := by
  intro pins s σ F H env p v vv r Q I S rv t e k
  cases h : truthPV p with
  | none => simp only [h, Option.map_none] at e; cases e
  | some b =>
    simp only [h, Option.map_some, Option.some.injEq] at e; subst e
    exact not_of (truth_ok hK I rv t h fun s' I' => ⟨.bl (!b), H, I', rfl, k F H _ (Ex.refl F) S (by show R _ _ _ _; unfold R; rfl)⟩)
def dBool (isAnd : Bool) (da dr : Env' → Res Val) : Env' → Res Val := fun e => (stl da e).bind fun x e1 => match (peek x e1).bind truthPV with
  | some t => if t = isAnd then dr e1 else .ok x e1
  | none => .bad
theorem se_one {op} (h : PE X a (tE g da)) : PE X (.BoolOp op [a] pos) (tE g da) := pe_one h
theorem se_and {rest : List Expr} {dr : Env' → Res Val} (hK : g.C.K = X.K) (ha : PE X a (tE g da)) (hb : PE X (.BoolOp .And (b :: rest) pos) (tE g dr)) : PE X (.BoolOp .And (a :: b :: rest) pos) (tE g (dBool true da dr)) := by
  refine ⟨fun pins s σ H Q I ⟨F, env, S, go⟩ => BoolOp_and (thn (peGo ha I S go) fun v s1 ⟨v', H1, I1, r1, F1, e1, x, x1, S1, o1, rv1, go1⟩ => ?_)⟩
  cases h : peek x e1 with
  | none => simp only [h, Option.bind_none] at go1; exact go1.elim
  | some p =>
    simp only [h, Option.bind_some] at go1
    cases h2 : truthPV p with
    | none => simp only [h2] at go1; exact go1.elim
    | some t =>
      simp only [h2] at go1
      refine truth_ok hK I1 r1 (peek_ok S1 rv1 h) h2 fun s2 I2 => ?_
      cases t with
      | true => exact hb.run pins s2 σ H1 Q I2 ⟨F1, e1, S1, go1⟩
      | false => exact ⟨v', H1, I2, r1, go1 F1 H1 (Ex.refl F1) S1 v' rv1⟩
def dIf (dt : Env' → Res Bool) (da db : Env' → Res Val) : Env' → Res Val := fun e => (dt e).bind fun t e1 => if t = true then da e1 else db e1
theorem se_if {t : Expr} {dt : Env' → Res Bool} (ht : PT X t (tT g dt)) (ha : PE X a (tE g da)) (hb : PE X b (tE g db)) : PE X (.IfExp t a b pos) (tE g (dIf dt da db)) := by
  refine peImp (pe_ifExp ht ha hb) fun σ H Q ⟨F, env, S, go⟩ => ⟨F, env, S, ?_⟩
  refine (Go.bind go).mono fun t e1 F1 H1 ex S1 k => ?_
  cases t with
  | true => exact ⟨F1, e1, S1, k⟩
  | false => exact ⟨F1, e1, S1, k⟩
def dTru (da : Env' → Res Val) : Env' → Res Bool := fun e => (stl da e).bind fun x e1 => match (peek x e1).bind truthPV with
  | some t => .ok t e1
  | none => .bad
theorem st_val (hK : g.C.K = X.K) (ha : PE X a (tE g da)) (he : ∀ whole, isTrue a X.env whole = (do let v ← whole; standAt a.pos; holding [v] (truthy v))) : PT X a (tT g (dTru da)) := by
  refine ⟨fun pins s σ H Q I ⟨F, env, S, go⟩ => isTrue_plain (thn (peGo ha I S go) fun v s1 ⟨v', H1, I1, r1, F1, e1, x, x1, S1, o1, rv1, go1⟩ => ?_) (he _)⟩
  cases h : peek x e1 with
  | none => simp only [h, Option.bind_none] at go1; exact go1.elim
  | some p =>
    simp only [h, Option.bind_some] at go1
    cases h2 : truthPV p with
    | none => simp only [h2] at go1; exact go1.elim
    | some t =>
      simp only [h2] at go1
      exact truth_ok hK I1 r1 (peek_ok S1 rv1 h) h2 fun s2 I2 => ⟨H1, I2, go1 F1 H1 (Ex.refl F1) S1⟩
def dNotT (da : Env' → Res Bool) : Env' → Res Bool := fun e => (da e).bind fun b e1 => .ok (!b) e1
def dAndT (da db : Env' → Res Bool) : Env' → Res Bool := fun e => (da e).bind fun b e1 => if b = true then db e1 else .ok false e1
def dOrT (da db : Env' → Res Bool) : Env' → Res Bool := fun e => (da e).bind fun b e1 => if b = true then .ok true e1 else db e1
variable {ta tb : Env' → Res Bool}
theorem st_not (ha : PT X a (tT g ta)) : PT X (.UnaryOp .Not a pos) (tT g (dNotT ta)) :=
  ptImp (pt_not ha) fun σ H Q ⟨F, env, S, go⟩ => ⟨F, env, S, (Go.bind go).mono fun t e1 F1 H1 ex S1 k => k F1 H1 (Ex.refl F1) S1⟩
theorem pwImp {e : Expr} {t t' : TT} (h : PW X e t) (k : ∀ σ H Q, t' σ H Q → t σ H Q) : PW X e t' := ⟨fun whole pins s σ H Q I q => h.run whole pins s σ H Q I (k σ H Q q)⟩
theorem sw_and1 (ha : PT X a (tT g ta)) : PW X (.BoolOp .And [a] pos) (tT g ta) := pw_and1 ha
theorem sw_or1 (ha : PT X a (tT g ta)) : PW X (.BoolOp .Or [a] pos) (tT g ta) := pw_or1 ha
theorem sw_and {rest : List Expr} (ha : PT X a (tT g ta)) (hb : PW X (.BoolOp .And (b :: rest) pos) (tT g tb)) : PW X (.BoolOp .And (a :: b :: rest) pos) (tT g (dAndT ta tb)) :=
  pwImp (pw_and ha hb) fun σ H Q ⟨F, env, S, go⟩ => ⟨F, env, S, (Go.bind go).mono fun t e1 F1 H1 ex S1 k => by
    cases t with
    | true => exact ⟨F1, e1, S1, k⟩
    | false => exact k F1 H1 (Ex.refl F1) S1⟩
theorem sw_or {rest : List Expr} (ha : PT X a (tT g ta)) (hb : PW X (.BoolOp .Or (b :: rest) pos) (tT g tb)) : PW X (.BoolOp .Or (a :: b :: rest) pos) (tT g (dOrT ta tb)) :=
  pwImp (pw_or ha hb) fun σ H Q ⟨F, env, S, go⟩ => ⟨F, env, S, (Go.bind go).mono fun t e1 F1 H1 ex S1 k => by
    cases t with
    | false => exact ⟨F1, e1, S1, k⟩
    | true => exact k F1 H1 (Ex.refl F1) S1⟩
end
end VL
set_option maxRecDepth 100000
set_option maxHeartbeats 2000000
namespace VL
open PySem PySem.Spec L2
open PyProof.Rows hiding St
def frz (x : Val) (e : Env') : Res PV := match x with
  | .fz p => .ok p e
  | .new p => .ok p e
  | .bor i => match e[i]? with
    | some (.fz p) => .ok p e
    | some (.ow true p) => .ok p (e.set i (.fz p))
    | _ => .bad
def frzs : List Val → Env' → Res (List PV)
  | [], e => .ok [] e
  | x :: xs, e => (frz x e).bind fun p e1 => (frzs xs e1).bind fun ps e2 => .ok (p :: ps) e2
def dArgs : List (Env' → Res Val) → Env' → Res (List Val)
  | [], e => .ok [] e
  | d :: ds, e => (stl d e).bind fun x e1 => (dArgs ds e1).bind fun xs e2 => .ok (x :: xs) e2
def AllOld : List Val → Prop
  | [] => True
  | x :: xs => x.old ∧ AllOld xs
section
variable {X : Cx} {g : Gm} {pins : List (Addr × Obj)} {F H F' H' : Hp} {σ : St} {env env' : Env'} {s : Shared} {a b c : Expr} {da db dc : Env' → Res Val} {pos : Pos}
theorem Go.up {α : Type} {r : Res α} {K : α → Env' → Hp → Hp → Prop} (go : Go g F σ r K) (e : Ex F F') : Go g F' σ r K := by
  cases r with
  | bad => exact go
  | err x e' => exact fun F2 H2 e2 S2 => go F2 H2 (e.trans e2) S2
  | ok x e' => exact fun F2 H2 e2 S2 => go F2 H2 (e.trans e2) S2
theorem frz_go {α : Type} {x : Val} {v : V} {f : PV → Env' → Res α} {K : α → Env' → Hp → Hp → Prop} (S : Stt g F H σ env) (r : RV g F H σ env x v) (go : Go g F σ ((frz x env).bind f) K) :
    ∃ F' p env', Ex F F' ∧ Stt g F' H σ env' ∧ R g.C F' p v ∧ Go g F' σ (f p env') K := by
  cases x with
  | fz p => exact ⟨F, p, env, Ex.refl F, S, r, go⟩
  | new p =>
    obtain ⟨b, rfl, r1, hf, h0, hn⟩ := r
    obtain ⟨o, ho⟩ := r1.cell
    refine ⟨_, p, env, Ex.new hf, S.know hf ho h0 hn, r1.frozen ho hf, ?_⟩
    exact Go.up go (Ex.new hf)
  | bor i =>
    unfold frz at go
    dsimp only at go
    cases e : env[i]? with
    | none => rw [e] at go; exact go.elim
    | some sl =>
      rw [e] at go
      cases sl with
      | no => exact go.elim
      | fz p =>
        obtain ⟨w, h1, h2⟩ := S.fz i p e
        have r : σ[i]? = some (some v) := r
        rw [r] at h1; cases h1
        exact ⟨F, p, env, Ex.refl F, S, h2, go⟩
      | ow f p =>
        cases f with
        | false => exact go.elim
        | true =>
          obtain ⟨w, h1, h2, h3, h4⟩ := S.ow i _ p e
          have r : σ[i]? = some (some v) := r
          rw [r] at h1; cases h1
          obtain ⟨o, ho⟩ := h2.cell
          obtain ⟨S', rr⟩ := S.freeze e r ho
          exact ⟨_, p, _, Ex.new h3, S', rr, Go.up go (Ex.new h3)⟩
theorem RVs.later : ∀ {xs : List Val} {vs : List V}, AllOld xs → RVs g F H σ env xs vs → Ex F F' → RVs g F' H' σ env' xs vs
  | [], vs, _, r, _ => r
  | x :: xs, vs, o, r, e => by
    obtain ⟨v, t, e1, r1, r2⟩ := r
    exact ⟨v, t, e1, r1.later o.1 e, RVs.later o.2 r2 e⟩
theorem frzs_go {α : Type} : ∀ {xs : List Val} {vs : List V} {F H : Hp} {env : Env'} {f : List PV → Env' → Res α} {K : α → Env' → Hp → Hp → Prop}, AllOld xs → Stt g F H σ env → RVs g F H σ env xs vs → Go g F σ ((frzs xs env).bind f) K →
    ∃ F' ps env', Ex F F' ∧ Stt g F' H σ env' ∧ Rs g.C F' ps vs ∧ Go g F' σ (f ps env') K
  | [], vs, F, H, env, f, K, _, S, r, go => by
    have e : vs = [] := r
    subst e
    exact ⟨F, [], env, Ex.refl F, S, Rs.nil, go⟩
  | x :: xs, vs, F, H, env, f, K, o, S, r, go => by
    obtain ⟨v, t, rfl, r1, r2⟩ := r
    have go' : Go g F σ ((frz x env).bind fun p e1 => ((frzs xs e1).bind fun ps e2 => .ok (p :: ps) e2).bind f) K := by
      unfold frzs at go
      cases h : frz x env with
      | bad => rw [h] at go; exact go
      | err y e => rw [h] at go; exact go
      | ok p e1 => rw [h] at go; exact go
    obtain ⟨F1, p, e1, x1, S1, q1, go1⟩ := frz_go S r1 go'
    have go2 : Go g F1 σ ((frzs xs e1).bind fun ps e2 => f (p :: ps) e2) K := by
      cases h : frzs xs e1 with
      | bad => rw [h] at go1; exact go1
      | err y e => rw [h] at go1; exact go1
      | ok ps e2 => rw [h] at go1; exact go1
    obtain ⟨F2, ps, e2, x2, S2, q2, go3⟩ := frzs_go (f := fun ps e2 => f (p :: ps) e2) o.2 S1 (RVs.later o.2 r2 x1) go2
    exact ⟨F2, p :: ps, e2, x1.trans x2, S2, Rs.cons (q1.mono x2.le) q2, go3⟩
/-- argument lists, settled -/
def tAs (g : Gm) (d : Env' → Res (List Val)) : TA := fun σ H Q => ∃ F env, Stt g F H σ env ∧ Go g F σ (d env) fun xs env' F' H' => ∀ vs, AllOld xs → RVs g F' H' σ env' xs vs → Q vs H'
theorem Z0c : PA X [] (tAs g (dArgs [])) := paImp pa_nil fun σ H Q ⟨F, env, S, go⟩ => go F H (Ex.refl F) S [] True.intro rfl
theorem Z0b {e : Expr} {es : List Expr} {d : Env' → Res Val} {ds : List (Env' → Res Val)} (ha : PE X e (tE g d)) (hr : PA X es (tAs g (dArgs ds))) (hs : starEach (e :: es) X.env = (false, eval e X.env) :: starEach es X.env) :
    PA X (e :: es) (tAs g (dArgs (d :: ds))) := by
  refine ⟨fun pos pins s σ H Q I ⟨F, env, S, go⟩ => ?_⟩
  rw [hs]
  show wpAny _ _ (spliced ((false, eval e X.env) :: backTo pos (starEach es X.env))) _ _ s
  refine Calls.spliced_cons (thn (peGo ha I S go) fun v s1 ⟨v', H1, I1, r1, F1, e1, x, x1, S1, o1, rv1, go1⟩ => ?_)
  refine thn (hr.run pos pins s1 σ H1 (fun vs H2 => Q (v' :: vs) H2) I1 ⟨F1, e1, S1, (Go.bind go1).mono fun xs e2 F2 H2 x2 S2 k vs o2 rv2 => ?_⟩) fun us s2 ⟨xs, H2, I2, r2, q2⟩ => ⟨v' :: xs, H2, I2, .cons r1 r2, q2⟩
  exact k F2 H2 (Ex.refl F2) S2 (v' :: vs) ⟨o1, o2⟩ ⟨v', vs, rfl, rv1.later o1 x2, rv2⟩
/-- an argument list, then the rest -/
theorem paGo {β : Type} {es : List Expr} {d : Env' → Res (List Val)} {f : List Val → Env' → Res β} {K : β → Env' → Hp → Hp → Prop} (h : PA X es (tAs g d)) (pos : Pos) (I : Inv X pins σ H s) (S : Stt g F H σ env) (go : Go g F σ ((d env).bind f) K) :
    wpAny (model X.prog X.w) X.A (spliced (backTo pos (starEach es X.env))) (AP X pins σ fun vs H1 => ∃ F1 env1 xs, Ex F F1 ∧ Stt g F1 H1 σ env1 ∧ AllOld xs ∧ RVs g F1 H1 σ env1 xs vs ∧ Go g F1 σ (f xs env1) K) X.xe s := by
  refine h.run pos pins s σ H _ I ⟨F, env, S, ?_⟩
  exact (Go.bind go).mono fun xs e F' H' e1 S1 k vs o r => ⟨F', e, xs, e1, S1, o, r, k⟩
theorem RVs.length : ∀ {xs : List Val} {vs : List V}, RVs g F H σ env xs vs → vs.length = xs.length
  | [], vs, r => by
    have e : vs = [] := r
    rw [e]; rfl
  | x :: xs, vs, r => by
    obtain ⟨v, t, e1, r1, r2⟩ := r
    rw [e1, List.length_cons, List.length_cons, RVs.length r2]
def dLst (ds : List (Env' → Res Val)) : Env' → Res Val := fun e => (dArgs ds e).bind fun xs e1 => (frzs xs e1).bind fun ps e2 => if ps.length ≤ big then .ok (.new (.lst ps)) e2 else .bad
def dTup (ds : List (Env' → Res Val)) : Env' → Res Val := fun e => (dArgs ds e).bind fun xs e1 => (frzs xs e1).bind fun ps e2 => if ps.length ≤ big then .ok (.fz (.tup ps)) e2 else .bad
theorem disp_go {xs : List Val} {vs : List V} {mk : List PV → Val} {K : Val → Env' → Hp → Hp → Prop} (o : AllOld xs) (S : Stt g F H σ env) (r : RVs g F H σ env xs vs) (go : Go g F σ ((frzs xs env).bind fun ps e2 => if ps.length ≤ big then .ok (mk ps) e2 else .bad) K) :
    ∃ F' ps env', Ex F F' ∧ Stt g F' H σ env' ∧ Rs g.C F' ps vs ∧ vs.length ≤ sizeLine ∧ ∀ F2 H2, Ex F' F2 → Stt g F2 H2 σ env' → K (mk ps) env' F2 H2 := by
  obtain ⟨F1, ps, e1, x1, S1, q1, go1⟩ := frzs_go o S r go
  by_cases h : ps.length ≤ big
  · rw [if_pos h] at go1
    exact ⟨F1, ps, e1, x1, S1, q1, by rw [big_eq, q1.length]; exact h, go1⟩
  · rw [if_neg h] at go1; exact go1.elim
theorem se_lst {es : List Expr} {ds : List (Env' → Res Val)} (h : PA X es (tAs g (dArgs ds))) : PE X (.List es pos) (tE g (dLst ds)) :=
  peImp (pe_lst h) fun σ H Q ⟨F, env, S, go⟩ => ⟨F, env, S, (Go.bind go).mono fun xs e1 F1 H1 x1 S1 k vs o rv => by
    obtain ⟨F2, ps, e2, x2, S2, q2, hl, k2⟩ := disp_go o S1 rv k
    exact ⟨hl, fun p hp => fin_lst S2 hp q2 fun F3 H3 w x3 S3 rw => k2 F3 H3 x3 S3 w rw⟩⟩
theorem se_tup {es : List Expr} {x1 : Nat} {ds : List (Env' → Res Val)} (h : PA X es (tAs g (dArgs ds))) : PE X (.Tuple es x1 pos) (tE g (dTup ds)) :=
  peImp (pe_tup h) fun σ H Q ⟨F, env, S, go⟩ => ⟨F, env, S, (Go.bind go).mono fun xs e1 F1 H1 x1 S1 k vs o rv => by
    obtain ⟨F2, ps, e2, x2, S2, q2, hl, k2⟩ := disp_go o S1 rv k
    exact ⟨hl, fun p hp => fin_tup S2 hp q2 fun F3 H3 w x3 S3 rw => k2 F3 H3 x3 S3 w rw⟩⟩
def opN (sem : List PV → Option Val) (xs : List Val) (e : Env') : Res Val := match peeks e xs with
  | some ps => toVal (sem ps) e
  | none => .bad
def dCall (sem : List PV → Option Val) (ds : List (Env' → Res Val)) : Env' → Res Val := fun e => (dArgs ds e).bind fun xs e1 => opN sem xs e1
theorem peeks_ok (S : Stt g F H σ env) : ∀ {xs : List Val} {vs : List V} {ps : List PV}, RVs g F H σ env xs vs → peeks env xs = some ps → Rts g.C F H ps vs
  | [], vs, ps, r, h => by
    simp only [peeks, Option.some.injEq] at h; subst h
    exact r
  | x :: xs, vs, ps, r, h => by
    obtain ⟨v, t, rfl, r1, r2⟩ := r
    simp only [peeks] at h
    cases h1 : peek x env with
    | none => simp only [h1] at h; cases h
    | some p =>
      cases h2 : peeks env xs with
      | none => simp only [h1, h2] at h; cases h
      | some qs =>
        simp only [h1, h2, Option.some.injEq] at h; subst h
        exact ⟨v, t, rfl, peek_ok S r1 h1, peeks_ok S r2 h2⟩
theorem opN_go {f : List Value → Sem Value} {sem : List PV → Option Val} {xs : List Val} {vs : List V} {us : List Value} {K : Val → Env' → Hp → Hp → Prop} (ho : OpN X g f sem) (I : Inv X pins σ H s) (S : Stt g F H σ env) (r : Vals vs us)
    (t : RVs g F H σ env xs vs) (go : Go g F σ (opN sem xs env) K) : wpAny (model X.prog X.w) X.A (f us) (EP X pins σ fun w H' => ∃ F' r, Ex F F' ∧ Stt g F' H' σ env ∧ RV g F' H' σ env r w ∧ K r env F' H') X.xe s := by
  unfold opN at go
  cases e1 : peeks env xs with
  | none => rw [e1] at go; exact go.elim
  | some ps =>
    simp only [e1] at go
    cases e3 : sem ps with
    | none => rw [e3] at go; exact go.elim
    | some r' =>
      rw [e3] at go
      exact ho pins s σ F H env ps vs us r' _ I S r (peeks_ok S t e1) e3 fun F' H' w ex S' rv => ⟨F', r', ex, S', rv, go F' H' ex S'⟩
section
variable {x : Str} {p : Pos} {e : Expr} {es : List Expr} {ds : List (Env' → Res Val)} {id T : String} {sem : List PV → Option Val}
theorem se_callB (ho : OpN X g (fun us => PySem.call (.builtin id) us) sem) (hg : Gl X x) (hm : X.mg x = none) (hv : bootBuiltins x = some (.builtin id)) (ha : PA X (e :: es) (tAs g (dArgs ds))) (hn : x ≠ "__name__") (hdb : (x == ("__debug__" : Str)) = false)
    (he : starEach (e :: es) X.env = (false, eval e X.env) :: starEach es X.env) (hpl : (backTo pos (starEach es X.env)).any (·.1) = false) : PE X (.Call (.Name x p) (e :: es) [] pos) (tE g (dCall sem ds)) := by
  refine ⟨fun pins s σ H Q I ⟨F, env, S, go⟩ => ?_⟩
  refine wpAny_Call_Name_kw (ld_blt I hg hm hv ?_ hn hdb)
  refine PyProof.Rows.callWith_builtin1 (thn (paGo ha pos I S go) fun us s1 ⟨vs, H1, I1, r1, F1, e1, xs, x1, S1, o1, rv1, go1⟩ => ?_) he hpl
  exact thn (opN_go ho I1 S1 r1 rv1 go1) fun w s3 ⟨w', H3, I3, r3, F3, r, ex, S3, rv, k⟩ => ⟨w', H3, I3, r3, k w' rv⟩
theorem se_callTy (ho : OpN X g (fun us => PySem.call (.type T) us) sem) (hg : Gl X x) (hm : X.mg x = none) (hv : bootBuiltins x = some (.type T)) (ha : PA X (e :: es) (tAs g (dArgs ds))) (hn : x ≠ "__name__") (hdb : (x == ("__debug__" : Str)) = false)
    (he : starEach (e :: es) X.env = (false, eval e X.env) :: starEach es X.env) (hpl : (backTo pos (starEach es X.env)).any (·.1) = false) : PE X (.Call (.Name x p) (e :: es) [] pos) (tE g (dCall sem ds)) := by
  refine ⟨fun pins s σ H Q I ⟨F, env, S, go⟩ => ?_⟩
  refine wpAny_Call_Name_kw (ld_blt I hg hm hv ?_ hn hdb)
  refine PyProof.Rows.callWith_type1 (thn (paGo ha pos I S go) fun us s1 ⟨vs, H1, I1, r1, F1, e1, xs, x1, S1, o1, rv1, go1⟩ => ?_) he hpl
  exact thn (opN_go ho I1 S1 r1 rv1 go1) fun w s3 ⟨w', H3, I3, r3, F3, r, ex, S3, rv, k⟩ => ⟨w', H3, I3, r3, k w' rv⟩
end
def OpIx (X : Cx) (g : Gm) (sem : PV → PV → Option Val) : Prop := ∀ value slice, (∀ v u, subscripted slice false v u = operate [v, u] (getItem v u)) → Op2 X g (subscriptTail value slice) sem
theorem OpIx.or {s1 s2 : PV → PV → Option Val} (h1 : OpIx X g s1) (h2 : OpIx X g s2) : OpIx X g (fun p q => match s1 p q with | some r => some r | none => s2 p q) := fun v sl hs => (h1 v sl hs).or (h2 v sl hs)
theorem se_ix {sem : PV → PV → Option Val} (ho : OpIx X g sem) (ha : PE X a (tE g da)) (hb : PE X b (tE g db)) (hs : PlainIx b) : PE X (.Subscript a b pos) (tE g (dBin sem da db)) := by
  refine ⟨fun pins s σ H Q I ⟨F, env, S, go⟩ => Subscript_ (thn (peGo ha I S go) fun v s1 ⟨v', H1, I1, r1, F1, e1, x, x1, S1, o1, rv1, go1⟩ => ?_)⟩
  refine thn (peGo hb I1 S1 go1) fun u s2 ⟨u', H2, I2, r2, F2, e2, y, x2, S2, o2, rv2, go2⟩ => ?_
  exact thn (op2_go (ho a b hs) I2 S2 r1 r2 (rv1.later o1 x2) rv2 go2) fun w s3 ⟨w', H3, I3, r3, F3, r, ex, S3, rv, k⟩ => ⟨w', H3, I3, r3, k w' rv⟩
end
end VL
set_option maxRecDepth 100000
set_option maxHeartbeats 2000000
namespace VL
open PySem PySem.Spec L2
open PyProof.Rows hiding St
mutual
def toD : PV → Option PyData
  | .non => some .none
  | .bl b => some (.bool b)
  | .int i => some (.int i)
  | .str x => some (.str x)
  | .tup xs => (toDs xs).map .tuple
  | .lst xs => (toDs xs).map .list
  | .ftp xs => (toDs xs).map .tuple
  | _ => none
def toDs : List PV → Option (List PyData)
  | [] => some []
  | x :: xs => match toD x, toDs xs with
    | some d, some ds => some (d :: ds)
    | _, _ => none
end
mutual
theorem R.dp {C : Ct} {H : Hp} : ∀ {p : PV} {v : V} {d : PyData}, R C H p v → toD p = some d → Dp C.K H v d
  | .non, v, d, h, e => by
    unfold R at h; subst h; unfold toD at e; cases e; exact .non
  | .bl b, v, d, h, e => by
    unfold R at h; subst h; unfold toD at e; cases e; exact .bl b
  | .int b, v, d, h, e => by
    unfold R at h; subst h; unfold toD at e; cases e; exact .int b
  | .str b, v, d, h, e => by
    unfold R at h; subst h; unfold toD at e; cases e; exact .str b
  | .tup xs, v, d, h, e => by
    unfold R at h; unfold toD at e
    obtain ⟨a, vs, rfl, q, r⟩ := h
    cases h1 : toDs xs with
    | none => rw [h1] at e; cases e
    | some ds =>
      rw [h1] at e
      simp only [Option.map_some, Option.some.injEq] at e; subst e
      exact .tup (SqT.of q) (Rs.dps r h1)
  | .lst xs, v, d, h, e => by
    unfold R at h; unfold toD at e
    obtain ⟨a, vs, rfl, q, r⟩ := h
    cases h1 : toDs xs with
    | none => rw [h1] at e; cases e
    | some ds =>
      rw [h1] at e
      simp only [Option.map_some, Option.some.injEq] at e; subst e
      exact .lst (SqL.of q) (Rs.dps r h1)
  | .scr ns, v, d, h, e => by unfold toD at e; cases e
  | .dK _ _, v, d, h, e => by unfold toD at e; cases e
  | .dT _ _, v, d, h, e => by unfold toD at e; cases e
  | .ins _ _, v, d, h, e => by unfold toD at e; cases e
  | .exc _ _, v, d, h, e => by unfold toD at e; cases e
  | .lnk _, v, d, h, e => by unfold toD at e; cases e
  | .ftp xs, v, d, h, e => by
    unfold R at h; unfold toD at e
    obtain ⟨a, vs, o, rfl, q, _, r⟩ := h
    cases h1 : toDs xs with
    | none => rw [h1] at e; cases e
    | some ds =>
      rw [h1] at e
      simp only [Option.map_some, Option.some.injEq] at e; subst e
      exact .tup (.inl (.inr ⟨o, q⟩)) (Rs.dps r h1)
theorem Rs.dps {C : Ct} {H : Hp} : ∀ {p : List PV} {v : List V} {d : List PyData}, Rs C H p v → toDs p = some d → DpAll C.K H v d
  | [], v, d, h, e => by
    rw [h.nil_inv]; unfold toDs at e; cases e; exact .nil
  | x :: xs, v, d, h, e => by
    obtain ⟨w, r, rfl, q, t⟩ := h.cons_inv
    unfold toDs at e
    cases h1 : toD x with
    | none => simp only [h1] at e; cases e
    | some d1 =>
      cases h2 : toDs xs with
      | none => simp only [h1, h2] at e; cases e
      | some ds =>
        simp only [h1, h2, Option.some.injEq] at e; subst e
        exact .cons (R.dp q h1) (Rs.dps t h2)
end
def keyP : PV → Option Key
  | .int i => some (.inl i)
  | .str x => some (.inr x)
  | _ => none
def keysP : List PV → Option (List Key)
  | [] => some []
  | x :: xs => match keyP x, keysP xs with
    | some d, some ds => some (d :: ds)
    | _, _ => none
theorem keyP_r {C : Ct} {F : Hp} {p : PV} {v : V} {k : Key} (h : R C F p v) (e : keyP p = some k) : v = kV k := by
  cases p <;> simp only [keyP] at e <;> cases e <;> unfold R at h <;> exact h
theorem keyP_rt {C : Ct} {F H : Hp} {p : PV} {v : V} {k : Key} (h : Rt C F H p v) (e : keyP p = some k) : v = kV k := by
  cases p <;> simp only [keyP] at e <;> cases e <;> simp only [Rt] at h <;> exact h
theorem keysP_r {C : Ct} {F : Hp} : ∀ {p : List PV} {v : List V} {k : List Key}, Rs C F p v → keysP p = some k → v = k.map kV
  | [], v, w, h, e => by
    rw [h.nil_inv]; simp only [keysP, Option.some.injEq] at e; subst e; rfl
  | x :: xs, v, w, h, e => by
    obtain ⟨y, r, rfl, q, t⟩ := h.cons_inv
    simp only [keysP] at e
    cases h1 : keyP x with
    | none => simp only [h1] at e; cases e
    | some d1 =>
      cases h2 : keysP xs with
      | none => simp only [h1, h2] at e; cases e
      | some ds =>
        simp only [h1, h2, Option.some.injEq] at e; subst e
        rw [keyP_r q h1, keysP_r t h2]; rfl
def look {κ : Type} [DecidableEq κ] : List κ → List PV → κ → Option PV
  | k :: ks, v :: vs, j => if k = j then some v else look ks vs j
  | _, _, _ => none
theorem look_r {κ : Type} [DecidableEq κ] {C : Ct} {F : Hp} : ∀ {kvs : List (κ × V)} {xs : List PV} (j : κ), Rs C F xs (kvs.map Prod.snd) → (match look (kvs.map Prod.fst) xs j with | some p => ∃ v, valV kvs j = some v ∧ R C F p v | none => valV kvs j = none)
  | [], xs, j, h => by
    have : xs = [] := by
      cases xs with
      | nil => rfl
      | cons x xs => obtain ⟨v, r, e, _⟩ := h.cons_inv; cases e
    subst this
    exact rfl
  | (k, v) :: kvs, [], j, h => by
    have := h.nil_inv; cases this
  | (k, v) :: kvs, x :: xs, j, h => by
    obtain ⟨y, r, e, q, t⟩ := h.cons_inv
    simp only [List.map_cons, List.cons.injEq] at e
    obtain ⟨rfl, rfl⟩ := e
    simp only [List.map_cons, look]
    by_cases hk : k = j
    · rw [if_pos hk]
      exact ⟨v, valV_pos hk, q⟩
    · rw [if_neg hk]
      have ih := look_r (kvs := kvs) j t
      rw [valV_neg hk]
      exact ih
def putP {κ : Type} [DecidableEq κ] (ks : List κ) (vs : List PV) (k : κ) (v : PV) : List κ × List PV :=
  if k ∈ ks then (ks, List.zipWith (fun j x => if j = k then v else x) ks vs) else (ks ++ [k], vs ++ [v])
theorem putP_r {κ : Type} [DecidableEq κ] {C : Ct} {F : Hp} {kvs : List (κ × V)} {xs : List PV} {k : κ} {p : PV} {v : V} (h : Rs C F xs (kvs.map Prod.snd)) (r : R C F p v) :
    (putK kvs k v).map Prod.fst = (putP (kvs.map Prod.fst) xs k p).1 ∧ Rs C F (putP (kvs.map Prod.fst) xs k p).2 ((putK kvs k v).map Prod.snd) := by
  unfold putP putK
  have e : (kvs.any fun kv => decide (kv.1 = k)) = decide (k ∈ kvs.map Prod.fst) := by
    induction kvs generalizing xs with
    | nil => rfl
    | cons a l ih =>
      have hh : ∃ ys, Rs C F ys (l.map Prod.snd) := by
        cases xs with
        | nil => have := h.nil_inv; cases this
        | cons y ys => obtain ⟨w, t, e, q, u⟩ := h.cons_inv; simp only [List.map_cons, List.cons.injEq] at e; rw [← e.2] at u; exact ⟨ys, u⟩
      obtain ⟨ys, hy⟩ := hh
      rw [List.any_cons, ih hy, List.map_cons]
      by_cases hk : a.1 = k
      · simp [hk]
      · have hk' : ¬ k = a.1 := fun z => hk z.symm
        simp [hk, hk']
  rw [e]
  by_cases hk : k ∈ kvs.map Prod.fst
  · rw [if_pos hk, decide_eq_true hk]
    simp only [if_true]
    clear e hk
    induction kvs generalizing xs with
    | nil =>
      cases xs with
      | nil => exact ⟨by simp, by simpa using Rs.nil⟩
      | cons y ys => obtain ⟨w, t, e, _⟩ := h.cons_inv; cases e
    | cons a l ih =>
      cases xs with
      | nil => have := h.nil_inv; cases this
      | cons y ys =>
        obtain ⟨w, t, e, q, u⟩ := h.cons_inv
        simp only [List.map_cons, List.cons.injEq] at e
        obtain ⟨rfl, rfl⟩ := e
        obtain ⟨i1, i2⟩ := ih u
        simp only [List.map_cons, List.zipWith_cons_cons]
        refine ⟨?_, Rs.cons ?_ i2⟩
        · rw [i1]
          by_cases ha : a.1 = k <;> simp [ha]
        · by_cases ha : a.1 = k
          · simp only [ha, if_true]; exact r
          · simp only [ha, if_false]; exact q
  · rw [if_neg hk, decide_eq_false hk]
    simp only [Bool.false_eq_true, if_false, List.map_append, List.map_cons, List.map_nil]
    exact ⟨trivial, h.snoc r⟩
end VL
set_option maxRecDepth 100000
set_option maxHeartbeats 2000000
namespace VL
open PySem PySem.Spec L2
open PyProof.Rows hiding St
/-- what the rules of operations lean on -/
structure Ok (X : Cx) (g : Gm) : Prop where
  K : g.C.K = X.K
  u : X.A.units + 65 < cLine
  calm : X.calm = true
theorem Ok.u1 {X : Cx} {g : Gm} (h : Ok X g) : X.A.units + 1 < cLine := by have := h.u; omega
theorem Ok.u64 {X : Cx} {g : Gm} (h : Ok X g) : X.A.units + 64 < cLine := by have := h.u; omega
def I2 (f : Int → Int → Int) : PV → PV → Option Val
  | .int i, .int j => some (.fz (.int (f i j)))
  | _, _ => none
def semAdd : PV → PV → Option Val
  | .int i, .int j => some (.fz (.int (i + j)))
  | .str x, .str y => if x.length + y.length ≤ big then some (.fz (.str (x ++ y))) else none
  | .lst xs, .lst ys => if xs.length + ys.length ≤ big then some (.new (.lst (xs ++ ys))) else none
  | .tup xs, .tup ys => if xs ≠ [] ∧ ys ≠ [] ∧ xs.length + ys.length ≤ big then some (.fz (.tup (xs ++ ys))) else if xs ≠ [] ∧ ys = [] ∧ xs.length ≤ big then some (.fz (.tup xs)) else if xs = [] ∧ ys.length ≤ big then some (.fz (.tup ys)) else none
  | _, _ => none
def semSub : PV → PV → Option Val
  | .int i, .int j => some (.fz (.int (i - j)))
  | _, _ => none
/-- (this way the kernel never counts down from a great number) -/
instance (i j : Int) : Decidable (CMulX i j) := decidable_of_iff (Nat.ble (Builtin.Int.intBits i + Builtin.Int.intBits j) 134217728 = true) (by unfold CMulX; rw [Nat.ble_eq]; omega)
def r62 (j : Int) : Bool := Nat.ble j.natAbs 4611686018427387903
theorem r62_ok {j : Int} (h : r62 j = true) : -(2 ^ 62) ≤ j ∧ j < 2 ^ 62 := by
  unfold r62 at h
  rw [Nat.ble_eq] at h
  omega
instance (i j : Int) : Decidable (CPow i j) := by unfold CPow; infer_instance
instance (i j : Int) : Decidable (CDivW i j) := by unfold CDivW; infer_instance
def semMul : PV → PV → Option Val
  | .int i, .int j => if CMulX i j then some (.fz (.int (i * j))) else none
  | .lst xs, .int k => if -(2 ^ 63) ≤ k ∧ k < 2 ^ 63 ∧ xs.length * k.toNat ≤ big then some (.new (.lst (List.replicate k.toNat xs).flatten)) else none
  | _, _ => none
def semDiv : PV → PV → Option Val
  | .int i, .int j => if CDivW i j then some (.fz (.int (i / j))) else none
  | _, _ => none
def semMod : PV → PV → Option Val
  | .int i, .int j => if 0 < j then some (.fz (.int (i % j))) else none
  | _, _ => none
def semPow : PV → PV → Option Val
  | .int i, .int j => if CPow i j then some (.fz (.int (i ^ j.toNat))) else none
  | _, _ => none
section
variable {X : Cx} {g : Gm}
theorem Z0m {C : Ct} {F H : Hp} {i : Int} {v : V} (h : Rt C F H (.int i) v) : v = .int i := h
theorem rt_str {C : Ct} {F H : Hp} {i : Str} {v : V} (h : Rt C F H (.str i) v) : v = .str i := h
theorem rt_bl {C : Ct} {F H : Hp} {i : Bool} {v : V} (h : Rt C F H (.bl i) v) : v = .bl i := h
theorem rep_rs {C : Ct} {F : Hp} {xs : List PV} {vs : List V} (h : Rs C F xs vs) : ∀ k : Nat, Rs C F (List.replicate k xs).flatten (List.replicate k vs).flatten
  | 0 => Rs.nil
  | k + 1 => by
    rw [List.replicate_succ, List.replicate_succ, List.flatten_cons, List.flatten_cons]
    exact h.append (rep_rs h k)
theorem o_add : Op2 X g (binaryOp .Add) semAdd := by
  intro pins s σ F H env p q v u vv uu r Q I S r1 r2 t1 t2 e k
  cases p <;> cases q <;> simp only [semAdd] at e <;> try (cases e; done)
  · cases e; cases Z0m t1; cases Z0m t2
    exact op_add pins s σ H _ _ vv uu Q I r1 r2 ⟨_, _, rfl, rfl, fin_int S k⟩
  · split at e
    · rename_i hl
      cases e; cases rt_str t1; cases rt_str t2
      exact op_add_str pins s σ H _ _ vv uu Q I r1 r2 ⟨_, _, rfl, rfl, by rw [big_eq]; exact hl, fin_str S k⟩
    · cases e
  · obtain ⟨a, vs, rfl, q1, s1, f1⟩ := t1
    obtain ⟨b, ws, rfl, q2, s2, f2⟩ := t2
    split at e
    · rename_i hl
      obtain ⟨h1, h2, h3⟩ := hl
      cases e
      refine op_catT pins s σ H _ _ vv uu Q I r1 r2 ⟨a, b, vs, ws, rfl, rfl, SqT.of q1, SqT.of q2, ?_, ?_, ?_, ?_⟩
      · intro z; apply h1; have := s1.length; rw [z] at this; exact List.eq_nil_of_length_eq_zero this.symm
      · rw [s1.length, s2.length, big_eq]; exact h3
      · intro z; exfalso; apply h2; have := s2.length; rw [z] at this; exact List.eq_nil_of_length_eq_zero this.symm
      · exact fun _ p hp => fin_tup S hp (s1.append s2) k
    · split at e
      · rename_i hl
        obtain ⟨h1, h2, h3⟩ := hl
        cases e
        refine op_catT pins s σ H _ _ vv uu Q I r1 r2 ⟨a, b, vs, ws, rfl, rfl, SqT.of q1, SqT.of q2, ?_, ?_, ?_, ?_⟩
        · intro z; apply h1; have := s1.length; rw [z] at this; exact List.eq_nil_of_length_eq_zero this.symm
        · rw [s1.length, s2.length, big_eq, h2]; exact h3
        · intro _
          exact k F H _ (Ex.refl F) S (by show R _ _ _ _; unfold R; exact ⟨a, vs, rfl, f1, s1⟩)
        · intro z; exfalso; apply z; subst h2; exact s2.nil_inv
      · split at e
        · rename_i hl
          obtain ⟨h1, h3⟩ := hl
          cases e
          subst h1
          have hvs := s1.nil_inv
          subst hvs
          refine op_catA pins s σ H _ _ vv uu Q I r1 r2 ⟨a, b, [], ws, rfl, rfl, SqT.of q1, SqT.of q2, ?_, fun _ => ?_, fun z => (z rfl).elim, fun z => (z rfl).elim⟩
          · rw [List.length_nil, Nat.zero_add, s2.length, big_eq]; exact h3
          · exact k F H _ (Ex.refl F) S (by show R _ _ _ _; unfold R; exact ⟨b, ws, rfl, f2, s2⟩)
        · cases e
  · obtain ⟨a, vs, rfl, q1, s1⟩ := t1
    obtain ⟨b, ws, rfl, q2, s2⟩ := t2
    split at e
    · rename_i hl
      cases e
      exact op_cat pins s σ H _ _ vv uu Q I r1 r2 ⟨a, b, vs, ws, rfl, rfl, q1, q2, by rw [s1.length, s2.length, big_eq]; exact hl, fun p hp => fin_lst S hp (s1.append s2) k⟩
    · cases e
theorem o_sub : Op2 X g (binaryOp .Sub) semSub := by
  intro pins s σ F H env p q v u vv uu r Q I S r1 r2 t1 t2 e k
  cases p <;> cases q <;> simp only [semSub] at e <;> try (cases e; done)
  cases e; cases Z0m t1; cases Z0m t2
  exact op_sub pins s σ H _ _ vv uu Q I r1 r2 ⟨_, _, rfl, rfl, fin_int S k⟩
theorem Z0l : Op2 X g (binaryOp .Mult) semMul := by
  intro pins s σ F H env p q v u vv uu r Q I S r1 r2 t1 t2 e k
  cases p <;> cases q <;> simp only [semMul] at e <;> try (cases e; done)
  · split at e
    · rename_i hc
      cases e; cases Z0m t1; cases Z0m t2
      exact op_mulX pins s σ H _ _ vv uu Q I r1 r2 ⟨_, _, rfl, rfl, hc, fin_int S k⟩
    · cases e
  · split at e
    · rename_i hc
      obtain ⟨h1, h2, h3⟩ := hc
      cases e; cases Z0m t2
      obtain ⟨a, vs, rfl, q1, s1⟩ := t1
      exact op_rep pins s σ H _ _ vv uu Q I r1 r2 ⟨a, _, vs, rfl, rfl, q1, h1, h2, by rw [s1.length, big_eq]; exact h3, fun p hp => fin_lst S hp (rep_rs s1 _) k⟩
    · cases e
theorem o_div : Op2 X g (binaryOp .FloorDiv) semDiv := by
  intro pins s σ F H env p q v u vv uu r Q I S r1 r2 t1 t2 e k
  cases p <;> cases q <;> simp only [semDiv] at e <;> try (cases e; done)
  split at e
  · rename_i hc
    cases e; cases Z0m t1; cases Z0m t2
    exact op_fdivW pins s σ H _ _ vv uu Q I r1 r2 ⟨_, _, rfl, rfl, hc, fin_int S k⟩
  · cases e
theorem o_mod : Op2 X g (binaryOp .Mod) semMod := by
  intro pins s σ F H env p q v u vv uu r Q I S r1 r2 t1 t2 e k
  cases p <;> cases q <;> simp only [semMod] at e <;> try (cases e; done)
  split at e
  · rename_i hc
    cases e; cases Z0m t1; cases Z0m t2
    exact op_mod pins s σ H _ _ vv uu Q I r1 r2 ⟨_, _, rfl, rfl, hc, fin_int S k⟩
  · cases e
theorem o_pow : Op2 X g (binaryOp .Pow) semPow := by
  intro pins s σ F H env p q v u vv uu r Q I S r1 r2 t1 t2 e k
  cases p <;> cases q <;> simp only [semPow] at e <;> try (cases e; done)
  split at e
  · rename_i hc
    cases e; cases Z0m t1; cases Z0m t2
    exact op_pow pins s σ H _ _ vv uu Q I r1 r2 ⟨_, _, rfl, rfl, hc, fin_int S k⟩
  · cases e
def semNeg : PV → Option Val
  | .int i => some (.fz (.int (-i)))
  | _ => none
theorem o_neg : Op1 X g (unaryOp .USub) semNeg := by
  intro pins s σ F H env p v vv r Q I S r1 t1 e k
  cases p <;> simp only [semNeg] at e <;> try (cases e; done)
  cases e; cases Z0m t1
  exact un_neg pins s σ H _ vv Q I r1 ⟨_, rfl, fin_int S k⟩
def semLt : PV → PV → Option Val
  | .int i, .int j => some (.fz (.bl (decide (i < j))))
  | .str x, .str y => some (.fz (.bl (decide (x.cps.toList < y.cps.toList))))
  | _, _ => none
def semGt : PV → PV → Option Val
  | .int i, .int j => some (.fz (.bl (decide (j < i))))
  | _, _ => none
def semGe : PV → PV → Option Val
  | .int i, .int j => some (.fz (.bl (decide (j ≤ i))))
  | _, _ => none
def eqP (p q : PV) : Option Bool := match toD p, toD q with
  | some d, some e => if SeqAt.shaped d = true ∧ SeqAt.shaped e = true then some (PyData.eqv d e) else none
  | _, _ => none
def semEq (p q : PV) : Option Val := (eqP p q).map fun b => .fz (.bl b)
def semNe (p q : PV) : Option Val := (eqP p q).map fun b => .fz (.bl (!b))
def semIsNot : PV → PV → Option Val
  | .bl a, .bl b => some (.fz (.bl (!decide (a = b))))
  | p, .non => match p with
    | .non => some (.fz (.bl false))
    | _ => some (.fz (.bl true))
  | _, _ => none
theorem o_lt : Op2 X g (compareOp .Lt) semLt := by
  intro pins s σ F H env p q v u vv uu r Q I S r1 r2 t1 t2 e k
  cases p <;> cases q <;> simp only [semLt] at e <;> try (cases e; done)
  · cases e; cases Z0m t1; cases Z0m t2
    exact op_lt pins s σ H _ _ vv uu Q I r1 r2 ⟨_, _, rfl, rfl, fin_bl S k⟩
  · cases e; cases rt_str t1; cases rt_str t2
    exact op_lt_str pins s σ H _ _ vv uu Q I r1 r2 ⟨_, _, rfl, rfl, fin_bl S k⟩
theorem o_gt : Op2 X g (compareOp .Gt) semGt := by
  intro pins s σ F H env p q v u vv uu r Q I S r1 r2 t1 t2 e k
  cases p <;> cases q <;> simp only [semGt] at e <;> try (cases e; done)
  · cases e; cases Z0m t1; cases Z0m t2
    exact op_gt pins s σ H _ _ vv uu Q I r1 r2 ⟨_, _, rfl, rfl, fin_bl S k⟩
theorem o_ge : Op2 X g (compareOp .GtE) semGe := by
  intro pins s σ F H env p q v u vv uu r Q I S r1 r2 t1 t2 e k
  cases p <;> cases q <;> simp only [semGe] at e <;> try (cases e; done)
  · cases e; cases Z0m t1; cases Z0m t2
    exact op_ge pins s σ H _ _ vv uu Q I r1 r2 ⟨_, _, rfl, rfl, fin_bl S k⟩
theorem o_eq (ok : Ok X g) : Op2 X g (compareOp .Eq) semEq := by
  intro pins s σ F H env p q v u vv uu r Q I S r1 r2 t1 t2 e k
  unfold semEq eqP at e
  cases h1 : toD p with
  | none => simp only [h1] at e; cases e
  | some d1 =>
    cases h2 : toD q with
    | none => simp only [h1, h2] at e; cases e
    | some d2 =>
      simp only [h1, h2] at e
      split at e
      · rename_i hs
        cases e
        refine op_eqD ok.u64 pins s σ H _ _ vv uu Q I r1 r2 ⟨d1, d2, ?_, ?_, hs.1, hs.2, fin_bl S k⟩
        · rw [← ok.K]; exact R.dp (t1.r S.sub) h1
        · rw [← ok.K]; exact R.dp (t2.r S.sub) h2
      · cases e
theorem o_ne (ok : Ok X g) : Op2 X g (compareOp .NotEq) semNe := by
  intro pins s σ F H env p q v u vv uu r Q I S r1 r2 t1 t2 e k
  unfold semNe eqP at e
  cases h1 : toD p with
  | none => simp only [h1] at e; cases e
  | some d1 =>
    cases h2 : toD q with
    | none => simp only [h1, h2] at e; cases e
    | some d2 =>
      simp only [h1, h2] at e
      split at e
      · rename_i hs
        cases e
        refine op_neD ok.u64 pins s σ H _ _ vv uu Q I r1 r2 ⟨d1, d2, ?_, ?_, hs.1, hs.2, fin_bl S k⟩
        · rw [← ok.K]; exact R.dp (t1.r S.sub) h1
        · rw [← ok.K]; exact R.dp (t2.r S.sub) h2
      · cases e
theorem rt_non {C : Ct} {F H : Hp} {p : PV} {v : V} (h : Rt C F H p v) : decide (v = .non) = (match p with | .non => true | _ => false) := by
  cases p <;> simp only [Rt] at h
  · subst h; rfl
  · subst h; rfl
  · subst h; rfl
  · subst h; rfl
  all_goals
    obtain ⟨a, h⟩ := h
  · obtain ⟨vs, rfl, _⟩ := h; rfl
  · obtain ⟨vs, rfl, _⟩ := h; rfl
  · obtain ⟨rfl, _⟩ := h; rfl
  · obtain ⟨kvs, rfl, _⟩ := h; rfl
  · obtain ⟨kvs, rfl, _⟩ := h; rfl
  · obtain ⟨dx, fs, rfl, _⟩ := h; rfl
  · obtain ⟨vs, rfl, _⟩ := h; rfl
  · obtain ⟨_, rfl⟩ := h; rfl
  · obtain ⟨vs, o, rfl, _⟩ := h; rfl
theorem o_isnot : Op2 X g (compareOp .IsNot) semIsNot := by
  intro pins s σ F H env p q v u vv uu r Q I S r1 r2 t1 t2 e k
  cases q <;> (try (cases p <;> simp only [semIsNot] at e <;> cases e; done))
  · have u' : u = .non := t2
    refine op_notN pins s σ H v u vv uu Q I r1 r2 ⟨u', ?_⟩
    rw [rt_non t1]
    cases p <;> simp only [semIsNot] at e <;> cases e <;> exact fin_bl S k
  · cases p <;> simp only [semIsNot] at e <;> cases e
    cases rt_bl t1; cases rt_bl t2
    exact op_notBl pins s σ H _ _ vv uu Q I r1 r2 ⟨_, _, rfl, rfl, fin_bl S k⟩
end
end VL
set_option maxRecDepth 100000
set_option maxHeartbeats 2000000
namespace VL
open PySem PySem.Spec L2
open PyProof.Rows hiding St
section
variable {X : Cx} {g : Gm}
theorem rt_tup {C : Ct} {F H : Hp} {xs : List PV} {v : V} (h : Rt C F H (.tup xs) v) : ∃ a vs, v = .ref a ∧ H a = some (.tup vs) ∧ Rs C F xs vs := by
  obtain ⟨a, vs, h1, h2, h3, _⟩ := h; exact ⟨a, vs, h1, h2, h3⟩
theorem look_dget {C : Ct} {F H : Hp} {p : PV} {ks : List Key} {xs : List PV} {k : Key} {v u : V} (hd : Rt C F H (.dK ks xs) v) (hk : Rt C F H p u) (e : keyP p = some k) :
    ∃ a o, v = .ref a ∧ DGet H a u o ∧ (match look ks xs k with | some x => ∃ w, o = some w ∧ R C F x w | none => o = none) := by
  obtain ⟨a, kvs, rfl, q, rfl, r⟩ := hd
  exact ⟨a, valV kvs k, rfl, .inl ⟨kvs, k, q, keyP_rt hk e, rfl⟩, look_r k r⟩
theorem rt_ftp {C : Ct} {F H : Hp} {xs : List PV} {v : V} (h : Rt C F H (.ftp xs) v) : ∃ a vs, v = .ref a ∧ (∃ o, H a = some (.frz o (.tup vs))) ∧ Rs C F xs vs := by
  obtain ⟨a, vs, o, rfl, q, r, _⟩ := h
  exact ⟨a, vs, rfl, ⟨o, q⟩, r⟩
theorem SqT.ofF {K : PySem.W.Frag} {H : Hp} {a : Addr} {xs : List V} (h : ∃ o, H a = some (.frz o (.tup xs))) : SqT K H a xs := .inl (.inr h)
theorem look_dgetT {C : Ct} {F H : Hp} {ps : List PV} {ks : List (List Key)} {xs : List PV} {k : List Key} {v u : V} (hd : Rt C F H (.dT ks xs) v) (hk : Rt C F H (.tup ps) u) (e : keysP ps = some k) :
    ∃ a o, v = .ref a ∧ DGet H a u o ∧ (match look ks xs k with | some x => ∃ w, o = some w ∧ R C F x w | none => o = none) := by
  obtain ⟨a, kvs, rfl, q, rfl, r⟩ := hd
  obtain ⟨b, us, rfl, q2, r2⟩ := rt_tup hk
  have e2 := keysP_r r2 e
  subst e2
  exact ⟨a, valV kvs k, rfl, .inr ⟨kvs, k, b, q, rfl, q2, rfl⟩, look_r k r⟩
def semIx : PV → PV → Option Val
  | .lst xs, .int i => (atI xs i).map .fz
  | .tup xs, .int i => (atI xs i).map .fz
  | .ftp xs, .int i => (atI xs i).map .fz
  | .scr ns, .int i => (atI ns i).map fun n => .fz (.int n)
  | .str x, .int i => if x.length ≤ big then (atI x.cps.toList i).map fun c => .fz (.str ⟨#[c]⟩) else none
  | .dK ks vs, p => (keyP p).bind fun k => (look ks vs k).map .fz
  | .dT ks vs, .tup xs => (keysP xs).bind fun k => (look ks vs k).map .fz
  | _, _ => none
theorem Rs.at {C : Ct} {F : Hp} {xs : List PV} {vs : List V} {i : Int} {x : PV} (h : Rs C F xs vs) (e : atI xs i = some x) : ∃ v, atI vs i = some v ∧ R C F x v := by
  unfold atI at e ⊢
  rw [h.length]
  cases q : ixN xs.length i with
  | none => rw [q] at e; cases e
  | some j =>
    rw [q] at e
    simp only [Option.bind_some] at e ⊢
    exact h.get e
theorem dict_tail (ok : Ok X g) {pins : List (Addr × Obj)} {s : Shared} {σ : St} {H : Hp} {value slice : Expr} {a : Addr} {u w : V} {uu : Value} {Q : VK} (hs : ∀ v u, subscripted slice false v u = operate [v, u] (getItem v u)) (I : Inv X pins σ H s) (r2 : RelV u uu) (hg : DGet H a u (some w)) (k : Q w H) :
    wpAny (model X.prog X.w) X.A (subscriptTail value slice (.ref a) uu) (EP X pins σ Q) X.xe s :=
  tail_any (dict_typeIs I hg) PySem.F.slot_dict_getitem.lookup (d_getItem ok.u1 I hg r2 fun w' s' I' rw' => ⟨w, H, I', rw', k⟩) (hs _ _)
theorem o_ix (ok : Ok X g) : OpIx X g semIx := by
  intro value slice hs pins s σ F H env p q v u vv uu r Q I S r1 r2 t1 t2 e k
  have lk : ∀ {a : Addr} {o : Option V} {l : Option PV} {w : Val}, v = .ref a → DGet H a u o → (match l with | some x => ∃ w, o = some w ∧ R g.C F x w | none => o = none) → l.map Val.fz = some r → wpAny (model X.prog X.w) X.A (subscriptTail value slice vv uu) (EP X pins σ Q) X.xe s := by
    intro a o l w e1 hg hl e2
    subst e1
    obtain rfl : vv = Value.ref a := r1
    cases l with
    | none => cases e2
    | some x =>
      cases e2
      obtain ⟨w, rfl, rw'⟩ := hl
      exact dict_tail ok hs I r2 hg (fin_fz S rw' k)
  cases p <;> try (simp only [semIx] at e; cases e; done)
  · -- str
    cases q <;> simp only [semIx] at e <;> try (cases e; done)
    split at e
    · rename_i x i hl
      cases h : atI x.cps.toList i with
      | none => rw [h] at e; cases e
      | some c =>
        rw [h] at e; cases e
        cases rt_str t1; cases Z0m t2
        exact ix_str value slice pins s σ H _ _ vv uu Q I r1 r2 ⟨x, i, c, rfl, rfl, by rw [big_eq]; exact hl, h, fin_str S k⟩ (hs _ _)
    · cases e
  · -- tup
    cases q <;> simp only [semIx] at e <;> try (cases e; done)
    rename_i xs i
    cases h : atI xs i with
    | none => rw [h] at e; cases e
    | some x =>
      rw [h] at e; cases e
      obtain ⟨a, vs, rfl, h1, h2⟩ := rt_tup t1
      cases Z0m t2
      obtain ⟨w, h3, h4⟩ := h2.at h
      exact ix_tup value slice pins s σ H _ _ vv uu Q I r1 r2 ⟨a, vs, i, w, rfl, rfl, SqT.of h1, h3, fin_fz S h4 k⟩ (hs _ _)
  · -- lst
    cases q <;> simp only [semIx] at e <;> try (cases e; done)
    rename_i xs i
    cases h : atI xs i with
    | none => rw [h] at e; cases e
    | some x =>
      rw [h] at e; cases e
      obtain ⟨a, vs, rfl, h1, h2⟩ := t1
      cases Z0m t2
      obtain ⟨w, h3, h4⟩ := h2.at h
      exact ix_list value slice pins s σ H _ _ vv uu Q I r1 r2 ⟨a, vs, i, w, rfl, rfl, SqL.of h1, h3, fin_fz S h4 k⟩ (hs _ _)
  · -- scr
    cases q <;> simp only [semIx] at e <;> try (cases e; done)
    rename_i ns i
    cases h : atI ns i with
    | none => rw [h] at e; cases e
    | some n =>
      rw [h] at e; cases e
      obtain ⟨a, rfl, h1⟩ := t1
      cases Z0m t2
      have h3 : atI (ns.map V.int) i = some (.int n) := by
        unfold atI at h ⊢
        rw [List.length_map]
        cases q : ixN ns.length i with
        | none => rw [q] at h; cases h
        | some j =>
          rw [q] at h
          simp only [Option.bind_some] at h ⊢
          rw [List.getElem?_map, h]; rfl
      rw [ok.K] at h1
      exact ix_list value slice pins s σ H _ _ vv uu Q I r1 r2 ⟨a, _, i, _, rfl, rfl, h1, h3, fin_int S k⟩ (hs _ _)
  · -- dK
    rename_i ks xs
    simp only [semIx] at e
    cases f1 : keyP q with
    | none => rw [f1] at e; cases e
    | some kk =>
      rw [f1] at e
      obtain ⟨a, o, e1, hg, hl⟩ := look_dget t1 t2 f1
      exact lk (w := r) e1 hg hl e
  · -- dT
    rename_i ks xs
    cases q <;> simp only [semIx] at e <;> try (cases e; done)
    rename_i ps
    cases f1 : keysP ps with
    | none => rw [f1] at e; cases e
    | some kk =>
      rw [f1] at e
      obtain ⟨a, o, e1, hg, hl⟩ := look_dgetT t1 t2 f1
      exact lk (w := r) e1 hg hl e
  · -- ftp
    cases q <;> simp only [semIx] at e <;> try (cases e; done)
    rename_i xs i
    cases h : atI xs i with
    | none => rw [h] at e; cases e
    | some x =>
      rw [h] at e; cases e
      obtain ⟨a, vs, rfl, h1, h2⟩ := rt_ftp t1
      cases Z0m t2
      obtain ⟨w, h3, h4⟩ := h2.at h
      exact ix_tup value slice pins s σ H _ _ vv uu Q I r1 r2 ⟨a, vs, i, w, rfl, rfl, SqT.ofF h1, h3, fin_fz S h4 k⟩ (hs _ _)
end
end VL
set_option maxRecDepth 100000
set_option maxHeartbeats 2000000
namespace VL
open PySem PySem.Spec L2
open PyProof.Rows hiding St
/-- readings of settled values, for terms of the layer's readings -/
def tEo (g : Gm) (d : Env' → Res Val) : TE := fun σ H Q => ∃ F env, Stt g F H σ env ∧ Go g F σ (stl d env) fun x env' F' H' => ∀ v, x.old → RV g F' H' σ env' x v → Q v H'
section
variable {X : Cx} {g : Gm} {pins : List (Addr × Obj)} {F H : Hp} {σ : St} {env : Env'} {s : Shared} {a b c : Expr} {da db dc : Env' → Res Val} {pos : Pos}
theorem peo (h : PE X a (tE g da)) : PE X a (tEo g da) := by
  refine ⟨fun pins s σ H Q I ⟨F, env, S, go⟩ => h.run pins s σ H Q I ⟨F, env, S, ?_⟩⟩
  unfold stl at go
  refine (Go.bind go).mono fun x e F' H' e1 S1 k v r => ?_
  exact settle (Q := Q) S1 r fun F2 e2 S2 r2 => k F2 H' e2 S2 v x.stl_old r2
def cutL {α : Type} (xs : List α) (lo hi : Option Int) : List α := (xs.drop (HT.sIx xs.length 0 lo)).take (HT.sIx xs.length xs.length hi - HT.sIx xs.length 0 lo)
theorem cutL_r {C : Ct} {xs : List PV} {vs : List V} (h : Rs C F xs vs) (lo hi : Option Int) : Rs C F (cutL xs lo hi) (cutV vs lo hi) := by
  unfold cutL cutV
  rw [h.length]
  exact (h.drop _).take _
def semSl (p : PV) (lo hi : Option Int) : Option Val := match p with
  | .lst xs => some (.new (.lst (cutL xs lo hi)))
  | .scr ns => some (.new (.lst ((cutL ns lo hi).map .int)))
  | .tup xs => some (.fz (.tup (cutL xs lo hi)))
  | .str x => if x.length ≤ big then some (.fz (.str (Txt.slice x lo hi))) else none
  | _ => none
def partOf (d : Option (Env' → Res Val)) (e : Env') : Res (Option Int) := match d with
  | none => .ok none e
  | some d => (stl d e).bind fun x e1 => match x with
    | .fz (.int i) => .ok (some i) e1
    | _ => .bad
def dSl (da : Env' → Res Val) (lo hi : Option (Env' → Res Val)) : Env' → Res Val := fun e => (stl da e).bind fun x e1 => (partOf lo e1).bind fun l e2 => (partOf hi e2).bind fun h e3 => match peek x e3 with
  | some p => toVal (semSl p l h) e3
  | none => .bad
/-- a slice's part -/
def tPo (g : Gm) (d : Option (Env' → Res Val)) : TO := fun σ H Q => ∃ F env, Stt g F H σ env ∧ Go g F σ (partOf d env) fun l env' F' H' => Q l H'
theorem poImp {e : Option Expr} {t t' : TO} (h : PO X e t) (k : ∀ σ H Q, t' σ H Q → t σ H Q) : PO X e t' := ⟨fun pins s σ H Q I q => h.run pins s σ H Q I (k σ H Q q)⟩
theorem spo_none : PO X none (tPo g none) := poImp po_none fun σ H Q ⟨F, env, S, go⟩ => go F H (Ex.refl F) S
theorem spo_some (h : PE X a (tE g da)) : PO X (some a) (tPo g (some da)) := poImp (po_some (peo h)) fun σ H Q ⟨F, env, S, go⟩ => ⟨F, env, S, (Go.bind go).mono fun x e F1 H1 e1 S1 k v o r => by
  cases x with
  | bor i => exact k.elim
  | new p => exact k.elim
  | fz p =>
    cases p <;> try exact k.elim
    rename_i i
    have r' : R g.C F1 (.int i) v := r
    unfold R at r'
    exact ⟨i, r', k F1 H1 (Ex.refl F1) S1⟩⟩
def rSlAll (K : PySem.W.Frag) : V → Option Int → Option Int → Hp → VK → Prop := fun x lo hi H Q => rSlL K x lo hi H Q ∨ rSlA K x lo hi H Q ∨ C8.rSlX x lo hi H Q
theorem sl_all : SlR X (rSlAll X.K) := sl_list.or (sl_tupA.or C8.sl_txt)
theorem semSl_ok (ok : Ok X g) {p : PV} {v : V} {lo hi : Option Int} {r : Val} {Q : VK} (S : Stt g F H σ env) (t : Rt g.C F H p v) (e : semSl p lo hi = some r)
    (k : ∀ F' H' w, Ex F F' → Stt g F' H' σ env → RV g F' H' σ env r w → Q w H') : rSlAll X.K v lo hi H Q := by
  cases p <;> simp only [semSl] at e <;> try (cases e; done)
  · split at e
    · rename_i hl
      cases e; cases rt_str t
      exact .inr (.inr ⟨_, rfl, by rw [big_eq]; exact hl, fin_str S k⟩)
    · cases e
  · rename_i xs
    cases e
    obtain ⟨a, vs, rfl, h1, h2, h3⟩ := t
    refine .inr (.inl ⟨a, vs, rfl, SqT.of h1, fun hw => ?_, fun _ p hp => fin_tup S hp (cutL_r h2 lo hi) k⟩)
    refine k F H _ (Ex.refl F) S ?_
    rw [h2.length] at hw
    have hc : cutL xs lo hi = xs := by unfold cutL; rw [hw.1, hw.2, List.drop_zero, Nat.sub_zero, List.take_length]
    show R _ _ _ _
    rw [hc]
    unfold R
    exact ⟨a, vs, rfl, h3, h2⟩
  · cases e
    obtain ⟨a, vs, rfl, h1, h2⟩ := t
    exact .inl ⟨a, vs, rfl, SqL.of h1, fun p hp => fin_lst S hp (cutL_r h2 lo hi) k⟩
  · rename_i ns
    cases e
    obtain ⟨a, rfl, h1⟩ := t
    rw [ok.K] at h1
    refine .inl ⟨a, _, rfl, h1, fun p hp => fin_lst S hp ?_ k⟩
    have e2 : cutV (ns.map V.int) lo hi = (cutL ns lo hi).map V.int := by
      unfold cutV cutL
      rw [List.length_map, List.map_take, List.map_drop]
    rw [e2]
    exact Rs.of_ints _
def boolsP : List PV → Option (List Bool)
  | [] => some []
  | .bl i :: xs => (boolsP xs).map (i :: ·)
  | _ => none
theorem bools_eq : ∀ {xs : List PV} {ns : List Bool}, boolsP xs = some ns → xs = ns.map PV.bl
  | [], ns, h => by simp only [boolsP, Option.some.injEq] at h; subst h; rfl
  | x :: xs, ns, h => by
    cases x <;> simp only [boolsP] at h <;> try (cases h; done)
    cases h1 : boolsP xs with
    | none => rw [h1] at h; cases h
    | some ms =>
      rw [h1] at h; cases h
      rw [bools_eq h1]; rfl
def semLen : List PV → Option Val
  | [.lst xs] => some (.fz (.int xs.length))
  | [.tup xs] => some (.fz (.int xs.length))
  | [.scr xs] => some (.fz (.int xs.length))
  | [.dK ks _] => some (.fz (.int ks.length))
  | [.str x] => if x.length ≤ big then some (.fz (.int x.length)) else none
  | [.ftp xs] => some (.fz (.int xs.length))
  | _ => none
def semInt : List PV → Option Val
  | [.int i] => some (.fz (.int i))
  | [.bl b] => some (.fz (.int (if b then 1 else 0)))
  | _ => none
def semStr : List PV → Option Val
  | [.int i] => if i.natAbs.log2 < 1920 then some (.fz (.str (toString i))) else none
  | _ => none
def semAbs : List PV → Option Val
  | [.int i] => some (.fz (.int (if i < 0 then -i else i)))
  | _ => none
def semAll : List PV → Option Val
  | [.lst xs] => (boolsP xs).map fun ns => .fz (.bl (ns.all id))
  | _ => none
def semList : List PV → Option Val
  | [.lst xs] => some (.new (.lst xs))
  | [.tup xs] => some (.new (.lst xs))
  | [.scr ns] => some (.new (.lst (ns.map .int)))
  | [.ftp xs] => some (.new (.lst xs))
  | _ => none
theorem rts1 {C : Ct} {p : PV} {vs : List V} (h : Rts C F H [p] vs) : ∃ v, vs = [v] ∧ Rt C F H p v := by
  obtain ⟨v, r, rfl, h1, h2⟩ := h
  have : r = [] := h2
  subst this
  exact ⟨v, rfl, h1⟩
theorem c_len (ok : Ok X g) : OpN X g (fun us => PySem.call (.builtin "len") us) semLen := by
  intro pins s σ F H env ps vs us r Q I S rv t e k
  unfold semLen at e
  split at e
  · cases e
    obtain ⟨v, rfl, h⟩ := rts1 t
    obtain ⟨a, ws, rfl, h1, h2⟩ := h
    exact call_len pins s σ H _ us Q I rv ⟨_, _, rfl, .inl ⟨ws, SqL.of h1, rfl⟩, by rw [h2.length]; exact fin_int S k⟩
  · cases e
    obtain ⟨v, rfl, h⟩ := rts1 t
    obtain ⟨a, ws, rfl, h1, h2⟩ := rt_tup h
    exact call_len pins s σ H _ us Q I rv ⟨_, _, rfl, .inr ⟨ws, SqT.of h1, rfl⟩, by rw [h2.length]; exact fin_int S k⟩
  · cases e
    obtain ⟨v, rfl, h⟩ := rts1 t
    obtain ⟨a, rfl, h1⟩ := h
    rw [ok.K] at h1
    exact call_len pins s σ H _ us Q I rv ⟨_, _, rfl, .inl ⟨_, h1, rfl⟩, by rw [List.length_map]; exact fin_int S k⟩
  · cases e
    obtain ⟨v, rfl, h⟩ := rts1 t
    obtain ⟨a, kvs, rfl, h1, rfl, h2⟩ := h
    rw [Vals.ref1 rv]
    exact d_len I h1 fun t' s' I' => ⟨.int kvs.length, H, I', ⟨_, rfl⟩, by rw [List.length_map] at k; exact fin_int S k⟩
  · split at e
    · rename_i hl
      cases e
      obtain ⟨v, rfl, h⟩ := rts1 t
      cases rt_str h
      exact call_len pins s σ H _ us Q I rv ⟨_, _, rfl, ⟨by rw [big_eq]; exact hl, rfl⟩, fin_int S k⟩
    · cases e
  · cases e
    obtain ⟨v, rfl, h⟩ := rts1 t
    obtain ⟨a, ws, rfl, h1, h2⟩ := rt_ftp h
    exact call_len pins s σ H _ us Q I rv ⟨_, _, rfl, .inr ⟨ws, SqT.ofF h1, rfl⟩, by rw [h2.length]; exact fin_int S k⟩
  · cases e
theorem c_int : OpN X g (fun us => PySem.call (.type "int") us) semInt := by
  intro pins s σ F H env ps vs us r Q I S rv t e k
  unfold semInt at e
  split at e
  · cases e
    obtain ⟨v, rfl, h⟩ := rts1 t
    cases Z0m h
    exact call_int1 pins s σ H _ us Q I rv (.inl ⟨_, rfl, fin_int S k⟩)
  · cases e
    obtain ⟨v, rfl, h⟩ := rts1 t
    cases rt_bl h
    exact call_int1 pins s σ H _ us Q I rv (.inr ⟨_, rfl, fin_int S k⟩)
  · cases e
theorem c_str : OpN X g (fun us => PySem.call (.type "str") us) semStr := by
  intro pins s σ F H env ps vs us r Q I S rv t e k
  unfold semStr at e
  split at e
  · split at e
    · rename_i hl
      cases e
      obtain ⟨v, rfl, h⟩ := rts1 t
      cases Z0m h
      exact call_str_int pins s σ H _ us Q I rv ⟨_, rfl, hl, fin_str S k⟩
    · cases e
  · cases e
theorem c_abs : OpN X g (fun us => PySem.call (.builtin "abs") us) semAbs := by
  intro pins s σ F H env ps vs us r Q I S rv t e k
  unfold semAbs at e
  split at e
  · cases e
    obtain ⟨v, rfl, h⟩ := rts1 t
    cases Z0m h
    exact call_abs pins s σ H _ us Q I rv ⟨_, rfl, fin_int S k⟩
  · cases e
theorem sqB {C : Ct} {xs : List PV} {ns : List Bool} {v : V} (h : Rt C F H (.lst xs) v) (e : boolsP xs = some ns) : ∃ a, v = .ref a ∧ H a = some (.lst (ns.map V.bl)) := by
  obtain ⟨a, vs, rfl, h1, h2⟩ := h
  rw [bools_eq e] at h2
  rw [h2.bls_of] at h1
  exact ⟨a, rfl, h1⟩
theorem c_all (ok : Ok X g) : OpN X g (fun us => PySem.call (.builtin "all") us) semAll := by
  intro pins s σ F H env ps vs us r Q I S rv t e k
  unfold semAll at e
  split at e
  · rename_i xs
    cases h1 : boolsP xs with
    | none => rw [h1] at e; cases e
    | some ns =>
      rw [h1] at e; cases e
      obtain ⟨v, rfl, h⟩ := rts1 t
      obtain ⟨a, rfl, h2⟩ := sqB h h1
      exact cr_all ok.calm pins s σ H _ us Q I rv ⟨a, ns, rfl, SqL.of h2, fin_bl S k⟩
  · cases e
theorem c_list (ok : Ok X g) : OpN X g (fun us => PySem.call (.type "list") us) semList := by
  intro pins s σ F H env ps vs us r Q I S rv t e k
  unfold semList at e
  split at e
  · cases e
    obtain ⟨v, rfl, h⟩ := rts1 t
    obtain ⟨a, ws, rfl, h1, h2⟩ := h
    exact call_list_of pins s σ H _ us Q I rv ⟨a, ws, rfl, .inl (SqL.of h1), fun l hl => fin_lst S hl h2 k⟩
  · cases e
    obtain ⟨v, rfl, h⟩ := rts1 t
    obtain ⟨a, ws, rfl, h1, h2⟩ := rt_tup h
    exact call_list_of pins s σ H _ us Q I rv ⟨a, ws, rfl, .inr (SqT.of h1), fun l hl => fin_lst S hl h2 k⟩
  · cases e
    obtain ⟨v, rfl, h⟩ := rts1 t
    obtain ⟨a, rfl, h1⟩ := h
    rw [ok.K] at h1
    exact call_list_of pins s σ H _ us Q I rv ⟨a, _, rfl, .inl h1, fun l hl => fin_lst S hl (Rs.of_ints _) k⟩
  · cases e
    obtain ⟨v, rfl, h⟩ := rts1 t
    obtain ⟨a, ws, rfl, h1, h2⟩ := rt_ftp h
    exact call_list_of pins s σ H _ us Q I rv ⟨a, ws, rfl, .inr (SqT.ofF h1), fun l hl => fin_lst S hl h2 k⟩
  · cases e
end
end VL
set_option maxRecDepth 100000
set_option maxHeartbeats 2000000
namespace VL
open PySem PySem.Spec L2
open PyProof.Rows hiding St
section
variable {X : Cx} {g : Gm} {pins : List (Addr × Obj)} {F H F' H' : Hp} {σ : St} {env env' : Env'} {s : Shared} {a b c : Expr} {da db dc : Env' → Res Val} {pos : Pos}
theorem se_slice {lo hi : Option Expr} {p2 : Pos} {dl dh : Option (Env' → Res Val)} (ok : Ok X g) (ha : PE X a (tE g da)) (hl : PO X lo (tPo g dl)) (hh : PO X hi (tPo g dh)) : PE X (.Subscript a (.Slice lo hi none p2) pos) (tE g (dSl da dl dh)) :=
  peImp (pe_slice sl_all (peo ha) hl hh) fun σ H Q ⟨F, env, S, go⟩ => ⟨F, env, S, (Go.bind go).mono fun x e1 F1 H1 x1 S1 k v o r =>
    ⟨F1, e1, S1, (Go.bind k).mono fun l e2 F2 H2 x2 S2 k2 => ⟨F2, e2, S2, (Go.bind k2).mono fun h e3 F3 H3 x3 S3 k3 => by
      cases hp : peek x e3 with
      | none => simp only [hp] at k3; exact k3.elim
      | some p =>
        simp only [hp] at k3
        have rt := peek_ok S3 (r.later o (x2.trans x3)) hp
        cases hs : semSl p l h with
        | none => rw [hs] at k3; exact k3.elim
        | some w =>
          rw [hs] at k3
          exact semSl_ok ok S3 rt hs fun F4 H4 u x4 S4 ru => k3 F4 H4 x4 S4 u ru⟩⟩⟩
/-- what a class must be -/
structure ClsOk (C : Ct) (c : Nat) : Prop where
  cls : Cls C.K (C.ad c)
  no : ∀ f ∈ C.L c, NoAttr C.K (C.ad c) (C.nm f)
  nd : (C.fl c).Nodup
def fldP (C : Ct) (c f : Nat) (xs : List PV) : Option PV := ((C.L c).idxOf? f).bind fun i => xs[i]?
theorem idx_name {C : Ct} {c f i : Nat} (h : (C.L c).idxOf? f = some i) : (C.fl c)[i]? = some (C.nm f) ∧ f ∈ C.L c := by
  have h' := List.findIdx?_eq_some_iff_getElem.mp h
  obtain ⟨hl, he, _⟩ := h'
  have e : (C.L c)[i] = f := by simpa using he
  refine ⟨?_, ?_⟩
  · unfold Ct.fl
    rw [List.getElem?_map, List.getElem?_eq_getElem hl, e]; rfl
  · rw [← e]; exact List.getElem_mem hl
theorem nodup_idx {l : List Str} (h : l.Nodup) {i j : Nat} {x : Str} (a : l[i]? = some x) (b : l[j]? = some x) : i = j := nodup_ix h a b
theorem lookup_at : ∀ {fs : List (Str × V)} {i : Nat} {n : Str} {v : V}, (fs.map Prod.fst).Nodup → fs[i]? = some (n, v) → fs.lookup n = some v
  | [], i, n, v, _, h => by simp at h
  | (m, w) :: fs, 0, n, v, _, h => by
    simp only [List.getElem?_cons_zero, Option.some.injEq, Prod.mk.injEq] at h
    obtain ⟨rfl, rfl⟩ := h
    simp [List.lookup]
  | (m, w) :: fs, i + 1, n, v, hn, h => by
    simp only [List.getElem?_cons_succ] at h
    simp only [List.map_cons, List.nodup_cons] at hn
    have hne : (n == m) = false := by
      rw [beq_eq_false_iff_ne]
      intro e
      apply hn.1
      rw [← e]
      exact List.mem_map.mpr ⟨(n, v), List.mem_of_getElem? h, rfl⟩
    show (match n == m with | true => some w | false => fs.lookup n) = some v
    rw [hne]
    exact lookup_at hn.2 h
theorem fld_look {C : Ct} {c f : Nat} {xs : List PV} {fs : List (Str × V)} {x : PV} (ok : ClsOk C c) (hk : fs.map Prod.fst = (C.fl c).take xs.length) (r : Rs C F xs (fs.map Prod.snd)) (h : fldP C c f xs = some x) :
    ∃ v, fs.lookup (C.nm f) = some v ∧ R C F x v ∧ f ∈ C.L c := by
  unfold fldP at h
  cases hi : (C.L c).idxOf? f with
  | none => rw [hi] at h; cases h
  | some i =>
    rw [hi] at h
    simp only [Option.bind_some] at h
    obtain ⟨h1, h2⟩ := idx_name hi
    obtain ⟨v, h3, h4⟩ := r.get h
    have hlt : i < xs.length := (List.getElem?_eq_some_iff.mp h).1
    have e1 : (fs.map Prod.fst)[i]? = some (C.nm f) := by
      rw [hk, List.getElem?_take_of_lt hlt]; exact h1
    have e2 : fs[i]? = some (C.nm f, v) := by
      rw [List.getElem?_map] at e1 h3
      cases q : fs[i]? with
      | none => rw [q] at e1; cases e1
      | some z =>
        rw [q] at e1 h3
        simp only [Option.map_some, Option.some.injEq] at e1 h3
        rw [← e1, ← h3]
    refine ⟨v, lookup_at ?_ e2, h4, h2⟩
    rw [hk]
    exact (List.take_sublist _ _).nodup ok.nd
def dFld (C : Ct) (f : Nat) (da : Env' → Res Val) : Env' → Res Val := fun e => (stl da e).bind fun x e1 => match peek x e1 with
  | some (.ins c xs) => match fldP C c f xs with
    | some p => .ok (.fz p) e1
    | none => .bad
  | _ => .bad
theorem se_fld {f : Nat} (ok : Ok X g) (co : ∀ c, ClsOk g.C c) (ha : PE X a (tE g da)) (hb : attributeBase a (g.C.nm f) X.env (eval a X.env) = eval a X.env) : PE X (.Attribute a (g.C.nm f) pos) (tE g (dFld g.C f da)) :=
  peImp (pe_fld (peo ha) hb) fun σ H Q ⟨F, env, S, go⟩ => ⟨F, env, S, (Go.bind go).mono fun x e1 F1 H1 x1 S1 k v o r => by
    cases hp : peek x e1 with
    | none => simp only [hp] at k; exact k.elim
    | some p =>
      simp only [hp] at k
      cases p <;> try exact k.elim
      rename_i c xs
      simp only at k
      cases hf : fldP g.C c f xs with
      | none => simp only [hf] at k; exact k.elim
      | some y =>
        simp only [hf] at k
        obtain ⟨a, dx, fs, rfl, h1, h2, h3⟩ := peek_ok S1 r hp
        obtain ⟨w, l1, l2, l3⟩ := fld_look (co c) h2 h3 hf
        refine ⟨a, g.C.ad c, dx, fs, w, rfl, h1, ?_, ?_, l1, k F1 H1 (Ex.refl F1) S1 w l2⟩
        · rw [← ok.K]; exact (co c).cls
        · rw [← ok.K]; exact (co c).no f l3⟩
def kd : PV → String
  | .str _ => "str"
  | .lst _ => "list"
  | .dK _ _ => "dict"
  | .dT _ _ => "dict"
  | .ftp _ => "tuple"
  | _ => ""
def dMeth (T : String) (sem : PV → List PV → Option Val) (da : Env' → Res Val) (ds : List (Env' → Res Val)) : Env' → Res Val := fun e => (stl da e).bind fun x e1 => if (peek x e1).map kd = some T then
    (dArgs ds e1).bind fun xs e2 => match peek x e2, peeks e2 xs with
      | some p, some ps => if kd p = T then toVal (sem p ps) e2 else .bad
      | _, _ => .bad
  else .bad
end
end VL
set_option maxRecDepth 100000
set_option maxHeartbeats 2000000
namespace VL
open PySem PySem.Spec L2
open PyProof.Rows hiding St
inductive Fl where
  | nx | bk | ct | rt (x : Val)
def GoS (g : Gm) (F : Hp) (r : Res Fl) (D : Ends) : Prop := match r with
  | .bad => False
  | .err x e => ∀ F' H' σ', Ex F F' → Stt g F' H' σ' e → g.W x e σ' F' H'
  | .ok .nx e => ∀ F' H' σ', Ex F F' → Stt g F' H' σ' e → D.nx σ' H'
  | .ok .bk e => ∀ F' H' σ', Ex F F' → Stt g F' H' σ' e → D.bk σ' H'
  | .ok .ct e => ∀ F' H' σ', Ex F F' → Stt g F' H' σ' e → D.ct σ' H'
  | .ok (.rt x) e => ∀ F' H' σ' v, Ex F F' → Stt g F' H' σ' e → RV g F' H' σ' e x v → D.rt v H'
def tS (g : Gm) (d : Env' → Res Fl) : TS := fun D σ H => ∃ F env, Stt g F H σ env ∧ GoS g F (d env) D
section
variable {X : Cx} {g : Gm} {pins : List (Addr × Obj)} {F H F' H' : Hp} {σ : St} {env env' : Env'} {s : Shared} {a b c : Expr} {da db dc : Env' → Res Val} {pos : Pos} {D : Ends} {d1 d2 : Env' → Res Fl}
theorem GoS.up {r : Res Fl} (go : GoS g F r D) (e : Ex F F') : GoS g F' r D := by
  cases r with
  | bad => exact go
  | err x e' => exact fun F2 H2 σ2 e2 S2 => go F2 H2 σ2 (e.trans e2) S2
  | ok x e' => cases x with
    | nx => exact fun F2 H2 σ2 e2 S2 => go F2 H2 σ2 (e.trans e2) S2
    | bk => exact fun F2 H2 σ2 e2 S2 => go F2 H2 σ2 (e.trans e2) S2
    | ct => exact fun F2 H2 σ2 e2 S2 => go F2 H2 σ2 (e.trans e2) S2
    | rt x => exact fun F2 H2 σ2 v e2 S2 => go F2 H2 σ2 v (e.trans e2) S2
/-- an expression ahead -/
theorem GoS.bindE {α : Type} {r : Res α} {f : α → Env' → Res Fl} (h : GoS g F (r.bind f) D) : Go g F σ r fun x e F' H' => GoS g F' (f x e) D := by
  cases r with
  | bad => exact h
  | err x e => exact fun F2 H2 e2 S2 => h F2 H2 σ e2 S2
  | ok x e => exact fun F2 H2 e2 S2 => GoS.up h e2
def dSeq (d1 d2 : Env' → Res Fl) : Env' → Res Fl := fun e => (d1 e).bind fun f e' => match f with
  | .nx => d2 e'
  | x => .ok x e'
theorem GoS.seq (h : GoS g F (dSeq d1 d2 env) D) : GoS g F (d1 env) { D with nx := tS g d2 D } := by
  unfold dSeq at h
  cases e : d1 env with
  | bad => rw [e] at h; exact h
  | err x e' => rw [e] at h; exact h
  | ok x e' =>
    rw [e] at h
    cases x with
    | nx => exact fun F2 H2 σ2 e2 S2 => ⟨F2, e', S2, GoS.up h e2⟩
    | bk => exact h
    | ct => exact h
    | rt x => exact h
theorem ss_nil : PSs X [] (tS g fun e => .ok .nx e) := pssImp pss_nil fun D σ H ⟨F, env, S, go⟩ => go F H σ (Ex.refl F) S
theorem Z0g {st : Stmt} {r : List Stmt} (h1 : PS X st (tS g d1)) (h2 : PSs X r (tS g d2)) : PSs X (st :: r) (tS g (dSeq d1 d2)) :=
  pssImp (pss_cons h1 h2) fun D σ H ⟨F, env, S, go⟩ => ⟨F, env, S, go.seq⟩
theorem Z0i {st : Stmt} (h1 : PS X st (tS g d1)) : PSs X [st] (tS g d1) := pss_one h1
def dExpr (d : Env' → Res Val) : Env' → Res Fl := fun e => (d e).bind fun _ e' => .ok .nx e'
/-- what a return gives -/
def retV (x : Val) (e : Env') : Res Fl := match x with
  | .bor i => match e[i]? with
    | some (.fz p) => .ok (.rt (.fz p)) e
    | some (.ow true p) => .ok (.rt (.new p)) (e.set i .no)
    | _ => .bad
  | x => .ok (.rt x) e
def dRet (d : Env' → Res Val) : Env' → Res Fl := fun e => (d e).bind retV
theorem retV_go {x : Val} {v : V} (S : Stt g F H σ env) (r : RV g F H σ env x v) (go : GoS g F (retV x env) D) : D.rt v H := by
  cases x with
  | fz p => exact go F H σ v (Ex.refl F) S r
  | new p => exact go F H σ v (Ex.refl F) S r
  | bor i =>
    unfold retV at go
    dsimp only at go
    cases e : env[i]? with
    | none => rw [e] at go; exact go.elim
    | some sl =>
      rw [e] at go
      have r : σ[i]? = some (some v) := r
      cases sl with
      | no => exact go.elim
      | fz p =>
        obtain ⟨w, h1, h2⟩ := S.fz i p e
        rw [r] at h1; cases h1
        exact go F H σ v (Ex.refl F) S h2
      | ow f p =>
        cases f with
        | false => exact go.elim
        | true =>
          obtain ⟨w, h1, h2, h3, h4⟩ := S.ow i _ p e
          rw [r] at h1; cases h1
          refine go F H σ _ (Ex.refl F) (S.drop i) ⟨w, rfl, h2, h3, by rw [if_pos rfl] at h4; exact h4, fun j b q hj hv => ?_⟩
          rcases getElem?_set_cases hj with ⟨_, z, _⟩ | ⟨hne, hj'⟩
          · cases z
          · exact hne (S.inj i j _ _ p q w e hj' r hv)
theorem Z0j (he : PE X a (tE g da)) : PS X (.Return (some a) pos) (tS g (dRet da)) :=
  psImp (ps_ret he) fun D σ H ⟨F, env, S, go⟩ => ⟨F, env, S, (GoS.bindE (σ := σ) go).mono fun x e F' H' x1 S1 k v r => retV_go S1 r k⟩
def dIfS (dt : Env' → Res Bool) (d1 d2 : Env' → Res Fl) : Env' → Res Fl := fun e => (dt e).bind fun b e1 => if b = true then d1 e1 else d2 e1
theorem ss_if {dt : Env' → Res Bool} {p q : List Stmt} (ht : PT X c (tT g dt)) (h1 : PSs X p (tS g d1)) (h2 : PSs X q (tS g d2)) : PS X (.If c p q pos) (tS g (dIfS dt d1 d2)) :=
  psImp (ps_if ht h1 h2) fun D σ H ⟨F, env, S, go⟩ => ⟨F, env, S, (GoS.bindE (σ := σ) go).mono fun b e F' H' x1 S1 k => by
    by_cases hb : b = true
    · rw [if_pos hb] at k ⊢; exact ⟨F', e, S1, k⟩
    · rw [if_neg hb] at k ⊢; exact ⟨F', e, S1, k⟩⟩
def dWhile (dt : Env' → Res Bool) (db : Env' → Res Fl) : Nat → Env' → Res Fl
  | 0, _ => .bad
  | n + 1, e => (dt e).bind fun b e1 => if b = true then (db e1).bind fun f e2 => (match f with
    | .nx => dWhile dt db n e2
    | .ct => dWhile dt db n e2
    | .bk => .ok .nx e2
    | x => .ok x e2) else .ok .nx e1
theorem ss_while {dt : Env' → Res Bool} {p : List Stmt} (n : Nat) (hp : PassesOwn (model X.prog X.w) X.A X.env X.xe) (ht : PT X c (tT g dt)) (h1 : PSs X p (tS g d1)) : PS X (.While c p [] pos) (tS g (dWhile dt d1 n)) := by
  refine psImp (ps_while hp ht h1) fun D σ H ⟨F, env, S, go⟩ => ?_
  refine ⟨fun m σ H => ∃ F env, Stt g F H σ env ∧ GoS g F (dWhile dt d1 m env) D, ⟨n, F, env, S, go⟩, ?_⟩
  rintro m σ1 H1 ⟨F1, e1, S1, go1⟩
  cases m with
  | zero => exact go1.elim
  | succ m =>
    refine ⟨F1, e1, S1, (GoS.bindE (σ := σ1) go1).mono fun b e F' H' x1 S2 k => ?_⟩
    by_cases hb : b = true
    · rw [if_pos hb] at k ⊢
      refine ⟨fun σ' H' => ∃ F env, Stt g F H' σ' env ∧ GoS g F (dWhile dt d1 m env) D, fun σ' H' w => ⟨m, Nat.lt_succ_self m, w⟩, F', e, S2, ?_⟩
      cases q : d1 e with
      | bad => rw [q] at k; exact k
      | err x e' => rw [q] at k; exact k
      | ok x e' =>
        rw [q] at k
        cases x with
        | nx => exact fun F2 H2 σ2 e2 S3 => ⟨F2, e', S3, GoS.up k e2⟩
        | bk => exact k
        | ct => exact fun F2 H2 σ2 e2 S3 => ⟨F2, e', S3, GoS.up k e2⟩
        | rt x => exact k
    · rw [if_neg hb] at k ⊢
      exact k F' H' σ1 (Ex.refl F') S2
def store (i : Nat) (x : Val) (e : Env') : Res Fl := match x with
  | .fz p => .ok .nx (e.set i (.fz p))
  | .new p => .ok .nx (e.set i (.ow true p))
  | .bor j => match e[j]? with
    | some (.fz p) => .ok .nx (e.set i (.fz p))
    | some (.ow true p) => .ok .nx ((e.set j (.fz p)).set i (.fz p))
    | _ => .bad
def dSet (i : Nat) (d : Env' → Res Val) : Env' → Res Fl := fun e => (d e).bind (store i)
theorem store_go {i : Nat} {x : Val} {v : V} (S : Stt g F H σ env) (r : RV g F H σ env x v) (go : GoS g F (store i x env) D) : D.nx (σ.set i (some v)) H := by
  cases x with
  | fz p => exact go F H _ (Ex.refl F) (S.setFz r)
  | new p =>
    obtain ⟨w, rfl, r1, hf, h0, hn⟩ := r
    exact go F H _ (Ex.refl F) (S.setOw r1 hf h0 hn)
  | bor j =>
    unfold store at go
    dsimp only at go
    cases e : env[j]? with
    | none => rw [e] at go; exact go.elim
    | some sl =>
      rw [e] at go
      have r : σ[j]? = some (some v) := r
      cases sl with
      | no => exact go.elim
      | fz p =>
        obtain ⟨w, h1, h2⟩ := S.fz j p e
        rw [r] at h1; cases h1
        exact go F H _ (Ex.refl F) (S.setFz h2)
      | ow f p =>
        cases f with
        | false => exact go.elim
        | true =>
          obtain ⟨w, h1, h2, h3, h4⟩ := S.ow j _ p e
          rw [r] at h1; cases h1
          obtain ⟨o, ho⟩ := h2.cell
          obtain ⟨S', rr⟩ := S.freeze e r ho
          exact go _ H _ (Ex.new h3) (S'.setFz rr)
theorem ss_set {i : Nat} {x : Str} {pos' : Pos} (hN : X.N.Nodup) (hi : X.N[i]? = some x) (hx : Loc X.env.scope x) (he : PE X a (tE g da)) (hs : swapsWith a (some (.Name x pos')) pos.line X.env = pure false) (hf : X.fn x = true ∨ X.env.scope.names.lookup x = some .local) :
    PS X (.Assign [.Name x pos'] a pos) (tS g (dSet i da)) :=
  psImp (ps_set hN hi hx he hs hf) fun D σ H ⟨F, env, S, go⟩ => ⟨F, env, S, (GoS.bindE (σ := σ) go).mono fun x e F' H' x1 S1 k v r => store_go S1 r k⟩
def dAug (i : Nat) (sem : Int → Int → Option Int) (d : Env' → Res Val) : Env' → Res Fl := fun e => match e[i]? with
  | some (.fz (.int k)) => (stl d e).bind fun x e1 => match x with
    | .fz (.int n) => match sem k n with
      | some m => .ok .nx (e1.set i (.fz (.int m)))
      | none => .bad
    | _ => .bad
  | _ => .bad
end
end VL
set_option maxRecDepth 100000
set_option maxHeartbeats 2000000
namespace VL
open PySem PySem.Spec L2
open PyProof.Rows hiding St
/-- what a target does with a value that stays -/
abbrev UG := PV → Env' → Option Env'
def tG (g : Gm) (u : UG) (js : List Nat) : TG := fun v σ H Q => ∃ F env p env', Stt g F H σ env ∧ R g.C F p v ∧ u p env = some env' ∧ ∀ σ', Stt g F H σ' env' → σ'.length = σ.length → (∀ (i : Nat), i ∉ js → σ'[i]? = σ[i]?) → Q σ' H
def tGs (g : Gm) (u : List PV → Env' → Option Env') (js : List Nat) : TGs := fun vs σ H Q => ∃ F env ps env', Stt g F H σ env ∧ Rs g.C F ps vs ∧ u ps env = some env' ∧ ∀ σ', Stt g F H σ' env' → σ'.length = σ.length → (∀ (i : Nat), i ∉ js → σ'[i]? = σ[i]?) → Q σ' H
def uNm (i : Nat) : UG := fun p e => some (e.set i (.fz p))
def uNil : List PV → Env' → Option Env' := fun ps e => if ps.isEmpty then some e else none
def uCons (u : UG) (us : List PV → Env' → Option Env') : List PV → Env' → Option Env' := fun ps e => match ps with
  | p :: ps => (u p e).bind (us ps)
  | [] => none
def uTup (n : Nat) (us : List PV → Env' → Option Env') : UG := fun p e => match p with
  | .tup ps => if ps.length = n then us ps e else none
  | _ => none
section
variable {X : Cx} {g : Gm} {pins : List (Addr × Obj)} {F H F' H' : Hp} {σ : St} {env env' : Env'} {s : Shared} {a b c : Expr} {da db dc : Env' → Res Val} {pos : Pos} {D : Ends} {d1 d2 : Env' → Res Fl}
theorem pgImp {e : Expr} {t t' : TG} (h : PG X e t) (k : ∀ v σ H Q, t' v σ H Q → t v σ H Q) : PG X e t' := ⟨fun pins s σ H v u Q I r q => h.run pins s σ H v u Q I r (k v σ H Q q)⟩
theorem pgsImp {e : List Expr} {t t' : TGs} (h : PGs X e t) (k : ∀ v σ H Q, t' v σ H Q → t v σ H Q) : PGs X e t' := ⟨fun pins s σ H v u Q I r q => h.run pins s σ H v u Q I r (k v σ H Q q)⟩
theorem sg_name {i : Nat} {x : Str} (hN : X.N.Nodup) (hi : X.N[i]? = some x) (hx : Loc X.env.scope x) (hf : X.fn x = true ∨ X.env.scope.names.lookup x = some .local) : PG X (.Name x pos) (tG g (uNm i) [i]) :=
  pgImp (pg_name hN hi hx hf) fun v σ H Q ⟨F, env, p, env', S, r, e, k⟩ => by
    cases e
    refine k _ (S.setFz r) (by simp) fun j hj => ?_
    rw [List.getElem?_set_ne (fun z => hj (by simp [z]))]
theorem sgs_nil : PGs X [] (tGs g uNil []) := pgsImp pgs_nil fun v σ H Q ⟨F, env, ps, env', S, r, e, k⟩ => by
  cases ps with
  | nil => cases e; exact ⟨r.nil_inv, k _ S rfl fun _ _ => rfl⟩
  | cons p ps => cases e
theorem sgs_cons {e : Expr} {es : List Expr} {u : UG} {us : List PV → Env' → Option Env'} {js ks : List Nat} (h1 : PG X e (tG g u js)) (h2 : PGs X es (tGs g us ks))
    (hs : (assignEach (e :: es) X.env).map (·.2) = assign e X.env :: (assignEach es X.env).map (·.2)) : PGs X (e :: es) (tGs g (uCons u us) (js ++ ks)) :=
  pgsImp (pgs_cons h1 h2 hs) fun v σ H Q ⟨F, env, ps, env', S, r, e, k⟩ => by
    cases ps with
    | nil => cases e
    | cons p ps =>
      obtain ⟨v1, r1, rfl, q1, q2⟩ := r.cons_inv
      unfold uCons at e
      dsimp only at e
      cases h : u p env with
      | none => rw [h] at e; cases e
      | some e1 =>
        rw [h] at e
        exact ⟨v1, r1, rfl, F, env, p, e1, S, q1, h, fun σ' S' l' h' => ⟨F, e1, ps, env', S', q2, e, fun σ2 S2 l2 h2 => k σ2 S2 (l2.trans l') fun i hi => (h2 i fun z => hi (List.mem_append_right _ z)).trans (h' i fun z => hi (List.mem_append_left _ z))⟩⟩
theorem sg_tup {es : List Expr} {j n : Nat} {us : List PV → Env' → Option Env'} {js : List Nat} (ok : Ok X g) (hc : X.calm = true) (h : PGs X es (tGs g us js))
    (hn : (assignEach es X.env).length = n) (hst : (assignEach es X.env).findIdx? (·.1) = none) : PG X (.Tuple es j pos) (tG g (uTup n us) js) :=
  pgImp (pg_tup hc h hn hst) fun v σ H Q ⟨F, env, p, env', S, r, e, k⟩ => by
    cases p with
    | tup ps =>
      unfold uTup at e
      dsimp only at e
      split at e
      · rename_i hl
        unfold R at r
        obtain ⟨a, vs, rfl, q, rs⟩ := r
        exact ⟨a, vs, rfl, .inl (.inl (S.sub.tup q)), by rw [rs.length]; exact hl, F, env, ps, env', S, rs, e, k⟩
      · cases e
    | _ => cases e
def dAsgT (d : Env' → Res Val) (u : UG) : Env' → Res Fl := fun e => (d e).bind fun x e1 => (frz x e1).bind fun p e2 => match u p e2 with
  | some e3 => .ok .nx e3
  | none => .bad
theorem frz_ok {x : Val} {v : V} {p : PV} (S : Stt g F H σ env) (r : RV g F H σ env x v) (h : frz x env = .ok p env') : ∃ F', Ex F F' ∧ Stt g F' H σ env' ∧ R g.C F' p v := by
  cases x with
  | fz p => cases h; exact ⟨F, Ex.refl F, S, r⟩
  | new p =>
    cases h
    obtain ⟨b, rfl, r1, hf, h0, hn⟩ := r
    obtain ⟨o, ho⟩ := r1.cell
    exact ⟨_, Ex.new hf, S.know hf ho h0 hn, r1.frozen ho hf⟩
  | bor i =>
    unfold frz at h
    dsimp only at h
    cases e : env[i]? with
    | none => rw [e] at h; cases h
    | some sl =>
      rw [e] at h
      have r : σ[i]? = some (some v) := r
      cases sl with
      | no => cases h
      | fz p =>
        cases h
        obtain ⟨w, h1, h2⟩ := S.fz i _ e
        rw [r] at h1; cases h1
        exact ⟨F, Ex.refl F, S, h2⟩
      | ow f p =>
        cases f with
        | false => cases h
        | true =>
          cases h
          obtain ⟨w, h1, h2, h3, h4⟩ := S.ow i _ _ e
          rw [r] at h1; cases h1
          obtain ⟨o, ho⟩ := h2.cell
          obtain ⟨S', rr⟩ := S.freeze e r ho
          exact ⟨_, Ex.new h3, S', rr⟩
theorem frz_noerr {x : Val} {y : Exc'} {e : Env'} : frz x env ≠ .err y e := by
  intro h
  cases x with
  | fz p => cases h
  | new p => cases h
  | bor i =>
    unfold frz at h
    dsimp only at h
    split at h <;> cases h
theorem GoS_frz {x : Val} {v : V} {f : PV → Env' → Res Fl} (S : Stt g F H σ env) (r : RV g F H σ env x v) (go : GoS g F ((frz x env).bind f) D) : ∃ F' p env', Ex F F' ∧ Stt g F' H σ env' ∧ R g.C F' p v ∧ GoS g F' (f p env') D := by
  cases h : frz x env with
  | bad => rw [h] at go; exact go.elim
  | err y e => exact (frz_noerr h).elim
  | ok p e =>
    rw [h] at go
    obtain ⟨F', x1, S', r'⟩ := frz_ok S r h
    exact ⟨F', p, e, x1, S', r', GoS.up go x1⟩
theorem ugo {x : Val} {v : V} {u : UG} {js : List Nat} (S : Stt g F H σ env) (r : RV g F H σ env x v) (go : GoS g F ((frz x env).bind fun p e2 => match u p e2 with | some e3 => .ok .nx e3 | none => .bad) D) : tG g u js v σ H D.nx := by
  obtain ⟨F', p, e, x1, S', r', go'⟩ := GoS_frz S r go
  cases h : u p e with
  | none => simp only [h] at go'; exact go'.elim
  | some e3 =>
    simp only [h] at go'
    exact ⟨F', e, p, e3, S', r', h, fun σ' S2 _ _ => go' F' H σ' (Ex.refl F') S2⟩
theorem ss_asgT {tg : Expr} {u : UG} {js : List Nat} (he : PE X a (tE g da)) (hg : PG X tg (tG g u js)) (hs : swapsWithSole [tg] a pos.line X.env = pure false) (hw : swappedStores [tg] a X.env = pure none)
    (h1 : (assignEach [tg] X.env).map (·.2) = [assign tg X.env]) : PS X (.Assign [tg] a pos) (tS g (dAsgT da u)) :=
  psImp (ps_asg he hg hs hw h1) fun D σ H ⟨F, env, S, go⟩ => ⟨F, env, S, (GoS.bindE (σ := σ) go).mono fun x e F' H' x1 S1 k v r => ugo S1 r k⟩
def semPut : PV → PV → PV → Option PV
  | .lst xs, .int k, v => (ixN xs.length k).map fun j => .lst (xs.set j v)
  | .dK ks vs, y, v => match keyP y with
    | some k => if ks.length < big then some (.dK (putP ks vs k v).1 (putP ks vs k v).2) else none
    | none => none
  | .dT ks vs, .tup ys, v => match keysP ys with
    | some k => if ks.length < big then some (.dT (putP ks vs k v).1 (putP ks vs k v).2) else none
    | none => none
  | _, _, _ => none
theorem put_go {i : Nat} {bb : Bool} {q q' kp p : PV} {o k v : V} {R1' : Hp → Prop} (S : Stt g F H σ env) (hi : env[i]? = some (.ow bb q)) (ho : σ[i]? = some (some o)) (rk : Rt g.C F H kp k) (r : R g.C F p v) (h : semPut q kp p = some q')
    (kk : ∀ H', Stt g F H' σ (env.set i (.ow bb q')) → R1' H') : rSetL o k v H R1' ∨ rSetD o k v H R1' := by
  obtain ⟨a, h1, h2, h3, h4⟩ := S.ow i bb q hi
  rw [ho] at h1; cases h1
  cases q with
  | lst xs =>
    cases kp with
    | int j =>
      simp only [semPut, Option.map_eq_some_iff] at h
      obtain ⟨n, hn, e⟩ := h
      subst e
      obtain ⟨vs, e1, e2⟩ := h2
      cases Z0m rk
      refine .inl ⟨a, vs, j, n, rfl, rfl, e1, by rw [e2.length]; exact hn, kk _ (S.write hi ho ?_)⟩
      simp only [R1]
      exact ⟨_, upd_same, e2.set n r⟩
    | _ => simp only [semPut] at h; cases h
  | dK ks vs =>
    obtain ⟨kvs, e1, e2, e3⟩ := h2
    have hk : ∃ kk, keyP kp = some kk ∧ ks.length < big ∧ q' = .dK (putP ks vs kk p).1 (putP ks vs kk p).2 := by
      simp only [semPut] at h
      split at h
      · rename_i j hj
        split at h
        · rename_i hl; cases h; exact ⟨j, hj, hl, rfl⟩
        · cases h
      · cases h
    obtain ⟨j, hj, hl, rfl⟩ := hk
    obtain rfl := keyP_rt rk hj
    refine .inr ⟨a, _, rfl, DPut.k e1 (by rw [← List.length_map (as := kvs) Prod.fst, e2, big_eq]; exact hl), kk _ (S.write hi ho ?_)⟩
    obtain ⟨z1, z2⟩ := putP_r (k := j) e3 r
    rw [e2] at z1 z2
    simp only [R1]
    exact ⟨_, upd_same, z1, z2⟩
  | dT ks vs =>
    obtain ⟨kvs, e1, e2, e3⟩ := h2
    cases kp with
    | tup ys =>
      have hk : ∃ kk, keysP ys = some kk ∧ ks.length < big ∧ q' = .dT (putP ks vs kk p).1 (putP ks vs kk p).2 := by
        simp only [semPut] at h
        split at h
        · rename_i j hj
          split at h
          · rename_i hl; cases h; exact ⟨j, hj, hl, rfl⟩
          · cases h
        · cases h
      obtain ⟨j, hj, hl, rfl⟩ := hk
      obtain ⟨b, us, rfl, f1, f2, f3⟩ := rk
      obtain rfl := keysP_r f2 hj
      refine .inr ⟨a, _, rfl, DPut.t e1 f1 (by rw [← List.length_map (as := kvs) Prod.fst, e2, big_eq]; exact hl), kk _ (S.write hi ho ?_)⟩
      obtain ⟨z1, z2⟩ := putP_r (k := j) e3 r
      rw [e2] at z1 z2
      simp only [R1]
      exact ⟨_, upd_same, z1, z2⟩
    | _ => simp only [semPut] at h; cases h
  | _ => simp only [semPut] at h; cases h
def semSet' : TSet := fun o i v H Q => rSetL o i v H Q ∨ rSetD o i v H Q
theorem set_both (ok : Ok X g) : PSet X semSet' := by
  intro pins s σ H o i v ov iv u Q I ro ri rv h
  rcases h with h | h
  · exact set_list pins s σ H o i v ov iv u Q I ro ri rv h
  · exact set_dict (by have := ok.u; omega) pins s σ H o i v ov iv u Q I ro ri rv h
def putS (i : Nat) (p : PV) (y : Val) (e : Env') : Res Fl := match e[i]?, peek y e with
  | some (.ow b q), some k => match semPut q k p with
    | some q' => .ok .nx (e.set i (.ow b q'))
    | none => .bad
  | _, _ => .bad
theorem putS_go {i : Nat} {p : PV} {y : Val} {o v k : V} (S : Stt g F H σ env) (ho : σ[i]? = some (some o)) (rk : RV g F H σ env y k) (r : R g.C F p v) (go : GoS g F (putS i p y env) D) : semSet' o k v H fun H' => D.nx σ H' := by
  unfold putS at go
  cases h1 : env[i]? with
  | none => simp only [h1] at go; exact go.elim
  | some sl =>
    cases h2 : peek y env with
    | none => cases sl <;> (simp only [h1, h2] at go; exact go.elim)
    | some kp =>
      cases sl with
      | no => simp only [h1, h2] at go; exact go.elim
      | fz q => simp only [h1, h2] at go; exact go.elim
      | ow b q =>
        simp only [h1, h2] at go
        cases h3 : semPut q kp p with
        | none => rw [h3] at go; exact go.elim
        | some q' =>
          rw [h3] at go
          exact put_go S h1 ho (peek_ok S rk h2) r h3 fun H' S' => go F H' σ (Ex.refl F) S'
def isOw (i : Nat) (e : Env') : Bool := match e[i]? with
  | some (.ow _ _) => true
  | _ => false
theorem isOw_at {i : Nat} (S : Stt g F H σ env) (h : isOw i env = true) : ∃ b q a, env[i]? = some (.ow b q) ∧ σ[i]? = some (some (.ref a)) ∧ R1 g.C F H q a := by
  unfold isOw at h
  cases e : env[i]? with
  | none => rw [e] at h; cases h
  | some sl =>
    rw [e] at h
    cases sl with
    | ow b q =>
      obtain ⟨a, h1, h2, h3⟩ := S.ow i b q e
      exact ⟨b, q, a, rfl, h1, h2⟩
    | _ => cases h
def dPut (i : Nat) (di dv : Env' → Res Val) : Env' → Res Fl := fun e => (dv e).bind fun x e1 => (frz x e1).bind fun p e2 => if isOw i e2 = true then (stl di e2).bind fun y e3 => putS i p y e3 else .bad
theorem ss_put {o ix : Expr} {i : Nat} {pos' : Pos} {di dv : Env' → Res Val} (ok : Ok X g) (ho : PE X o (tVar i)) (hi : PE X ix (tE g di)) (hv : PE X a (tE g dv))
    (hs : swapsWithSole [.Subscript o ix pos'] a pos.line X.env = pure false) (hw : swappedStores [.Subscript o ix pos'] a X.env = pure none) (h1 : (assignEach [.Subscript o ix pos'] X.env).map (·.2) = [assign (.Subscript o ix pos') X.env])
    (ha : ∀ v, assign (.Subscript o ix pos') X.env v = (do
      let ov ← holding [v] (eval o X.env)
      let iv ← holding [v, ov] (eval ix X.env)
      standAt pos'
      holding [v, ov, iv] (setItem ov iv v)
      release [v, ov, iv] [])) : PS X (.Assign [.Subscript o ix pos'] a pos) (tS g (dPut i di dv)) :=
  psImp (ps_asg hv (pg_sub ho (peStl hi) (set_both ok) ha) hs hw h1) fun D σ H ⟨F, env, S, go⟩ => ⟨F, env, S, (GoS.bindE (σ := σ) go).mono fun x e F' H' x1 S1 k v r => by
    obtain ⟨F2, p, e2, x2, S2, r2, go2⟩ := GoS_frz S1 r k
    split at go2
    · rename_i hw
      obtain ⟨b, q, ad, w1, w2, w3⟩ := isOw_at S2 hw
      exact ⟨_, w2, F2, e2, S2, (GoS.bindE (σ := σ) go2).mono fun y e3 F3 H3 x3 S3 k3 kv r3 => putS_go S3 w2 r3 (r2.mono x3.le) k3⟩
    · exact go2.elim⟩
def kdAt (i : Nat) (e : Env') : String := match e[i]? with
  | some (.ow _ q) => kd q
  | _ => ""
def mutK (T : String) (sem : PV → List PV → Option (PV × PV)) (i : Nat) (ps : List PV) (e : Env') : Res Val := match e[i]? with
  | some (.ow b q) => if kd q = T then match sem q ps with
      | some (q', r) => .ok (.fz r) (e.set i (.ow b q'))
      | none => .bad
    else .bad
  | _ => .bad
def dMut (T : String) (sem : PV → List PV → Option (PV × PV)) (i : Nat) (ds : List (Env' → Res Val)) : Env' → Res Val := fun e => if kdAt i e = T then (dArgs ds e).bind fun xs e1 => (frzs xs e1).bind fun ps e2 => mutK T sem i ps e2 else .bad
end
end VL
set_option maxRecDepth 100000
set_option maxHeartbeats 2000000
namespace VL
open PySem PySem.Spec L2
open PyProof.Rows hiding St
end VL
set_option maxRecDepth 100000
set_option maxHeartbeats 2000000
namespace VL
open PySem PySem.Spec L2
open PyProof.Rows hiding St
/-- an iterator that yields what ps says while F1's things stand -/
structure WalkP (C : Ct) (J : It) (F1 : Hp) (ps : List PV) : Prop where
  goes : ∀ (g : Gm) (i : Nat) (F H : Hp) (σ : St) (env : Env'), g.C = C → i < ps.length → Ex F1 F → Stt g F H σ env → J.go i H
  stops : ∀ (g : Gm) (F H : Hp) (σ : St) (env : Env'), g.C = C → Ex F1 F → Stt g F H σ env → J.stop ps.length H
  ylds : ∀ (g : Gm) (i : Nat) (p : PV) (F H : Hp) (σ : St) (env : Env') (x : V) (H' : Hp), g.C = C → ps[i]? = some p → Ex F1 F → Stt g F H σ env → J.yld i H x H' → ∃ F', Ex F F' ∧ Stt g F' H' σ env ∧ R C F' p x
def tI (g : Gm) (di : Env' → Res (List PV)) : TI := fun σ H Rr => ∃ F env, Stt g F H σ env ∧ Go g F σ (di env) fun ps env' F' H' => ∀ J, WalkP g.C J F' ps → Rr J H'
def forL (u : UG) (db : Env' → Res Fl) : List PV → Env' → Res Fl
  | [], e => .ok .nx e
  | p :: ps, e => match u p e with
    | none => .bad
    | some e1 => (db e1).bind fun f e2 => match f with
      | .nx => forL u db ps e2
      | .ct => forL u db ps e2
      | .bk => .ok .nx e2
      | x => .ok x e2
def dFor (di : Env' → Res (List PV)) (u : UG) (db : Env' → Res Fl) : Env' → Res Fl := fun e => (di e).bind fun ps e1 => forL u db ps e1
section
variable {X : Cx} {g : Gm} {pins : List (Addr × Obj)} {F H F' H' : Hp} {σ : St} {env env' : Env'} {s : Shared} {a b c : Expr} {da db dc : Env' → Res Val} {pos : Pos} {D : Ends} {d1 d2 : Env' → Res Fl}
theorem ss_for {tg it : Expr} {body : List Stmt} {di : Env' → Res (List PV)} {u : UG} {js : List Nat} (hp : PassesOwn (model X.prog X.w) X.A X.env X.xe) (ok : Ok X g) (hi : PI X tg it (tI g di)) (hg : PG X tg (tG g u js)) (hb : PSs X body (tS g d1))
    (hs : ∀ x, foldedSetIterable it X.env x = pure x) : PS X (.For tg it body [] pos) (tS g (dFor di u d1)) := by
  refine psImp (ps_for hp ok.calm hi hg hb hs) fun D σ H ⟨F, env, S, go⟩ => ⟨F, env, S, (GoS.bindE (σ := σ) go).mono fun ps e1 F1 H1 x1 S1 k J w => ?_⟩
  refine ⟨fun i m σ H => ∃ F env, Ex F1 F ∧ Stt g F H σ env ∧ m = ps.length - i ∧ i ≤ ps.length ∧ GoS g F (forL u d1 (ps.drop i) env) D, ⟨ps.length, F1, e1, Ex.refl F1, S1, by omega, Nat.zero_le _, by rw [List.drop_zero]; exact k⟩, ?_⟩
  rintro i m σ2 H2 ⟨F2, e2, x2, S2, rfl, hle, go2⟩
  by_cases hlt : i < ps.length
  · right
    have hd : ps.drop i = ps[i] :: ps.drop (i + 1) := List.drop_eq_getElem_cons hlt
    rw [hd] at go2
    unfold forL at go2
    refine ⟨w.goes g i F2 H2 σ2 e2 rfl hlt x2 S2, fun σ' H' => ∃ F env, Ex F1 F ∧ Stt g F H' σ' env ∧ GoS g F (forL u d1 (ps.drop (i + 1)) env) D, fun σ' H' ⟨F3, e3, x3, S3, go3⟩ => ⟨ps.length - (i + 1), by omega, F3, e3, x3, S3, rfl, hlt, go3⟩, fun x H' y => ?_⟩
    obtain ⟨F3, x3, S3, r3⟩ := w.ylds g i ps[i] F2 H2 σ2 e2 x H' rfl (List.getElem?_eq_getElem hlt) x2 S2 y
    cases h : u ps[i] e2 with
    | none => rw [h] at go2; exact go2.elim
    | some e3 =>
      rw [h] at go2
      refine ⟨F3, e2, ps[i], e3, S3, r3, h, fun σ' S' _ _ => ⟨F3, e3, S', ?_⟩⟩
      have go3 := GoS.up go2 x3
      dsimp only at go3
      cases q : d1 e3 with
      | bad => rw [q] at go3; exact go3
      | err y e' => rw [q] at go3; exact go3
      | ok y e' =>
        rw [q] at go3
        cases y with
        | nx => exact fun F4 H4 σ4 x4 S4 => ⟨F4, e', (x2.trans x3).trans x4, S4, GoS.up go3 x4⟩
        | ct => exact fun F4 H4 σ4 x4 S4 => ⟨F4, e', (x2.trans x3).trans x4, S4, GoS.up go3 x4⟩
        | bk => exact go3
        | rt x => exact go3
  · left
    have e : i = ps.length := by omega
    subst e
    rw [List.drop_length] at go2
    exact ⟨w.stops g F2 H2 σ2 e2 rfl x2 S2, go2 F2 H2 σ2 (Ex.refl F2) S2⟩
def chars (z : Str) : List PV := z.cps.toList.map fun c => .str ⟨#[c]⟩
def rngP (lo : Int) (n : Nat) : List PV := (List.range n).map fun (i : Nat) => .int (lo + i)
theorem rngP_at {lo : Int} {n i : Nat} {p : PV} (h : (rngP lo n)[i]? = some p) : p = .int (lo + i) := by
  unfold rngP at h
  rw [List.getElem?_map] at h
  cases q : (List.range n)[i]? with
  | none => rw [q] at h; cases h
  | some j =>
    rw [q] at h; cases h
    rw [List.getElem?_range] at q
    · cases q; rfl
    · rw [List.getElem?_eq_some_iff] at q
      obtain ⟨q, _⟩ := q
      simpa using q
theorem walkP_rng {lo : Int} {n : Nat} {C : Ct} : WalkP C (Itr lo n) F (rngP lo n) where
  goes := fun g i F2 H2 σ2 e2 hC hi x2 S2 => by
    have : i < n := by simpa [rngP] using hi
    exact this
  stops := fun g F2 H2 σ2 e2 hC x2 S2 => by
    show n ≤ (rngP lo n).length
    simp [rngP]
  ylds := fun g i p F2 H2 σ2 e2 x H' hC hi x2 S2 y => by
    obtain ⟨rfl, rfl⟩ := y
    obtain rfl := rngP_at hi
    exact ⟨F2, Ex.refl F2, S2, by unfold R; rfl⟩
theorem piImp {tg e : Expr} {t t' : TI} (h : PI X tg e t) (k : ∀ σ H Q, t' σ H Q → t σ H Q) : PI X tg e t' := ⟨fun pins s σ H Q I q => h.run pins s σ H Q I (k σ H Q q)⟩
/-- range -/
def dRng1 (d : Env' → Res Val) : Env' → Res (List PV) := fun e => (dArgs [d] e).bind fun xs e1 => match peeks e1 xs with
  | some [.int j] => if r62 j = true then .ok (rngP 0 j.toNat) e1 else .bad
  | _ => .bad
def dRng2 (d d' : Env' → Res Val) : Env' → Res (List PV) := fun e => (dArgs [d, d'] e).bind fun xs e1 => match peeks e1 xs with
  | some [.int i, .int j] => if r62 i = true ∧ r62 j = true then .ok (rngP i (j - i).toNat) e1 else .bad
  | _ => .bad
theorem si_range1 {tg e : Expr} {d : Env' → Res Val} {p pos : Pos} (hg : Gl X "range") (hm : X.mg "range" = none) (ha : PA X [e] (tAs g (dArgs [d]))) (hs : starEach [e] X.env = [(false, eval e X.env)]) :
    PI X tg (.Call (.Name "range" p) [e] [] pos) (tI g (dRng1 d)) :=
  piImp (pi_range1 hg hm ha hs) fun σ H Q ⟨F, env, S, go⟩ => ⟨F, env, S, (Go.bind go).mono fun xs e1 F1 H1 x1 S1 k vs o r => by
    split at k
    · rename_i j hp
      split at k
      · rename_i hb
        have t := peeks_ok S1 r hp
        obtain ⟨v, q, rfl, t1, t2⟩ := t
        cases Z0m t1
        cases (show q = [] from t2)
        exact ⟨j, rfl, (r62_ok hb).1, (r62_ok hb).2, k F1 H1 (Ex.refl F1) S1 _ walkP_rng⟩
      · exact k.elim
    · exact k.elim⟩
/-- a value walked: a list, a tuple, the script, a text -/
def itemsP : PV → Option (List PV)
  | .lst xs => some xs
  | .tup xs => some xs
  | .scr ns => some (ns.map PV.int)
  | .str z => some (chars z)
  | .ftp xs => some xs
  | _ => none
def dItems (d : Env' → Res Val) : Env' → Res (List PV) := fun e => (stl d e).bind fun x e1 => (frz x e1).bind fun p e2 => match itemsP p with
  | some ps => .ok ps e2
  | none => .bad
end
end VL
set_option maxRecDepth 100000
set_option maxHeartbeats 2000000
namespace PySem
open Sem (wp)
open AutoSeq1 (wpAny_loadPart')
end PySem
namespace VL
open PySem PySem.Spec L2
open PyProof.Rows hiding St
def numL (ps : List PV) : List PV := ps.zipIdx.map fun x => .tup [.int (x.2 : Nat), x.1]
section
variable {X : Cx} {g : Gm} {pins : List (Addr × Obj)} {F H F' H' : Hp} {σ : St} {env env' : Env'} {s : Shared} {a b c : Expr} {pos : Pos}
def dEnum (d : Env' → Res Val) : Env' → Res (List PV) := fun e => (dArgs [d] e).bind fun xs e1 => (frzs xs e1).bind fun ps e2 => match ps with
  | [.lst xs] => .ok (numL xs) e2
  | [.tup xs] => .ok (numL xs) e2
  | [.str z] => .ok (numL (chars z)) e2
  | [.ftp xs] => .ok (numL xs) e2
  | _ => .bad
end
end VL
set_option maxRecDepth 100000
set_option maxHeartbeats 2000000
namespace VL
open PySem PySem.Spec L2
open PyProof.Rows hiding St
def lendS : Sl → Sl
  | .ow _ p => .ow false p
  | s => s
def wipeE (e : Env') : List Nat → Env'
  | [] => e
  | i :: is => wipeE (e.set i .no) is
def blkE (vs : List Nat) (e : Env') : Env' := wipeE (e.map lendS) vs
def outS : Sl → Sl → Sl
  | .ow b _, .ow _ q => .ow b q
  | _, .ow _ _ => .no
  | _, s => s
def outE (vs : List Nat) (e e2 : Env') : Env' := (List.range e.length).map fun i => if i ∈ vs then e.getD i .no else outS (e.getD i .no) (e2.getD i .no)
/-- no slot of vs holds a container -/
def freeS (vs : List Nat) (e : Env') : Bool := vs.all fun i => match e[i]? with
  | some (.ow _ _) => false
  | _ => true
def subG (g : Gm) (F H : Hp) (σ : St) (env : Env') : Gm where
  C := g.C
  F0 := F
  H0 := H
  P := fun i => match env[i]?, σ[i]? with
    | some (.ow _ _), some (some (.ref a)) => some a
    | _, _ => none
  W := fun _ _ _ _ _ => True
section
variable {X : Cx} {g : Gm} {pins : List (Addr × Obj)} {F H F' H' F2 H2 : Hp} {σ σ2 : St} {env env' env2 : Env'} {s : Shared}
theorem wipeE_len : ∀ {vs : List Nat} {e : Env'}, (wipeE e vs).length = e.length
  | [], e => rfl
  | i :: is, e => by unfold wipeE; rw [wipeE_len]; simp
theorem wipeE_in : ∀ {vs : List Nat} {e : Env'} {i : Nat} {x : Sl}, (wipeE e vs)[i]? = some x → (x = .no ∨ e[i]? = some x)
  | [], e, i, x, h => .inr h
  | j :: is, e, i, x, h => by
    unfold wipeE at h
    rcases wipeE_in h with z | z
    · exact .inl z
    · rcases getElem?_set_cases z with ⟨_, q, _⟩ | ⟨_, q⟩
      · exact .inl q.symm
      · exact .inr q
theorem wipeE_out : ∀ {vs : List Nat} {e : Env'} {i : Nat}, i ∈ vs → (wipeE e vs)[i]? = none ∨ (wipeE e vs)[i]? = some .no
  | j :: is, e, i, h => by
    unfold wipeE
    by_cases hi : i ∈ is
    · exact wipeE_out hi
    · have e1 : i = j := by
        rcases List.mem_cons.mp h with z | z
        · exact z
        · exact absurd z hi
      subst e1
      have keep : ∀ {vs : List Nat} {e : Env'}, i ∉ vs → (wipeE e vs)[i]? = e[i]? := by
        intro vs
        induction vs with
        | nil => intro e _; rfl
        | cons k ks ih =>
          intro e hk
          unfold wipeE
          rw [ih fun z => hk (List.mem_cons_of_mem _ z), List.getElem?_set_ne fun z => hk (by rw [z]; exact List.mem_cons_self ..)]
      rw [keep hi]
      by_cases hl : i < e.length
      · right; rw [List.getElem?_set_self hl]
      · left; rw [List.getElem?_eq_none (by simpa using hl)]
theorem blkE_at {vs : List Nat} {i : Nat} {x : Sl} (h : (blkE vs env)[i]? = some x) : x = .no ∨ (i ∉ vs ∧ ∃ y, env[i]? = some y ∧ x = lendS y) := by
  by_cases hi : i ∈ vs
  · rcases wipeE_out (e := env.map lendS) hi with z | z
    · unfold blkE at h; rw [z] at h; cases h
    · unfold blkE at h; rw [z] at h; cases h; exact .inl rfl
  · rcases wipeE_in h with z | z
    · exact .inl z
    · rw [List.getElem?_map] at z
      cases q : env[i]? with
      | none => rw [q] at z; cases z
      | some y => rw [q] at z; cases z; exact .inr ⟨hi, y, rfl, rfl⟩
theorem subG_O {a : Addr} (h : (subG g F H σ env).O a) : ∃ (i : Nat) (b : Bool) (p : PV), env[i]? = some (.ow b p) ∧ σ[i]? = some (some (.ref a)) := by
  obtain ⟨i, h⟩ := h
  unfold subG at h
  dsimp only at h
  split at h
  · rename_i b p a' h1 h2
    cases h
    exact ⟨i, b, p, h1, h2⟩
  · cases h
/-- into the block -/
theorem Stt.enter (S : Stt g F H σ env) (vs : List Nat) : Stt (subG g F H σ env) F H (wipe σ vs) (blkE vs env) where
  len := by rw [wipe_length, S.len]; unfold blkE; rw [wipeE_len, List.length_map]
  frame := fun b o q _ => .inl q
  live := fun b hb => by
    obtain ⟨i, f, p, h1, h2⟩ := subG_O hb
    obtain ⟨a, e1, e2, _⟩ := S.ow i f p h1
    rw [h2] at e1; cases e1
    exact e2.cell
  ext := Ex.refl F
  fresh := fun b o q => .inl q
  sub := S.sub
  fz := fun i p q => by
    rcases blkE_at q with z | ⟨hi, y, hy, z⟩
    · cases z
    · cases y <;> cases z
      rw [wipe_out hi]
      exact S.fz i _ hy
  ow := fun i b p q => by
    rcases blkE_at q with z | ⟨hi, y, hy, z⟩
    · cases z
    · cases y with
      | no => cases z
      | fz p => cases z
      | ow f r =>
        cases z
        obtain ⟨a, h1, h2, h3, _⟩ := S.ow i f _ hy
        refine ⟨a, by rw [wipe_out hi]; exact h1, h2, h3, ?_⟩
        rw [if_neg Bool.false_ne_true]
        show (match env[i]?, σ[i]? with | some (.ow _ _), some (some (.ref a)) => some a | _, _ => none) = some a
        rw [hy, h1]
  inj := fun i j b c p q a hi hj e1 e2 => by
    rcases blkE_at hi with z | ⟨ni, y, hy, z⟩
    · cases z
    · rcases blkE_at hj with z' | ⟨nj, y', hy', z'⟩
      · cases z'
      · cases y <;> cases z
        cases y' <;> cases z'
        rw [wipe_out ni] at e1
        rw [wipe_out nj] at e2
        exact S.inj i j _ _ _ _ a hy hy' e1 e2
  tab := S.tab
theorem outE_at {vs : List Nat} {i : Nat} {x : Sl} (h : (outE vs env env2)[i]? = some x) : i < env.length ∧ x = if i ∈ vs then env.getD i .no else outS (env.getD i .no) (env2.getD i .no) := by
  unfold outE at h
  rw [List.getElem?_map] at h
  by_cases hl : i < env.length
  · rw [List.getElem?_range hl] at h
    cases h; exact ⟨hl, rfl⟩
  · rw [List.getElem?_eq_none (by simpa using hl)] at h; cases h
theorem getD_at {e : Env'} {i : Nat} {x : Sl} (h : e.getD i .no = x) (hx : x ≠ .no) : e[i]? = some x := by
  rw [List.getD_eq_getElem?_getD] at h
  cases q : e[i]? with
  | none => rw [q] at h; exact absurd h.symm hx
  | some y => rw [q] at h; rw [← h]; rfl
theorem outS_ow {a b : Sl} {f : Bool} {q : PV} (h : outS a b = .ow f q) : ∃ p c, a = .ow f p ∧ b = .ow c q := by
  cases a <;> cases b <;> simp only [outS] at h <;> first | (cases h; done) | skip
  cases h; exact ⟨_, _, rfl, rfl⟩
theorem outS_fz {a b : Sl} {q : PV} (h : outS a b = .fz q) : b = .fz q := by
  cases a <;> cases b <;> simp only [outS] at h <;> first | (cases h; done) | exact h
theorem freeS_no {vs : List Nat} {i : Nat} {b : Bool} {p : PV} (h : freeS vs env = true) (hi : i ∈ vs) : env[i]? ≠ some (.ow b p) := fun z => by
  unfold freeS at h
  have := List.all_eq_true.mp h i hi
  rw [z] at this
  cases this
/-- what the def knew not to be its own stays so -/
theorem Stt.sub_new (S : Stt g F H σ env) {b : Addr} (h : H b = none) : g.H0 b = none := by
  cases q : g.H0 b with
  | none => rfl
  | some o =>
    by_cases ho : g.O b
    · obtain ⟨o', e⟩ := S.live b ho
      rw [h] at e; cases e
    · exact ((S.frame b o q ho).no h).elim
theorem Stt.sub_newN (S : Stt g F H σ env) {b : Addr} {o : HO} (h : Nw H b o) : Nw g.H0 b o := by
  rcases h with h | h
  · exact .inl (S.sub_new h)
  · exact .inr h
theorem Stt.leave {vs : List Nat} (S : Stt g F H σ env) (S2 : Stt (subG g F H σ env) F2 H2 σ2 env2) (hf : freeS vs env = true) (hσ : wipe σ2 vs = wipe σ vs) : Ex F F2 ∧ Stt g F2 H2 σ (outE vs env env2) := by
  have hat : ∀ {i : Nat}, i ∉ vs → σ2[i]? = σ[i]? := fun {i} hi => by rw [← wipe_out (σ := σ2) hi, ← wipe_out (σ := σ) hi, hσ]
  have hO : ∀ b o, g.H0 b = some o → ¬ g.O b → ¬ (subG g F H σ env).O b := fun b o q n z => by
    obtain ⟨i, f, p, h1, h2⟩ := subG_O z
    obtain ⟨a, e1, _, _, e4⟩ := S.ow i f p h1
    rw [h2] at e1; cases e1
    cases f with
    | true => rw [if_pos rfl, q] at e4; cases e4
    | false => rw [if_neg Bool.false_ne_true] at e4; exact n ⟨i, e4⟩
  refine ⟨S2.ext, by simp [outE, S.len], fun b o q n => (S.frame b o q n).trans fun o' q' => S2.frame b o' q' (hO b o q n), fun b hb => ?_, S.ext.trans S2.ext, fun b o q => ?_, S2.sub, fun i p q => ?_, fun i b p q => ?_, fun i j b c p q a hi hj e1 e2 => ?_, S2.tab⟩
  · by_cases hb' : (subG g F H σ env).O b
    · exact S2.live b hb'
    · obtain ⟨o, q⟩ := S.live b hb
      exact (S2.frame b o q hb').some
  · rcases S2.fresh b o q with z | z
    · exact S.fresh b o z
    · exact .inr (S.sub_newN z)
  · obtain ⟨hl, e⟩ := outE_at q
    split at e
    · obtain ⟨v, h1, h2⟩ := S.fz i p (getD_at e.symm (by simp))
      exact ⟨v, h1, h2.mono S2.ext.le⟩
    · rename_i ni
      obtain ⟨v, h1, h2⟩ := S2.fz i p (getD_at (outS_fz e.symm) (by simp))
      exact ⟨v, by rw [← hat ni]; exact h1, h2⟩
  · obtain ⟨hl, e⟩ := outE_at q
    split at e
    · rename_i hi
      exact (freeS_no hf hi (getD_at e.symm (by simp))).elim
    · rename_i ni
      obtain ⟨p0, c, h1, h2⟩ := outS_ow e.symm
      obtain ⟨a, e1, e2, e3, _⟩ := S2.ow i c p (getD_at h2 (by simp))
      obtain ⟨a', f1, f2, f3, f4⟩ := S.ow i b p0 (getD_at h1 (by simp))
      rw [hat ni, f1] at e1; cases e1
      exact ⟨_, f1, e2, e3, f4⟩
  · obtain ⟨_, x1⟩ := outE_at hi
    obtain ⟨_, x2⟩ := outE_at hj
    split at x1
    · rename_i hi
      exact (freeS_no hf hi (getD_at x1.symm (by simp))).elim
    · split at x2
      · rename_i hj
        exact (freeS_no hf hj (getD_at x2.symm (by simp))).elim
      · obtain ⟨_, _, h1, _⟩ := outS_ow x1.symm
        obtain ⟨_, _, h2, _⟩ := outS_ow x2.symm
        exact S.inj i j _ _ _ _ a (getD_at h1 (by simp)) (getD_at h2 (by simp)) e1 e2
/-- a cell that nobody here knows is written -/
theorem Stt.poke (S : Stt g F H σ env) {D : Addr} {o u : HO} (hD : H D = some u) (np : Pln u) (hF : F D = none) (h0 : g.H0 D = none) (hO : ¬ g.O D) (hn : ∀ (i : Nat) b q, env[i]? = some (.ow b q) → σ[i]? ≠ some (some (.ref D))) : Stt g F (upd H D o) σ env where
  len := S.len
  frame := fun b u q n => by
    have : b ≠ D := fun z => by rw [z, h0] at q; cases q
    rw [upd_ne this]; exact S.frame b u q n
  live := fun b hb => by
    have : b ≠ D := fun z => hO (z ▸ hb)
    rw [upd_ne this]; exact S.live b hb
  ext := S.ext
  fresh := S.fresh
  sub := fun b u q => by
    have : b ≠ D := fun z => by rw [z, hF] at q; cases q
    rw [upd_ne this]; exact S.sub b u q
  fz := S.fz
  ow := fun i b p q => by
    obtain ⟨a, h1, h2, h3, h4⟩ := S.ow i b p q
    have : a ≠ D := fun z => hn i b p q (by rw [h1, z])
    exact ⟨a, h1, h2.mono (Ex.refl F).le (upd_ne this), h3, h4⟩
  inj := S.inj
  tab := tabs_upd S.tab hD np
def dtO (dt : Option (Env' → Res Bool)) : Env' → Res Bool := fun e => match dt with
  | none => .ok true e
  | some dt => dt e
def lcL (vs : List Nat) (u : UG) (dt : Option (Env' → Res Bool)) (de : Env' → Res Val) : List PV → List PV → Env' → Res (List PV)
  | [], acc, e => .ok acc e
  | p :: ps, acc, e => if freeS vs e = true then match u p (blkE vs e) with
    | none => .bad
    | some e1 => match dtO dt e1 with
      | .ok false e2 => lcL vs u dt de ps acc (outE vs e e2)
      | .ok true e2 => match de e2 with
        | .ok x e3 => match frz x e3 with
          | .ok q e4 => if acc.length < big then lcL vs u dt de ps (acc ++ [q]) (outE vs e e4) else .bad
          | _ => .bad
        | _ => .bad
      | _ => .bad
    else .bad
def dLc (vs : List Nat) (di : Env' → Res (List PV)) (u : UG) (dt : Option (Env' → Res Bool)) (de : Env' → Res Val) : Env' → Res Val := fun e => (di e).bind fun ps e1 => (lcL vs u dt de ps [] e1).bind fun qs e2 => .ok (.new (.lst qs)) e2
/-- the new list within a turn -/
structure LcS (g : Gm) (F H : Hp) (σ : St) (env : Env') (D : Addr) (acc : List PV) : Prop where
  S : Stt g F H σ env
  cell : ∃ vs, H D = some (.lst vs) ∧ Rs g.C F acc vs
  hF : F D = none
  h0 : g.H0 D = none
  hO : ¬ g.O D
  hn : ∀ (i : Nat) b q, env[i]? = some (.ow b q) → σ[i]? ≠ some (some (.ref D))
theorem LcS.start (S : Stt g F H σ env) {D : Addr} (hD : H D = none) : LcS g F (upd H D (.lst [])) σ env D [] := by
  obtain ⟨n1, n2, n3⟩ := S.new0 hD
  refine ⟨S.grow (ex_alloc hD), ⟨[], upd_same, Rs.nil⟩, n1, n2, n3, fun i b q e z => ?_⟩
  obtain ⟨a, e1, e2, _⟩ := S.ow i b q e
  rw [z] at e1; cases e1
  obtain ⟨o, ho⟩ := e2.cell
  rw [hD] at ho; cases ho
theorem LcS.noO {D : Addr} {acc : List PV} (L : LcS g F H σ env D acc) : ¬ (subG g F H σ env).O D := fun z => by
  obtain ⟨i, b, p, h1, h2⟩ := subG_O z
  exact L.hn i b p h1 h2
/-- behind a turn -/
theorem LcS.turn {D : Addr} {acc : List PV} {vs : List Nat} (L : LcS g F H σ env D acc) (S2 : Stt (subG g F H σ env) F2 H2 σ2 env2) (hf : freeS vs env = true) (hσ : wipe σ2 vs = wipe σ vs) : Ex F F2 ∧ LcS g F2 H2 σ (outE vs env env2) D acc := by
  obtain ⟨x, S'⟩ := L.S.leave S2 hf hσ
  obtain ⟨ws, h1, h2⟩ := L.cell
  refine ⟨x, S', ⟨ws, (S2.frame D _ h1 L.noO).eq (fun _ z => by cases z), h2.mono x.le⟩, ?_, L.h0, L.hO, fun i b q e z => ?_⟩
  · cases q : F2 D with
    | none => rfl
    | some o =>
      rcases S2.fresh D o q with z | z
      · have z : F D = some o := z
        rw [L.hF] at z; cases z
      · exact (nw_no S2.sub q z h1 ((S2.frame D _ h1 L.noO).eq (fun _ z => by cases z)) (fun _ z => by cases z)).elim
  · obtain ⟨hl, e⟩ := outE_at e
    split at e
    · exact L.hn i b q (getD_at e.symm (by simp)) z
    · obtain ⟨p0, c, h1, h2⟩ := outS_ow e.symm
      exact L.hn i b p0 (getD_at h1 (by simp)) z
/-- .. with an item put in -/
theorem LcS.put {D : Addr} {acc : List PV} {y : V} {q : PV} {ws : List V} (L : LcS g F H σ env D acc) (hD : H D = some (.lst ws)) (r : R g.C F q y) : LcS g F (upd H D (.lst (ws ++ [y]))) σ env D (acc ++ [q]) := by
  obtain ⟨ws', h1, h2⟩ := L.cell
  rw [hD] at h1; cases h1
  exact ⟨L.S.poke hD ⟨fun _ z => (by cases z), fun _ z => (by cases z), fun _ z => (by cases z)⟩ L.hF L.h0 L.hO L.hn, ⟨_, upd_same, h2.snoc r⟩, L.hF, L.h0, L.hO, L.hn⟩
theorem LcS.done {D : Addr} {acc : List PV} (L : LcS g F H σ env D acc) : RV g F H σ env (.new (.lst acc)) (.ref D) := by
  obtain ⟨ws, h1, h2⟩ := L.cell
  exact ⟨D, rfl, by simp only [R1]; exact ⟨ws, h1, h2⟩, L.hF, L.h0, L.hn⟩
/-- the same σ outside vs -/
theorem wipe_agree {vs js : List Nat} (hl : σ2.length = σ.length) (hj : ∀ j ∈ js, j ∈ vs) (h : ∀ (i : Nat), i ∉ js → σ2[i]? = (wipe σ vs)[i]?) : wipe σ2 vs = wipe σ vs := by
  have wl : ∀ {τ : St} {vs : List Nat} {i : Nat}, i ∈ vs → i < τ.length → (wipe τ vs)[i]? = some none := by
    intro τ vs i hi hlt
    cases q : (wipe τ vs)[i]? with
    | none =>
      rw [List.getElem?_eq_none_iff, wipe_length] at q
      omega
    | some x =>
      cases x with
      | none => rfl
      | some v => exact absurd hi (wipe_some q).2
  apply List.ext_getElem?
  intro i
  by_cases hi : i ∈ vs
  · by_cases hlt : i < σ.length
    · rw [wl hi (by rw [hl]; exact hlt), wl hi hlt]
    · rw [List.getElem?_eq_none (by rw [wipe_length, hl]; omega), List.getElem?_eq_none (by rw [wipe_length]; omega)]
  · rw [wipe_out hi, h i fun z => hi (hj i z)]
theorem sts_nil : PTs X [] (tT g fun e => .ok true e) := ⟨fun pins s σ H Q I ⟨F, env, S, go⟩ => pts_nil.run pins s σ H Q I (go F H (Ex.refl F) S)⟩
/-- what a comprehension asks, from the state -/
theorem lc_turns {vs js : List Nat} {u : UG} {dt : Option (Env' → Res Bool)} {de : Env' → Res Val} {J : It} {ps : List PV} {F1 H1 : Hp} {env1 : Env'} {Q : VK} (hj : ∀ j ∈ js, j ∈ vs)
    (S1 : Stt g F1 H1 σ env1) (w : WalkP g.C J F1 ps) (go : Go g F1 σ ((lcL vs u dt de ps [] env1).bind fun qs e2 => .ok (.new (.lst qs)) e2) fun x env' F' H' => ∀ v, RV g F' H' σ env' x v → Q v H') :
    ∀ D, H1 D = none → ∃ W : Nat → Nat → Hp → Prop, (∃ m, W 0 m (upd H1 D (.lst []))) ∧ ∀ i m H, W i m H →
      (J.stop i H ∧ Q (.ref D) H) ∨ (J.go i H ∧ ∃ Nx : Hp → Prop, (∀ H', Nx H' → ∃ m', m' < m ∧ W (i + 1) m' H') ∧ ∀ x H', J.yld i H x H' → (∃ g' : Gm, g'.C = g.C ∧ tG g' u js x (wipe σ vs) H' fun σ2 H2 => wipe σ2 vs = wipe σ vs ∧ tT g' (dtO dt) σ2 H2 fun b H3 =>
        if b = true then tE g' de σ2 H3 fun y H4 => ∃ acc, H4 D = some (.lst acc) ∧ acc.length < sizeLine ∧ Nx (upd H4 D (.lst (acc ++ [y]))) else Nx H3)) := by
  intro D hD
  refine ⟨fun i m H => ∃ F env acc, Ex F1 F ∧ LcS g F H σ env D acc ∧ m = ps.length - i ∧ i ≤ ps.length ∧ Go g F σ ((lcL vs u dt de (ps.drop i) acc env).bind fun qs e2 => .ok (.new (.lst qs)) e2) fun x env' F' H' => ∀ v, RV g F' H' σ env' x v → Q v H',
    ⟨ps.length, F1, env1, [], Ex.refl F1, LcS.start S1 hD, by omega, Nat.zero_le _, by rw [List.drop_zero]; exact go⟩, ?_⟩
  rintro i m H ⟨F, env, acc, x1, L, rfl, hle, go1⟩
  by_cases hlt : i < ps.length
  · right
    have hd : ps.drop i = ps[i] :: ps.drop (i + 1) := List.drop_eq_getElem_cons hlt
    rw [hd] at go1
    unfold lcL at go1
    split at go1
    · rename_i hf
      have Se := L.S.enter vs
      refine ⟨w.goes (subG g F H σ env) i F H _ _ rfl hlt x1 Se, fun H' => ∃ F env acc, Ex F1 F ∧ LcS g F H' σ env D acc ∧ Go g F σ ((lcL vs u dt de (ps.drop (i + 1)) acc env).bind fun qs e2 => .ok (.new (.lst qs)) e2) fun x env' F' H' => ∀ v, RV g F' H' σ env' x v → Q v H', fun H' ⟨F, env, acc, x, L, q⟩ => ⟨ps.length - (i + 1), by omega, F, env, acc, x, L, rfl, hlt, q⟩, fun x H' y => ?_⟩
      refine ⟨subG g F H σ env, rfl, ?_⟩
      obtain ⟨F2, x2, S2, r2⟩ := w.ylds (subG g F H σ env) i ps[i] F H _ _ x H' rfl (List.getElem?_eq_getElem hlt) x1 Se y
      cases hu : u ps[i] (blkE vs env) with
      | none => simp only [hu] at go1; exact go1.elim
      | some e1 =>
        simp only [hu] at go1
        refine ⟨F2, _, ps[i], e1, S2, r2, hu, fun σ' S' ln ag => ?_⟩
        have hw : wipe σ' vs = wipe σ vs := wipe_agree (by rw [ln, wipe_length]) hj ag
        refine ⟨hw, F2, e1, S', ?_⟩
        cases ht : dtO dt e1 with
        | bad => simp only [ht] at go1; exact go1.elim
        | err y e' => simp only [ht] at go1; exact go1.elim
        | ok b e2 =>
          simp only [ht] at go1
          intro F3 H3 x3 S3
          cases b with
          | false =>
            obtain ⟨x4, L4⟩ := L.turn S3 hf hw
            exact ⟨F3, _, acc, x1.trans x4, L4, Go.up go1 x4⟩
          | true =>
            refine ⟨F3, e2, S3, ?_⟩
            dsimp only at go1
            cases hd : de e2 with
            | bad => simp only [hd] at go1; exact go1.elim
            | err y e' => simp only [hd] at go1; exact go1.elim
            | ok z e3 =>
              simp only [hd] at go1
              intro F4 H4 x4 S4 v rv
              cases hq : frz z e3 with
              | bad => simp only [hq] at go1; exact go1.elim
              | err y e' => simp only [hq] at go1; exact go1.elim
              | ok q e4 =>
                simp only [hq] at go1
                split at go1
                · rename_i hlen
                  obtain ⟨F5, x5, S5, r5⟩ := frz_ok S4 rv hq
                  obtain ⟨x6, L6⟩ := L.turn S5 hf hw
                  obtain ⟨ws, c1, c2⟩ := L6.cell
                  exact ⟨ws, c1, by rw [c2.length, big_eq]; exact hlen, F5, _, _, x1.trans x6, L6.put c1 r5, Go.up go1 x6⟩
                · exact go1.elim
    · exact go1.elim
  · left
    have e : i = ps.length := by omega
    subst e
    rw [List.drop_length] at go1
    unfold lcL at go1
    exact ⟨w.stops g F H σ env rfl x1 L.S, go1 F H (Ex.refl F) L.S _ L.done⟩
/-- readings that leave the activation open -/
def xG (C : Ct) (u : UG) (js : List Nat) : TG := fun v σ H Q => ∃ g' : Gm, g'.C = C ∧ tG g' u js v σ H Q
def xT (C : Ct) (d : Env' → Res Bool) : TT := fun σ H Q => ∃ g' : Gm, g'.C = C ∧ tT g' d σ H Q
def xE (C : Ct) (d : Env' → Res Val) : TE := fun σ H Q => ∃ g' : Gm, g'.C = C ∧ tE g' d σ H Q
theorem xG_of {C : Ct} {e : Expr} {u : UG} {js : List Nat} (h : ∀ g' : Gm, g'.C = C → PG X e (tG g' u js)) : PG X e (xG C u js) := ⟨fun pins s σ H v w Q I r ⟨g', hc, q⟩ => (h g' hc).run pins s σ H v w Q I r q⟩
theorem xT_of {C : Ct} {es : List Expr} {d : Env' → Res Bool} (h : ∀ g' : Gm, g'.C = C → PTs X es (tT g' d)) : PTs X es (xT C d) := ⟨fun pins s σ H Q I ⟨g', hc, q⟩ => (h g' hc).run pins s σ H Q I q⟩
theorem xE_of {C : Ct} {e : Expr} {d : Env' → Res Val} (h : ∀ g' : Gm, g'.C = C → PE X e (tE g' d)) : PE X e (xE C d) := ⟨fun pins s σ H Q I ⟨g', hc, q⟩ => (h g' hc).run pins s σ H Q I q⟩
theorem tG_mono {u : UG} {js : List Nat} {v : V} {Q Q' : St → Hp → Prop} (k : ∀ σ H, Q σ H → Q' σ H) (h : tG g u js v σ H Q) : tG g u js v σ H Q' := by
  obtain ⟨F, env, p, env', S, r, e, q⟩ := h
  exact ⟨F, env, p, env', S, r, e, fun σ' S' l a => k _ _ (q σ' S' l a)⟩
theorem tT_mono {d : Env' → Res Bool} {Q Q' : Bool → Hp → Prop} (k : ∀ b H, Q b H → Q' b H) (h : tT g d σ H Q) : tT g d σ H Q' := by
  obtain ⟨F, env, S, go⟩ := h
  exact ⟨F, env, S, go.mono fun b e F' H' _ _ q => k b H' q⟩
theorem tE_mono {d : Env' → Res Val} {Q Q' : VK} (k : ∀ b H, Q b H → Q' b H) (h : tE g d σ H Q) : tE g d σ H Q' := by
  obtain ⟨F, env, S, go⟩ := h
  exact ⟨F, env, S, go.mono fun b e F' H' _ _ q v r => k v H' (q v r)⟩
theorem tLc_of {vs js : List Nat} {di : Env' → Res (List PV)} {u : UG} {dt : Option (Env' → Res Bool)} {de : Env' → Res Val} (hj : ∀ j ∈ js, j ∈ vs) {Q : VK} (h : tE g (dLc vs di u dt de) σ H Q) :
    tLc (tI g di) (xG g.C u js) (xT g.C (dtO dt)) (xE g.C de) vs σ H Q := by
  obtain ⟨F, env, S, go⟩ := h
  refine ⟨F, env, S, (Go.bind go).mono fun ps e1 F1 H1 x1 S1 k J w => ?_⟩
  intro D hD
  obtain ⟨W, w0, turn⟩ := lc_turns hj S1 w k D hD
  refine ⟨W, w0, fun i m H hw => ?_⟩
  rcases turn i m H hw with z | ⟨go, Nx, hN, step⟩
  · exact .inl z
  · refine .inr ⟨go, Nx, hN, fun x H' y => ?_⟩
    obtain ⟨g', hC, q⟩ := step x H' y
    refine ⟨g', hC, tG_mono (fun σ2 H2 ⟨hw, q2⟩ => ⟨hw, g', hC, tT_mono (fun b H3 q3 => ?_) q2⟩) q⟩
    cases b with
    | false => exact q3
    | true => exact ⟨g', hC, q3⟩
theorem ok_blk {s : Shared} {H : Hp} {sc : Scope} {ce : Env} {fp : List Addr} {g' : Gm} (ok : Ok X g) (hC : g'.C = g.C) : Ok (X.blk s H sc ce fp) g' := ⟨by rw [hC]; exact ok.K, ok.u, ok.calm⟩
theorem se_lc {elt tg iter : Expr} {ifs : List Expr} {scope : Scope} {pos : Pos} {vs js : List Nat} {di : Env' → Res (List PV)} {u : UG} {dt : Option (Env' → Res Bool)} {de : Env' → Res Val} (own : List (Str × Nat)) (ok : Ok X g) (hN : X.N.Nodup)
    (hi : PI X tg iter (tI g di)) (bk : BlkOk X.N X.env.scope scope own) (hv : own.map (·.2) = vs) (hj : ∀ j ∈ js, j ∈ vs)
    (hg : ∀ (s : Shared) (H : Hp) (C : Addr) (cl : List (Str × Addr)) (fp : List Addr) (g' : Gm), g'.C = g.C → Ok (X.blk s H scope (compEnvC scope cl C X.env) fp) g' → PG (X.blk s H scope (compEnvC scope cl C X.env) fp) tg (tG g' u js))
    (ht : ∀ (s : Shared) (H : Hp) (C : Addr) (cl : List (Str × Addr)) (fp : List Addr) (g' : Gm), g'.C = g.C → Ok (X.blk s H scope (compEnvC scope cl C X.env) fp) g' → PTs (X.blk s H scope (compEnvC scope cl C X.env) fp) ifs (tT g' (dtO dt)))
    (he : ∀ (s : Shared) (H : Hp) (C : Addr) (cl : List (Str × Addr)) (fp : List Addr) (g' : Gm), g'.C = g.C → Ok (X.blk s H scope (compEnvC scope cl C X.env) fp) g' → PE (X.blk s H scope (compEnvC scope cl C X.env) fp) elt (tE g' de))
    (hs : ∀ x, foldedSetIterable iter X.env x = pure x) : PE X (.ListComp elt [⟨tg, iter, ifs, 0⟩] scope pos) (tE g (dLc vs di u dt de)) := by
  subst hv
  exact peImp (pe_lc ok.calm hN hi bk (fun s H C cl fp => xG_of fun g' hC => hg s H C cl fp g' hC (ok_blk ok hC)) (fun s H C cl fp => xT_of fun g' hC => ht s H C cl fp g' hC (ok_blk ok hC)) (fun s H C cl fp => xE_of fun g' hC => he s H C cl fp g' hC (ok_blk ok hC)) hs) fun σ H Q h => tLc_of hj h
end
end VL
set_option maxRecDepth 100000
set_option maxHeartbeats 2000000
namespace VL
open PySem PySem.Spec L2
open PyProof.Rows hiding St
inductive FR where
  | bad | ok (x : Val) (outs : List PV)
/-- true: a container that is lent -/
abbrev Md := List Bool
def ArgsOk (C : Ct) (F H : Hp) : Md → List PV → List V → Prop
  | [], ps, vs => ps = [] ∧ vs = []
  | m :: ms, ps, vs => ∃ p pr v vr, ps = p :: pr ∧ vs = v :: vr ∧ (if m = true then ∃ a, v = .ref a ∧ R1 C F H p a ∧ F a = none else R C F p v) ∧ ArgsOk C F H ms pr vr
/-- the lent cells -/
def lentV : Md → List V → List V
  | m :: ms, v :: vs => if m = true then v :: lentV ms vs else lentV ms vs
  | _, _ => []
def OutsOk (C : Ct) (F H : Hp) : List V → List PV → Prop
  | [], qs => qs = []
  | v :: vs, qs => ∃ q qr a, qs = q :: qr ∧ v = .ref a ∧ R1 C F H q a ∧ F a = none ∧ OutsOk C F H vs qr
/-- what a call gives: H the heap at the call -/
def RVc (C : Ct) (F' H H' : Hp) : Val → V → Prop
  | .fz p, v => R C F' p v
  | .bor _, _ => False
  | .new p, v => ∃ a, v = .ref a ∧ R1 C F' H' p a ∧ F' a = none ∧ H a = none
def SpV (C : Ct) (md : Md) (fn : List PV → FR) : Sp := fun vs H Q E => ∃ F args x outs, Le F H ∧ LamX.Tabs C.T H ∧ ArgsOk C F H md args vs ∧ (lentV md vs).Nodup ∧ fn args = .ok x outs ∧
  ∀ F' H' v, Ex F F' → (∀ b o, F' b = some o → F b = some o ∨ Nw H b o) → Le F' H' → LamX.Tabs C.T H' → (∀ b o, H b = some o → V.ref b ∉ lentV md vs → Kpt o (H' b)) → OutsOk C F' H' (lentV md vs) outs → RVc C F' H H' x v → Q v H'
def entryE : Md → List PV → Env'
  | m :: ms, p :: ps => (if m = true then .ow false p else .fz p) :: entryE ms ps
  | _, _ => []
def entry (n : Nat) (md : Md) (args : List PV) : Env' := entryE md args ++ List.replicate (n - args.length) .no
/-- what stands in the lent slots at the end -/
def outsAt : Nat → Md → Env' → Option (List PV)
  | _, [], _ => some []
  | i, m :: ms, e => if m = true then (match e[i]?, outsAt (i + 1) ms e with
    | some (.ow false q), some r => some (q :: r)
    | _, _ => none) else outsAt (i + 1) ms e
def callFn (n : Nat) (md : Md) (d : Env' → Res Fl) : List PV → FR := fun args => match d (entry n md args) with
  | .ok .nx e => match outsAt 0 md e with
    | some outs => .ok (.fz .non) outs
    | none => .bad
  | .ok (.rt (.fz p)) e => match outsAt 0 md e with
    | some outs => .ok (.fz p) outs
    | none => .bad
  | .ok (.rt (.new p)) e => match outsAt 0 md e with
    | some outs => .ok (.new p) outs
    | none => .bad
  | _ => .bad
/-- the callee's activation -/
def callG (C : Ct) (F H : Hp) (md : Md) (vs : List V) : Gm where
  C := C
  F0 := F
  H0 := H
  P := fun i => match md[i]?, vs[i]? with
    | some true, some (.ref a) => some a
    | _, _ => none
  W := fun _ _ _ _ _ => False
section
variable {C : Ct} {F H F' H' : Hp} {env : Env'}
theorem ArgsOk.len : ∀ {md : Md} {ps : List PV} {vs : List V}, ArgsOk C F H md ps vs → ps.length = md.length ∧ vs.length = md.length
  | [], ps, vs, h => by obtain ⟨rfl, rfl⟩ := h; exact ⟨rfl, rfl⟩
  | m :: ms, ps, vs, h => by
    obtain ⟨p, pr, v, vr, rfl, rfl, _, h⟩ := h
    obtain ⟨h1, h2⟩ := ArgsOk.len h
    exact ⟨congrArg Nat.succ h1, congrArg Nat.succ h2⟩
theorem ArgsOk.at : ∀ {md : Md} {ps : List PV} {vs : List V} {i : Nat} {x : Sl}, ArgsOk C F H md ps vs → (entryE md ps)[i]? = some x → ∃ m p v, md[i]? = some m ∧ vs[i]? = some v ∧ x = (if m = true then .ow false p else .fz p) ∧ (if m = true then ∃ a, v = .ref a ∧ R1 C F H p a ∧ F a = none else R C F p v)
  | [], ps, vs, i, x, h, e => by obtain ⟨rfl, rfl⟩ := h; simp [entryE] at e
  | m :: ms, ps, vs, i, x, h, e => by
    obtain ⟨p, pr, v, vr, rfl, rfl, hm, h⟩ := h
    cases i with
    | zero =>
      simp [entryE] at e
      exact ⟨m, p, v, rfl, rfl, e.symm, hm⟩
    | succ i =>
      simp only [entryE, List.getElem?_cons_succ] at e
      obtain ⟨m', p', v', h1, h2, h3⟩ := ArgsOk.at h e
      exact ⟨m', p', v', h1, h2, h3⟩
theorem lentV_inj : ∀ {md : Md} {vs : List V} {i j : Nat} {v : V}, (lentV md vs).Nodup → md[i]? = some true → md[j]? = some true → vs[i]? = some v → vs[j]? = some v → i = j
  | [], vs, i, j, v, _, e, _, _, _ => by simp at e
  | m :: ms, [], i, j, v, _, _, _, e, _ => by simp at e
  | m :: ms, w :: vs, i, j, v, nd, e1, e2, f1, f2 => by
    have mem : ∀ {ms : Md} {vs : List V} {i : Nat} {v : V}, ms[i]? = some true → vs[i]? = some v → v ∈ lentV ms vs := by
      intro ms
      induction ms with
      | nil => intro vs i v h; simp at h
      | cons m ms ih =>
        intro vs i v h h2
        cases vs with
        | nil => simp at h2
        | cons w vs =>
          cases i with
          | zero => simp at h h2; subst h; subst h2; simp [lentV]
          | succ i =>
            have := ih (by simpa using h) (by simpa using h2)
            unfold lentV
            split
            · exact List.mem_cons_of_mem _ this
            · exact this
    cases i with
    | zero =>
      cases j with
      | zero => rfl
      | succ j =>
        exfalso
        simp at e1 f1 e2 f2
        subst e1; subst f1
        unfold lentV at nd
        rw [if_pos rfl] at nd
        exact (List.nodup_cons.mp nd).1 (mem e2 f2)
    | succ i =>
      cases j with
      | zero =>
        exfalso
        simp at e1 f1 e2 f2
        subst e2; subst f2
        unfold lentV at nd
        rw [if_pos rfl] at nd
        exact (List.nodup_cons.mp nd).1 (mem e1 f1)
      | succ j =>
        have nd' : (lentV ms vs).Nodup := by
          unfold lentV at nd
          split at nd
          · exact (List.nodup_cons.mp nd).2
          · exact nd
        exact congrArg Nat.succ (lentV_inj (v := v) nd' (by simpa using e1) (by simpa using e2) (by simpa using f1) (by simpa using f2))
theorem lentV_of : ∀ {md : Md} {vs : List V} {v : V}, v ∈ lentV md vs → ∃ i : Nat, md[i]? = some true ∧ vs[i]? = some v
  | [], vs, v, h => by cases vs <;> simp [lentV] at h
  | m :: ms, [], v, h => by simp [lentV] at h
  | m :: ms, w :: vs, v, h => by
    unfold lentV at h
    split at h
    · rename_i hm
      rcases List.mem_cons.mp h with z | z
      · exact ⟨0, by simp [hm], by simp [z]⟩
      · obtain ⟨i, h1, h2⟩ := lentV_of z
        exact ⟨i + 1, by simpa using h1, by simpa using h2⟩
    · obtain ⟨i, h1, h2⟩ := lentV_of h
      exact ⟨i + 1, by simpa using h1, by simpa using h2⟩
theorem entryE_len : ∀ {md : Md} {ps : List PV}, ps.length = md.length → (entryE md ps).length = ps.length
  | [], ps, h => by
    have : ps = [] := List.eq_nil_of_length_eq_zero h
    subst this; rfl
  | m :: ms, [], h => by simp at h
  | m :: ms, p :: ps, h => by simp [entryE, entryE_len (by simpa using h : ps.length = ms.length)]
theorem entry_at {n : Nat} {md : Md} {ps : List PV} {i : Nat} {x : Sl} (hl : ps.length = md.length) (h : (entry n md ps)[i]? = some x) : x = .no ∨ (entryE md ps)[i]? = some x := by
  unfold entry at h
  by_cases hi : i < (entryE md ps).length
  · rw [List.getElem?_append_left hi] at h; exact .inr h
  · rw [List.getElem?_append_right (by omega)] at h
    rw [List.getElem?_replicate] at h
    split at h
    · cases h; exact .inl rfl
    · cases h
/-- a def's entry -/
theorem Stt.entry {N : List Str} {md : Md} {args : List PV} {vs : List V} (l : Le F H) (tb : LamX.Tabs C.T H) (a : ArgsOk C F H md args vs) (nd : (lentV md vs).Nodup) (hn : md.length ≤ N.length) : Stt (callG C F H md vs) F H (L2.start N vs) (entry N.length md args) := by
  obtain ⟨l1, l2⟩ := a.len
  have sat : ∀ {i : Nat} {v : V}, vs[i]? = some v → (L2.start N vs)[i]? = some (some v) := fun {i v} h => by
    unfold L2.start
    have hi : i < vs.length := (List.getElem?_eq_some_iff.mp h).1
    rw [List.getElem?_append_left (by simpa using hi), List.getElem?_map, h]; rfl
  refine ⟨?_, fun b o q _ => .inl q, fun b hb => ?_, Ex.refl F, fun b o q => .inl q, l, fun i p q => ?_, fun i b p q => ?_, fun i j b c p q x hi hj e1 e2 => ?_, tb⟩
  · unfold L2.start VL.entry
    rw [List.length_append, List.length_append, List.length_map, List.length_replicate, List.length_replicate, entryE_len l1]
    omega
  · obtain ⟨i, hi⟩ := hb
    unfold callG at hi
    dsimp only at hi
    split at hi
    · rename_i a' h1 h2
      cases hi
      have : i < (entryE md args).length := by
        rw [entryE_len l1, l1]
        exact (List.getElem?_eq_some_iff.mp h1).1
      obtain ⟨m, p, v, e1, e2, e3, e4⟩ := a.at (List.getElem?_eq_getElem this)
      rw [h1] at e1; cases e1
      rw [h2] at e2; cases e2
      rw [if_pos rfl] at e4
      obtain ⟨a'', z, r, _⟩ := e4
      cases z
      exact r.cell
    · cases hi
  · rcases entry_at l1 q with z | z
    · cases z
    · obtain ⟨m, p', v, e1, e2, e3, e4⟩ := a.at z
      cases m with
      | true => rw [if_pos rfl] at e3; cases e3
      | false =>
        rw [if_neg Bool.false_ne_true] at e3 e4
        cases e3
        exact ⟨v, sat e2, e4⟩
  · rcases entry_at l1 q with z | z
    · cases z
    · obtain ⟨m, p', v, e1, e2, e3, e4⟩ := a.at z
      cases m with
      | false => rw [if_neg Bool.false_ne_true] at e3; cases e3
      | true =>
        rw [if_pos rfl] at e3 e4
        cases e3
        obtain ⟨ad, rfl, r, hf⟩ := e4
        refine ⟨ad, sat e2, r, hf, ?_⟩
        rw [if_neg Bool.false_ne_true]
        show (match md[i]?, vs[i]? with | some true, some (.ref a) => some a | _, _ => none) = some ad
        rw [e1, e2]
  · rcases entry_at l1 hi with z | z
    · cases z
    · rcases entry_at l1 hj with z' | z'
      · cases z'
      · obtain ⟨m, p', v, f1, f2, f3, f4⟩ := a.at z
        obtain ⟨m', p'', v', g1, g2, g3, g4⟩ := a.at z'
        cases m with
        | false => rw [if_neg Bool.false_ne_true] at f3; cases f3
        | true =>
          cases m' with
          | false => rw [if_neg Bool.false_ne_true] at g3; cases g3
          | true =>
            have h1 := sat f2
            have h2 := sat g2
            rw [h1] at e1; cases e1
            rw [h2] at e2; cases e2
            exact lentV_inj nd f1 g1 f2 g2
theorem lentV_drop {md : Md} {vs : List V} : ∀ {i : Nat}, lentV (md.drop i) (vs.drop i) = match md[i]?, vs[i]? with
    | some m, some v => if m = true then v :: lentV (md.drop (i + 1)) (vs.drop (i + 1)) else lentV (md.drop (i + 1)) (vs.drop (i + 1))
    | _, _ => [] := by
  intro i
  cases h1 : md[i]? with
  | none =>
    rw [List.drop_eq_nil_of_le (List.getElem?_eq_none_iff.mp h1)]
    cases vs.drop i <;> rfl
  | some m =>
    cases h2 : vs[i]? with
    | none =>
      rw [List.drop_eq_nil_of_le (List.getElem?_eq_none_iff.mp h2)]
      cases md.drop i <;> rfl
    | some v =>
      obtain ⟨l1, rfl⟩ := List.getElem?_eq_some_iff.mp h1
      obtain ⟨l2, rfl⟩ := List.getElem?_eq_some_iff.mp h2
      rw [List.drop_eq_getElem_cons l1, List.drop_eq_getElem_cons l2]
      rfl
/-- the lent cells at the end -/
theorem outs_ok {md : Md} {vs : List V} {σ : St} {g : Gm} (hC : g.C = C) (hP : ∀ i a, g.P i = some a → vs[i]? = some (.ref a)) (hlen : vs.length = md.length) (S : Stt g F' H' σ env) : ∀ {i : Nat} {outs : List PV}, outsAt i (md.drop i) env = some outs → OutsOk C F' H' (lentV (md.drop i) (vs.drop i)) outs := by
  intro i
  generalize hr : md.length - i = r
  induction r generalizing i with
  | zero =>
    intro outs h
    have hd : md.drop i = [] := List.drop_eq_nil_of_le (by omega)
    rw [hd] at h ⊢
    cases h
    cases vs.drop i <;> rfl
  | succ r ih =>
    intro outs h
    have hi : i < md.length := by omega
    have e1 : md[i]? = some md[i] := List.getElem?_eq_getElem hi
    have e2 : vs[i]? = some vs[i] := List.getElem?_eq_getElem (by omega)
    rw [lentV_drop, e1, e2]
    dsimp only
    rw [List.drop_eq_getElem_cons hi] at h
    unfold outsAt at h
    split at h
    · rename_i hm
      rw [if_pos hm]
      split at h
      · rename_i q r' h1 h2
        cases h
        obtain ⟨a, z1, z2, z3, z4⟩ := S.ow i _ q h1
        rw [if_neg Bool.false_ne_true] at z4
        have := hP i a z4
        rw [e2] at this
        have this := Option.some.inj this
        exact ⟨q, r', a, rfl, this, by rw [← hC]; exact z2, z3, ih (i := i + 1) (by omega) h2⟩
      · cases h
    · rename_i hm
      rw [if_neg hm]
      exact ih (i := i + 1) (by omega) h
end
end VL
set_option maxRecDepth 100000
set_option maxHeartbeats 2000000
namespace VL
open PySem PySem.Spec L2
open PyProof.Rows hiding St
section
variable {C : Ct} {F H F' H' : Hp} {env : Env'}
theorem callG_P {md : Md} {vs : List V} : ∀ i a, (callG C F H md vs).P i = some a → vs[i]? = some (.ref a) := fun i a h => by
  unfold callG at h
  dsimp only at h
  split at h
  · rename_i a' h1 h2
    cases h; exact h2
  · cases h
/-- the end of a call, from the callee's state -/
theorem call_end {md : Md} {vs : List V} {σ : St} {x : Val} {v : V} {outs : List PV} {Q : VK} (hlen : vs.length = md.length) (S : Stt (callG C F H md vs) F' H' σ env) (rv : RV (callG C F H md vs) F' H' σ env x v) (hx : ∀ i, x ≠ .bor i) (ho : outsAt 0 md env = some outs)
    (k : ∀ F' H' v, Ex F F' → (∀ b o, F' b = some o → F b = some o ∨ Nw H b o) → Le F' H' → LamX.Tabs C.T H' → (∀ b o, H b = some o → V.ref b ∉ lentV md vs → Kpt o (H' b)) → OutsOk C F' H' (lentV md vs) outs → RVc C F' H H' x v → Q v H') : Q v H' := by
  refine k F' H' v S.ext S.fresh S.sub S.tab (fun b o q n => S.frame b o q fun ⟨i, z⟩ => n ?_) ?_ ?_
  · have h1 := callG_P i b z
    unfold callG at z
    dsimp only at z
    split at z
    · rename_i a' e1 e2
      cases z
      have hm : md[i]? = some true := e1
      have : ∀ {ms : Md} {vs : List V} {i : Nat} {v : V}, ms[i]? = some true → vs[i]? = some v → v ∈ lentV ms vs := by
        intro ms
        induction ms with
        | nil => intro vs i v h; simp at h
        | cons m ms ih =>
          intro vs i v h h2
          cases vs with
          | nil => simp at h2
          | cons w vs =>
            cases i with
            | zero => simp at h h2; subst h; subst h2; simp [lentV]
            | succ i =>
              have := ih (by simpa using h) (by simpa using h2)
              unfold lentV
              split
              · exact List.mem_cons_of_mem _ this
              · exact this
      exact this hm h1
    · cases z
  · have := outs_ok (C := C) (g := callG C F H md vs) rfl callG_P hlen S (i := 0) (outs := outs) (by simpa using ho)
    simpa using this
  · cases x with
    | fz p => exact rv
    | bor i => exact (hx i rfl).elim
    | new p =>
      obtain ⟨a, e1, e2, e3, e4, _⟩ := rv
      exact ⟨a, e1, e2, e3, e4⟩
/-- a body keeps the promise -/
theorem body_ok {N : List Str} {md : Md} {vs : List V} {d : Env' → Res Fl} {H : Hp} {Q : VK} {E : XK} (hn : md.length ≤ N.length) (h : SpV C md (callFn N.length md d) vs H Q E) :
    ∃ F, tS (callG C F H md vs) d { nx := fun _ H' => Q .non H', rt := Q } (L2.start N vs) H := by
  obtain ⟨F, args, x, outs, l, tb, a, nd, e, k⟩ := h
  obtain ⟨l1, l2⟩ := a.len
  refine ⟨F, F, _, Stt.entry l tb a nd hn, ?_⟩
  unfold callFn at e
  cases q : d (VL.entry N.length md args) with
  | bad => rw [q] at e; cases e
  | err y e' => rw [q] at e; cases e
  | ok f e' =>
    rw [q] at e
    cases f with
    | bk => cases e
    | ct => cases e
    | nx =>
      dsimp only at e
      split at e
      · rename_i outs' ho
        cases e
        exact fun F' H' σ' x1 S => call_end (x := .fz .non) (v := .non) l2 S (by show R _ _ _ _; unfold R; rfl) (fun i z => by cases z) ho k
      · cases e
    | rt y =>
      cases y with
      | bor i => cases e
      | fz p =>
        dsimp only at e
        split at e
        · rename_i outs' ho
          cases e
          exact fun F' H' σ' v x1 S rv => call_end l2 S rv (fun i z => by cases z) ho k
        · cases e
      | new p =>
        dsimp only at e
        split at e
        · rename_i outs' ho
          cases e
          exact fun F' H' σ' v x1 S rv => call_end l2 S rv (fun i z => by cases z) ho k
        · cases e
theorem SpV.len {md : Md} {fn : List PV → FR} : ∀ vs H Q E, SpV C md fn vs H Q E → vs.length = md.length := fun vs H Q E ⟨F, args, x, outs, l, _, a, _⟩ => a.len.2
/-- THE RULE: a def by its body -/
theorem fnV {P : Program} {w : World} {K : PySem.W.Frag} {mg : Str → Option Value} {base : Heap} {x qual : Str} {params : Arguments} {body : List Stmt} {scope : Scope} {dvs : List V} {kws : List (Str × V)} {f : Addr} {fd : FuncData} {N ps : List Str} {md : Md} {k : Nat} {d : Env' → Res Fl}
    (Fd : FunD K x qual params body scope dvs kws f fd) (S : FnScope N ps scope) (hmd : md.length = ps.length) (hn : md.length ≤ N.length) (hK : C.K = K)
    (hb : ∀ (cdv : Value) (A : Around) (outer : List Env) (s : Shared) (H : Hp) (E : XK) (g : Gm), g.C = C → Room k (cxOf C8.CX0 P w K mg base N qual scope f cdv A outer s H E).nox.A → Ok (cxOf C8.CX0 P w K mg base N qual scope f cdv A outer s H E).nox g →
      PSs (cxOf C8.CX0 P w K mg base N qual scope f cdv A outer s H E).nox body (tS g d)) : FnOk P w K mg base C8.CX0 (k + 1) f fd ps (SpV C md (callFn N.length md d)) := by
  refine Fd.ok S (fun vs H Q E h => by rw [SpV.len vs H Q E h, hmd]) fun cdv A outer s H vs Q E hr h => ?_
  obtain ⟨F, q⟩ := body_ok (E := E) hn h
  exact ⟨_, PSs.nox (hb cdv A outer s H E (callG C F H md vs) rfl hr ⟨hK, by have := hr.un; show A.units + 3 + 65 < cLine; have : (A.deeper (envOfC qual scope s.heap.objs.size f cdv)).units = A.units + 3 := rfl; omega, rfl⟩), q⟩
end
def prep : Md → List Val → Env' → Res (List PV)
  | false :: ms, x :: xs, e => (frz x e).bind fun p e1 => (prep ms xs e1).bind fun ps e2 => .ok (p :: ps) e2
  | true :: ms, .bor i :: xs, e => (prep ms xs e).bind fun ps e2 => match e2[i]? with
    | some (.ow _ p) => .ok (p :: ps) e2
    | _ => .bad
  | [], [], e => .ok [] e
  | _, _, _ => .bad
/-- the lent slots -/
def lentI : Md → List Val → List Nat
  | true :: ms, .bor i :: xs => i :: lentI ms xs
  | _ :: ms, _ :: xs => lentI ms xs
  | _, _ => []
def putOuts : List Nat → List PV → Env' → Option Env'
  | [], [], e => some e
  | i :: is, q :: qs, e => match e[i]? with
    | some (.ow b _) => putOuts is qs (e.set i (.ow b q))
    | _ => none
  | _, _, _ => none
def callK (md : Md) (fn : List PV → FR) (xs : List Val) (e : Env') : Res Val := (prep md xs e).bind fun ps e2 => if (lentI md xs).Nodup then match fn ps with
  | .ok (.fz p) outs => (match putOuts (lentI md xs) outs e2 with
    | some e3 => .ok (.fz p) e3
    | none => .bad)
  | .ok (.new p) outs => (match putOuts (lentI md xs) outs e2 with
    | some e3 => .ok (.new p) e3
    | none => .bad)
  | _ => .bad else .bad
def dFn (md : Md) (fn : List PV → FR) (dps : List PV) (ds : List (Env' → Res Val)) : Env' → Res Val := fun e => (dArgs ds e).bind fun xs e1 => callK md fn (xs ++ dps.map Val.fz) e1
section
variable {X : Cx} {g : Gm} {pins : List (Addr × Obj)} {F H F' H' : Hp} {σ : St} {env env' : Env'} {s : Shared}
theorem prep_noerr : ∀ {md : Md} {xs : List Val} {env : Env'} {y : Exc'} {e : Env'}, prep md xs env ≠ .err y e
  | [], [], env, y, e, h => by unfold prep at h; cases h
  | [], x :: xs, env, y, e, h => by unfold prep at h; cases h
  | false :: ms, [], env, y, e, h => by unfold prep at h; cases h
  | true :: ms, [], env, y, e, h => by unfold prep at h; cases h
  | false :: ms, x :: xs, env, y, e, h => by
    unfold prep at h
    cases q : frz x env with
    | bad => rw [q] at h; cases h
    | err z e' => exact frz_noerr q
    | ok p e1 =>
      rw [q] at h
      cases q2 : prep ms xs e1 with
      | bad => simp only [Res.bind, q2] at h; cases h
      | err z e' => exact prep_noerr q2
      | ok ps e2 => simp only [Res.bind, q2] at h; cases h
  | true :: ms, .fz p :: xs, env, y, e, h => by unfold prep at h; cases h
  | true :: ms, .new p :: xs, env, y, e, h => by unfold prep at h; cases h
  | true :: ms, .bor i :: xs, env, y, e, h => by
    unfold prep at h
    cases q2 : prep ms xs env with
    | bad => rw [q2] at h; cases h
    | err z e' => exact prep_noerr q2
    | ok ps e2 =>
      rw [q2] at h
      simp only [Res.bind] at h
      split at h <;> cases h
/-- the arguments handed over -/
theorem prep_ok : ∀ {md : Md} {xs : List Val} {vs : List V} {F H : Hp} {env : Env'} {ps : List PV} {env' : Env'}, AllOld xs → Stt g F H σ env → RVs g F H σ env xs vs → prep md xs env = .ok ps env' →
    ∃ F', Ex F F' ∧ Stt g F' H σ env' ∧ ArgsOk g.C F' H md ps vs ∧ lentV md vs = (lentI md xs).map (fun i => match σ[i]? with | some (some v) => v | _ => .non) ∧ ∀ i ∈ lentI md xs, isOw i env' = true
  | [], [], vs, F, H, env, ps, env', o, S, r, h => by
    unfold prep at h; cases h
    cases (show vs = [] from r)
    exact ⟨F, Ex.refl F, S, ⟨rfl, rfl⟩, rfl, fun i hi => by cases hi⟩
  | [], x :: xs, vs, F, H, env, ps, env', o, S, r, h => by unfold prep at h; cases h
  | false :: ms, [], vs, F, H, env, ps, env', o, S, r, h => by unfold prep at h; cases h
  | true :: ms, [], vs, F, H, env, ps, env', o, S, r, h => by unfold prep at h; cases h
  | false :: ms, x :: xs, vs, F, H, env, ps, env', o, S, r, h => by
    unfold prep at h
    obtain ⟨v, t, rfl, r1, r2⟩ := r
    cases q : frz x env with
    | bad => rw [q] at h; cases h
    | err z e' => exact (frz_noerr q).elim
    | ok p e1 =>
      rw [q] at h
      cases q2 : prep ms xs e1 with
      | bad => simp only [Res.bind, q2] at h; cases h
      | err z e' => exact (prep_noerr q2).elim
      | ok ps' e2 =>
        simp only [Res.bind, q2] at h
        cases h
        obtain ⟨F1, x1, S1, rp⟩ := frz_ok S r1 q
        obtain ⟨F2, x2, S2, a, hl, hw⟩ := prep_ok o.2 S1 (RVs.later o.2 r2 x1) q2
        have hli : lentI (false :: ms) (x :: xs) = lentI ms xs := by cases x <;> rfl
        refine ⟨F2, x1.trans x2, S2, ⟨p, ps', v, t, rfl, rfl, ?_, a⟩, ?_, ?_⟩
        · rw [if_neg Bool.false_ne_true]; exact rp.mono x2.le
        · rw [hli]; unfold lentV; rw [if_neg Bool.false_ne_true]; exact hl
        · rw [hli]; exact hw
  | true :: ms, .fz p :: xs, vs, F, H, env, ps, env', o, S, r, h => by unfold prep at h; cases h
  | true :: ms, .new p :: xs, vs, F, H, env, ps, env', o, S, r, h => by unfold prep at h; cases h
  | true :: ms, .bor i :: xs, vs, F, H, env, ps, env', o, S, r, h => by
    unfold prep at h
    obtain ⟨v, t, rfl, r1, r2⟩ := r
    cases q2 : prep ms xs env with
    | bad => rw [q2] at h; cases h
    | err z e' => exact (prep_noerr q2).elim
    | ok ps' e2 =>
      rw [q2] at h
      simp only [Res.bind] at h
      split at h
      · rename_i b p hi
        cases h
        obtain ⟨F2, x2, S2, a, hl, hw⟩ := prep_ok o.2 S r2 q2
        obtain ⟨ad, e1, e2, e3, _⟩ := S2.ow i b p hi
        have r1 : σ[i]? = some (some v) := r1
        rw [r1] at e1; cases e1
        refine ⟨F2, x2, S2, ⟨p, ps', _, t, rfl, rfl, ?_, a⟩, ?_, fun j hj => ?_⟩
        · rw [if_pos rfl]; exact ⟨ad, rfl, e2, e3⟩
        · unfold lentV lentI
          rw [if_pos rfl, List.map_cons, r1, hl]
        · rcases List.mem_cons.mp hj with z | z
          · subst z; unfold isOw; rw [hi]
          · exact hw j z
      · cases h
theorem putOuts_at : ∀ {is : List Nat} {qs : List PV} {e e' : Env'}, putOuts is qs e = some e' → e'.length = e.length ∧ ∀ (j : Nat) (x : Sl), e'[j]? = some x → (j ∉ is ∧ e[j]? = some x) ∨ (j ∈ is ∧ ∃ b p q, e[j]? = some (.ow b p) ∧ x = .ow b q)
  | [], [], e, e', h => by
    unfold putOuts at h; cases h
    exact ⟨rfl, fun j x hx => .inl ⟨by simp, hx⟩⟩
  | [], q :: qs, e, e', h => by unfold putOuts at h; cases h
  | i :: is, [], e, e', h => by unfold putOuts at h; cases h
  | i :: is, q :: qs, e, e', h => by
    unfold putOuts at h
    split at h
    · rename_i b p hi
      obtain ⟨h1, h2⟩ := putOuts_at h
      refine ⟨by rw [h1]; simp, fun j x hx => ?_⟩
      rcases h2 j x hx with ⟨n, z⟩ | ⟨m, b', p', q', z, e2⟩
      · rcases getElem?_set_cases z with ⟨e1, e2, _⟩ | ⟨ne, z'⟩
        · subst e1
          exact .inr ⟨List.mem_cons_self .., b, p, q, hi, e2.symm⟩
        · refine .inl ⟨fun z2 => ?_, z'⟩
          rcases List.mem_cons.mp z2 with z3 | z3
          · exact ne z3.symm
          · exact n z3
      · rcases getElem?_set_cases z with ⟨e1, e3, _⟩ | ⟨ne, z'⟩
        · subst e1
          cases e3
          exact .inr ⟨List.mem_cons_self .., b, p, q', hi, e2⟩
        · exact .inr ⟨List.mem_cons_of_mem _ m, b', p', q', z', e2⟩
    · cases h
def vAt (σ : St) (i : Nat) : V := match σ[i]? with | some (some v) => v | _ => .non
theorem putOuts_r1 {C : Ct} : ∀ {is : List Nat} {qs : List PV} {e e' : Env'}, is.Nodup → putOuts is qs e = some e' → OutsOk C F' H' (is.map (vAt σ)) qs → ∀ j ∈ is, ∃ b p q a, e[j]? = some (.ow b p) ∧ e'[j]? = some (.ow b q) ∧ vAt σ j = .ref a ∧ R1 C F' H' q a ∧ F' a = none
  | [], qs, e, e', nd, h, o, j, hj => by cases hj
  | i :: is, [], e, e', nd, h, o, j, hj => by unfold putOuts at h; cases h
  | i :: is, q :: qs, e, e', nd, h, o, j, hj => by
    unfold putOuts at h
    obtain ⟨hn, nd'⟩ := List.nodup_cons.mp nd
    split at h
    · rename_i b p hi
      obtain ⟨q', qr, a, e1, e2, e3, e4, o'⟩ := o
      cases e1
      by_cases hji : j = i
      · subst hji
        obtain ⟨hl, hat⟩ := putOuts_at h
        have hlt : j < e.length := (List.getElem?_eq_some_iff.mp hi).1
        have hs : (e.set j (.ow b q))[j]? = some (.ow b q) := List.getElem?_set_self hlt
        have : e'[j]? = some (.ow b q) := by
          cases z : e'[j]? with
          | none =>
            rw [List.getElem?_eq_none_iff, hl] at z
            simp at z; omega
          | some y =>
            rcases hat j y z with ⟨_, w⟩ | ⟨w, _⟩
            · rw [hs] at w; exact w.symm
            · exact (hn w).elim
        exact ⟨b, p, q, a, hi, this, e2, e3, e4⟩
      · have hj' : j ∈ is := by
          rcases List.mem_cons.mp hj with z | z
          · exact absurd z hji
          · exact z
        obtain ⟨b', p', q', a', z1, z2, z3⟩ := putOuts_r1 nd' h o' j hj'
        rw [List.getElem?_set_ne (Ne.symm hji)] at z1
        exact ⟨b', p', q', a', z1, z2, z3⟩
    · cases h
/-- the state behind a call -/
theorem Stt.after {is : List Nat} {outs : List PV} {e3 : Env'} (S : Stt g F H σ env) (hw : ∀ i ∈ is, isOw i env = true) (nd : is.Nodup) (x1 : Ex F F') (fr : ∀ b o, F' b = some o → F b = some o ∨ Nw H b o) (l : Le F' H') (tb : LamX.Tabs g.C.T H')
    (keep : ∀ b o, H b = some o → V.ref b ∉ is.map (vAt σ) → Kpt o (H' b)) (oo : OutsOk g.C F' H' (is.map (vAt σ)) outs) (hp : putOuts is outs env = some e3) : Stt g F' H' σ e3 := by
  obtain ⟨hl, hat⟩ := putOuts_at hp
  have own : ∀ i ∈ is, ∃ b p a, env[i]? = some (.ow b p) ∧ σ[i]? = some (some (.ref a)) ∧ vAt σ i = .ref a ∧ (if b = true then g.H0 a = none else g.P i = some a) := fun i hi => by
    obtain ⟨b, q, a, e1, e2, e3⟩ := isOw_at S (hw i hi)
    obtain ⟨a', f1, f2, f3, f4⟩ := S.ow i b q e1
    rw [e2] at f1; cases f1
    exact ⟨b, q, a, e1, e2, by unfold vAt; rw [e2], f4⟩
  have notl : ∀ {b : Addr} {o : HO}, g.H0 b = some o → ¬ g.O b → V.ref b ∉ is.map (vAt σ) := fun {b o} q n z => by
    obtain ⟨i, hi, e⟩ := List.mem_map.mp z
    obtain ⟨f, p, a, e1, e2, e3, e4⟩ := own i hi
    rw [e3] at e; cases e
    cases f with
    | true => rw [if_pos rfl, q] at e4; cases e4
    | false => rw [if_neg Bool.false_ne_true] at e4; exact n ⟨i, e4⟩
  have r1 := putOuts_r1 (C := g.C) nd hp oo
  refine ⟨by rw [hl]; exact S.len, fun b o q n => (S.frame b o q n).trans fun o' q' => keep b o' q' (notl q n), fun b hb => ?_, S.ext.trans x1, fun b o q => ?_, l, fun i p q => ?_, fun i b p q => ?_, fun i j b c p q a hi hj e1 e2 => ?_, tb⟩
  · obtain ⟨o, q⟩ := S.live b hb
    by_cases z : V.ref b ∈ is.map (vAt σ)
    · obtain ⟨i, hi, e⟩ := List.mem_map.mp z
      obtain ⟨f, p, q', a, e1, e2, e3, e4, e5⟩ := r1 i hi
      rw [e3] at e; cases e
      exact e4.cell
    · exact (keep b o q z).some
  · rcases fr b o q with z | z
    · exact S.fresh b o z
    · exact .inr (S.sub_newN z)
  · rcases hat i _ q with ⟨_, z⟩ | ⟨_, b, p', q', _, z⟩
    · obtain ⟨v, h1, h2⟩ := S.fz i p z
      exact ⟨v, h1, h2.mono x1.le⟩
    · cases z
  · rcases hat i _ q with ⟨ni, z⟩ | ⟨mi, b', p', q', z, z2⟩
    · obtain ⟨a, h1, h2, h3, h4⟩ := S.ow i b p z
      obtain ⟨o, ho⟩ := h2.cell
      have hn : V.ref a ∉ is.map (vAt σ) := fun w => by
        obtain ⟨j, hj, e⟩ := List.mem_map.mp w
        obtain ⟨f, p2, a2, e1, e2, e3, e4⟩ := own j hj
        rw [e3] at e; cases e
        have := S.inj i j _ _ _ _ a z e1 h1 e2
        exact ni (this ▸ hj)
      refine ⟨a, h1, h2.mono x1.le (((keep a o ho hn).eq (h2.pln ho).1).trans ho.symm), ?_, h4⟩
      cases w : F' a with
      | none => rfl
      | some o' =>
        rcases fr a o' w with z | z
        · rw [h3] at z; cases z
        · exact (nw_no l w z ho ((keep a o ho hn).eq (h2.pln ho).1) (h2.pln ho).2.2).elim
    · cases z2
      obtain ⟨f, p2, q2, a2, e1, e2, e3, e4, e5⟩ := r1 i mi
      rw [q] at e2; cases e2
      obtain ⟨f', p3, a3, g1, g2, g3, g4⟩ := own i mi
      rw [e3] at g3; cases g3
      rw [e1] at g1; cases g1
      rw [z] at e1; cases e1
      exact ⟨_, g2, e4, e5, g4⟩
  · have back : ∀ {i : Nat} {b : Bool} {p : PV}, e3[i]? = some (.ow b p) → ∃ b p, env[i]? = some (.ow b p) := fun {i b p} h => by
      rcases hat i _ h with ⟨_, z⟩ | ⟨_, b, p', q', z, _⟩
      · exact ⟨_, _, z⟩
      · exact ⟨_, _, z⟩
    obtain ⟨_, _, h1⟩ := back hi
    obtain ⟨_, _, h2⟩ := back hj
    exact S.inj i j _ _ _ _ a h1 h2 e1 e2
theorem nodup_map {α β : Type} {f : α → β} : ∀ {l : List α}, (∀ i ∈ l, ∀ j ∈ l, f i = f j → i = j) → l.Nodup → (l.map f).Nodup
  | [], _, _ => List.nodup_nil
  | x :: l, h, nd => by
    obtain ⟨n1, n2⟩ := List.nodup_cons.mp nd
    rw [List.map_cons, List.nodup_cons]
    refine ⟨fun z => ?_, nodup_map (fun i hi j hj => h i (List.mem_cons_of_mem _ hi) j (List.mem_cons_of_mem _ hj)) n2⟩
    obtain ⟨y, hy, e⟩ := List.mem_map.mp z
    have := h y (List.mem_cons_of_mem _ hy) x (List.mem_cons_self ..) e
    exact n1 (this ▸ hy)
/-- a call, from the caller's state -/
theorem call_go {md : Md} {fn : List PV → FR} {xs : List Val} {vs : List V} {Q : VK} (o : AllOld xs) (S : Stt g F H σ env) (r : RVs g F H σ env xs vs) (go : Go g F σ (callK md fn xs env) fun x env' F' H' => ∀ v, RV g F' H' σ env' x v → Q v H') (E : XK) : SpV g.C md fn vs H Q E := by
  unfold callK at go
  cases hp : prep md xs env with
  | bad => rw [hp] at go; exact go.elim
  | err y e => exact (prep_noerr hp).elim
  | ok ps ee =>
    rw [hp] at go
    have go : Go g F σ (if (lentI md xs).Nodup then _ else _) _ := go
    split at go
    · rename_i nd
      obtain ⟨F1, x1, S1, a, hl, hw⟩ := prep_ok o S r hp
      have hl : lentV md vs = (lentI md xs).map (vAt σ) := hl
      have ndv : (lentV md vs).Nodup := by
        rw [hl]
        refine nodup_map (fun i hi j hj e => ?_) nd
        obtain ⟨b, q, ad, e1, e2, _⟩ := isOw_at S1 (hw i hi)
        obtain ⟨b', q', ad', f1, f2, _⟩ := isOw_at S1 (hw j hj)
        have h1 : vAt σ i = .ref ad := by unfold vAt; rw [e2]
        have h2 : vAt σ j = .ref ad' := by unfold vAt; rw [f2]
        rw [h1, h2] at e
        cases e
        exact S1.inj i j _ _ _ _ ad e1 f1 e2 f2
      cases hf : fn ps with
      | bad => rw [hf] at go; exact go.elim
      | ok x outs =>
        rw [hf] at go
        refine ⟨F1, ps, x, outs, S1.sub, S1.tab, a, ndv, hf, fun F' H' v x2 fr l tb keep oo rv => ?_⟩
        rw [hl] at keep oo
        cases x with
        | bor i => exact go.elim
        | fz p =>
          dsimp only at go
          split at go
          · rename_i e3 hp3
            exact go F' H' (x1.trans x2) (S1.after hw nd x2 fr l tb keep oo hp3) v rv
          · exact go.elim
        | new p =>
          dsimp only at go
          split at go
          · rename_i e3 hp3
            have S3 := S1.after hw nd x2 fr l tb keep oo hp3
            refine go F' H' (x1.trans x2) S3 v ?_
            obtain ⟨ad, e1, e2, e3', e4⟩ := rv
            refine ⟨ad, e1, e2, e3', S1.sub_new e4, fun i b q hi hv => ?_⟩
            have hb : ∃ b p, ee[i]? = some (.ow b p) := by
              obtain ⟨_, hat⟩ := putOuts_at hp3
              rcases hat i _ hi with ⟨_, z⟩ | ⟨_, b, p', q', z, _⟩
              · exact ⟨_, _, z⟩
              · exact ⟨_, _, z⟩
            obtain ⟨b', p', hb⟩ := hb
            obtain ⟨a2, f1, f2, _⟩ := S1.ow i b' p' hb
            rw [hv] at f1; cases f1
            obtain ⟨o', ho'⟩ := f2.cell
            rw [e4] at ho'; cases ho'
          · exact go.elim
    · exact go.elim
section
variable {k j : Nat} {x m : Str} {md : Md} {fn : List PV → FR} {dvs : List V} {dps : List PV} {p pos apos : Pos} {e o : Expr} {es : List Expr} {ds : List (Env' → Res Val)}
theorem dps_rvs : ∀ {dps : List PV} {dvs : List V}, (∀ F, Rs g.C F dps dvs) → RVs g F H σ env (dps.map Val.fz) dvs
  | [], dvs, h => (h F).nil_inv
  | d :: dps, dvs, h => by
    obtain ⟨v, r, rfl, _, _⟩ := (h F).cons_inv
    refine ⟨v, r, rfl, ?_, dps_rvs fun F => ?_⟩
    · obtain ⟨v', r', e, h1, _⟩ := (h F).cons_inv
      cases e; exact h1
    · obtain ⟨v', r', e, _, h2⟩ := (h F).cons_inv
      cases e; exact h2
theorem RVs.append : ∀ {xs ys : List Val} {vs ws : List V}, RVs g F H σ env xs vs → RVs g F H σ env ys ws → RVs g F H σ env (xs ++ ys) (vs ++ ws)
  | [], ys, vs, ws, h, t => by
    cases (show vs = [] from h); exact t
  | x :: xs, ys, vs, ws, h, t => by
    obtain ⟨v, r, rfl, h1, h2⟩ := h
    exact ⟨v, r ++ ws, rfl, h1, RVs.append h2 t⟩
theorem AllOld.append : ∀ {xs ys : List Val}, AllOld xs → AllOld ys → AllOld (xs ++ ys)
  | [], ys, _, t => t
  | x :: xs, ys, h, t => ⟨h.1, AllOld.append h.2 t⟩
theorem dps_old : ∀ {dps : List PV}, AllOld (dps.map Val.fz)
  | [] => trivial
  | d :: dps => ⟨trivial, dps_old⟩
/-- f(e, ..) -/
theorem se_fn (c : C8.Cal X.prog X.w X.K X.mg X.base k x (SpV g.C md fn) dvs) (hr : Room j X.A) (hk : k ≤ j) (hg : Gl X x) (hd : ∀ F, Rs g.C F dps dvs) (ha : PA X (e :: es) (tAs g (dArgs ds)))
    (hdb : (x == ("__debug__" : Str)) = false) (he : starEach (e :: es) X.env = (false, eval e X.env) :: starEach es X.env) (hpl : (backTo pos (starEach es X.env)).any (·.1) = false) :
    PE X (.Call (.Name x p) (e :: es) [] pos) (tE g (dFn md fn dps ds)) :=
  peImp (C8.pe_c c hr hk hg ha hdb he hpl) fun σ H Q ⟨F, env, S, go⟩ => ⟨F, env, S, (Go.bind go).mono fun xs e1 F1 H1 x1 S1 k vs o r =>
    call_go (AllOld.append o dps_old) S1 (RVs.append r (dps_rvs hd)) k C8.E0⟩
theorem Go.withEq {α : Type} {r : Res α} {K : α → Env' → Hp → Hp → Prop} (h : Go g F σ r K) : Go g F σ r fun x e F' H' => r = .ok x e ∧ K x e F' H' := by
  cases r with
  | bad => exact h
  | err y e => exact h
  | ok x e => exact fun F' H' a b => ⟨rfl, h F' H' a b⟩
theorem stl_ok {d : Env' → Res Val} {x : Val} {e : Env'} (h : stl d env = .ok x e) : x.old := by
  unfold stl at h
  cases q : d env with
  | bad => rw [q] at h; cases h
  | err y e => rw [q] at h; cases h
  | ok y e =>
    rw [q] at h
    cases h
    exact Val.stl_old y
/-- o.m(e, ..), o of the own class c -/
def insAt (c : Nat) (n : Nat) (x : Val) (e : Env') : Bool := match peek x e with
  | some (.ins c' vs) => decide (c' = c)
  | _ => false
def dMt (c : Nat) (md : Md) (fn : List PV → FR) (dps : List PV) (da : Env' → Res Val) (ds : List (Env' → Res Val)) : Env' → Res Val := fun e => (stl da e).bind fun x e1 => if insAt c 0 x e1 = true then (dArgs ds e1).bind fun xs e2 => callK md fn (x :: (xs ++ dps.map Val.fz)) e2 else .bad
theorem insAt_is {c : Nat} {x : Val} {v : V} (S : Stt g F H σ env) (r : RV g F H σ env x v) (h : insAt c 0 x env = true) : ∃ a dx fs vs, v = .ref a ∧ H a = some (.ins (g.C.ad c) dx fs) ∧ fs.map Prod.fst = (g.C.fl c).take vs := by
  unfold insAt at h
  cases e : peek x env with
  | none => rw [e] at h; cases h
  | some p =>
    rw [e] at h
    cases p with
    | ins c' vs =>
      have hc : c' = c := of_decide_eq_true h
      subst hc
      obtain ⟨a, dx, fs, h1, h2, h3, _⟩ := peek_ok S r e
      exact ⟨a, dx, fs, vs.length, h1, h2, h3⟩
    | _ => cases h
theorem no_lookup {fs : List (Str × V)} {m : Str} {l : List Str} {n : Nat} (h : fs.map Prod.fst = l.take n) (hm : m ∉ l) : fs.lookup m = none := by
  rw [List.lookup_eq_none_iff]
  intro y hy
  have : y.1 ∈ fs.map Prod.fst := List.mem_map_of_mem hy
  rw [h] at this
  have := List.mem_of_mem_take this
  simp
  exact fun z => hm (z ▸ this)
/-- o.m(e, ..), o of the own class c -/
theorem se_mt {pl : Sem Bool} {c : Nat} (cm : C8.Met X.prog X.w X.K X.mg X.base k (g.C.ad c) m (SpV g.C md fn) dvs) (hr : Room j X.A) (hk : k ≤ j) (hd : ∀ F, Rs g.C F dps dvs) (hmf : m ∉ g.C.fl c) (ho : PE X o (tE g da)) (ha : PA X (e :: es) (tAs g (dArgs ds)))
    (hst : starEach (e :: es) X.env = (false, eval e X.env) :: starEach es X.env) (hpl : (backTo pos (starEach es X.env)).any (·.1) = false)
    (ht : eval (.Call (.Attribute o m apos) (e :: es) [] pos) X.env = (do
      let ov ← eval o X.env
      standAt apos.atName
      let (f, first) ← holding [ov] (getMethod ov m pl)
      callWith pos f first (backTo pos (starEach (e :: es) X.env)) (backToKw pos (keywordEach [] X.env)))) :
    PE X (.Call (.Attribute o m apos) (e :: es) [] pos) (tE g (dMt c md fn dps da ds)) := by
  refine peImp (C8.pe_mt (pl := pl) cm hr hk (peStl ho) ha hst hpl ht) fun σ H Q ⟨F, env, S, go⟩ => ⟨F, env, S, (Go.withEq (Go.bind go)).mono fun x e1 F1 H1 x1 S1 k v r => ?_⟩
  obtain ⟨hxo, k⟩ := k
  have hxo := stl_ok hxo
  split at k
  · rename_i hi
    obtain ⟨a, dx, fs, n, rfl, h2, h3⟩ := insAt_is S1 r hi
    refine ⟨a, dx, fs, rfl, h2, no_lookup h3 hmf, F1, e1, S1, (Go.bind k).mono fun xs e2 F2 H2 x2 S2 k2 vs o2 r2 => ?_⟩
    exact call_go (xs := x :: (xs ++ dps.map Val.fz)) (vs := .ref a :: (vs ++ dvs)) ⟨hxo, AllOld.append o2 dps_old⟩ S2 ⟨_, _, rfl, r.later hxo x2, RVs.append r2 (dps_rvs hd)⟩ k2 C8.E0
  · exact k.elim
def mkK (c : Nat) (md : Md) (fn : List PV → FR) (xs : List Val) (e : Env') : Res Val := (prep md xs e).bind fun ps e2 => if (lentI md xs).Nodup then match fn (.ins c [] :: ps) with
  | .ok (.fz .non) (q :: outs) => (match putOuts (lentI md xs) outs e2 with
    | some e3 => .ok (.new q) e3
    | none => .bad)
  | _ => .bad else .bad
/-- md: of what is written (self is lent) -/
def dMk (c : Nat) (md : Md) (fn : List PV → FR) (dps : List PV) (ds : List (Env' → Res Val)) : Env' → Res Val := fun e => (dArgs ds e).bind fun xs e1 => mkK c md fn (xs ++ dps.map Val.fz) e1
theorem ArgsOk.grow {C : Ct} {F H H' : Hp} (e : Ex H H') : ∀ {md : Md} {ps : List PV} {vs : List V}, ArgsOk C F H md ps vs → ArgsOk C F H' md ps vs
  | [], ps, vs, h => h
  | m :: ms, ps, vs, h => by
    obtain ⟨p, pr, v, vr, h1, h2, hm, h⟩ := h
    refine ⟨p, pr, v, vr, h1, h2, ?_, ArgsOk.grow e h⟩
    split
    · rename_i hh
      rw [if_pos hh] at hm
      obtain ⟨a, e1, e2, e3⟩ := hm
      obtain ⟨o, ho⟩ := e2.cell
      exact ⟨a, e1, e2.mono (Ex.refl F).le ((e a o ho).trans ho.symm), e3⟩
    · rename_i hh
      rw [if_neg hh] at hm
      exact hm
theorem make_go {c : Nat} {xs : List Val} {vs : List V} {Q : VK} (o : AllOld xs) (S : Stt g F H σ env) (r : RVs g F H σ env xs vs) (go : Go g F σ (mkK c md fn xs env) fun x env' F' H' => ∀ v, RV g F' H' σ env' x v → Q v H') (E : XK)
    {x dx : Addr} (hx : H x = none) (hdx : H dx = none) (hne : dx ≠ x) : SpV g.C (true :: md) fn (.ref x :: vs) (upd (upd H dx (.own x)) x (.ins (g.C.ad c) dx [])) (fun v H2 => v = .non ∧ Q (.ref x) H2) E := by
  have ex : Ex H (upd (upd H dx (.own x)) x (.ins (g.C.ad c) dx [])) := (Ex.new hdx).trans (Ex.new (by rw [upd_ne (Ne.symm hne)]; exact hx))
  unfold mkK at go
  cases hp : prep md xs env with
  | bad => rw [hp] at go; exact go.elim
  | err y e => exact (prep_noerr hp).elim
  | ok ps ee =>
    rw [hp] at go
    have go : Go g F σ (if (lentI md xs).Nodup then _ else _) _ := go
    split at go
    · rename_i nd
      obtain ⟨F1, x1, S1, a, hl, hw⟩ := prep_ok o S r hp
      have hl : lentV md vs = (lentI md xs).map (vAt σ) := hl
      have cellOf : ∀ i ∈ lentI md xs, ∃ ad, vAt σ i = .ref ad ∧ ∃ o, H ad = some o := fun i hi => by
        obtain ⟨b, q, ad, e1, e2, e3⟩ := isOw_at S1 (hw i hi)
        exact ⟨ad, by unfold vAt; rw [e2], e3.cell⟩
      have ndv : (lentV md vs).Nodup := by
        rw [hl]
        refine nodup_map (fun i hi j hj e => ?_) nd
        obtain ⟨b, q, ad, e1, e2, _⟩ := isOw_at S1 (hw i hi)
        obtain ⟨b', q', ad', f1, f2, _⟩ := isOw_at S1 (hw j hj)
        have h1 : vAt σ i = .ref ad := by unfold vAt; rw [e2]
        have h2 : vAt σ j = .ref ad' := by unfold vAt; rw [f2]
        rw [h1, h2] at e
        cases e
        exact S1.inj i j _ _ _ _ ad e1 f1 e2 f2
      have nx : V.ref x ∉ lentV md vs := fun z => by
        rw [hl] at z
        obtain ⟨i, hi, e⟩ := List.mem_map.mp z
        obtain ⟨ad, e1, o', e2⟩ := cellOf i hi
        rw [e1] at e; cases e
        rw [hx] at e2; cases e2
      obtain ⟨n1, n2, n3⟩ := S1.new0 hx
      have S2 := S1.grow ex
      split at go
      · rename_i q outs hf
        split at go
        · rename_i e3 hp3
          have hlv : lentV (true :: md) (.ref x :: vs) = .ref x :: lentV md vs := rfl
          refine ⟨F1, .ins c [] :: ps, .fz .non, q :: outs, S2.sub, S2.tab, ⟨_, _, _, _, rfl, rfl, ?_, a.grow ex⟩, by rw [hlv]; exact List.nodup_cons.mpr ⟨nx, ndv⟩, hf, fun F' H' v x2 fr l tb keep oo rv => ?_⟩
          · rw [if_pos rfl]
            exact ⟨x, rfl, by simp only [R1]; exact ⟨dx, [], upd_same, rfl, Rs.nil⟩, n1⟩
          · rw [hlv] at keep oo
            obtain ⟨q', qr, ad, e1, e2, e3, e4, oo⟩ := oo
            cases e1; cases e2
            have hH : ∀ b, (upd (upd H dx (.own x)) x (.ins (g.C.ad c) dx [])) b = none → H b = none := fun b hb => by
              cases z : H b with
              | none => rfl
              | some o => rw [ex b o z] at hb; cases hb
            rw [hl] at oo keep
            have S3 := S1.after (F' := F') (H' := H') hw nd x2 (fun b o z => (fr b o z).imp id (Or.imp (hH b) id)) l tb (fun b o z n => keep b o (ex b o z) (fun w => by
              rcases List.mem_cons.mp w with w | w
              · cases w; rw [hx] at z; cases z
              · exact n w)) oo hp3
            have rv : v = .non := by
              have rv : R g.C F' .non v := rv
              unfold R at rv; exact rv
            refine ⟨rv, go F' H' (x1.trans x2) S3 _ ⟨x, rfl, e3, e4, S1.sub_new hx, fun i b q hi hv => ?_⟩⟩
            have hb : ∃ b p, ee[i]? = some (.ow b p) := by
              obtain ⟨_, hat⟩ := putOuts_at hp3
              rcases hat i _ hi with ⟨_, z⟩ | ⟨_, b, p', q', z, _⟩
              · exact ⟨_, _, z⟩
              · exact ⟨_, _, z⟩
            obtain ⟨b', p', hb⟩ := hb
            obtain ⟨a2, f1, f2, _⟩ := S1.ow i b' p' hb
            rw [hv] at f1; cases f1
            obtain ⟨o', ho'⟩ := f2.cell
            rw [hx] at ho'; cases ho'
        · exact go.elim
      · exact go.elim
    · exact go.elim
/-- C(e, ..) -/
theorem se_mk {c : Nat} (cm : C8.Mak X.prog X.w X.K X.mg X.base k x (g.C.ad c) (SpV g.C (true :: md) fn) dvs) (hr : Room j X.A) (hk : k + 1 ≤ j) (hg : Gl X x) (hd : ∀ F, Rs g.C F dps dvs) (ha : PA X (e :: es) (tAs g (dArgs ds)))
    (hdb : (x == ("__debug__" : Str)) = false) (he : starEach (e :: es) X.env = (false, eval e X.env) :: starEach es X.env) (hpl : (backTo pos (starEach es X.env)).any (·.1) = false) :
    PE X (.Call (.Name x p) (e :: es) [] pos) (tE g (dMk c md fn dps ds)) :=
  peImp (C8.pe_mk cm hr hk hg ha hdb he hpl) fun σ H Q ⟨F, env, S, go⟩ => ⟨F, env, S, (Go.bind go).mono fun xs e1 F1 H1 x1 S1 k vs o r x dx hx hdx hne =>
    make_go (AllOld.append o dps_old) S1 (RVs.append r (dps_rvs hd)) k C8.E0 hx hdx hne⟩
end
end
end VL
set_option maxRecDepth 100000
set_option maxHeartbeats 2000000
namespace VL
open PySem PySem.Spec L2
open PyProof.Rows hiding St
end VL
set_option maxRecDepth 100000
set_option maxHeartbeats 2000000
namespace VL
open PySem PySem.Spec L2
open PyProof.Rows hiding St
def isNew : Val → Bool
  | .new _ => true
  | _ => false
def unb (x : Val) (e : Env') : Res Val := match x with
  | .bor _ => (frz x e).bind fun p e' => .ok (.fz p) e'
  | x => .ok x e
def parL : Bool → List (Env' → Res Val) → Env' → Res (List Val)
  | _, [], e => .ok [] e
  | false, d :: ds, e => (d e).bind fun x e1 => (unb x e1).bind fun y e2 => (parL (isNew y) ds e2).bind fun xs e3 => .ok (y :: xs) e3
  | true, d :: ds, e => match d (blkE [] e) with
    | .ok x e1 => (match x with
      | .bor _ => .bad
      | y => (parL true ds (outE [] e e1)).bind fun xs e3 => .ok (y :: xs) e3)
    | _ => .bad
def storeL : List Nat → List Val → Env' → Res Fl
  | [], [], e => .ok .nx e
  | i :: is, .fz p :: xs, e => storeL is xs (e.set i (.fz p))
  | i :: is, .new p :: xs, e => storeL is xs (e.set i (.ow true p))
  | _, _, _ => .bad
def dPar (is : List Nat) (ds : List (Env' → Res Val)) : Env' → Res Fl := fun e => (parL false ds e).bind fun xs e1 => storeL is xs e1
def tAx (C : Ct) : List (Env' → Res Val) → TA
  | [] => tNil
  | d :: ds => tCons (xE C d) (tAx C ds)
def newsOf : List Val → List V → List V
  | x :: xs, v :: vs => if isNew x = true then v :: newsOf xs vs else newsOf xs vs
  | _, _ => []
def noBor : List Val → Prop
  | [] => True
  | .bor _ :: _ => False
  | _ :: xs => noBor xs
structure Held (g : Gm) (F H : Hp) (σ : St) (env : Env') (xs : List Val) (vs : List V) : Prop where
  r : RVs g F H σ env xs vs
  nb : noBor xs
  nd : (newsOf xs vs).Nodup
section
variable {X : Cx} {g : Gm} {pins : List (Addr × Obj)} {F H F' H' F2 H2 : Hp} {σ : St} {env env' e2 : Env'} {s : Shared}
theorem newsOf_append : ∀ {xs : List Val} {vs : List V} {ys : List Val} {ws : List V}, vs.length = xs.length → newsOf (xs ++ ys) (vs ++ ws) = newsOf xs vs ++ newsOf ys ws
  | [], [], ys, ws, _ => by simp [newsOf]
  | x :: xs, v :: vs, ys, ws, h => by
    have ih := newsOf_append (ys := ys) (ws := ws) (show vs.length = xs.length by simpa using h)
    simp only [List.cons_append, newsOf]
    split
    · rw [ih]; rfl
    · exact ih
  | [], v :: vs, ys, ws, h => by simp at h
  | x :: xs, [], ys, ws, h => by simp at h
theorem noBor_append : ∀ {xs ys : List Val}, noBor xs → noBor ys → noBor (xs ++ ys)
  | [], ys, _, h => h
  | .fz p :: xs, ys, h, t => noBor_append (xs := xs) h t
  | .new p :: xs, ys, h, t => noBor_append (xs := xs) h t
  | .bor i :: xs, ys, h, t => h.elim
theorem newsOf_mem {v : V} : ∀ {xs : List Val} {vs : List V}, RVs g F H σ env xs vs → v ∈ newsOf xs vs → ∃ p a, v = .ref a ∧ R1 g.C F H p a ∧ F a = none ∧ g.H0 a = none ∧ ∀ (i : Nat) b q, env[i]? = some (.ow b q) → σ[i]? ≠ some (some (.ref a))
  | [], vs, r, h => by
    cases (show vs = [] from r)
    simp [newsOf] at h
  | x :: xs, vs, r, h => by
    obtain ⟨w, t, rfl, r1, r2⟩ := r
    unfold newsOf at h
    split at h
    · rename_i hx
      rcases List.mem_cons.mp h with z | z
      · subst z
        cases x with
        | new p => obtain ⟨a, e1, e2, e3, e4, e5⟩ := r1; exact ⟨p, a, e1, e2, e3, e4, e5⟩
        | fz p => cases hx
        | bor i => cases hx
      · exact newsOf_mem r2 z
    · exact newsOf_mem r2 h
/-- what is held, while only old things were touched -/
theorem RVs.sub {env2 : Env'} : ∀ {xs : List Val} {vs : List V}, noBor xs → Stt g F H σ env → Stt (subG g F H σ env) F2 H2 σ env2 → RVs g F H σ env xs vs → RVs g F2 H2 σ (outE [] env env2) xs vs
  | [], vs, _, _, _, r => r
  | x :: xs, vs, nb, S, S2, r => by
    obtain ⟨v, t, rfl, r1, r2⟩ := r
    have nb' : noBor xs := by
      cases x with
      | bor i => exact nb.elim
      | fz p => exact nb
      | new p => exact nb
    refine ⟨v, t, rfl, ?_, RVs.sub nb' S S2 r2⟩
    cases x with
    | bor i => exact nb.elim
    | fz p => exact R.mono S2.ext.le r1
    | new p =>
      obtain ⟨a, e1, e2, e3, e4, e5⟩ := r1
      obtain ⟨o, ho⟩ := e2.cell
      have hO : ¬ (subG g F H σ env).O a := fun z => by
        obtain ⟨i, b, p, h1, h2⟩ := subG_O z
        exact e5 i b p h1 h2
      have hH2 : H2 a = some o := (S2.frame a o ho hO).eq (e2.pln ho).1
      refine ⟨a, e1, e2.mono S2.ext.le (hH2.trans ho.symm), ?_, e4, fun i b q hi hv => ?_⟩
      · cases w : F2 a with
        | none => rfl
        | some o' =>
          rcases S2.fresh a o' w with z | z
          · have z : F a = some o' := z
            rw [e3] at z; cases z
          · exact (nw_no S2.sub w z ho hH2 (e2.pln ho).2.2).elim
      · obtain ⟨hl, e⟩ := outE_at hi
        rw [if_neg (by simp)] at e
        obtain ⟨p0, c, h1, h2⟩ := outS_ow e.symm
        exact e5 i b p0 (getD_at h1 (by simp)) hv
theorem RVs.oldF : ∀ {xs : List Val} {vs : List V}, noBor xs → newsOf xs vs = [] → RVs g F H σ env xs vs → Ex F F' → RVs g F' H' σ env' xs vs
  | [], vs, _, _, r, _ => r
  | x :: xs, vs, nb, hn, r, e => by
    obtain ⟨v, t, rfl, r1, r2⟩ := r
    unfold newsOf at hn
    cases x with
    | bor i => exact nb.elim
    | fz p => exact ⟨v, t, rfl, R.mono e.le r1, RVs.oldF nb hn r2 e⟩
    | new p => simp [isNew] at hn
theorem freeS_nil : freeS [] env = true := rfl
theorem parL_go {g : Gm} {σ : St} : ∀ {ds : List (Env' → Res Val)} {h : Bool} {F H : Hp} {env : Env'} {xs0 : List Val} {vs0 : List V} {Q : List V → Hp → Prop}, Stt g F H σ env → Held g F H σ env xs0 vs0 → (h = false → newsOf xs0 vs0 = []) →
    (Go g F σ (parL h ds env) fun xs env' F' H' => ∀ vs, Held g F' H' σ env' (xs0 ++ xs) (vs0 ++ vs) → Q vs H') → tAx g.C ds σ H Q
  | [], h, F, H, env, xs0, vs0, Q, S, hd, hn, go => by
    have e : parL h [] env = .ok [] env := by cases h <;> rfl
    rw [e] at go
    exact go F H (Ex.refl F) S [] (by rw [List.append_nil, List.append_nil]; exact hd)
  | d :: ds, false, F, H, env, xs0, vs0, Q, S, hd, hn, go => by
    refine ⟨g, rfl, F, env, S, ?_⟩
    unfold parL at go
    refine (Go.bind go).mono fun x e1 F1 H1 x1 S1 k v r => ?_
    have hu : ∃ F2 y e2, Ex F1 F2 ∧ Stt g F2 H1 σ e2 ∧ RV g F2 H1 σ e2 y v ∧ noBor [y] ∧ Go g F2 σ ((parL (isNew y) ds e2).bind fun xs e3 => .ok (y :: xs) e3) fun xs env' F' H' => ∀ vs, Held g F' H' σ env' (xs0 ++ xs) (vs0 ++ vs) → Q vs H' := by
      cases x with
      | fz p => exact ⟨F1, .fz p, e1, Ex.refl F1, S1, r, trivial, k⟩
      | new p => exact ⟨F1, .new p, e1, Ex.refl F1, S1, r, trivial, k⟩
      | bor i =>
        unfold unb at k
        dsimp only at k
        cases hf : frz (.bor i) e1 with
        | bad => rw [hf] at k; exact k.elim
        | err y e => exact (frz_noerr hf).elim
        | ok p e2 =>
          rw [hf] at k
          obtain ⟨F2, x2, S2, r2⟩ := frz_ok S1 r hf
          exact ⟨F2, .fz p, e2, x2, S2, r2, trivial, Go.up k x2⟩
    obtain ⟨F2, y, e2, x2, S2, r2, nb, k2⟩ := hu
    have hold := hd.r.oldF (F' := F2) (H' := H1) (env' := e2) hd.nb (hn rfl) (x1.trans x2)
    have hl := RVs.length hd.r
    have hd2 : Held g F2 H1 σ e2 (xs0 ++ [y]) (vs0 ++ [v]) := ⟨RVs.append hold ⟨v, [], rfl, r2, rfl⟩, noBor_append hd.nb nb, by
      rw [newsOf_append hl, hn rfl, List.nil_append]
      unfold newsOf
      cases isNew y <;> simp [newsOf]⟩
    show tAx g.C ds σ H1 fun vs H' => Q (v :: vs) H'
    refine parL_go S2 hd2 (h := isNew y) (fun hy => ?_) ((Go.bind k2).mono fun xs e3 F3 H3 x3 S3 k3 vs h3 => ?_)
    · rw [newsOf_append hl, hn rfl, List.nil_append]
      unfold newsOf
      rw [if_neg (by rw [hy]; exact Bool.false_ne_true)]
      rfl
    · exact k3 F3 H3 (Ex.refl F3) S3 (v :: vs) (by simpa using h3)
  | d :: ds, true, F, H, env, xs0, vs0, Q, S, hd, hn, go => by
    unfold parL at go
    cases hq : d (blkE [] env) with
    | bad => simp only [hq] at go; exact go.elim
    | err y e => simp only [hq] at go; exact go.elim
    | ok x e1 =>
      simp only [hq] at go
      refine ⟨subG g F H σ env, rfl, F, blkE [] env, S.enter [], ?_⟩
      rw [hq]
      intro F2 H2 x2 S2 v rv
      have S2 : Stt (subG g F H σ env) F2 H2 σ e1 := S2
      obtain ⟨x3, S3⟩ := S.leave S2 freeS_nil rfl
      have hl := RVs.length hd.r
      have hold := hd.r.sub hd.nb S S2
      have step : ∀ y, noBor [y] → RV g F2 H2 σ (outE [] env e1) y v → (isNew y = true → v ∉ newsOf xs0 vs0) → (Go g F σ ((parL true ds (outE [] env e1)).bind fun xs e3 => .ok (y :: xs) e3) fun xs env' F' H' => ∀ vs, Held g F' H' σ env' (xs0 ++ xs) (vs0 ++ vs) → Q vs H') → tAx g.C ds σ H2 fun vs H' => Q (v :: vs) H' := by
        intro y nb ry hy k
        have hd2 : Held g F2 H2 σ (outE [] env e1) (xs0 ++ [y]) (vs0 ++ [v]) := ⟨RVs.append hold ⟨v, [], rfl, ry, rfl⟩, noBor_append hd.nb nb, by
          rw [newsOf_append hl]
          cases hy' : isNew y with
          | false =>
            have : newsOf [y] [v] = [] := by unfold newsOf; rw [if_neg (by rw [hy']; exact Bool.false_ne_true)]; rfl
            rw [this, List.append_nil]; exact hd.nd
          | true =>
            have : newsOf [y] [v] = [v] := by unfold newsOf; rw [if_pos hy']; rfl
            rw [this, List.nodup_append]
            refine ⟨hd.nd, by simp, fun a ha b hb => ?_⟩
            have : b = v := by simpa using hb
            subst this
            exact fun z => hy hy' (z ▸ ha)⟩
        refine parL_go (h := true) S3 hd2 (fun z => by cases z) ((Go.bind (Go.up k x3)).mono fun xs e3 F3 H3 x4 S4 k3 vs h3 => ?_)
        exact k3 F3 H3 (Ex.refl F3) S4 (v :: vs) (by simpa using h3)
      cases x with
      | bor i => exact go.elim
      | fz p => exact step (.fz p) trivial rv (fun z => by cases z) go
      | new p =>
        obtain ⟨a, e1', e2', e3', e4', e5'⟩ := rv
        have e4' : H a = none := e4'
        refine step (.new p) trivial ⟨a, e1', e2', e3', S.sub_new e4', fun i b q hi hv => ?_⟩ (fun _ z => ?_) go
        · obtain ⟨hl, e⟩ := outE_at hi
          rw [if_neg (by simp)] at e
          obtain ⟨p0, c, h1, h2⟩ := outS_ow e.symm
          exact e5' i c q (getD_at h2 (by simp)) hv
        · obtain ⟨p', a', z1, z2, _⟩ := newsOf_mem hd.r z
          subst e1'
          cases z1
          obtain ⟨o, ho⟩ := z2.cell
          rw [e4'] at ho; cases ho
def setAll : List Nat → List V → St → St
  | i :: is, v :: vs, σ => setAll is vs (σ.set i (some v))
  | _, _, σ => σ
theorem Held.tail_fz {i : Nat} {p : PV} {v : V} {xs : List Val} {vs : List V} (r : RVs g F H σ env xs vs) (nb : noBor xs) (hl : σ.length = env.length) : RVs g F H (σ.set i (some v)) (env.set i (.fz p)) xs vs := by
  induction xs generalizing vs with
  | nil => exact r
  | cons x xs ih =>
    obtain ⟨w, t, rfl, r1, r2⟩ := r
    cases x with
    | bor k => exact nb.elim
    | fz q => exact ⟨w, t, rfl, r1, ih r2 nb⟩
    | new q =>
      refine ⟨w, t, rfl, ?_, ih r2 nb⟩
      obtain ⟨a, e1, e2, e3, e4, e5⟩ := r1
      refine ⟨a, e1, e2, e3, e4, fun k b q' hk hv => ?_⟩
      rcases getElem?_set_cases hk with ⟨_, z, _⟩ | ⟨hne, z⟩
      · cases z
      · rw [List.getElem?_set_ne hne] at hv
        exact e5 k b q' z hv
theorem Held.tail_ow {i : Nat} {p : PV} {a1 : Addr} {xs : List Val} {vs : List V} (r : RVs g F H σ env xs vs) (nb : noBor xs) (hl : σ.length = env.length) (hn : V.ref a1 ∉ newsOf xs vs) : RVs g F H (σ.set i (some (.ref a1))) (env.set i (.ow true p)) xs vs := by
  induction xs generalizing vs with
  | nil => exact r
  | cons x xs ih =>
    obtain ⟨w, t, rfl, r1, r2⟩ := r
    unfold newsOf at hn
    cases x with
    | bor k => exact nb.elim
    | fz q => exact ⟨w, t, rfl, r1, ih r2 nb (by simpa [isNew] using hn)⟩
    | new q =>
      rw [if_pos (by rfl)] at hn
      refine ⟨w, t, rfl, ?_, ih r2 nb fun z => hn (List.mem_cons_of_mem _ z)⟩
      obtain ⟨a, e1, e2, e3, e4, e5⟩ := r1
      refine ⟨a, e1, e2, e3, e4, fun k b q' hk hv => ?_⟩
      rcases getElem?_set_cases hk with ⟨ek, z, hlt⟩ | ⟨hne, z⟩
      · subst ek
        rw [List.getElem?_set_self (by rw [hl]; exact hlt)] at hv
        cases hv
        exact hn (by rw [e1]; exact List.mem_cons_self ..)
      · rw [List.getElem?_set_ne hne] at hv
        exact e5 k b q' z hv
theorem storeL_go {D : Ends} : ∀ {is : List Nat} {xs : List Val} {vs : List V} {σ : St} {env : Env'}, Stt g F H σ env → Held g F H σ env xs vs → GoS g F (storeL is xs env) D → vs.length = is.length ∧ D.nx (setAll is vs σ) H
  | [], [], vs, σ, env, S, hd, go => by
    cases (show vs = [] from hd.r)
    exact ⟨rfl, go F H σ (Ex.refl F) S⟩
  | [], x :: xs, vs, σ, env, S, hd, go => by
    unfold storeL at go; exact go.elim
  | i :: is, [], vs, σ, env, S, hd, go => by unfold storeL at go; exact go.elim
  | i :: is, .bor k :: xs, vs, σ, env, S, hd, go => by unfold storeL at go; exact go.elim
  | i :: is, .fz p :: xs, vs, σ, env, S, hd, go => by
    unfold storeL at go
    obtain ⟨v, t, rfl, r1, r2⟩ := hd.r
    have nd : (newsOf xs t).Nodup := hd.nd
    obtain ⟨h1, h2⟩ := storeL_go (S.setFz r1) ⟨Held.tail_fz r2 hd.nb S.len, hd.nb, nd⟩ go
    exact ⟨congrArg Nat.succ h1, h2⟩
  | i :: is, .new p :: xs, vs, σ, env, S, hd, go => by
    unfold storeL at go
    obtain ⟨v, t, rfl, r1, r2⟩ := hd.r
    have nd : (v :: newsOf xs t).Nodup := hd.nd
    obtain ⟨n1, n2⟩ := List.nodup_cons.mp nd
    obtain ⟨a, rfl, e2, e3, e4, e5⟩ := r1
    obtain ⟨h1, h2⟩ := storeL_go (S.setOw e2 e3 e4 e5) ⟨Held.tail_ow r2 hd.nb S.len n1, hd.nb, n2⟩ go
    exact ⟨congrArg Nat.succ h1, h2⟩
theorem tAx_mono {C : Ct} : ∀ {ds : List (Env' → Res Val)} {σ : St} {H : Hp} {Q Q' : List V → Hp → Prop}, (∀ vs H, Q vs H → Q' vs H) → tAx C ds σ H Q → tAx C ds σ H Q'
  | [], σ, H, Q, Q', k, h => k _ _ h
  | d :: ds, σ, H, Q, Q', k, h => by
    obtain ⟨g', hC, q⟩ := h
    exact ⟨g', hC, tE_mono (fun v H1 q1 => tAx_mono (fun vs H2 q2 => k _ _ q2) q1) q⟩
theorem Held.nil (S : Stt g F H σ env) : Held g F H σ env [] [] := ⟨rfl, trivial, List.nodup_nil⟩
/-- the readings of the sides -/
theorem par_go {is : List Nat} {ds : List (Env' → Res Val)} {D : Ends} (S : Stt g F H σ env) (go : GoS g F (dPar is ds env) D) : tAx g.C ds σ H fun vs H' => vs.length = is.length ∧ D.nx (setAll is vs σ) H' :=
  parL_go (h := false) S (Held.nil S) (fun _ => rfl) ((GoS.bindE (σ := σ) go).mono fun xs e1 F1 H1 x1 S1 k vs hd => storeL_go S1 (by simpa using hd) k)
theorem sax_nil : PA X [] (tAx g.C []) := pa_nil
theorem sax_cons {e : Expr} {es : List Expr} {d : Env' → Res Val} {ds : List (Env' → Res Val)} (h : ∀ g' : Gm, g'.C = g.C → PE X e (tE g' d)) (hr : PA X es (tAx g.C ds)) (hs : starEach (e :: es) X.env = (false, eval e X.env) :: starEach es X.env) : PA X (e :: es) (tAx g.C (d :: ds)) :=
  pa_cons (xE_of h) hr hs
theorem ss_par {i j : Nat} {x y : Str} {a b : Expr} {d1 d2 : Env' → Res Val} {px py pt pos : Pos} {kt k2 : Nat} {pt2 : Pos} (ok : Ok X g) (hN : X.N.Nodup) (hi : X.N[i]? = some x) (hj : X.N[j]? = some y) (hij : i ≠ j)
    (hx : X.env.scope.names.lookup x = some .local) (hy : X.env.scope.names.lookup y = some .local) (ha : PA X [a, b] (tAx g.C [d1, d2]))
    (hw : swappedStores [.Tuple [.Name x px, .Name y py] kt pt] (.Tuple [a, b] k2 pt2) X.env = pure (some [x, y]))
    (hs : swapsWithSole [.Tuple [.Name x px, .Name y py] kt pt] (.Tuple [a, b] k2 pt2) pos.line X.env = pure false) :
    PS X (.Assign [.Tuple [.Name x px, .Name y py] kt pt] (.Tuple [a, b] k2 pt2) pos) (tS g (dPar [i, j] [d1, d2])) :=
  psImp (ps_par ok.calm hN hi hj hij hx hy ha hw hs) fun D σ H ⟨F, env, S, go⟩ => by
    have q := par_go S go
    refine tAx_mono (fun vs H' h => ?_) q
    obtain ⟨h1, h2⟩ := h
    match vs, h1, h2 with
    | [v, w], _, h2 => exact ⟨v, w, rfl, h2⟩
def gNames : List Nat → TGs
  | [] => gNil
  | i :: is => gCons (gName i) (gNames is)
theorem gNames_of : ∀ {is : List Nat} {vs : List V} {σ : St} {H : Hp} {Q : St → Hp → Prop}, vs.length = is.length → Q (setAll is vs σ) H → gNames is vs σ H Q
  | [], [], σ, H, Q, _, q => ⟨rfl, q⟩
  | i :: is, v :: vs, σ, H, Q, h, q => ⟨v, vs, rfl, gNames_of (by simpa using h) q⟩
  | [], v :: vs, σ, H, Q, h, q => by simp at h
  | i :: is, [], σ, H, Q, h, q => by simp at h
theorem sgn_nil : PGs X [] (gNames []) := pgs_nil
theorem sgn_cons {i : Nat} {x : Str} {es : List Expr} {is : List Nat} {pos : Pos} (hN : X.N.Nodup) (hi : X.N[i]? = some x) (hx : Loc X.env.scope x) (hf : X.fn x = true ∨ X.env.scope.names.lookup x = some .local) (h2 : PGs X es (gNames is))
    (hs : (assignEach (.Name x pos :: es) X.env).map (·.2) = assign (.Name x pos) X.env :: (assignEach es X.env).map (·.2)) : PGs X (.Name x pos :: es) (gNames (i :: is)) := pgs_cons (pg_name hN hi hx hf) h2 hs
theorem GoS.grow1 {D : Ends} {is : List Nat} {xs : List Val} {vs : List V} {p : Addr} {o : HO} (S : Stt g F H σ env) (hd : Held g F H σ env xs vs) (hp : H p = none) : Stt g F (upd H p o) σ env ∧ Held g F (upd H p o) σ env xs vs := by
  have ex : Ex H (upd H p o) := Ex.new hp
  refine ⟨S.grow ex, ?_, hd.nb, hd.nd⟩
  have r := hd.r
  clear hd
  induction xs generalizing vs with
  | nil => exact r
  | cons x xs ih =>
    obtain ⟨v, t, rfl, r1, r2⟩ := r
    refine ⟨v, t, rfl, ?_, ih r2⟩
    cases x with
    | fz p => exact r1
    | bor i => exact r1
    | new q =>
      obtain ⟨a, e1, e2, e3⟩ := r1
      obtain ⟨o', ho⟩ := e2.cell
      exact ⟨a, e1, e2.mono (Ex.refl F).le ((ex a o' ho).trans ho.symm), e3⟩
theorem par_goT {is : List Nat} {ds : List (Env' → Res Val)} {D : Ends} (hsz : is.length ≤ big) (S : Stt g F H σ env) (go : GoS g F (dPar is ds env) D) : tAx g.C ds σ H fun vs H' => vs.length = is.length ∧ ∀ p, H' p = none → D.nx (setAll is vs σ) (upd H' p (.tup vs)) :=
  parL_go (h := false) S (Held.nil S) (fun _ => rfl) ((GoS.bindE (σ := σ) go).mono fun xs e1 F1 H1 x1 S1 k vs hd => by
    have hd : Held g F1 H1 σ e1 xs vs := by simpa using hd
    refine ⟨?_, fun p hp => ?_⟩
    · exact (storeL_go S1 hd k).1
    · obtain ⟨S2, hd2⟩ := GoS.grow1 (D := D) (is := is) (o := .tup vs) S1 hd hp
      exact (storeL_go S2 hd2 k).2)
theorem ss_parO {is : List Nat} {es ns : List Expr} {ds : List (Env' → Res Val)} {pt pos pt2 : Pos} {kt k2 : Nat} (ok : Ok X g) (hlen : ns.length = is.length) (hsz : is.length ≤ big) (hn : PGs X ns (gNames is)) (ha : PA X es (tAx g.C ds))
    (hn1 : (assignEach ns X.env).length = is.length) (hst : (assignEach ns X.env).findIdx? (·.1) = none)
    (hs : swapsWithSole [.Tuple ns kt pt] (.Tuple es k2 pt2) pos.line X.env = pure false) (hw : swappedStores [.Tuple ns kt pt] (.Tuple es k2 pt2) X.env = pure none)
    (h1 : (assignEach [.Tuple ns kt pt] X.env).map (·.2) = [assign (.Tuple ns kt pt) X.env]) : PS X (.Assign [.Tuple ns kt pt] (.Tuple es k2 pt2) pos) (tS g (dPar is ds)) :=
  psImp (ps_asg (pe_tup ha) (pg_tup ok.calm hn hn1 hst) hs hw h1) fun D σ H ⟨F, env, S, go⟩ => by
    refine tAx_mono (fun vs H' h => ?_) (par_goT hsz S go)
    obtain ⟨h1, h2⟩ := h
    refine ⟨by rw [h1, big_eq]; exact hsz, fun p hp => ⟨p, vs, rfl, .inl (.inl upd_same), h1, gNames_of h1 (h2 p hp)⟩⟩
def semFldS (C : Ct) (f : Nat) : PV → PV → Option PV
  | .ins c xs, p => if (C.L c)[xs.length]? = some f ∧ xs.length < 999 then some (.ins c (xs ++ [p])) else none
  | _, _ => none
def dFldS (C : Ct) (f i : Nat) (d : Env' → Res Val) : Env' → Res Fl := fun e => (d e).bind fun x e1 => (frz x e1).bind fun p e2 => match e2[i]? with
  | some (.ow b q) => match semFldS C f q p with
    | some q' => .ok .nx (e2.set i (.ow b q'))
    | none => .bad
  | _ => .bad
end
end VL
set_option maxRecDepth 100000
set_option maxHeartbeats 2000000
namespace VL
open PySem PySem.Spec L2
open PyProof.Rows hiding St
def subV (d : Env' → Res Val) (e : Env') : Res PV := match d (blkE [] e) with
  | .ok x e1 => (match frz x e1 with
    | .ok p e2 => .ok p (outE [] e e2)
    | _ => .bad)
  | _ => .bad
def dDisp : List ((Env' → Res Val) × (Env' → Res Val)) → List Key → List PV → Env' → Res Val
  | [], ks, vs, e => .ok (.new (.dK ks vs)) e
  | (dk, dv) :: r, ks, vs, e => match subV dk e with
    | .ok kp e1 => (match keyP kp, subV dv e1 with
      | some k, .ok p e2 => dDisp r (putP ks vs k p).1 (putP ks vs k p).2 e2
      | _, _ => .bad)
    | _ => .bad
/-- a cell of ours that nobody else knows -/
structure PrS (g : Gm) (F H : Hp) (σ : St) (env : Env') (D : Addr) (o : HO) : Prop where
  S : Stt g F H σ env
  cell : H D = some o
  hF : F D = none
  h0 : g.H0 D = none
  hO : ¬ g.O D
  hn : ∀ (i : Nat) b q, env[i]? = some (.ow b q) → σ[i]? ≠ some (some (.ref D))
  np : Pln o
section
variable {X : Cx} {g : Gm} {pins : List (Addr × Obj)} {F H F' H' F2 H2 : Hp} {σ σ2 : St} {env env' env2 : Env'} {s : Shared}
theorem Go.later {α : Type} {r : Res α} {K : α → Env' → Hp → Hp → Prop} (h : Go g F σ r K) : Go g F σ r fun x e F' H' => ∀ F3 H3, Ex F' F3 → Stt g F3 H3 σ e → K x e F3 H3 := by
  cases r with
  | bad => exact h
  | err y e => exact h
  | ok x e => exact fun F' H' a _ F3 H3 b c => h F3 H3 (a.trans b) c
theorem PrS.start (S : Stt g F H σ env) {D : Addr} {o : HO} (np : Pln o) (hD : H D = none) : PrS g F (upd H D o) σ env D o := by
  obtain ⟨n1, n2, n3⟩ := S.new0 hD
  refine ⟨S.grow (ex_alloc hD), upd_same, n1, n2, n3, fun i b q e z => ?_, np⟩
  obtain ⟨a, e1, e2, _⟩ := S.ow i b q e
  rw [z] at e1; cases e1
  obtain ⟨o, ho⟩ := e2.cell
  rw [hD] at ho; cases ho
theorem PrS.turn {D : Addr} {o : HO} (L : PrS g F H σ env D o) (S2 : Stt (subG g F H σ env) F2 H2 σ env2) : Ex F F2 ∧ PrS g F2 H2 σ (outE [] env env2) D o := by
  obtain ⟨x, S'⟩ := L.S.leave (vs := []) S2 freeS_nil rfl
  have nO : ¬ (subG g F H σ env).O D := fun z => by
    obtain ⟨i, b, p, h1, h2⟩ := subG_O z
    exact L.hn i b p h1 h2
  refine ⟨x, S', (S2.frame D _ L.cell nO).eq L.np.1, ?_, L.h0, L.hO, fun i b q e z => ?_, L.np⟩
  · cases q : F2 D with
    | none => rfl
    | some o =>
      rcases S2.fresh D o q with z | z
      · have z : F D = some o := z
        rw [L.hF] at z; cases z
      · exact (nw_no S2.sub q z L.cell ((S2.frame D _ L.cell nO).eq L.np.1) L.np.2.2).elim
  · obtain ⟨hl, e⟩ := outE_at e
    rw [if_neg (by simp)] at e
    obtain ⟨p0, c, h1, h2⟩ := outS_ow e.symm
    exact L.hn i b p0 (getD_at h1 (by simp)) z
/-- a value in the block's reading -/
theorem subV_go {d : Env' → Res Val} {p : PV} {e1 : Env'} {D : Addr} {o : HO} {Q : VK} (L : PrS g F H σ env D o) (h : subV d env = .ok p e1)
    (k : ∀ F' H' v, Ex F F' → PrS g F' H' σ e1 D o → R g.C F' p v → Q v H') : xE g.C d σ H Q := by
  unfold subV at h
  refine ⟨subG g F H σ env, rfl, F, blkE [] env, L.S.enter [], ?_⟩
  cases hd : d (blkE [] env) with
  | bad => rw [hd] at h; cases h
  | err y e => rw [hd] at h; cases h
  | ok x e2 =>
    rw [hd] at h
    dsimp only at h
    intro F2 H2 x2 S2 v rv
    cases hf : frz x e2 with
    | bad => rw [hf] at h; cases h
    | err y e => rw [hf] at h; cases h
    | ok q e3 =>
      rw [hf] at h
      cases h
      obtain ⟨F3, x3, S3, r3⟩ := frz_ok S2 rv hf
      obtain ⟨x4, L4⟩ := L.turn (env2 := e3) S3
      exact k F3 H2 v x4 L4 r3
theorem disp_pairs {D : Addr} {K : Val → Env' → Hp → Hp → Prop} : ∀ {prs : List ((Env' → Res Val) × (Env' → Res Val))} {F H : Hp} {env : Env'} {kvs : List (Key × V)} {xs : List PV} {Q : List (V × V) → Hp → Prop}, PrS g F H σ env D (.dK []) → Rs g.C F xs (kvs.map Prod.snd) →
    (Go g F σ (dDisp prs (kvs.map Prod.fst) xs env) fun x env' F' H' => ∀ (more : List (Key × V)), PrS g F' H' σ env' D (.dK []) → (∃ ys, x = .new (.dK ((mergeK kvs more).map Prod.fst) ys) ∧ Rs g.C F' ys ((mergeK kvs more).map Prod.snd)) → more.length = prs.length → Q (more.map fun kv => (kV kv.1, kv.2)) H') →
    tPairs (prs.map fun p => (xE g.C p.1, xE g.C p.2)) σ H Q
  | [], F, H, env, kvs, xs, Q, L, r, go => by
    unfold dDisp at go
    exact go F H (Ex.refl F) L.S [] L ⟨xs, rfl, r⟩ rfl
  | (dk, dv) :: prs, F, H, env, kvs, xs, Q, L, r, go => by
    unfold dDisp at go
    cases h1 : subV dk env with
    | bad => rw [h1] at go; exact go.elim
    | err y e => rw [h1] at go; exact go.elim
    | ok kp e1 =>
      simp only [h1] at go
      cases h2 : keyP kp with
      | none => simp only [h2] at go; exact go.elim
      | some k =>
        cases h3 : subV dv e1 with
        | bad => simp only [h2, h3] at go; exact go.elim
        | err y e => simp only [h2, h3] at go; exact go.elim
        | ok p e2 =>
          simp only [h2, h3] at go
          refine subV_go L h1 fun F1 H1 kv x1 L1 r1 => ?_
          refine subV_go L1 h3 fun F2 H2 v x2 L2 r2 => ?_
          obtain rfl := keyP_r r1 h2
          obtain ⟨z1, z2⟩ := putP_r (k := k) (r.mono (x1.trans x2).le) r2
          rw [← z1] at go
          refine disp_pairs (K := K) L2 z2 ((Go.up go (x1.trans x2)).mono fun x e' F' H' x3 S3 kk more L' hx hl => ?_)
          exact kk ((k, v) :: more) L' hx (by simp [hl])
theorem se_disp {pos : Pos} {keys : List (Option Expr)} {values : List Expr} {prs : List ((Env' → Res Val) × (Env' → Res Val))} (h : PPs X pos keys values (prs.map fun p => (xE g.C p.1, xE g.C p.2))) (hall : keys.all (·.isSome) = true) (hl : keys.length = values.length) (h0 : keys ≠ [])
    (h15 : keys.length ≤ 15) (hp : prs.length ≤ 15) : PE X (.Dict keys values pos) (tE g (dDisp prs [] [])) :=
  peImp (pe_disp h hall hl h0 h15) fun σ H Q ⟨F, env, S, go⟩ D hD => by
    refine disp_pairs (kvs := []) (xs := []) (K := fun _ _ _ _ => True) (PrS.start S ⟨fun _ z => (by cases z), fun _ z => (by cases z), fun _ z => (by cases z)⟩ hD) Rs.nil (go.later.mono fun x e' F' H' x1 S1 k more L hx hlen => ?_)
    obtain ⟨ys, rfl, ry⟩ := hx
    refine ⟨L.cell, more, rfl, by omega, ?_⟩
    have S2 := L.S.poke (o := .dK (mergeK [] more)) L.cell L.np L.hF L.h0 L.hO L.hn
    exact k F' _ (Ex.refl F') S2 (.ref D) ⟨D, rfl, by simp only [R1]; exact ⟨_, upd_same, rfl, ry⟩, L.hF, L.h0, L.hn⟩
theorem spp_cons {pos : Pos} {k v : Expr} {ks : List (Option Expr)} {vs : List Expr} {dk dv : Env' → Res Val} {prs : List ((Env' → Res Val) × (Env' → Res Val))} (hk : ∀ g' : Gm, g'.C = g.C → PE X k (tE g' dk)) (hv : ∀ g' : Gm, g'.C = g.C → PE X v (tE g' dv)) (hr : PPs X pos ks vs (prs.map fun p => (xE g.C p.1, xE g.C p.2))) :
    PPs X pos (some k :: ks) (v :: vs) (((dk, dv) :: prs).map fun p => (xE g.C p.1, xE g.C p.2)) := pps_cons (xE_of hk) (xE_of hv) hr
theorem ss_fldS {f i : Nat} {n : Str} {L : Nat → List Nat} {o a : Expr} {d : Env' → Res Val} {pos pos' : Pos} (ok : Ok X g) (co : ∀ c, ClsOk g.C c) (hL : g.C.L = L) (hn : g.C.nm f = n) (ho : PE X o (tVar i)) (hv : PE X a (tE g d)) (hs : swapsWith a (some (.Attribute o n pos')) pos.line X.env = pure false) :
    PS X (.Assign [.Attribute o n pos'] a pos) (tS g (dFldS g.C f i d)) :=
  psImp (ps_fld ho hv hs) fun D σ H ⟨F, env, S, go⟩ => ⟨F, env, S, (GoS.bindE (σ := σ) go).mono fun x e F' H' x1 S1 k v r => by
    obtain ⟨F2, p, e2, x2, S2, r2, go2⟩ := GoS_frz S1 r k
    split at go2
    · rename_i b q hi
      split at go2
      · rename_i q' hq
        obtain ⟨ad, w1, w2, w3⟩ := S2.ow i b q hi
        cases q with
        | ins c xs =>
          simp only [semFldS] at hq
          by_cases hc : (g.C.L c)[xs.length]? = some f ∧ xs.length < 999
          · rw [if_pos hc] at hq
            cases hq
            obtain ⟨dx, fs, y1, y2, y3⟩ := w2
            have hlen : fs.length = xs.length := by
              have := y3.length
              rw [List.length_map] at this
              exact this
            have hfx : (g.C.fl c)[xs.length]? = some n := by
              unfold Ct.fl
              rw [List.getElem?_map, hc.1, ← hn]; rfl
            have hnot : n ∉ fs.map Prod.fst := fun z => by
              rw [y2] at z
              obtain ⟨j, hj, e⟩ := List.mem_iff_getElem.mp z
              rw [List.getElem_take] at e
              rw [List.length_take] at hj
              have h1 : (g.C.fl c)[j]? = some n := by rw [← e]; exact List.getElem?_eq_getElem (by omega)
              have := nodup_idx (co c).nd h1 hfx
              omega
            have hput : ∀ {l : List (Str × V)} {w : V}, n ∉ l.map Prod.fst → putF n w l = l ++ [(n, w)] := by
              intro l w
              induction l with
              | nil => intro _; rfl
              | cons z l ih =>
                intro h
                obtain ⟨z1, z2⟩ := z
                rw [List.map_cons, List.mem_cons, not_or] at h
                unfold putF
                rw [if_neg (fun q => h.1 q.symm), ih h.2]; rfl
            refine ⟨.ref ad, w1, ad, g.C.ad c, dx, fs, rfl, y1, by rw [← ok.K]; exact (co c).cls, ?_, by rw [hlen]; omega, ?_⟩
            · rw [← ok.K, ← hn]
              exact (co c).no f (List.mem_of_getElem? hc.1)
            · refine go2 F2 _ σ (Ex.refl F2) (S2.write hi w1 ?_)
              simp only [R1]
              refine ⟨dx, _, upd_same, ?_, ?_⟩
              · rw [hput hnot, List.map_append, y2, List.length_append, List.map_cons, List.map_nil, List.length_singleton]
                rw [List.take_succ, hfx]; rfl
              · rw [hput hnot, List.map_append]
                exact y3.snoc r2
          · rw [if_neg hc] at hq; cases hq
        | _ => simp only [semFldS] at hq; cases hq
      · exact go2.elim
    · exact go2.elim⟩
end
end VL
set_option maxRecDepth 100000
set_option maxHeartbeats 2000000
namespace VL
open PySem PySem.Spec L2
open PyProof.Rows hiding St
structure InsF (C : Ct) : Prop where
  ha : ∀ c, PySem.W.findIn C.K (.ref (C.ad c)) "__class__" = some (some (.builtin "object.__class__"))
  hn : PySem.W.specialIn C.K (.builtin "object.__class__") "__get__" = some (some (.builtin "getset_descriptor.__get__"))
  htk : PySem.W.takesIn C.K (.builtin "object.__class__") = some true
  hm : ∀ c, PySem.W.mroIn C.K (C.ad c) (.type "object") = some true
def tyP (C : Ct) : PV → Value
  | .non => .type "NoneType"
  | .bl _ => .type "bool"
  | .int _ => .type "int"
  | .str _ => .type "str"
  | .tup _ => .type "tuple"
  | .lst _ => .type "list"
  | .scr _ => .type "list"
  | .dK _ _ => .type "dict"
  | .dT _ _ => .type "dict"
  | .ins c _ => .ref (C.ad c)
  | .exc c _ => .ref (C.ad c)
  | .lnk _ => .type "NoneType"
  | .ftp _ => .type "tuple"
def dIsi (ans : PV → Option Bool) (da : Env' → Res Val) : Env' → Res Val := fun e => (stl da e).bind fun x e1 => match (peek x e1).bind ans with
  | some b => .ok (.fz (.bl b)) e1
  | none => .bad
section
variable {X : Cx} {g : Gm} {pins : List (Addr × Obj)} {F H F' H' F2 H2 : Hp} {σ σ2 : St} {env env' env2 : Env'} {s : Shared} {pos : Pos} {da : Env' → Res Val} {C : Ct}
theorem tyP_ok {p : PV} {v : V} (ok : Ok X g) (co : ∀ c, ClsOk g.C c) (fi : InsF g.C) (r : Rt g.C F H p v) (hd : ∀ ks xs, p ≠ .dT ks xs) (hx : ∀ c xs, p ≠ .exc c xs) (hl : ∀ j, p ≠ .lnk j) : TyX X.K H v (tyP g.C p) := by
  cases p with
  | non => cases r; exact .base .non
  | bl b => cases r; exact .base (.bl b)
  | int i => cases r; exact .base (.int i)
  | str x => cases r; exact .base (.str x)
  | tup xs => obtain ⟨a, vs, rfl, h, _⟩ := r; exact .base (.tup h)
  | lst xs => obtain ⟨a, vs, rfl, h, _⟩ := r; exact .base (.lst h)
  | scr ns =>
    obtain ⟨a, rfl, h⟩ := r
    rw [ok.K] at h
    rcases h with (h | ⟨o, h⟩) | ⟨o, h⟩
    · exact .base (.lst h)
    · exact .base (.frz h)
    · obtain ⟨us, n, h1, h2, _⟩ := h
      exact .kList h1 h2
  | dK ks xs =>
    obtain ⟨a, kvs, rfl, h, _⟩ := r
    rcases h with h | ⟨o, h⟩
    · exact .base (.dK h)
    · exact .fDict h
  | dT ks xs => exact (hd _ _ rfl).elim
  | exc c xs => exact (hx _ _ rfl).elim
  | lnk j => exact (hl _ rfl).elim
  | ftp xs => obtain ⟨a, vs, o, rfl, h, _⟩ := r; exact .fTuple h
  | ins c xs =>
    obtain ⟨a, dx, fs, rfl, h, _⟩ := r
    have cl := (co c).cls
    have h1 := fi.ha c
    have h2 := fi.hn
    have h3 := fi.htk
    have h4 := fi.hm c
    rw [ok.K] at cl h1 h2 h3 h4
    exact .base (.ins h cl h1 h2 h3 h4)
theorem se_isi {c : V} {u : Value} {ans : PV → Option Bool} {e ce : Expr} {p : Pos} (ok : Ok X g) (co : ∀ c, ClsOk g.C c) (fi : InsF g.C) (hans : ∀ p b, ans p = some b → PySem.W.kitOne g.C.K (tyP g.C p) u = some b) (hno : ∀ ks xs, ans (.dT ks xs) = none) (hnx : ∀ c xs, ans (.exc c xs) = none)
    (hm : X.mg "isinstance" = none) (hg : Gl X "isinstance") (ha : PE X e (tE g da)) (hc : PE X ce (tC c)) (hu : ClsV c u) (hs : starEach [e, ce] X.env = (false, eval e X.env) :: starEach [ce] X.env) (hs2 : starEach [ce] X.env = (false, eval ce X.env) :: starEach [] X.env) (hpl : (backTo pos (starEach [ce] X.env)).any (·.1) = false) (hnl : ∀ j, ans (.lnk j) = none := by intro j; rfl) :
    PE X (.Call (.Name "isinstance" p) [e, ce] [] pos) (tE g (dIsi ans da)) :=
  peImp (pe_callB (call_isi) hg hm boot_isinstance (pa_cons (peo ha) (pa_cons hc pa_nil hs2) hs) (by decide) (by decide) hs hpl) fun σ H Q ⟨F, env, S, go⟩ => ⟨F, env, S, (Go.bind go).mono fun x e1 F1 H1 x1 S1 k v o r => by
    cases hp : peek x e1 with
    | none => simp only [hp] at k; exact k.elim
    | some q =>
      cases hq : ans q with
      | none => simp only [hp, hq, Option.bind] at k; exact k.elim
      | some b =>
        simp only [hp, hq, Option.bind] at k
        exact ⟨v, c, tyP g.C q, u, b, rfl, hu, tyP_ok ok co fi (peek_ok S1 r hp) (fun ks xs z => by rw [z, hno] at hq; cases hq) (fun c xs z => by rw [z, hnx] at hq; cases hq) (fun j z => by rw [z, hnl] at hq; cases hq), by rw [← ok.K]; exact hans q b hq, k F1 H1 (Ex.refl F1) S1 _ (by show R _ _ _ _; unfold R; rfl)⟩⟩
end
end VL
set_option maxRecDepth 100000
set_option maxHeartbeats 2000000
namespace VL
open PySem PySem.Spec L2
open PyProof.Rows hiding St
section
variable {X : Cx} {g : Gm} {pins : List (Addr × Obj)} {F H F' H' F2 H2 : Hp} {σ σ2 : St} {env env' env2 : Env'} {s : Shared} {pos : Pos} {da : Env' → Res Val} {C : Ct}
def strsP : List PV → Option (List Str)
  | [] => some []
  | .str x :: ps => (strsP ps).map (x :: ·)
  | _ => none
end
end VL
set_option maxRecDepth 100000
set_option maxHeartbeats 2000000
namespace VL
open PySem PySem.Spec L2
open PyProof.Rows hiding St
def bTys : List String := ["int", "bool", "str", "tuple", "list", "dict"]
/-- what is known of the classes -/
structure CF (C : Ct) (L : Nat → List Nat) (nm : Nat → Str) : Prop where
  L : C.L = L
  nm : C.nm = nm
  cls : ∀ c, ClsOk C c
  ins : InsF C
  kb : ∀ c T, T ∈ bTys → PySem.W.kitOne C.K (.ref (C.ad c)) (.type T) = some false
def dFldL (L : Nat → List Nat) (f : Nat) (da : Env' → Res Val) : Env' → Res Val := fun e => (stl da e).bind fun x e1 => match peek x e1 with
  | some (.ins c xs) => match ((L c).idxOf? f).bind fun i => xs[i]? with
    | some p => .ok (.fz p) e1
    | none => .bad
  | _ => .bad
def dFldSL (L : Nat → List Nat) (f i : Nat) (d : Env' → Res Val) : Env' → Res Fl := fun e => (d e).bind fun x e1 => (frz x e1).bind fun p e2 => match e2[i]? with
  | some (.ow b (.ins c xs)) => if (L c)[xs.length]? = some f ∧ xs.length < 999 then .ok .nx (e2.set i (.ow b (.ins c (xs ++ [p])))) else .bad
  | _ => .bad
section
variable {X : Cx} {g : Gm} {da : Env' → Res Val} {C : Ct} {L : Nat → List Nat} {nm : Nat → Str} {k j : Nat} {x m : Str} {md : Md} {fn : List PV → FR} {dvs : List V} {dps : List PV} {p pos apos : Pos} {e o a : Expr} {es : List Expr} {ds : List (Env' → Res Val)}
theorem Z0h {f : Nat} {n : Str} (hC : g.C = C) (ok : Ok X g) (cf : CF C L nm) (hn : nm f = n) (ha : PE X a (tE g da)) (hb : attributeBase a n X.env (eval a X.env) = eval a X.env) : PE X (.Attribute a n pos) (tE g (dFldL L f da)) := by
  subst hC
  have e := cf.nm
  have e2 := cf.L
  subst e2
  subst hn
  rw [← e] at hb ⊢
  exact se_fld ok cf.cls ha hb
theorem ss_fldSC {f i : Nat} {n : Str} {pos' : Pos} (hC : g.C = C) (ok : Ok X g) (cf : CF C L nm) (hn : nm f = n) (ho : PE X o (tVar i)) (hv : PE X a (tE g da)) (hs : swapsWith a (some (.Attribute o n pos')) pos.line X.env = pure false) : PS X (.Assign [.Attribute o n pos'] a pos) (tS g (dFldSL L f i da)) := by
  subst hC
  have e2 := cf.L
  subst e2
  refine psImp (ss_fldS ok cf.cls rfl (by rw [cf.nm]; exact hn) ho hv hs) fun D σ H ⟨F, env, S, go⟩ => ⟨F, env, S, ?_⟩
  have : dFldSL g.C.L f i da env = dFldS g.C f i da env := by
    unfold dFldSL dFldS
    congr 1
    funext x e1
    congr 1
    funext p e2
    cases q : e2[i]? with
    | none => rfl
    | some sl =>
      cases sl with
      | no => rfl
      | fz z => rfl
      | ow b z =>
        cases z <;> simp only [semFldS] <;> first | rfl | skip
        split <;> rfl
  rw [← this]
  exact go
theorem Z0k (hC : g.C = C) (c : C8.Cal X.prog X.w X.K X.mg X.base k x (SpV C md fn) dvs) (hr : Room j X.A) (hk : k ≤ j) (hg : Gl X x) (hd : ∀ F, Rs g.C F dps dvs) (ha : PA X (e :: es) (tAs g (dArgs ds)))
    (hdb : (x == ("__debug__" : Str)) = false) (he : starEach (e :: es) X.env = (false, eval e X.env) :: starEach es X.env) (hpl : (backTo pos (starEach es X.env)).any (·.1) = false) :
    PE X (.Call (.Name x p) (e :: es) [] pos) (tE g (dFn md fn dps ds)) := by
  subst hC; exact se_fn c hr hk hg hd ha hdb he hpl
theorem se_mkC {c : Nat} {ca : Addr} (hC : g.C = C) (hca : C.ad c = ca) (cm : C8.Mak X.prog X.w X.K X.mg X.base k x ca (SpV C (true :: md) fn) dvs) (hr : Room j X.A) (hk : k + 1 ≤ j) (hg : Gl X x) (hd : ∀ F, Rs g.C F dps dvs) (ha : PA X (e :: es) (tAs g (dArgs ds)))
    (hdb : (x == ("__debug__" : Str)) = false) (he : starEach (e :: es) X.env = (false, eval e X.env) :: starEach es X.env) (hpl : (backTo pos (starEach es X.env)).any (·.1) = false) :
    PE X (.Call (.Name x p) (e :: es) [] pos) (tE g (dMk c md fn dps ds)) := by
  subst hC; subst hca; exact se_mk cm hr hk hg hd ha hdb he hpl
theorem Z0e : ∀ F, Rs C F [] [] := fun _ => Rs.nil
theorem rs_int1 {x : Int} : ∀ F, Rs C F [.int x] [.int x] := fun _ => Rs.cons (by unfold R; rfl) Rs.nil
end
end VL
set_option maxRecDepth 100000
set_option maxHeartbeats 2000000
namespace VL
open PySem PySem.Spec L2
open PyProof.Rows hiding St
def dcL (vs : List Nat) (u : UG) (dt : Option (Env' → Res Bool)) (dk dv : Env' → Res Val) : List PV → List Key → List PV → Env' → Res (List Key × List PV)
  | [], ks, xs, e => .ok (ks, xs) e
  | p :: ps, ks, xs, e => if freeS vs e = true then match u p (blkE vs e) with
    | none => .bad
    | some e1 => match dtO dt e1 with
      | .ok false e2 => dcL vs u dt dk dv ps ks xs (outE vs e e2)
      | .ok true e2 => match dk e2 with
        | .ok kx e3 => match frz kx e3 with
          | .ok kp e4 => match keyP kp with
            | some k => match dv e4 with
              | .ok x e5 => match frz x e5 with
                | .ok q e6 => if ks.length < big then dcL vs u dt dk dv ps (putP ks xs k q).1 (putP ks xs k q).2 (outE vs e e6) else .bad
                | _ => .bad
              | _ => .bad
            | none => .bad
          | _ => .bad
        | _ => .bad
      | _ => .bad
    else .bad
def dDc (vs : List Nat) (di : Env' → Res (List PV)) (u : UG) (dt : Option (Env' → Res Bool)) (dk dv : Env' → Res Val) : Env' → Res Val := fun e => (di e).bind fun ps e1 => (dcL vs u dt dk dv ps [] [] e1).bind fun qs e2 => .ok (.new (.dK qs.1 qs.2)) e2
structure DcS (g : Gm) (F H : Hp) (σ : St) (env : Env') (D : Addr) (ks : List Key) (xs : List PV) : Prop where
  S : Stt g F H σ env
  cell : ∃ kvs, H D = some (.dK kvs) ∧ kvs.map Prod.fst = ks ∧ Rs g.C F xs (kvs.map Prod.snd)
  hF : F D = none
  h0 : g.H0 D = none
  hO : ¬ g.O D
  hn : ∀ (i : Nat) b q, env[i]? = some (.ow b q) → σ[i]? ≠ some (some (.ref D))
section
variable {X : Cx} {g : Gm} {pins : List (Addr × Obj)} {F H F' H' F2 H2 : Hp} {σ σ2 : St} {env env' env2 : Env'} {s : Shared}
theorem DcS.start (S : Stt g F H σ env) {D : Addr} (hD : H D = none) : DcS g F (upd H D (.dK [])) σ env D [] [] := by
  obtain ⟨n1, n2, n3⟩ := S.new0 hD
  refine ⟨S.grow (ex_alloc hD), ⟨[], upd_same, rfl, Rs.nil⟩, n1, n2, n3, fun i b q e z => ?_⟩
  obtain ⟨a, e1, e2, _⟩ := S.ow i b q e
  rw [z] at e1; cases e1
  obtain ⟨o, ho⟩ := e2.cell
  rw [hD] at ho; cases ho
theorem DcS.noO {D : Addr} {ks : List Key} {xs : List PV} (L : DcS g F H σ env D ks xs) : ¬ (subG g F H σ env).O D := fun z => by
  obtain ⟨i, b, p, h1, h2⟩ := subG_O z
  exact L.hn i b p h1 h2
theorem DcS.turn {D : Addr} {ks : List Key} {xs : List PV} {vs : List Nat} (L : DcS g F H σ env D ks xs) (S2 : Stt (subG g F H σ env) F2 H2 σ2 env2) (hf : freeS vs env = true) (hσ : wipe σ2 vs = wipe σ vs) : Ex F F2 ∧ DcS g F2 H2 σ (outE vs env env2) D ks xs := by
  obtain ⟨x, S'⟩ := L.S.leave S2 hf hσ
  obtain ⟨ws, h1, h2, h3⟩ := L.cell
  refine ⟨x, S', ⟨ws, (S2.frame D _ h1 L.noO).eq (fun _ z => by cases z), h2, h3.mono x.le⟩, ?_, L.h0, L.hO, fun i b q e z => ?_⟩
  · cases q : F2 D with
    | none => rfl
    | some o =>
      rcases S2.fresh D o q with z | z
      · have z : F D = some o := z
        rw [L.hF] at z; cases z
      · exact (nw_no S2.sub q z h1 ((S2.frame D _ h1 L.noO).eq (fun _ z => by cases z)) (fun _ z => by cases z)).elim
  · obtain ⟨hl, e⟩ := outE_at e
    split at e
    · exact L.hn i b q (getD_at e.symm (by simp)) z
    · obtain ⟨p0, c, h1, h2⟩ := outS_ow e.symm
      exact L.hn i b p0 (getD_at h1 (by simp)) z
theorem DcS.put {D : Addr} {ks : List Key} {xs : List PV} {y : V} {q : PV} {k : Key} {kvs : List (Key × V)} (L : DcS g F H σ env D ks xs) (hD : H D = some (.dK kvs)) (r : R g.C F q y) : DcS g F (upd H D (.dK (putK kvs k y))) σ env D (putP ks xs k q).1 (putP ks xs k q).2 := by
  obtain ⟨ws', h1, h2, h3⟩ := L.cell
  rw [hD] at h1; cases h1
  obtain ⟨z1, z2⟩ := putP_r (k := k) h3 r
  subst h2
  exact ⟨L.S.poke hD ⟨fun _ z => (by cases z), fun _ z => (by cases z), fun _ z => (by cases z)⟩ L.hF L.h0 L.hO L.hn, ⟨_, upd_same, z1, z2⟩, L.hF, L.h0, L.hO, L.hn⟩
theorem DcS.done {D : Addr} {ks : List Key} {xs : List PV} (L : DcS g F H σ env D ks xs) : RV g F H σ env (.new (.dK ks xs)) (.ref D) := by
  obtain ⟨ws, h1, h2, h3⟩ := L.cell
  exact ⟨D, rfl, by simp only [R1]; exact ⟨ws, h1, h2, h3⟩, L.hF, L.h0, L.hn⟩
end
end VL
set_option maxRecDepth 100000
set_option maxHeartbeats 2000000
namespace VL
open PySem PySem.Spec L2
open PyProof.Rows hiding St
section
variable {Y : Cx} {tg : Expr} {fp : List Addr} {it : Addr} {tn : Nat → Heap → Prop} {J : It} {g : TG} {pins : List (Addr × Obj)} {E : Expr} {l : Nat} {acc : Value} {p : Pos} {rest : Sem PySem.Fin} {R : Result → Shared → Prop} {σ : L2.St}
/-- slots that know what σ knows -/
def Knows (σ τ : L2.St) : Prop := σ.length = τ.length ∧ ∀ (j : Nat) v, σ[j]? = some (some v) → τ[j]? = some (some v)
end
section
variable {X : Cx}
theorem Knows.trans {σ τ υ : L2.St} (h : Knows σ τ) (k : Knows τ υ) : Knows σ υ := ⟨h.1.trans k.1, fun j v e => k.2 j v (h.2 j v e)⟩
end
end VL
set_option maxRecDepth 100000
set_option maxHeartbeats 2000000
namespace VL
open PySem PySem.Spec L2
open PyProof.Rows hiding St
/-- no container that the block itself has made -/
def lentB (e : Env') : Bool := e.all fun s => match s with
  | .ow true _ => false
  | _ => true
/-- an accumulating cell of ours -/
structure PrV (g : Gm) (F H : Hp) (σ : St) (env : Env') (D : Addr) (A : Hp → HO → Prop) : Prop where
  S : Stt g F H σ env
  cell : ∃ o, H D = some o ∧ A F o
  hF : F D = none
  h0 : g.H0 D = none
  hO : ¬ g.O D
  hn : ∀ (i : Nat) b q, env[i]? = some (.ow b q) → σ[i]? ≠ some (some (.ref D))
structure Acc (A : Hp → HO → Prop) : Prop where
  mono : ∀ F F' o, Ex F F' → A F o → A F' o
  pln : ∀ F o, A F o → Pln o
section
variable {X : Cx} {g : Gm} {pins : List (Addr × Obj)} {F H F' H' F2 H2 F3 H3 : Hp} {σ σ2 σ3 : St} {env env' env2 b b3 : Env'} {s : Shared} {A A' : Hp → HO → Prop} {D : Addr} {vs vs1 : List Nat}
theorem lentB_no {i : Nat} {p : PV} (h : lentB env = true) : env[i]? ≠ some (.ow true p) := fun z => by
  unfold lentB at h
  have := List.all_eq_true.mp h _ (List.mem_of_getElem? z)
  cases this
theorem PrV.start (S : Stt g F H σ env) {o : HO} (hD : H D = none) (ha : A F o) : PrV g F (upd H D o) σ env D A := by
  obtain ⟨n1, n2, n3⟩ := S.new0 hD
  refine ⟨S.grow (ex_alloc hD), ⟨o, upd_same, ha⟩, n1, n2, n3, fun i b q e z => ?_⟩
  obtain ⟨a, e1, e2, _⟩ := S.ow i b q e
  rw [z] at e1; cases e1
  obtain ⟨o, ho⟩ := e2.cell
  rw [hD] at ho; cases ho
theorem PrV.noO (L : PrV g F H σ env D A) : ¬ (subG g F H σ env).O D := fun z => by
  obtain ⟨i, b, p, h1, h2⟩ := subG_O z
  exact L.hn i b p h1 h2
theorem PrV.turn (hA : Acc A) (L : PrV g F H σ env D A) (S2 : Stt (subG g F H σ env) F2 H2 σ2 env2) (hf : freeS vs env = true) (hσ : wipe σ2 vs = wipe σ vs) : Ex F F2 ∧ PrV g F2 H2 σ (outE vs env env2) D A := by
  obtain ⟨x, S'⟩ := L.S.leave S2 hf hσ
  obtain ⟨o, h1, h2⟩ := L.cell
  refine ⟨x, S', ⟨o, (S2.frame D _ h1 L.noO).eq (hA.pln _ _ h2).1, hA.mono _ _ _ x h2⟩, ?_, L.h0, L.hO, fun i b q e z => ?_⟩
  · cases q : F2 D with
    | none => rfl
    | some o =>
      rcases S2.fresh D o q with z | z
      · have z : F D = some o := z
        rw [L.hF] at z; cases z
      · exact (nw_no S2.sub q z h1 ((S2.frame D _ h1 L.noO).eq (hA.pln _ _ h2).1) (hA.pln _ _ h2).2.2).elim
  · obtain ⟨hl, e⟩ := outE_at e
    split at e
    · exact L.hn i b q (getD_at e.symm (by simp)) z
    · obtain ⟨p0, c, h1, h2⟩ := outS_ow e.symm
      exact L.hn i b p0 (getD_at h1 (by simp)) z
theorem PrV.put (hA : Acc A) {o u : HO} (L : PrV g F H σ env D A) (hD : H D = some u) (ha : A' F o) : PrV g F (upd H D o) σ env D A' := by
  obtain ⟨ws', h1, h2⟩ := L.cell
  rw [hD] at h1; cases h1
  exact ⟨L.S.poke hD (hA.pln _ _ h2) L.hF L.h0 L.hO L.hn, ⟨_, upd_same, ha⟩, L.hF, L.h0, L.hO, L.hn⟩
/-- the block's state on a new base -/
theorem Stt.rebase {F0 H0 : Hp} {env0 : Env'} (L : Stt g F H' σ env') (B : Stt (subG g F0 H0 σ env0) F H σ2 b) (hl : lentB b = true) (hH : ∀ a, a ≠ D → H' a = H a) (hn : ∀ (i : Nat) c q, env0[i]? = some (.ow c q) → σ[i]? ≠ some (some (.ref D)))
    (hE : ∀ (i : Nat) c q d r, b[i]? = some (.ow c q) → env0[i]? = some (.ow d r) → ∃ d r, env'[i]? = some (.ow d r)) : Stt (subG g F H' σ env') F H' σ2 b where
  len := B.len
  frame := fun b o q _ => .inl q
  live := fun b hb => by
    obtain ⟨i, f, p, h1, h2⟩ := subG_O hb
    obtain ⟨a, e1, e2, _⟩ := L.ow i f p h1
    rw [h2] at e1; cases e1
    exact e2.cell
  ext := Ex.refl F
  fresh := fun b o q => .inl q
  sub := L.sub
  fz := B.fz
  ow := fun i c p q => by
    obtain ⟨a, h1, h2, h3, h4⟩ := B.ow i c p q
    cases c with
    | true => exact (lentB_no hl q).elim
    | false =>
      rw [if_neg Bool.false_ne_true] at h4
      have ho : ∃ (d : Bool) (r : PV), env0[i]? = some (.ow d r) ∧ σ[i]? = some (some (.ref a)) := by
        unfold subG at h4
        dsimp only at h4
        split at h4
        · rename_i d r a' k1 k2
          cases h4
          exact ⟨d, r, k1, k2⟩
        · cases h4
      obtain ⟨d, r, k1, k2⟩ := ho
      have ne : a ≠ D := fun z => hn i d r k1 (z ▸ k2)
      obtain ⟨d', r', k3⟩ := hE i _ _ _ _ q k1
      refine ⟨a, h1, h2.mono (Ex.refl F).le (hH a ne), h3, ?_⟩
      rw [if_neg Bool.false_ne_true]
      show (match env'[i]?, σ[i]? with | some (.ow _ _), some (some (.ref a)) => some a | _, _ => none) = some a
      rw [k3, k2]
  inj := B.inj
  tab := L.tab
theorem outE_ow {i : Nat} {c d : Bool} {q r : PV} (hf : freeS vs env = true) (h2 : b[i]? = some (.ow c q)) (h1 : env[i]? = some (.ow d r)) : (outE vs env b)[i]? = some (.ow d q) := by
  have hl : i < env.length := by
    rcases Nat.lt_or_ge i env.length with z | z
    · exact z
    · rw [List.getElem?_eq_none z] at h1; cases h1
  unfold outE
  rw [List.getElem?_map, List.getElem?_range hl]
  have ni : i ∉ vs := fun z => freeS_no hf z h1
  simp only [Option.map_some, if_neg ni, List.getD_eq_getElem?_getD, h1, h2, Option.getD_some, outS]
theorem outE_in {i : Nat} {x : Sl} (hi : i ∈ vs) (h : (outE vs env b)[i]? = some x) : env[i]? = some x ∨ x = .no := by
  obtain ⟨hl, e⟩ := outE_at h
  rw [if_pos hi] at e
  by_cases hx : x = .no
  · exact .inr hx
  · exact .inl (getD_at e.symm hx)
theorem freeS_out (hf : freeS vs env = true) : freeS vs (outE vs env b) = true := by
  unfold freeS
  refine List.all_eq_true.mpr fun i hi => ?_
  cases q : (outE vs env b)[i]? with
  | none => rfl
  | some x =>
    cases x with
    | ow c p =>
      rcases outE_in hi q with z | z
      · exact (freeS_no hf hi z).elim
      · cases z
    | _ => rfl
theorem Stt.back (S : Stt g F H σ2 b) (S3 : Stt g F3 H3 σ3 b3) (x : Ex F F3) (hw : wipe σ3 vs1 = wipe σ2 vs1) (hf : freeS vs1 b = true) (hl : lentB b = true) (hl3 : lentB b3 = true) : Stt g F3 H3 σ2 (outE vs1 b b3) := by
  have hat : ∀ {i : Nat}, i ∉ vs1 → σ3[i]? = σ2[i]? := fun {i} hi => by rw [← wipe_out (σ := σ3) hi, ← wipe_out (σ := σ2) hi, hw]
  refine ⟨by simp [outE, S.len], S3.frame, S3.live, S3.ext, S3.fresh, S3.sub, fun i p q => ?_, fun i c p q => ?_, fun i j c d p q a hi hj e1 e2 => ?_, S3.tab⟩
  · obtain ⟨hl, e⟩ := outE_at q
    split at e
    · obtain ⟨v, h1, h2⟩ := S.fz i p (getD_at e.symm (by simp))
      exact ⟨v, h1, h2.mono x.le⟩
    · rename_i ni
      obtain ⟨v, h1, h2⟩ := S3.fz i p (getD_at (outS_fz e.symm) (by simp))
      exact ⟨v, by rw [← hat ni]; exact h1, h2⟩
  · obtain ⟨_, e⟩ := outE_at q
    split at e
    · rename_i hi
      exact (freeS_no hf hi (getD_at e.symm (by simp))).elim
    · rename_i ni
      obtain ⟨p0, c', h1, h2⟩ := outS_ow e.symm
      have h1 := getD_at h1 (by simp)
      have h2 := getD_at h2 (by simp)
      cases c with
      | true => exact (lentB_no hl h1).elim
      | false =>
        cases c' with
        | true => exact (lentB_no hl3 h2).elim
        | false =>
          obtain ⟨a, e1, e2⟩ := S3.ow i false p h2
          exact ⟨a, by rw [← hat ni]; exact e1, e2⟩
  · obtain ⟨_, x1⟩ := outE_at hi
    obtain ⟨_, x2⟩ := outE_at hj
    split at x1
    · rename_i hi
      exact (freeS_no hf hi (getD_at x1.symm (by simp))).elim
    · split at x2
      · rename_i hj
        exact (freeS_no hf hj (getD_at x2.symm (by simp))).elim
      · rename_i ni nj
        obtain ⟨_, _, _, h1⟩ := outS_ow x1.symm
        obtain ⟨_, _, _, h2⟩ := outS_ow x2.symm
        exact S3.inj i j _ _ _ _ a (getD_at h1 (by simp)) (getD_at h2 (by simp)) (by rw [hat ni]; exact e1) (by rw [hat nj]; exact e2)
/-- within the inner loop -/
structure InS (g : Gm) (F H : Hp) (σ : St) (env : Env') (D : Addr) (A : Hp → HO → Prop) (vs : List Nat) (σ2 : St) (b : Env') : Prop where
  L : PrV g F H σ env D A
  B : Stt (subG g F H σ env) F H σ2 b
  hf : freeS vs env = true
  hσ : wipe σ2 vs = wipe σ vs
  hl : lentB b = true
theorem InS.start (hA : Acc A) (L : PrV g F H σ env D A) (S2 : Stt (subG g F H σ env) F2 H2 σ2 b) (hf : freeS vs env = true) (hσ : wipe σ2 vs = wipe σ vs) (hl : lentB b = true) : Ex F F2 ∧ InS g F2 H2 σ (outE vs env b) D A vs σ2 b := by
  obtain ⟨x, L2⟩ := L.turn hA S2 hf hσ
  exact ⟨x, L2, L2.S.rebase (D := D) S2 hl (fun a _ => rfl) L.hn (fun i c q d r h1 h2 => ⟨_, _, outE_ow hf h1 h2⟩), freeS_out hf, hσ, hl⟩
theorem InS.put (hA : Acc A) {o u : HO} (I : InS g F H σ env D A vs σ2 b) (hD : H D = some u) (ha : A' F o) : InS g F (upd H D o) σ env D A' vs σ2 b :=
  have L := I.L.put (o := o) hA hD ha
  ⟨L, L.S.rebase (D := D) I.B I.hl (fun a ne => upd_ne ne) I.L.hn (fun i c q d r h1 h2 => ⟨_, _, h2⟩), I.hf, I.hσ, I.hl⟩
end
end VL
set_option maxRecDepth 100000
set_option maxHeartbeats 2000000
namespace VL
open PySem PySem.Spec L2
open PyProof.Rows hiding St
end VL
set_option maxRecDepth 100000
set_option maxHeartbeats 2000000
namespace VL
open PySem PySem.Spec L2
open PyProof.Rows hiding St
/-- the texts to be sorted -/
def keysS : List Key → Option (List Str)
  | [] => some []
  | .inr x :: ks => (keysS ks).map (x :: ·)
  | _ => none
def txtsP : PV → Option (List Str)
  | .lst xs => strsP xs
  | .dK ks _ => keysS ks
  | _ => none
def lnK (x : Str) : PyData := .tuple [.int x.cps.size, .str x]
/-- the order of the kit's rule (sorted_key_data) at this key -/
def sortLn (xs : List Str) : List Str := xs.mergeSort (PySem.W.dataLe false lnK)
def semLn : PV → Option PV := fun p => (txtsP p).bind fun xs => if xs.all (fun x => decide (x.cps.size < 4611686018427387904)) = true then some (.lst ((sortLn xs).map PV.str)) else none
def dSortLn (d : Env' → Res Val) : Env' → Res Val := fun e => (d e).bind fun x e1 => match peek x e1 with
  | some p => match semLn p with
    | some q => .ok (.new q) e1
    | none => .bad
  | none => .bad
end VL
set_option maxRecDepth 100000
set_option maxHeartbeats 2000000
namespace VL
open PySem PySem.Spec L2
open PyProof.Rows hiding St
end VL
set_option maxRecDepth 100000
set_option maxHeartbeats 2000000
namespace VL
open PySem PySem.Spec L2
open PyProof.Rows hiding St
end VL
set_option maxRecDepth 100000
set_option maxHeartbeats 2000000
namespace VL
open PySem PySem.Spec L2 LamX
open PyProof.Rows hiding St
def KptN (H H' : Hp) : Prop := ∀ b o, H b = some o → Kpt o (H' b)
theorem KptN.refl (H : Hp) : KptN H H := fun _ _ h => .inl h
/-- one entry more in a table -/
def entryV (ps : Array Value) (pos : Pos) (d : Addr) : Array Value := ps ++ #[rawInt pos.line, rawInt pos.col, .ref d]
theorem entryV_list (ps : Array Value) (pos : Pos) (d : Addr) : (entryV ps pos d).toList = ps.toList ++ [rawInt pos.line, rawInt pos.col, .ref d] := by
  simp [entryV]
/-- the abstract heap behind it -/
def withCode (H : Hp) (P d : Addr) (ps : Array Value) (pos : Pos) (x : Str) : Hp := upd (upd H P (.tbl (entryV ps pos d))) d (CodeO d x)
section
variable {H : Hp} {P d : Addr} {ps : Array Value} {pos : Pos} {x : Str}
theorem withCode_new : withCode H P d ps pos x d = some (CodeO d x) := upd_same
theorem withCode_tab (hP : H P = some (.tbl ps)) (hd : H d = none) : withCode H P d ps pos x P = some (.tbl (entryV ps pos d)) := by
  unfold withCode
  rw [upd_ne (ne_of_none hP hd)]
  exact upd_same
theorem withCode_old {b : Addr} (h1 : b ≠ P) (h2 : b ≠ d) : withCode H P d ps pos x b = H b := by
  unfold withCode
  rw [upd_ne h2, upd_ne h1]
theorem kpt_withCode (hP : H P = some (.tbl ps)) (hd : H d = none) : KptN H (withCode H P d ps pos x) := by
  intro b o hb
  have h2 : b ≠ d := ne_of_none hb hd
  by_cases h1 : b = P
  · rw [h1, hP] at hb
    cases hb
    rw [h1, withCode_tab hP hd]
    exact .inr ⟨ps, _, rfl, rfl⟩
  · rw [withCode_old h1 h2]
    exact .inl hb
/-- a code object that was known is known still -/
theorem code_withCode {c : Addr} {y : Str} (hP : H P = some (.tbl ps)) (hd : H d = none) (h : H c = some (CodeO c y)) : withCode H P d ps pos x c = some (CodeO c y) := by
  rw [withCode_old (fun z => ?_) (ne_of_none h hd)]
  · exact h
  · rw [z, hP] at h
    unfold CodeO at h
    cases h
theorem tabs_withCode {T : List (Addr × Str)} (hT : Tabs T H) (hP : H P = some (.tbl ps)) (hd : H d = none) (hx : ∀ p ∈ T, p.1 = P → p.2 = x) : Tabs T (withCode H P d ps pos x) := by
  intro p hp
  obtain ⟨qs, hq, ok, kn⟩ := hT p hp
  by_cases e : p.1 = P
  · rw [e, hP] at hq
    cases hq
    rw [hx p hp e] at kn ⊢
    refine ⟨_, by rw [e]; exact withCode_tab hP hd, by rw [entryV_list]; exact PySem.TriplesOk_snoc _ _ _ _ ok, ?_⟩
    intro pos' cv hcv
    rw [entryV_list] at hcv
    rcases among_app _ ok hcv with old | rfl
    · obtain ⟨c, rfl, hc⟩ := kn pos' cv old
      exact ⟨c, rfl, code_withCode hP hd hc⟩
    · exact ⟨d, rfl, withCode_new⟩
  · refine ⟨qs, by rw [withCode_old e (ne_of_none hq hd)]; exact hq, ok, ?_⟩
    intro pos' cv hcv
    obtain ⟨c, rfl, hc⟩ := kn pos' cv hcv
    exact ⟨c, rfl, code_withCode hP hd hc⟩
end
section
variable {X : Cx} {pins : List (Addr × Obj)} {σ : L2.St} {H : Hp} {s : Shared}
/-- no frame that runs stands where something new is laid -/
theorem not_frame (I : Inv X pins σ H s) {f : Addr} (hf : s.heap.objs.size ≤ f) : f ∉ frs X.stack := by
  intro hm
  cases List.mem_cons.mp (I.stkSub _ hm) with
  | inl e => exact absurd (e ▸ I.lt) (Nat.not_lt.mpr hf)
  | inr e => exact I.nofs hf e
theorem lam_make3 {T : List (Addr × Str)} {c P : Addr} {params : Arguments} {body : Expr} {scope : Scope} {pos : Pos} {E Q : Value → Shared → Prop} (I : Inv X pins σ H s) (tb : TabB X.base X.mg c P) (hc : X.env.code = .ref c) (mem : (P, X.env.qual ++ "<lambda>") ∈ T)
    (uniq : ∀ p ∈ T, p.1 = P → p.2 = X.env.qual ++ "<lambda>") (hT : Tabs T H) (nod : defaultsOf params X.env = ([], [])) (fr : ∀ y ∈ scope.names, y.2 = .free → ∃ c, X.env.cells.lookup y.1 = some c)
    (k : ∀ (f d : Addr) (pm ct : Value) (H1 : Hp) (s1 : Shared), Inv X pins σ H1 s1 → KptN H H1 → Tabs T H1 → s1.heap.get? f = some (PySem.W.kla_obj "<lambda>" (X.env.qual ++ "<lambda>") params body scope (cloFrom X.env.cells scope.names []) pm d ct) → H1 f = none → f ∉ frs X.stack → H1 d = some (CodeO d (X.env.qual ++ "<lambda>")) → Q (.ref f) s1) :
    wpAny (model X.prog X.w) X.A (eval (.Lambda params body scope pos) X.env) Q E s := by
  obtain ⟨ps, hP, ok, kn⟩ := hT _ mem
  have atP : s.heap.get? P = some { cls := .none, data := .fields ps } := I.hok P _ hP
  have hd0 := tb.code.keeps I.bk
  have bm0 : s.heap.BuiltinsAt X.mg P := tb.bm.keeps I.bk
  have gl := I.mod.glob.keeps I.bk
  refine PySem.W.kla_eval nod ?_
  by_cases hit : ∃ cv, codeAmong pos ps.toList = some cv
  · obtain ⟨cv, hcv⟩ := hit
    obtain ⟨d, rfl, hd⟩ := kn pos cv hcv
    refine PySem.W.kla_makeFunctionHit (mg := X.mg) (P := P) (ps := ps) (closure_ok fr) I.ok.glob gl hc hd0 atP ok hcv bm0 fun ct g tk keep le => ?_
    refine k _ d _ ct H _ (I.kept (t' := tk) fun b o e => Heap.get?_push_of_some _ (keep b o e)) (KptN.refl H) hT (Heap.get?_push_size _ rfl) (I.hok.fresh le) (not_frame I le) hd
  · have none_ : codeAmong pos ps.toList = none := by
      cases q : codeAmong pos ps.toList with
      | none => rfl
      | some cv => exact absurd ⟨cv, q⟩ hit
    refine PySem.W.kla_makeFunction (mg := X.mg) (P := P) (ps := ps) (closure_ok fr) I.ok.glob gl hc hd0 atP ok none_ tb.gP bm0 fun d ct g tk ext dge dlt rec tabg => ?_
    obtain ⟨d', oc, vs, t, e, hoc, hdat, hname⟩ := rec
    cases e
    have dn : H d = none := I.hok.fresh dge
    have gge : s.heap.objs.size ≤ g.objs.size := by omega
    have fnew : withCode H P d ps pos (X.env.qual ++ "<lambda>") g.objs.size = none := by
      rw [withCode_old (Nat.ne_of_gt (Nat.lt_of_lt_of_le (Heap.lt_size atP) gge)) (Nat.ne_of_gt dlt)]
      exact I.hok.fresh gge
    refine k g.objs.size d _ ct (withCode H P d ps pos (X.env.qual ++ "<lambda>")) _ ?_ (kpt_withCode hP dn) (tabs_withCode hT hP dn uniq) (Heap.get?_push_size _ rfl) fnew (not_frame I gge) withCode_new
    refine inv_table (t' := tk) (more := #[rawInt pos.line, rawInt pos.col, .ref d]) I hP (fun b o hb e => ?_) (Heap.get?_push_of_some _ tabg) dge ⟨oc, vs, t, Heap.get?_push_of_some _ hoc, hdat, hname⟩
    exact Heap.get?_push_of_some _ (ext b o hb e)
end
section
variable {g : Gm} {F H H1 : Hp} {σ : L2.St} {env : Env'}
theorem Stt.lam (S : Stt g F H σ env) (k : KptN H H1) (T : LamX.Tabs g.C.T H1) : Stt g F H1 σ env where
  len := S.len
  frame := fun b o q n => (S.frame b o q n).trans fun o' q' => k b o' q'
  live := fun b hb => let ⟨o, q⟩ := S.live b hb; (k b o q).some
  ext := S.ext
  fresh := S.fresh
  sub := fun b o q => by
    rcases S.sub b o q with z | ⟨d, ob, z⟩
    · exact .inl (z.trans fun o' q' => k b o' q')
    · exact .inr ⟨d, ob, (k b _ z).eq fun ps e => by cases e⟩
  fz := S.fz
  ow := fun i b p q => by
    obtain ⟨a, h1, h2, h3, h4⟩ := S.ow i b p q
    obtain ⟨o, ho⟩ := h2.cell
    have e := (k a o ho).eq (h2.pln ho).1
    exact ⟨a, h1, h2.mono (Ex.refl F).le (by rw [e, ho]), h3, h4⟩
  inj := S.inj
  tab := T
end
end VL
set_option maxRecDepth 100000
set_option maxHeartbeats 2000000
namespace VL.Srt
open PySem PySem.Calls PySem.W PyProof.Rows
end VL.Srt
namespace VL
open PySem PySem.Spec L2
open PyProof.Rows hiding St
open PySem.W (EachIs)
theorem RV.lam {g : Gm} {F H H1 : Hp} {σ : L2.St} {env : Env'} {x : Val} {v : V} (r : RV g F H σ env x v) (k : KptN H H1) : RV g F H1 σ env x v := by
  cases x with
  | fz p => exact r
  | bor i => exact r
  | new p =>
    obtain ⟨a, e, h, r2⟩ := r
    obtain ⟨o, ho⟩ := h.cell
    exact ⟨a, e, h.mono (Ex.refl F).le (((k a o ho).eq (h.pln ho).1).trans ho.symm), r2⟩
end VL
set_option maxRecDepth 100000
set_option maxHeartbeats 2000000
namespace VL
open PySem PySem.Spec L2 LamX
open PyProof.Rows hiding St
open PySem.W (EachIs)
/-- the name of a lambda made in the def x -/
def lamQ (x : Str) : Str := (x ++ ".<locals>.") ++ "<lambda>"
/-- what is known of a def x that makes a lambda: its code object at c, its table -/
structure LamF (base : Heap) (mg : Str → Option Value) (C : Ct) (x : Str) (c : Addr) : Prop where
  ex : ∃ P, TabB base mg c P ∧ (P, lamQ x) ∈ C.T ∧ ∀ p ∈ C.T, p.1 = P → p.2 = lamQ x
end VL
set_option maxRecDepth 100000
set_option maxHeartbeats 2000000
namespace VL
open PySem PySem.Spec L2 LamX
open PyProof.Rows hiding St
theorem spv_law {C : Ct} {fn : List PV → FR} {ns : List Int} {a : Addr} {H : Hp} (hS : SqL C.K H a (ns.map V.int)) (hT : Tabs C.T H) (hf : fn [.scr ns] = .ok (.fz (.bl true)) []) : SpV C [false] fn [.ref a] H (fun v _ => v = .bl true) fun _ _ _ => False := by
  have ha : (fun b => if b = a then H b else none : Hp) a = H a := if_pos rfl
  refine ⟨fun b => if b = a then H b else none, [.scr ns], .fz (.bl true), [], fun b o (e : (if b = a then H b else none) = some o) => ?_, hT, ⟨_, _, _, _, rfl, rfl, ?_, rfl, rfl⟩, List.nodup_nil, hf, fun F' H' v _ _ _ _ _ _ r => ?_⟩
  · by_cases hb : b = a
    · rw [if_pos hb] at e
      exact .inl (.inl e)
    · rw [if_neg hb] at e; cases e
  · rw [if_neg Bool.false_ne_true]
    unfold R
    refine ⟨a, rfl, ?_⟩
    rcases hS with h | h
    · rcases h with h | ⟨o, h⟩
      · exact .inl (.inl (ha.trans h))
      · exact .inl (.inr ⟨o, ha.trans h⟩)
    · exact .inr h
  · have r : R C F' (.bl true) v := r
    unfold R at r
    exact r
theorem tabs_nil {T : List (Addr × Str)} {H : Hp} (h : ∀ p ∈ T, H p.1 = some (.tbl #[])) : Tabs T H := fun p hp => TabS.nil (h p hp)
/-- a def that makes a lambda, from the head's facts -/
theorem code_at {K : PySem.W.Frag} {x qual : Str} {params : Arguments} {body : List Stmt} {scope : Scope} {dvs : List V} {kws : List (Str × V)} {p : Str × Option Str} {fd : FuncData} (F : FunD K x qual params body scope dvs kws (He.fAd K p) fd) : fd.code = .ref (He.cT K p).1 := by
  obtain ⟨oc, od, dV, kV, doc, pm, an, cdv, ct, osl, e, lk, hcd, _, _⟩ := F.ex
  obtain ⟨c, hc⟩ := He.codeIn_ref hcd
  have e1 : fd.code = .ref c := by rw [e]; exact hc
  rw [e1]
  exact congrArg Value.ref (He.codeOf_eq lk e1).symm
end VL
set_option maxRecDepth 100000
set_option maxHeartbeats 2000000
namespace VL
open PySem PySem.Spec L2
open PyProof.Rows hiding St
/-- its names: the parameters, super, __class__ -/
structure SupScope (N ps : List Str) (sc : Scope) : Prop where
  kind : sc.kind = .function
  co : sc.isCoroutine = false
  gen : sc.isGenerator = false
  nd : N.Nodup
  pre : N.take ps.length = ps
  par : ∀ x ∈ ps, sc.names.lookup x = some .local
  nocell : ∀ x ∈ sc.names, x.2 ≠ .cell
  free : ∀ x ∈ sc.names, x.2 = .free → x.1 = "__class__"
  cls : sc.names.lookup ("__class__" : Str) = some .free
  sup : sc.names.lookup ("super" : Str) = some .globalImplicit
def supScopeB (N ps : List Str) (sc : Scope) : Bool :=
  decide (sc.kind = .function) && (!sc.isCoroutine && (!sc.isGenerator && (decide N.Nodup && (decide (N.take ps.length = ps) && (ps.all (fun x => decide (sc.names.lookup x = some .local)) && (sc.names.all (fun x => decide (x.2 ≠ .cell)) &&
    (sc.names.all (fun x => decide (x.2 = .free → x.1 = "__class__")) && (decide (sc.names.lookup ("__class__" : Str) = some .free) && decide (sc.names.lookup ("super" : Str) = some .globalImplicit)))))))))
theorem supScope_by {N ps : List Str} {sc : Scope} (h : supScopeB N ps sc = true) : SupScope N ps sc := by
  simp only [supScopeB, Bool.and_eq_true, decide_eq_true_eq, Bool.not_eq_true', List.all_eq_true] at h
  obtain ⟨h1, h2, h3, h4, h5, h6, h7, h8, h9, h10⟩ := h
  exact ⟨h1, h2, h3, h4, h5, h6, h7, h8, h9, h10⟩
abbrev supEnv (qual : Str) (scope : Scope) (L f : Addr) (cd : Value) (cc : Addr) : Env := PySem.W.ksEnv qual scope L f cd cc
/-- the context of such a body, at its entry -/
def cxSup (CX : CXT) (P : Program) (w : World) (K : PySem.W.Frag) (mg : Str → Option Value) (base : Heap) (N : List Str) (qual : Str) (scope : Scope) (f : Addr) (cd : Value) (cc : Addr) (A : Around) (outer : List Env) (s : Shared) (H : Hp) (E : XK) : Cx :=
  let env := supEnv qual scope s.heap.objs.size f cd cc
  { prog := P, w := w, K := K, mg := mg, base := base, A := A.deeper env, N := N, s_0 := s, H_0 := H, env := env, outer := outer, stack := env :: outer, ex := [], fn := fun x => x != "__class__", calm := true, pn := []
    xe := fun e s' => wpAny (model P w) (A.deeper env) (leaving env e) (fun _ s'' => CX outer H s E e s'') (fun e' s'' => CX outer H s E e' s'') s' }
theorem lookup_nodup {x : Str} {u : Value} : ∀ {l : List (Str × Value)}, (l.map Prod.fst).Nodup → (x, u) ∈ l → l.lookup x = some u
  | [], _, h => by cases h
  | (y, v) :: l, nd, h => by
    rw [List.lookup_cons]
    obtain ⟨n1, n2⟩ := List.nodup_cons.mp nd
    rcases List.mem_cons.mp h with h | h
    · cases h
      simp
    · have : x ≠ y := fun z => n1 (by rw [← z]; exact List.mem_map.mpr ⟨_, h, rfl⟩)
      rw [show (x == y) = false from by simpa using this]
      exact lookup_nodup n2 h
theorem zip_fst : ∀ {ps : List Str} {us : List Value}, us.length = ps.length → (ps.zip us).map Prod.fst = ps
  | [], us, _ => by simp
  | p :: ps, [], h => by simp at h
  | p :: ps, u :: us, h => by
    rw [List.zip_cons_cons, List.map_cons, zip_fst (by simpa using h)]
section
variable {CX : CXT} {P : Program} {w : World} {K : PySem.W.Frag} {mg : Str → Option Value} {base : Heap} {N ps : List Str} {qual : Str} {scope : Scope} {f cc C : Addr} {cd : Value} {A : Around} {outer : List Env} {s : Shared} {H : Hp} {E : XK} {us : List Value} {vs : List V}
theorem inv_sup {cl : Value} {cld : Option Addr} {csl : Array (Option Value)} {h₀ : Heap} {t : Nat} (S : SupScope N ps scope) (hd : A.handled = none) (e0 : Env0 P w K mg base A outer s H) (hl : vs.length = ps.length) (r : Vals vs us) (hcc : K.lookup cc = some ⟨cl, cld, .cell (some (.ref C)), csl⟩)
    (hns : h₀.Ns s.heap.objs.size fun x => (ps.zip us).reverse.lookup x) (hk : ∀ b o, s.heap.get? b = some o → h₀.get? b = some o) : Inv (cxSup CX P w K mg base N qual scope f cd cc A outer s H E) [] (start N vs) H { s with heap := h₀, toks := t } := by
  have hul : us.length = ps.length := by rw [← hl]; exact (Paired.length r).symm
  have hb := e0.mod.kin _ _ hcc
  have one : ∀ {x : Str} {c : Addr}, List.lookup x [(("__class__" : Str), cc)] = some c → x = "__class__" ∧ c = cc := fun {x c} h => by
    rw [List.lookup_cons] at h
    split at h
    · rename_i z
      cases h
      exact ⟨by simpa using z, rfl⟩
    · cases h
  have none' : ∀ b : Addr, b ∉ (cxSup CX P w K mg base N qual scope f cd cc A outer s H E).ex := fun b z => absurd (show b ∈ ([] : List Addr) from z) (by simp)
  constructor
  case ok =>
    constructor
    case mod => exact e0.mod
    case kind => exact S.kind
    case glob => rfl
    case blt => rfl
    case above => exact Nat.le_refl _
    case inj => exact fun x y c h1 h2 => (one h1).1.trans (one h2).1.symm
    case has =>
      intro x hx
      have hx : scope.names.lookup x = some .cell ∨ scope.names.lookup x = some .free := hx
      rcases hx with hx | hx
      · exact absurd rfl (S.nocell _ (PySem.mem_of_lookup hx))
      · have e : x = "__class__" := S.free _ (PySem.mem_of_lookup hx) rfl
        subst e
        exact ⟨cc, rfl⟩
    case cab =>
      intro x c hf h
      have e := (one h).1
      subst e
      exact absurd hf (by show ¬ ((("__class__" : Str) != "__class__") = true); simp)
    case hd => exact fun _ => hd
    case frames => exact Around.frames_deeper e0.frames
    case stk => exact .inr ⟨rfl, rfl⟩
    case exf => exact fun b z => absurd z (none' b)
    case bs => exact e0.bs
    case bsz => exact e0.bsz
    case noex => exact fun b _ _ => none' b
    case exfs => exact fun b z => absurd z (none' b)
    case funs => exact e0.funs
    case frf => exact e0.frf
  case os => rfl
  case bare => exact e0.bare
  case base => exact Un.kept hk
  case loc =>
    refine ⟨_, hns, fun i x v h1 h2 h3 => ?_⟩
    have h2 : (vs.map some ++ List.replicate (N.length - vs.length) none)[i]? = some (some v) := h2
    have hi : i < vs.length := by
      refine Nat.lt_of_not_le fun hi => ?_
      rw [List.getElem?_append_right (by rw [List.length_map]; exact hi), List.getElem?_replicate] at h2
      split at h2 <;> cases h2
    rw [List.getElem?_append_left (by rw [List.length_map]; exact hi), List.getElem?_map] at h2
    have hv : vs[i]? = some v := by
      cases e : vs[i]? with
      | none => rw [e] at h2; cases h2
      | some y => rw [e] at h2; cases h2; rfl
    obtain ⟨u, hu, rv⟩ := r.get hv
    have hp : ps[i]? = some x := by
      rw [← S.pre, List.getElem?_take_of_lt (by omega)]
      exact h1
    have ndp : ps.Nodup := by
      rw [← S.pre]
      exact S.nd.sublist (List.take_sublist _ _)
    refine ⟨u, rv, .inl ⟨S.par x (List.mem_of_getElem? hp), ?_⟩⟩
    refine lookup_nodup ?_ ?_
    · rw [List.map_reverse, zip_fst hul]
      exact List.pairwise_reverse.mpr (List.Pairwise.imp (fun h => Ne.symm h) ndp)
    · refine List.mem_reverse.mpr (List.mem_of_getElem? (i := i) ?_)
      rw [List.getElem?_zip_eq_some]
      exact ⟨hp, hu⟩
  case cell =>
    intro x c h
    obtain ⟨_, rfl⟩ := one h
    exact ⟨_, _, hk _ _ (e0.bs _ _ hb).1, rfl⟩
  case free => exact e0.hok.fresh (Nat.le_refl _)
  case freeC =>
    intro x c h
    obtain ⟨_, rfl⟩ := one h
    exact (e0.bs _ _ hb).2
  case pin => exact fun p hp => absurd (show p ∈ ([] : List (Addr × Obj)) from hp) (by simp)
  case hok => exact e0.hok.kept hk
  case len =>
    show (vs.map some ++ List.replicate (N.length - vs.length) none).length = N.length
    have : ps.length ≤ N.length := by
      have := congrArg List.length S.pre
      rw [List.length_take] at this
      omega
    rw [List.length_append, List.length_map, List.length_replicate]
    omega
/-- the class: one of the package's errors whose __init__ is looked up behind it in ValueError -/
structure SupC (K : PySem.W.Frag) (C : Addr) : Prop where
  o : OexC K C
  ve : PySem.W.ks_superIn K C C "__init__" = some (some (.builtin "ValueError.__init__"))
  sv : PySem.W.subIn K (.ref C) (.type "ValueError") = some true
  me : PySem.W.mroIn K C (.ref C) = some true
  tp : PySem.W.nsIn K cStatics "thirdparty.any" = some none
  nm : PySem.W.nsIn K mainGlobals "super" = some none
/-- super().__init__(text): the error's args are laid anew, of which nothing is told -/
theorem sup_line {cl ccl : Value} {cld cdd : Option Addr} {csl ccs : Array (Option Value)} {vs' : Array Value} {name : Str} {params : Arguments} {body : List Stmt} {dV kV doc pm ct oc : Value} {an od : Option Addr} {osl : Array (Option Value)} {cda a : Addr} {file : Str} {tf : Tok} {ar : Arg} {p0 p1 p2 p3 p4 p5 : Pos} {m : Str} {j : Nat} {σ : St} {X : Cx} {pl : Sem Bool}
    (hX : X = cxSup CX P w K mg base N qual scope f (.ref cda) cc A outer s H E) (S : SupScope N ps scope) (T : SupC K C) (lk : K.lookup f = some ⟨oc, od, .func (PySem.W.ksFn name qual params body scope dV kV doc pm an (.ref cda) ct cc), osl⟩)
    (hcc : K.lookup cc = some ⟨cl, cld, .cell (some (.ref C)), csl⟩) (hcda : K.lookup cda = some ⟨ccl, cdd, .fields vs', ccs⟩) (hvs : vs'[2]? = some (.str file tf)) (hfile : ((P.main.file : Str) == file) = true) (htop : (P.main.scope.names.lookup ("super" : Str)).isSome = false)
    (har : (params.posonlyargs ++ params.args).head? = some ar) (h0 : N[0]? = some ar.arg) (hps : ar.arg ∈ ps) (hσ : σ[0]? = some (some (.ref a))) (s1 : Shared) {H1 : Hp} (I : Inv X [] σ H1 s1) (ha : H1 a = some (exo a C none)) {Q : Flow → Shared → Prop} {E' : Value → Shared → Prop}
    (h : ∀ s2, Inv X [] σ H1 s2 → Q .next s2)
    (he : eval (.Call (.Attribute (.Call (.Name "super" p0) [] [] p1) "__init__" p2) [.Constant (.str m) j p3] [] p4) X.env = (do
      let ov ← attributeBase (.Call (.Name "super" p0) [] [] p1) "__init__" X.env (eval (.Call (.Name "super" p0) [] [] p1) X.env)
      standAt p2.atName
      let (f, first) ← holding [ov] (getMethod ov "__init__" pl)
      callWith p4 f first (backTo p4 (starEach [.Constant (.str m) j p3] X.env)) []) := by rfl)
    (hi : interactive X.env = false := by rfl) (hw : swapsWith (.Call (.Attribute (.Call (.Name "super" p0) [] [] p1) "__init__" p2) [.Constant (.str m) j p3] [] p4) none p5.line X.env = pure false := by rfl) :
    PySem.wpAt (model P w) X.A (.func body X.env) (exec (.Expr (.Call (.Attribute (.Call (.Name "super" p0) [] [] p1) "__init__" p2) [.Constant (.str m) j p3] [] p4) p5) X.env) Q E' s1 := by
  subst hX
  have KX : K.In s1.heap := I.kIn
  obtain ⟨nm, q, N', bs, bm, sn, sub, ab, col, dd, k0, k1, k2, k3, k5, hC, hbm⟩ := T.o.cls
  have hcl : PySem.W.clsIn K C = some { name := nm, bases := bs, mro := .ref C :: bm, ns := N', qualname := q, hasDict := true, slotNames := sn, subclasses := sub, abstract := ab, collection := col, hasDel := false } := by unfold PySem.W.clsIn; rw [hC] <;> rfl
  obtain ⟨t1, ho⟩ := exo_at I.hok ha
  obtain ⟨ml, hml, hlook⟩ := I.loc
  have hself : ml ar.arg = some (.ref a) := by
    obtain ⟨u, ru, hu⟩ := hlook 0 ar.arg (.ref a) h0 hσ (.inl (S.par _ hps))
    obtain rfl : u = Value.ref a := ru
    rcases hu with ⟨_, hu⟩ | ⟨hu, _⟩
    · exact hu
    · have hu : scope.names.lookup ar.arg = some .cell ∨ scope.names.lookup ar.arg = some .free := hu
      rw [S.par _ hps] at hu
      rcases hu with hu | hu <;> cases hu
  refine ks_wpAt_Expr_any (ks_wpAt_MethodCall (ks_wpAt_super_base (of := ⟨oc, od, .func (PySem.W.ksFn name qual params body scope dV kV doc pm an (.ref cda) ct cc), osl⟩) S.sup S.cls rfl rfl (KX _ _ lk) rfl har rfl (KX _ _ hcda) rfl hvs hfile htop ?_) he) hi hw
  obtain ⟨mb, hb1, hb2⟩ := I.mod.blt
  refine PySem.W.ks_loadName_global S.kind S.sup (Calls.loadGlobal_builtin (env := supEnv qual scope s.heap.objs.size f (.ref cda) cc) (I.mod.glob.keeps I.bk) (PySem.W.mg_none_of KX (I.mod.glob.keeps I.bk) T.nm) (hb1.keeps I.bk) ((hb2 _ (by decide +kernel)).trans PyProof.Rows.Boot.«super») ⟨rfl, ?_⟩)
  refine wpAny_loadName_free (env := supEnv qual scope s.heap.objs.size f (.ref cda) cc) S.kind S.cls rfl ⟨_, KX _ _ hcc, rfl⟩ ?_
  refine wpAny_loadName_local (env := supEnv qual scope s.heap.objs.size f (.ref cda) cc) S.kind (S.par _ hps) hml hself ?_
  have hD := KX _ _ hC
  refine ks_wpAny_isType_cls hD rfl ⟨rfl, ?_⟩
  obtain ⟨hp, g, d, t, os⟩ := s1
  refine ks_wpAny_call_super hD rfl ho rfl (fun c e => by cases e) (PySem.W.looks_mroIn KX T.me) fun h' eso k1 => ?_
  have I2 := I.kept (t' := t) k1
  have K2 : K.In h' := I2.kIn
  have ho2 := k1 _ _ ho
  have hne : a ≠ C := fun z => by
    rw [z] at ho
    rw [KX _ _ hC] at ho
    cases ho
  have hsup := T.ve
  unfold PySem.W.ks_superIn at hsup
  rw [hcl] at hsup
  refine PySem.W.kxs_getMethod PySem.W.kxs_ValueError eso (PySem.W.looks_opaque K2 T.tp) (l₀ := .ref C :: bm) (fun A Q E s k q => wpAny_bind ((PySem.W.looks_clsIn K2 hcl) A _ E s k (wpAny_pure q))) rfl K2 hsup
    ((PySem.W.InstAt.type (od := none) ⟨ho2, rfl, rfl, trivial⟩).andThen (PySem.W.looks_subIn K2 T.sv)) hne (by decide) ?_
  obtain ⟨h2, eh2⟩ : ∃ h2, h2 = h'.push (PySem.W.kxs_mw "ValueError.__init__" a) := ⟨_, rfl⟩
  have k2 : ∀ b o, h'.get? b = some o → h2.get? b = some o := fun b o e => by rw [eh2]; exact Heap.get?_push_of_some _ e
  have hu : h2.get? h'.objs.size = some (PySem.W.kxs_mw "ValueError.__init__" a) := by rw [eh2]; exact Heap.get?_push_size _ rfl
  rw [← eh2]
  show wpAny _ _ (callWith p4 (.ref h'.objs.size) [] (backTo p4 (starEach [.Constant (.str m) j p3] (supEnv qual scope s.heap.objs.size f (.ref cda) cc))) []) _ _ _
  refine PySem.W.kxs_callWith (i := "ValueError.__init__") (x := a) rfl (Calls.evalArgs_plain (Calls.spliced_cons ?_))
  rw [if_neg Bool.false_ne_true]
  refine Calls.Constant_str (Calls.spliced_nil ⟨hu, ?_⟩)
  have I3 := I.kept (t' := t) fun b o e => k2 b o (k1 b o e)
  have FB := F.excBase_ValueError
  refine wpAny_call (codeAny_of_tree ?_)
  show wpAny _ _ (callAny (.ref h'.objs.size) ⟨[.str m (t + 1)], []⟩) _ _ _
  unfold callAny
  refine wpAny_bind (wpAny_load hu ?_)
  refine PySem.W.KFB.if_so (by show (Value.type "method-wrapper" == Value.type "method" || Value.type "method-wrapper" == Value.type "builtin_function_or_method" || Value.type "method-wrapper" == Value.type "method-wrapper") = true; decide) ?_
  refine wpAny_bind (PySem.W.check_bound_init FB.toExcCallFacts (k2 _ _ (k1 _ _ hD)) (k2 _ _ ho2) rfl ?_)
  refine wpAny_bind (wpAny_pure (wpAny_pure ⟨plainId_quiet FB.init.plain _, codeAny_builtin FB.initEntry ?_⟩))
  refine PySem.W.exc_init_tree (k2 _ _ ho2) (by show 1 ≤ sizeLine; decide) fun h3 k3 e3 _ => ?_
  have J := I3.write (t' := t + 1 + 1) (x := a) (e := a) (o := exo a C none) (h' := h3) (by rw [ha]; exact True.intro) (.inl rfl) k3 ⟨_, e3⟩ (exo_ok e3)
  have eu : upd H1 a (exo a C none) = H1 := by
    funext b
    by_cases hb : b = a
    · rw [hb, upd_same, ha]
    · rw [upd_ne hb]
  rw [eu] at J
  exact h _ J
end
end VL
set_option maxRecDepth 100000
set_option maxHeartbeats 2000000
namespace VL
open PySem PySem.Spec L2
open PyProof.Rows hiding St
/-- the rest of such a body: the parameters from the k-th on are kept under the names fs -/
inductive ErrRest (ps : List Str) (self : Str) : List Stmt → List Str → Nat → Prop where
  | nil (k : Nat) : ErrRest ps self [] [] k
  | cons {k : Nat} {y f : Str} {p1 p2 p3 p4 : Pos} {rest : List Stmt} {fs : List Str} (h1 : ps[k]? = some y) (h2 : (y == ("__debug__" : Str)) = false) (h3 : (y == ("__classdict__" : Str)) = false) (h : ErrRest ps self rest fs (k + 1)) :
    ErrRest ps self (.Assign [.Attribute (.Name self p1) f p2] (.Name y p3) p4 :: rest) (f :: fs) k
theorem flds_cons (f : Str) (w : V) (fs : List Str) (ws : List V) (done : List (Str × V)) : flds (f :: fs) (w :: ws) done = flds fs ws ((f, w) :: done) := by
  unfold flds
  rw [List.zip_cons_cons, List.reverse_cons, List.append_assoc]
  rfl
section
variable {X : Cx} {ps : List Str} {self : Str} {C : Addr}
/-- some fields stand already -/
def tErr2 (C : Addr) (fs : List Str) (k : Nat) : TS := fun D σ H => ∃ (a dx : Addr) (ws : List V) (done : List (Str × V)), σ[0]? = some (some (.ref a)) ∧ H a = some (exo a C (some dx)) ∧ H dx = some (exd dx done) ∧ a ≠ dx ∧ done.length + fs.length ≤ 900 ∧ ws.length = fs.length ∧
  (∀ i w, ws[i]? = some w → σ[k + i]? = some (some w)) ∧ ∀ H', H' dx = some (exd dx (flds fs ws done)) → (∀ b, b ≠ dx → H' b = H b) → D.nx σ H'
/-- none stands yet -/
def tErr1 (C : Addr) (fs : List Str) (k : Nat) : TS := fun D σ H => ∃ (a : Addr) (ws : List V), σ[0]? = some (some (.ref a)) ∧ H a = some (exo a C none) ∧ fs.length ≤ 900 ∧ ws.length = fs.length ∧ (∀ i w, ws[i]? = some w → σ[k + i]? = some (some w)) ∧
  (fs = [] → D.nx σ H) ∧ ∀ dx H', H dx = none → dx ≠ a → H' a = some (exo a C (some dx)) → H' dx = some (exd dx (flds fs ws [])) → (∀ b, b ≠ a → b ≠ dx → H' b = H b) → D.nx σ H'
theorem pssImp' {st : List Stmt} {t u : TS} (h : PSs X st t) (k : ∀ D σ H, u D σ H → t D σ H) : PSs X st u := ⟨fun pins s σ H D I q => h.run pins s σ H D I (k D σ H q)⟩
theorem err_rest2 (hp : ∀ (k : Nat) y, ps[k]? = some y → X.N[k]? = some y ∧ Vis X.env.scope y) (T : OexC X.K C) (h0 : ps[0]? = some self) (d0 : (self == ("__debug__" : Str)) = false) (d1 : (self == ("__classdict__" : Str)) = false) :
    ∀ {rest : List Stmt} {fs : List Str} {k : Nat}, ErrRest ps self rest fs k → (∀ f ∈ fs, PySem.W.findIn X.K (.ref C) f = some none) → PSs X rest (tErr2 C fs k) := by
  intro rest fs k h
  induction h with
  | nil k =>
    intro _
    refine pssImp' pss_nil fun D σ H ⟨a, dx, ws, done, _, _, e, _, _, hl, _, q⟩ => q H ?_ fun b _ => rfl
    have : ws = [] := List.length_eq_zero_iff.mp hl
    subst this
    exact e
  | @cons k y f p1 p2 p3 p4 rest fs h1 h2 h3 h ih =>
    intro hno
    refine pssImp' (pss_cons (ps_ost (pe_var (hp 0 _ h0).1 (hp 0 _ h0).2 d0 d1) (pe_var (hp k _ h1).1 (hp k _ h1).2 h2 h3)) (ih fun g hg => hno g (List.mem_cons_of_mem _ hg))) fun D σ H ⟨a, dx, ws, done, e0, ea, ed, hne, hz, hl, hw, q⟩ => ?_
    cases ws with
    | nil => cases hl
    | cons w ws =>
      refine ⟨w, hw 0 w rfl, .ref a, e0, a, C, rfl, T, hno f (List.mem_cons_self ..), .inr ⟨dx, done, ea, ed, ?_, ?_⟩⟩
      · have : done.length + (fs.length + 1) ≤ 900 := hz
        omega
      · refine ⟨a, dx, ws, (f, w) :: done, e0, by rw [upd_ne hne]; exact ea, upd_same, hne, ?_, by simpa using hl, fun i v hv => ?_, fun H' e1 e2 => ?_⟩
        · have : done.length + (fs.length + 1) ≤ 900 := hz
          show done.length + 1 + fs.length ≤ 900
          omega
        · have := hw (i + 1) v hv
          rw [show k + (i + 1) = k + 1 + i by omega] at this
          exact this
        · refine q H' (by rw [flds_cons]; exact e1) fun b hb => ?_
          rw [e2 b hb, upd_ne hb]
theorem err_rest1 (hp : ∀ (k : Nat) y, ps[k]? = some y → X.N[k]? = some y ∧ Vis X.env.scope y) (T : OexC X.K C) (h0 : ps[0]? = some self) (d0 : (self == ("__debug__" : Str)) = false) (d1 : (self == ("__classdict__" : Str)) = false)
    {rest : List Stmt} {fs : List Str} {k : Nat} (h : ErrRest ps self rest fs k) (hno : ∀ f ∈ fs, PySem.W.findIn X.K (.ref C) f = some none) : PSs X rest (tErr1 C fs k) := by
  cases h with
  | nil => exact pssImp' pss_nil fun D σ H ⟨a, ws, _, _, _, _, _, q, _⟩ => q rfl
  | cons h1 h2 h3 h =>
    rename_i y f p1 p2 p3 p4 rest fs
    refine pssImp' (pss_cons (ps_ost (pe_var (hp 0 _ h0).1 (hp 0 _ h0).2 d0 d1) (pe_var (hp k _ h1).1 (hp k _ h1).2 h2 h3)) (err_rest2 hp T h0 d0 d1 h fun g hg => hno g (List.mem_cons_of_mem _ hg))) fun D σ H ⟨a, ws, e0, ea, hz, hl, hw, _, q⟩ => ?_
    cases ws with
    | nil => cases hl
    | cons w ws =>
      refine ⟨w, hw 0 w rfl, .ref a, e0, a, C, rfl, T, hno f (List.mem_cons_self ..), .inl ⟨ea, fun dx hd hne => ?_⟩⟩
      refine ⟨a, dx, ws, [(f, w)], e0, upd_same, by rw [upd_ne hne, upd_same], Ne.symm hne, ?_, by simpa using hl, fun i v hv => ?_, fun H' e1 e2 => ?_⟩
      · have : fs.length + 1 ≤ 900 := hz
        show 1 + fs.length ≤ 900
        omega
      · have := hw (i + 1) v hv
        rw [show k + (i + 1) = k + 1 + i by omega] at this
        exact this
      · refine q dx H' hd hne ?_ (by rw [flds_cons]; exact e1) fun b ha hb => ?_
        · rw [e2 a (Ne.symm hne), upd_same]
        · rw [e2 b hb, upd_ne ha, upd_ne hb]
end
/-- what C's __init__ promises: its values stand under their names -/
def spErr (C : Addr) (fs : List Str) : Sp := fun vs H Q _ => ∃ (a : Addr) (ws : List V), vs = .ref a :: ws ∧ ws.length = fs.length ∧ H a = some (exo a C none) ∧ (fs = [] → Q .non H) ∧
  ∀ dx H', H dx = none → dx ≠ a → H' a = some (exo a C (some dx)) → H' dx = some (exd dx (flds fs ws [])) → (∀ b, b ≠ a → b ≠ dx → H' b = H b) → Q .non H'
section
variable {CX : CXT} {P : Program} {w : World} {K : PySem.W.Frag} {mg : Str → Option Value} {base : Heap} {N ps : List Str} {qual : Str} {scope : Scope} {f cc C : Addr}
theorem fn_err {cl ccl : Value} {cld cdd : Option Addr} {csl ccs : Array (Option Value)} {vs' : Array Value} {name : Str} {params : Arguments} {dV kV doc pm ct oc : Value} {an od : Option Addr} {osl : Array (Option Value)} {cda : Addr} {file : Str} {tf : Tok} {self : Str} {ar : Arg} {p0 p1 p2 p3 p4 p5 : Pos} {m : Str} {j : Nat} {k : Nat}
    {rest : List Stmt} {fs : List Str} {pl : Sem Bool} (T : SupC K C)
    (lk : K.lookup f = some ⟨oc, od, .func (PySem.W.ksFn name qual params (.Expr (.Call (.Attribute (.Call (.Name "super" p0) [] [] p1) "__init__" p2) [.Constant (.str m) j p3] [] p4) p5 :: rest) scope dV kV doc pm an (.ref cda) ct cc), osl⟩)
    (hcd : PySem.W.codeIn K (.ref cda) qual = true) (S : SupScope N ps scope) (hcc : K.lookup cc = some ⟨cl, cld, .cell (some (.ref C)), csl⟩) (hcda : K.lookup cda = some ⟨ccl, cdd, .fields vs', ccs⟩) (hvs : vs'[2]? = some (.str file tf)) (hfile : ((P.main.file : Str) == file) = true)
    (htop : (P.main.scope.names.lookup ("super" : Str)).isSome = false) (har : (params.posonlyargs ++ params.args).head? = some ar) (hself : ar.arg = self) (h0 : ps[0]? = some self) (d0 : (self == ("__debug__" : Str)) = false) (d1 : (self == ("__classdict__" : Str)) = false)
    (hps : ps.length = fs.length + 1) (hz : fs.length ≤ 900) (hr : ErrRest ps self rest fs 1) (hno : ∀ f ∈ fs, PySem.W.findIn K (.ref C) f = some none)
    (he : ∀ env, eval (.Call (.Attribute (.Call (.Name "super" p0) [] [] p1) "__init__" p2) [.Constant (.str m) j p3] [] p4) env = (do
      let ov ← attributeBase (.Call (.Name "super" p0) [] [] p1) "__init__" env (eval (.Call (.Name "super" p0) [] [] p1) env)
      standAt p2.atName
      let (f, first) ← holding [ov] (getMethod ov "__init__" pl)
      callWith p4 f first (backTo p4 (starEach [.Constant (.str m) j p3] env)) []) := by intro _; rfl) :
    FnOk P w K mg base CX (k + 1) f (PySem.W.ksFn name qual params (.Expr (.Call (.Attribute (.Call (.Name "super" p0) [] [] p1) "__init__" p2) [.Constant (.str m) j p3] [] p4) p5 :: rest) scope dV kV doc pm an (.ref cda) ct cc) ps (spErr C fs) := by
  have len : ∀ vs H Q E, spErr C fs vs H Q E → vs.length = ps.length := by
    rintro vs H Q E ⟨a, ws, rfl, hl, _⟩
    show ws.length + 1 = _
    rw [hps, hl]
  refine ⟨len, fun A outer s H args us vs Q E hrm e0 hb r hsp => ?_⟩
  have hl := len _ _ _ _ hsp
  have KX : K.In s.heap := e0.mod.kin.keeps fun b o e => (e0.bs b o e).1
  have lim : s.heap.NoLimit := e0.mod.nolimit.keeps fun b o e => (e0.bs b o e).1
  have h0N : ∀ (i : Nat) y, ps[i]? = some y → N[i]? = some y := fun i y hy => by
    rw [← S.pre, List.getElem?_take] at hy
    split at hy
    · exact hy
    · cases hy
  refine PySem.ks_codeAny_call_defAt hrm.depth (KX _ _ lk) rfl lim (PySem.W.codeRec_of KX hcd) rfl hb S.nocell (fun x hx => S.par _ (List.of_mem_zip hx).1) (fun h₀ hns hk => ?_) S.co S.gen S.kind
  have I := inv_sup (CX := CX) (qual := qual) (f := f) (cd := .ref cda) (E := E) (t := s.toks + (ps.zip us).length) S hrm.hd e0 hl r hcc hns hk
  obtain ⟨a, ws, rfl, hw, ha, q0, q⟩ := hsp
  have hσ : (start N (.ref a :: ws))[0]? = some (some (.ref a)) := rfl
  have hat : ∀ i v, ws[i]? = some v → (start N (.ref a :: ws))[1 + i]? = some (some v) := fun i v hv => by
    show ((V.ref a :: ws).map some ++ _)[1 + i]? = _
    have hi : i < ws.length := (List.getElem?_eq_some_iff.mp hv).1
    rw [List.getElem?_append_left (by rw [List.length_map]; show 1 + i < ws.length + 1; omega), List.getElem?_map, Nat.add_comm, List.getElem?_cons_succ, hv]
    rfl
  have hself' : ar.arg ∈ ps := by rw [hself]; exact List.mem_of_getElem? h0
  refine PySem.ks_wpAt_execs_cons (sup_line (X := cxSup CX P w K mg base N qual scope f (.ref cda) cc A outer s H E) rfl S T lk hcc hcda hvs hfile htop har (by rw [hself]; exact h0N _ _ h0) hself' hσ _ I ha (fun s2 I2 => ?_) (he _) (by show interactive (supEnv qual scope s.heap.objs.size f (.ref cda) cc) = false; unfold interactive; rw [show (supEnv qual scope s.heap.objs.size f (.ref cda) cc).scope.kind = .function from S.kind]; rfl) (by rfl))
  refine PySem.wpAt_of_wpAny (wpAny_mono ((err_rest1 (X := cxSup CX P w K mg base N qual scope f (.ref cda) cc A outer s H E) (fun i y hy => ⟨h0N i y hy, .inl (S.par _ (List.mem_of_getElem? hy))⟩) T.o h0 d0 d1 hr hno).run [] s2 _ H { nx := fun _ H' => Q .non H', rt := Q } I2 ?_) (fun fl s' hs => ?_) fun e s' hs => hs)
  · exact ⟨a, ws, hσ, ha, hz, hw, hat, q0, q⟩
  · have fin : ∀ {σ' : L2.St} {H' : Hp} {v : V} {u : Value}, Inv (cxSup CX P w K mg base N qual scope f (.ref cda) cc A outer s H E) [] σ' H' s' → RelV v u → Q v H' → CE outer P w H s Q u s' :=
      fun {σ' H' v u} J rv q => ⟨v, H', J.os, J.bare, J.base, J.hok, rv, q⟩
    cases fl with
    | ret u =>
      obtain ⟨v, σ', H', J, rv, q⟩ := hs
      exact fin J rv q
    | next =>
      obtain ⟨σ', H', J, q⟩ := hs
      exact fin (v := V.non) (u := Value.none) J rfl q
    | brk =>
      obtain ⟨_, _, _, q⟩ := hs
      exact False.elim q
    | cont =>
      obtain ⟨_, _, _, q⟩ := hs
      exact False.elim q
end
end VL
set_option maxRecDepth 100000
set_option maxHeartbeats 2000000
namespace VL
open PySem PySem.Spec L2
open PyProof.Rows hiding St
/-- H' is H and a new error at a -/
def MadeE (C : Addr) (fs : List Str) (vs : List V) (a : Addr) (H H' : Hp) : Prop := H a = none ∧ ((fs = [] ∧ H' = upd H a (exo a C none)) ∨
  ∃ dx, H dx = none ∧ dx ≠ a ∧ H' a = some (exo a C (some dx)) ∧ H' dx = some (exd dx (flds fs vs [])) ∧ ∀ b, b ≠ a → b ≠ dx → H' b = H b)
section
variable {X : Cx} {CX : CXT} {x : Str} {C fI : Addr} {k : Nat} {fd : FuncData} {ps fs : List Str} {p pos : Pos} {e : Expr} {es : List Expr} {ta : TA}
/-- what the making rules ask of the class x -/
structure MkE (X : Cx) (CX : CXT) (k : Nat) (x : Str) (C fI : Addr) (fd : FuncData) (ps fs : List Str) : Prop where
  c : SupC X.K C
  ini : PySem.W.findIn X.K (.ref C) "__init__" = some (some (.ref fI))
  typ : PySem.W.typeIn X.K (.ref fI) = some (.type "function")
  fn : FnOk X.prog X.w X.K X.mg X.base CX k fI fd ps (spErr C fs)
  bnd : Binds X.K fd ps []
  pas : Passes CX X (fun _ _ _ => False)
  few : fs.length ≤ 900
  nam : X.mg x = some (.ref C)
  dbg : (x == ("__debug__" : Str)) = false
end
end VL
set_option maxRecDepth 100000
set_option maxHeartbeats 2000000
namespace VL
open PySem PySem.Spec L2
open PyProof.Rows hiding St
section
variable {X : Cx} {g : Gm} {F H H' : Hp} {σ : St} {env : Env'}
variable {CX : CXT} {x : Str} {fI : Addr} {k : Nat} {fd : FuncData} {ps : List Str} {p pos : Pos} {e : Expr} {es : List Expr} {ds : List (Env' → Res Val)} {c n : Nat}
/-- what the error class c must say -/
structure ErrC (C : Ct) (c : Nat) : Prop where
  exc : ExcC C.K (C.ea c)
  no : ∀ f ∈ C.eL c, PySem.W.findIn C.K (.ref (C.ea c)) (C.nm f) = some none
  nd : (C.el c).Nodup
theorem flds_at : ∀ {fs : List Str} {vs : List V} {i : Nat} {f : Str} {v : V}, fs.Nodup → fs[i]? = some f → vs[i]? = some v → (f, v) ∈ fs.zip vs
  | [], _, _, _, _, _, h, _ => by simp at h
  | _ :: _, [], _, _, _, _, _, h => by simp at h
  | g :: fs, w :: vs, 0, f, v, nd, h1, h2 => by
    simp at h1 h2
    subst h1 h2
    simp
  | g :: fs, w :: vs, i + 1, f, v, nd, h1, h2 => by
    rw [List.zip_cons_cons]
    exact List.mem_cons_of_mem _ (flds_at (List.nodup_cons.mp nd).2 (by simpa using h1) (by simpa using h2))
theorem lookup_ndV {x : Str} {u : V} : ∀ {l : List (Str × V)}, (l.map Prod.fst).Nodup → (x, u) ∈ l → l.lookup x = some u
  | [], _, h => by cases h
  | (y, v) :: l, nd, h => by
    rw [List.lookup_cons]
    obtain ⟨n1, n2⟩ := List.nodup_cons.mp nd
    rcases List.mem_cons.mp h with h | h
    · cases h
      simp
    · have : x ≠ y := fun z => n1 (by rw [← z]; exact List.mem_map.mpr ⟨_, h, rfl⟩)
      rw [show (x == y) = false from by simpa using this]
      exact lookup_ndV n2 h
theorem zip_fstV : ∀ {ps : List Str} {us : List V}, us.length = ps.length → (ps.zip us).map Prod.fst = ps
  | [], us, _ => by simp
  | p :: ps, [], h => by simp at h
  | p :: ps, u :: us, h => by
    rw [List.zip_cons_cons, List.map_cons, zip_fstV (by simpa using h)]
theorem flds_look {fs : List Str} {vs : List V} {i : Nat} {f : Str} {v : V} (nd : fs.Nodup) (hl : vs.length = fs.length) (h1 : fs[i]? = some f) (h2 : vs[i]? = some v) : (flds fs vs []).lookup f = some v := by
  unfold flds
  rw [List.append_nil]
  refine lookup_ndV ?_ (List.mem_reverse.mpr (flds_at nd h1 h2))
  rw [List.map_reverse, zip_fstV hl]
  exact List.pairwise_reverse.mpr (List.Pairwise.imp (fun h => Ne.symm h) nd)
end
end VL
set_option maxRecDepth 100000
set_option maxHeartbeats 2000000
namespace VL
open PySem PySem.Spec L2
open PyProof.Rows hiding St
/-- an error stands at a -/
def ExAt (H : Hp) (a D : Addr) : Prop := H a = some (exo a D none) ∨ ∃ dx fl, H a = some (exo a D (some dx)) ∧ H dx = some (exd dx fl)
theorem EvR.at {H : Hp} {a D : Addr} {fs : List Str} {vs : List V} (h : EvR D fs vs a H) : ExAt H a D := by
  obtain ⟨_, ⟨_, h⟩ | ⟨dx, h1, h2⟩⟩ := h
  · exact .inl h
  · exact .inr ⟨dx, _, h1, h2⟩
end VL
set_option maxRecDepth 100000
set_option maxHeartbeats 2000000
namespace VL
open PySem PySem.Spec L2
open PyProof.Rows hiding St
inductive FX where
  | bad | ok (x : Val) (outs : List PV) | err (x : Exc')
def callFnX (n : Nat) (md : Md) (d : Env' → Res Fl) : List PV → FX := fun args => match d (entry n md args) with
  | .err x _ => .err x
  | _ => match callFn n md d args with
    | .ok x o => .ok x o
    | .bad => .bad
/-- the error x flies, its dict d; H2 is H1 and that dict -/
def ErrD (C : Ct) (F : Hp) (x : Exc') (d : Option Addr) (H1 H2 : Hp) : Prop := ∃ vs : List V, Rs C F x.fs vs ∧ vs.length = (C.el x.c).length ∧
  ((C.el x.c = [] ∧ d = none ∧ H2 = H1) ∨ ∃ dd, d = some dd ∧ H1 dd = none ∧ H2 = upd H1 dd (.xd (flds (C.el x.c) vs [])))
def SpVX (C : Ct) (md : Md) (fn : List PV → FX) : Sp := fun vs H Q E => ∃ F args, Le F H ∧ LamX.Tabs C.T H ∧ ArgsOk C F H md args vs ∧ (lentV md vs).Nodup ∧ match fn args with
  | .bad => False
  | .ok x outs => ∀ F' H' v, Ex F F' → (∀ b o, F' b = some o → F b = some o ∨ Nw H b o) → Le F' H' → LamX.Tabs C.T H' → (∀ b o, H b = some o → V.ref b ∉ lentV md vs → Kpt o (H' b)) → OutsOk C F' H' (lentV md vs) outs → RVc C F' H H' x v → Q v H'
  | .err x => ∀ F' H1 d H2, Ex F F' → (∀ b o, F' b = some o → F b = some o ∨ Nw H b o) → Le F' H1 → LamX.Tabs C.T H1 → (∀ b o, H b = some o → V.ref b ∉ lentV md vs → Kpt o (H1 b)) → (∀ b, V.ref b ∈ lentV md vs → ∃ o, H1 b = some o) →
    ErrD C F' x d H1 H2 → E (.ref (C.ea x.c)) d H2
/-- the callee's activation -/
def callGX (C : Ct) (F H : Hp) (md : Md) (vs : List V) (E : XK) : Gm := { callG C F H md vs with W := fun x _ _ F' H1 => ∀ d H2, ErrD C F' x d H1 H2 → E (.ref (C.ea x.c)) d H2 }
/-- an error may leave X's code as g tells -/
def ErX (X : Cx) (g : Gm) : Prop := ∃ W : WX, Takes X W ∧ ∀ x e σ F H1 d H2, g.W x e σ F H1 → Stt g F H1 σ e → ErrD g.C F x d H1 H2 → W (.ref (g.C.ea x.c)) d σ H2
section
variable {C : Ct} {F H F' H' : Hp} {env : Env'} {σ : St}
theorem Stt.callG {md : Md} {vs : List V} {E : XK} (S : Stt (callGX C F H md vs E) F' H' σ env) : Stt (callG C F H md vs) F' H' σ env := ⟨S.len, S.frame, S.live, S.ext, S.fresh, S.sub, S.fz, S.ow, S.inj, S.tab⟩
theorem Stt.callGX {md : Md} {vs : List V} {E : XK} (S : Stt (VL.callG C F H md vs) F' H' σ env) : Stt (VL.callGX C F H md vs E) F' H' σ env := ⟨S.len, S.frame, S.live, S.ext, S.fresh, S.sub, S.fz, S.ow, S.inj, S.tab⟩
theorem RV.callG {md : Md} {vs : List V} {E : XK} {x : Val} {v : V} (r : RV (VL.callGX C F H md vs E) F' H' σ env x v) : RV (VL.callG C F H md vs) F' H' σ env x v := by
  cases x <;> exact r
theorem lent_idx {md : Md} {vs : List V} {b : Addr} (h : V.ref b ∈ lentV md vs) : (VL.callG C F H md vs).O b := by
  obtain ⟨i, h1, h2⟩ := lentV_of h
  refine ⟨i, ?_⟩
  show (match md[i]?, vs[i]? with | some true, some (.ref a) => some a | _, _ => none) = some b
  rw [h1, h2]
theorem idx_lent {md : Md} {vs : List V} {b : Addr} (h : (VL.callG C F H md vs).O b) : V.ref b ∈ lentV md vs := by
  obtain ⟨i, h⟩ := h
  have h : (match md[i]?, vs[i]? with | some true, some (.ref a) => some a | _, _ => none) = some b := h
  split at h
  · rename_i a e1 e2
    cases h
    have : ∀ {ms : Md} {vs : List V} {i : Nat} {v : V}, ms[i]? = some true → vs[i]? = some v → v ∈ lentV ms vs := by
      intro ms
      induction ms with
      | nil => intro vs i v h; simp at h
      | cons m ms ih =>
        intro vs i v h h2
        cases vs with
        | nil => simp at h2
        | cons w vs =>
          cases i with
          | zero => simp at h h2; subst h; subst h2; simp [lentV]
          | succ i =>
            have := ih (by simpa using h) (by simpa using h2)
            unfold lentV
            split
            · exact List.mem_cons_of_mem _ this
            · exact this
    exact this e1 e2
  · cases h
theorem body_okX {N : List Str} {md : Md} {vs : List V} {d : Env' → Res Fl} {H : Hp} {Q : VK} {E : XK} (hn : md.length ≤ N.length) (h : SpVX C md (callFnX N.length md d) vs H Q E) :
    ∃ F, tS (VL.callGX C F H md vs E) d { nx := fun _ H' => Q .non H', rt := Q } (L2.start N vs) H := by
  obtain ⟨F, args, l, tb, a, nd, k⟩ := h
  obtain ⟨l1, l2⟩ := a.len
  refine ⟨F, F, _, (Stt.entry l tb a nd hn).callGX, ?_⟩
  unfold callFnX at k
  cases q : d (VL.entry N.length md args) with
  | bad =>
    rw [q] at k
    have : callFn N.length md d args = .bad := by unfold callFn; rw [q]
    rw [this] at k
    exact k.elim
  | err y e' =>
    rw [q] at k
    exact fun F' H1 σ' x1 S d' H2 ed => k F' H1 d' H2 S.ext S.fresh S.sub S.tab (fun b o e n => S.frame b o e fun z => n (idx_lent (C := C) (F := F) (H := H) z)) (fun b hb => S.live b (lent_idx (F := F) (H := H) (C := C) hb)) ed
  | ok f e' =>
    rw [q] at k
    dsimp only at k
    cases c : callFn N.length md d args with
    | bad => rw [c] at k; exact k.elim
    | ok x outs =>
      rw [c] at k
      have sp : SpV C md (callFn N.length md d) vs H Q E := ⟨F, args, x, outs, l, tb, a, nd, c, k⟩
      unfold callFn at c
      rw [q] at c
      cases f with
      | bk => cases c
      | ct => cases c
      | nx =>
        dsimp only at c
        split at c
        · rename_i outs' ho
          cases c
          exact fun F' H' σ' x1 S => call_end (x := .fz .non) (v := .non) l2 S.callG (by show R _ _ _ _; unfold R; rfl) (fun i z => by cases z) ho k
        · cases c
      | rt y =>
        cases y with
        | bor i => cases c
        | fz p =>
          dsimp only at c
          split at c
          · rename_i outs' ho
            cases c
            exact fun F' H' σ' v x1 S rv => call_end l2 S.callG rv.callG (fun i z => by cases z) ho k
          · cases c
        | new p =>
          dsimp only at c
          split at c
          · rename_i outs' ho
            cases c
            exact fun F' H' σ' v x1 S rv => call_end l2 S.callG rv.callG (fun i z => by cases z) ho k
          · cases c
theorem SpVX.len {md : Md} {fn : List PV → FX} : ∀ vs H Q E, SpVX C md fn vs H Q E → vs.length = md.length := fun vs H Q E ⟨F, args, l, _, a, _⟩ => a.len.2
/-- THE RULE: a def that may raise, by its body -/
theorem fnVX {P : Program} {w : World} {K : PySem.W.Frag} {mg : Str → Option Value} {base : Heap} {x qual : Str} {params : Arguments} {body : List Stmt} {scope : Scope} {dvs : List V} {kws : List (Str × V)} {f : Addr} {fd : FuncData} {N ps : List Str} {md : Md} {k : Nat} {d : Env' → Res Fl}
    (Fd : FunD K x qual params body scope dvs kws f fd) (S : FnScope N ps scope) (hmd : md.length = ps.length) (hn : md.length ≤ N.length) (hK : C.K = K)
    (hb : ∀ (cdv : Value) (A : Around) (outer : List Env) (s : Shared) (H : Hp) (E : XK) (g : Gm), g.C = C → Room k (cxOf (L2.CX P w) P w K mg base N qual scope f cdv A outer s H E).A → Ok (cxOf (L2.CX P w) P w K mg base N qual scope f cdv A outer s H E) g →
      ErX (cxOf (L2.CX P w) P w K mg base N qual scope f cdv A outer s H E) g → PSs (cxOf (L2.CX P w) P w K mg base N qual scope f cdv A outer s H E) body (tS g d)) : FnOk P w K mg base (L2.CX P w) (k + 1) f fd ps (SpVX C md (callFnX N.length md d)) := by
  refine Fd.ok S (fun vs H Q E h => by rw [SpVX.len vs H Q E h, hmd]) fun cdv A outer s H vs Q E hr h => ?_
  obtain ⟨F, q⟩ := body_okX (E := E) hn h
  refine ⟨_, hb cdv A outer s H E (VL.callGX C F H md vs E) rfl hr ⟨hK, ?_, rfl⟩ ⟨_, takes_of rfl rfl rfl rfl, fun x e σ F' H1 d' H2 w S ed => w d' H2 ed⟩, q⟩
  have := hr.un
  show A.units + 3 + 65 < cLine
  have : (A.deeper (envOfC qual scope s.heap.objs.size f cdv)).units = A.units + 3 := rfl
  omega
end
def dRaise (c n : Nat) (ds : List (Env' → Res Val)) : Env' → Res Fl := fun e => (dArgs ds e).bind fun xs e1 => (frzs xs e1).bind fun ps e2 => if ps.length = n then .err ⟨c, ps⟩ e2 else .bad
/-- what flies -/
def FlyE (fs : List Str) (vs : List V) (d : Option Addr) (H1 H2 : Hp) : Prop := (fs = [] ∧ d = none ∧ H2 = H1) ∨ ∃ dd, d = some dd ∧ H1 dd = none ∧ H2 = upd H1 dd (.xd (flds fs vs []))
def tMkX (C : Addr) (fs : List Str) (ta : TA) : L2.St → Hp → XK → Prop := fun σ H Q => ta σ H fun vs H1 => vs.length = fs.length ∧ ∀ d H2, FlyE fs vs d H1 H2 → Q (.ref C) d H2
section
variable {X : Cx} {CX : CXT} {x : Str} {C fI : Addr} {k : Nat} {fd : FuncData} {ps fs : List Str} {p pos rpos : Pos} {e : Expr} {es : List Expr} {ta : TA}
/-- without fields: the error is let go, what was before stands -/
theorem mk_fly0 {pins : List (Addr × Obj)} {σ : L2.St} {H : Hp} {Q : XK} {s s1 s' : Shared} {a : Addr} (hr : Raises X (.ref C)) (I : Inv X pins σ H s) (ha : s.heap.objs.size ≤ a) (k : ∀ b o, s.heap.get? b = some o → s1.heap.get? b = some o) (un : Un (frs X.stack) [] (upd H a (exo a C none)) (upd H a (exo a C none)) s1.heap s'.heap)
    (hok : HOk X.prog X.w (upd H a (exo a C none)) s'.heap) (ho : s'.os = s.os) (hb : AllBare s'.gens) (q : Q (.ref C) none H) : MkP X pins σ Q (.ref a) s' := by
  have hn : H a = none := I.hok.fresh ha
  obtain ⟨t0, hoe⟩ := exo_at hok upd_same
  obtain ⟨G, in', out⟩ := restrict s'.heap fun b => decide (b ≠ a)
  have gk : ∀ {b}, b ≠ a → G.get? b = s'.heap.get? b := fun {b} hb => in' b (decide_eq_true hb)
  have ga : G.get? a = none := out a (by simp)
  have old : ∀ {b : Addr} {o : Obj}, s.heap.get? b = some o → b ≠ a := fun {b o} z => Nat.ne_of_lt (Nat.lt_of_lt_of_le (Heap.lt_size z) ha)
  have up : ∀ {b : Addr}, b ≠ a → H b = none → upd H a (exo a C none) b = none := fun {b} h n => by rw [upd_ne h]; exact n
  have U : Un (frs X.stack) [] H H s.heap G := by
    constructor
    case keep => exact fun b o z n hf hx => by rw [gk (old z)]; exact un.keep b o (k b o z) (up (old z) n) hf hx
    case slot => exact fun b o z n hf hx => by rw [gk (old z)]; exact un.slot b o (k b o z) (up (old z) n) hf hx
    case free => exact fun b o z n hx => n
    case there => exact fun b o z hx => by rw [gk (old z)]; exact un.there b o (k b o z) hx
    case tups => exact fun b xs z => z
    case frzs => exact fun b o v z => z
    case tbls => exact fun b ps z => ⟨#[], by rw [z]; simp⟩
  have hok3 : HOk X.prog X.w H G := fun b o z => by
    have hba : b ≠ a := ne_of_none z hn
    refine (hok b o (by rw [upd_ne hba]; exact z)).stay (fun c v hc y => ?_) (fun c hc => ?_) fun c xs hc => ?_
    · have hca : c ≠ a := by
        rcases hc with hc | hc
        · rw [hc]
          exact hba
        · exact fun e => by
            rw [e, upd_same] at hc
            exact exo_own (Option.some.inj hc)
      rw [gk hca]
      exact y
    · have hca : c ≠ a := fun e => by
        rw [e, upd_same] at hc
        exact exo_own (Option.some.inj hc)
      rw [upd_ne hca] at hc
      exact hc
    · have hca : c ≠ a := fun e => by
        rw [e, upd_same] at hc
        exact exo_tup (Option.some.inj hc)
      rw [upd_ne hca] at hc
      exact hc
  obtain ⟨h', g', d', t', os'⟩ := s'
  have J : Inv X pins σ H ⟨G, g', d', t', os'⟩ := I.call' (ch := []) ho U hok3 hb (fun b z => absurd z (by simp))
  refine ⟨a, _, _, ⟨G, g', d', t', os'⟩, H, .ref C, none, rfl, J, fun b o z => ?_, ga, hoe, ⟨rfl, rfl⟩, rfl, rfl, hn, rfl, hb, hr, q⟩
  by_cases e : b = a
  · rw [e, ga] at z
    cases z
  · exact (gk e).symm.trans z
theorem run_fly {pins : List (Addr × Obj)} {s : Shared} {σ : L2.St} {H : Hp} {us : List Value} {vs : List V} {Q : XK} (M : MkE X CX k x C fI fd ps fs) (hr : Room (k + 1) X.A) (I : Inv X pins σ H s) (r : Vals vs us) (hl : vs.length = fs.length) (q : ∀ d H2, FlyE fs vs d H H2 → Q (.ref C) d H2) :
    wpAny (model X.prog X.w) X.A (call (.ref C) us) (MkP X pins σ Q) X.xe s := by
  obtain ⟨nm, qn, N, bs, bm, sn, sub, ab, col, dd, k0, k1, k2, k3, k5, hC, hbm⟩ := M.c.o.cls
  obtain ⟨hp, g, dr, tk, os⟩ := s
  obtain ⟨e, he⟩ : ∃ e, e = hp.objs.size + 1 := ⟨_, rfl⟩
  obtain ⟨h1, eh1⟩ : ∃ h1, h1 = (hp.push (PySem.W.kdv_tup us)).push (PySem.HandSPX.excO C hp.objs.size) := ⟨_, rfl⟩
  have hsz : hp.objs.size ≤ e := by rw [he]; exact Nat.le_succ _
  have hn : H e = none := I.hok.fresh hsz
  have kk : ∀ b o, hp.get? b = some o → h1.get? b = some o := fun b o z => by rw [eh1]; exact Heap.get?_push_of_some _ (Heap.get?_push_of_some _ z)
  have hget : h1.get? e = some (PySem.HandSPX.excO C hp.objs.size) := by rw [eh1, he]; heap_get
  have I2 : Inv X pins σ (upd H e (exo e C none)) ⟨h1, g, dr, tk, os⟩ := I.laid (t' := tk) kk hsz (exo_ok hget)
  have r2 : Vals (V.ref e :: vs) (Value.ref e :: us) := .cons rfl r
  have few := M.few
  have hul : us.length = fs.length := by rw [← hl]; exact (Paired.length r).symm
  have hus : us.length ≤ sizeLine := by rw [sizeLine_eq, hul]; omega
  have sp : spErr C fs (.ref e :: vs) (upd H e (exo e C none)) (fun v H2 => v = .non ∧ MadeE C fs vs e H H2) (fun _ _ _ => False) := by
    refine ⟨e, vs, rfl, hl, upd_same, fun z => ⟨rfl, hn, .inl ⟨z, rfl⟩⟩, fun dx H' h1 h2 h3 h4 h5 => ⟨rfl, hn, .inr ⟨dx, ?_, h2, h3, h4, fun b b1 b2 => ?_⟩⟩⟩
    · rw [upd_ne h2] at h1
      exact h1
    · rw [h5 b b1 b2, upd_ne b1]
  have hps : (Value.ref e :: us).length = ps.length := by
    have z := M.fn.len _ _ _ _ sp
    rw [← z]
    exact r2.length.symm
  have run := M.fn.run _ X.stack _ _ ⟨Value.ref e :: us, []⟩ (Value.ref e :: us) _ _ (fun _ _ _ => False) (hr.make C us []) (I2.env0.make C us []) (by simpa using M.bnd _ (Value.ref e :: us) I2.kIn (by simpa using hps)) r2 sp
  rw [eh1] at run
  refine wpAny_call (PySem.HandSPX.call_own F.excBase_ValueError (fun Y => PySem.HandSPX.refsVE_contains Y bm hbm) (I.kIn _ _ hC) (PySem.W.looks_findIn I.kIn M.ini) (fun self => PySem.W.bind_fn I.kIn self M.typ) hus (codeAny_mono (by rw [he] at run; exact run) fun r s' hq' => ?_))
  rw [← he, ← eh1] at hq'
  cases r with
  | error er => exact M.pas pins σ _ _ er s' I2 hq'
  | ok fl =>
    cases fl with
    | ret u =>
      obtain ⟨v, H2, os2, bare2, un2, hok2, rv, ev, m⟩ := hq'
      subst ev
      obtain rfl : u = Value.none := rv
      refine ⟨rfl, ?_⟩
      rw [← he]
      have rs : Raises X (.ref C) := raises_own M.c.o.exC M.c.o.tyC
      obtain ⟨_, ⟨z, rfl⟩ | ⟨dx, m1, m2, m3, m4, m5⟩⟩ := m
      · exact mk_fly0 (s1 := ⟨h1, g, dr, tk, os⟩) rs I hsz kk un2 hok2 os2 bare2 (q none H (.inl ⟨z, rfl, rfl⟩))
      · obtain ⟨h2, g2, d2, t2, os'⟩ := s'
        refine mk_end rs I hsz kk un2 hok2 os2 bare2 m3 m4 m1 (q _ _ (.inr ⟨dx, rfl, m1, ?_⟩))
        funext b
        by_cases e1 : b = dx
        · rw [e1, upd_same, upd_same]
        · rw [upd_ne e1, upd_ne e1]
          by_cases e2 : b = e
          · rw [e2, hn]
            exact L2.del_same
          · rw [L2.del_ne e2]
            exact m5 b e2 e1
    | next => exact False.elim hq'
    | brk => exact False.elim hq'
    | cont => exact False.elim hq'
theorem pmk_fly0 (M : MkE X CX k x C fI fd ps fs) (hr : Room (k + 1) X.A) (hg : Gl X x) : PMk X (.Call (.Name x p) [] [] pos) (tMkX C fs tNil) := by
  intro pins s σ H Q I h
  refine wpAny_Call_Name_kw (ld_glob I hg M.nam ?_ M.dbg)
  exact PySem.W.callWith_K0 I.kIn M.c.o.kC (run_fly (us := []) M hr I .nil h.1 h.2)
variable {g : Gm} {c n : Nat} {ds : List (Env' → Res Val)}
theorem fly_go {F H : Hp} {σ : L2.St} {env : Env'} {xs : List Val} {vs : List V} {D : Ends} {W : WX} (hW : ∀ x e σ F H1 d H2, g.W x e σ F H1 → Stt g F H1 σ e → ErrD g.C F x d H1 H2 → W (.ref (g.C.ea x.c)) d σ H2) (o : AllOld xs) (S : Stt g F H σ env) (r : RVs g F H σ env xs vs) (hn : (g.C.el c).length = n)
    (go : GoS g F ((frzs xs env).bind fun ps e2 => if ps.length = n then Res.err ⟨c, ps⟩ e2 else .bad) D) : vs.length = (g.C.el c).length ∧ ∀ d H2, FlyE (g.C.el c) vs d H H2 → W (.ref (g.C.ea c)) d σ H2 := by
  have same : (frzs xs env).bind (fun ps e => Res.ok ps e) = frzs xs env := by cases frzs xs env <;> rfl
  obtain ⟨F2, ps, e2, x2, S2, r2, go2⟩ := frzs_go (f := fun ps e => Res.ok ps e) o S r (by rw [same]; exact GoS.bindE (σ := σ) go)
  have go3 := go2 F2 H (Ex.refl F2) S2
  dsimp only at go3
  split at go3
  · rename_i hp
    have hl : vs.length = (g.C.el c).length := by rw [r2.length, hp, hn]
    exact ⟨hl, fun d H2 fl => hW ⟨c, ps⟩ e2 σ F2 H d H2 (go3 F2 H σ (Ex.refl F2) S2) S2 ⟨vs, r2, hl, fl⟩⟩
  · exact go3.elim
/-- raise C() -/
theorem ss_raise0 (ok : Ok X g) (ex : ErX X g) (M : MkE X CX k x (g.C.ea c) fI fd ps (g.C.el c)) (hn : (g.C.el c).length = 0) (hr : Room (k + 1) X.A) (hg : Gl X x) : PS X (.Raise (some (.Call (.Name x p) [] [] pos)) none rpos) (tS g (dRaise c 0 [])) := by
  obtain ⟨W, tk, hW⟩ := ex
  exact psImp (ps_raise ok.calm tk (pmk_fly0 M hr hg)) fun D σ H ⟨F, env, S, go⟩ => fly_go (xs := []) (vs := []) hW True.intro S rfl hn go
end
end VL
set_option maxRecDepth 100000
set_option maxHeartbeats 2000000
namespace VL
open PySem PySem.Spec L2
open PyProof.Rows hiding St
/-- these slots are not known any more -/
def noS (is : List Nat) (e : Env') : Env' := e.mapIdx fun i x => if i ∈ is then .no else x
theorem noS_at {is : List Nat} {e : Env'} {i : Nat} {x : Sl} (h : (noS is e)[i]? = some x) : (i ∉ is ∧ e[i]? = some x) ∨ x = .no := by
  unfold noS at h
  rw [List.getElem?_mapIdx] at h
  cases q : e[i]? with
  | none => rw [q] at h; cases h
  | some y =>
    rw [q] at h
    simp only [Option.map_some, Option.some.injEq] at h
    by_cases hi : i ∈ is
    · rw [if_pos hi] at h
      exact .inr h.symm
    · rw [if_neg hi] at h
      exact .inl ⟨hi, by rw [h]⟩
def callKX (md : Md) (fn : List PV → FX) (xs : List Val) (e : Env') : Res Val := (prep md xs e).bind fun ps e2 => if (lentI md xs).Nodup then match fn ps with
  | .ok (.fz p) outs => (match putOuts (lentI md xs) outs e2 with
    | some e3 => .ok (.fz p) e3
    | none => .bad)
  | .ok (.new p) outs => (match putOuts (lentI md xs) outs e2 with
    | some e3 => .ok (.new p) e3
    | none => .bad)
  | .err x => .err x (noS (lentI md xs) e2)
  | _ => .bad else .bad
section
variable {X : Cx} {g : Gm} {F H F' H' : Hp} {σ : St} {env : Env'}
theorem Stt.afterE {is : List Nat} (S : Stt g F H σ env) (hw : ∀ i ∈ is, isOw i env = true) (x1 : Ex F F') (fr : ∀ b o, F' b = some o → F b = some o ∨ Nw H b o) (l : Le F' H') (tb : LamX.Tabs g.C.T H') (keep : ∀ b o, H b = some o → V.ref b ∉ is.map (vAt σ) → Kpt o (H' b))
    (live : ∀ b, V.ref b ∈ is.map (vAt σ) → ∃ o, H' b = some o) : Stt g F' H' σ (noS is env) := by
  have own : ∀ i ∈ is, ∃ b p a, env[i]? = some (.ow b p) ∧ σ[i]? = some (some (.ref a)) ∧ vAt σ i = .ref a ∧ (if b = true then g.H0 a = none else g.P i = some a) := fun i hi => by
    obtain ⟨b, q, a, e1, e2, e3⟩ := isOw_at S (hw i hi)
    obtain ⟨a', f1, f2, f3, f4⟩ := S.ow i b q e1
    rw [e2] at f1
    cases f1
    exact ⟨b, q, a, e1, e2, by unfold vAt; rw [e2], f4⟩
  have notl : ∀ {b : Addr} {o : HO}, g.H0 b = some o → ¬ g.O b → V.ref b ∉ is.map (vAt σ) := fun {b o} q n z => by
    obtain ⟨i, hi, e⟩ := List.mem_map.mp z
    obtain ⟨f, p, a, e1, e2, e3, e4⟩ := own i hi
    rw [e3] at e
    cases e
    cases f with
    | true => rw [if_pos rfl, q] at e4; cases e4
    | false => rw [if_neg Bool.false_ne_true] at e4; exact n ⟨i, e4⟩
  constructor
  case len => unfold noS; rw [List.length_mapIdx]; exact S.len
  case frame => exact fun b o q n => (S.frame b o q n).trans fun o' q' => keep b o' q' (notl q n)
  case live =>
    intro b hb
    obtain ⟨o, q⟩ := S.live b hb
    by_cases z : V.ref b ∈ is.map (vAt σ)
    · exact live b z
    · exact (keep b o q z).some
  case ext => exact S.ext.trans x1
  case fresh =>
    intro b o q
    rcases fr b o q with z | z
    · exact S.fresh b o z
    · exact .inr (S.sub_newN z)
  case sub => exact l
  case fz =>
    intro i p q
    rcases noS_at q with ⟨_, z⟩ | z
    · obtain ⟨v, h1, h2⟩ := S.fz i p z
      exact ⟨v, h1, h2.mono x1.le⟩
    · cases z
  case ow =>
    intro i b p q
    rcases noS_at q with ⟨ni, z⟩ | z
    · obtain ⟨a, h1, h2, h3, h4⟩ := S.ow i b p z
      obtain ⟨o, ho⟩ := h2.cell
      have hn : V.ref a ∉ is.map (vAt σ) := fun w => by
        obtain ⟨j, hj, e⟩ := List.mem_map.mp w
        obtain ⟨f, p2, a2, e1, e2, e3, e4⟩ := own j hj
        rw [e3] at e
        cases e
        have := S.inj i j _ _ _ _ a z e1 h1 e2
        exact ni (this ▸ hj)
      refine ⟨a, h1, h2.mono x1.le (((keep a o ho hn).eq (h2.pln ho).1).trans ho.symm), ?_, h4⟩
      cases w : F' a with
      | none => rfl
      | some o' =>
        rcases fr a o' w with z | z
        · rw [h3] at z; cases z
        · exact (nw_no l w z ho ((keep a o ho hn).eq (h2.pln ho).1) (h2.pln ho).2.2).elim
    · cases z
  case inj =>
    intro i j b c p q a hi hj e1 e2
    rcases noS_at hi with ⟨_, h1⟩ | z
    · rcases noS_at hj with ⟨_, h2⟩ | z
      · exact S.inj i j _ _ _ _ a h1 h2 e1 e2
      · cases z
    · cases z
  case tab => exact tb
/-- a call, from the caller's state -/
theorem call_goX {md : Md} {fn : List PV → FX} {xs : List Val} {vs : List V} {Q : VK} {W : WX} (hW : ∀ x e σ F H1 d H2, g.W x e σ F H1 → Stt g F H1 σ e → ErrD g.C F x d H1 H2 → W (.ref (g.C.ea x.c)) d σ H2) (o : AllOld xs) (S : Stt g F H σ env) (r : RVs g F H σ env xs vs)
    (go : Go g F σ (callKX md fn xs env) fun x env' F' H' => ∀ v, RV g F' H' σ env' x v → Q v H') : SpVX g.C md fn vs H Q (WE W σ) := by
  unfold callKX at go
  cases hp : prep md xs env with
  | bad => rw [hp] at go; exact go.elim
  | err y e => exact (prep_noerr hp).elim
  | ok ps ee =>
    rw [hp] at go
    have go : Go g F σ (if (lentI md xs).Nodup then _ else _) _ := go
    split at go
    · rename_i nd
      obtain ⟨F1, x1, S1, a, hl, hw⟩ := prep_ok o S r hp
      have hl : lentV md vs = (lentI md xs).map (vAt σ) := hl
      have ndv : (lentV md vs).Nodup := by
        rw [hl]
        refine nodup_map (fun i hi j hj e => ?_) nd
        obtain ⟨b, q, ad, e1, e2, _⟩ := isOw_at S1 (hw i hi)
        obtain ⟨b', q', ad', f1, f2, _⟩ := isOw_at S1 (hw j hj)
        have h1 : vAt σ i = .ref ad := by unfold vAt; rw [e2]
        have h2 : vAt σ j = .ref ad' := by unfold vAt; rw [f2]
        rw [h1, h2] at e
        cases e
        exact S1.inj i j _ _ _ _ ad e1 f1 e2 f2
      refine ⟨F1, ps, S1.sub, S1.tab, a, ndv, ?_⟩
      cases hf : fn ps with
      | bad => rw [hf] at go; exact go.elim
      | err y =>
        rw [hf] at go
        intro F' H1 d H2 x2 fr l tb keep live ed
        rw [hl] at keep live
        have S3 := S1.afterE hw x2 fr l tb keep live
        exact hW y _ σ F' H1 d H2 (go F' H1 (x1.trans x2) S3) S3 ed
      | ok x outs =>
        rw [hf] at go
        intro F' H' v x2 fr l tb keep oo rv
        rw [hl] at keep oo
        cases x with
        | bor i => exact go.elim
        | fz p =>
          dsimp only at go
          split at go
          · rename_i e3 hp3
            exact go F' H' (x1.trans x2) (S1.after hw nd x2 fr l tb keep oo hp3) v rv
          · exact go.elim
        | new p =>
          dsimp only at go
          split at go
          · rename_i e3 hp3
            have S3 := S1.after hw nd x2 fr l tb keep oo hp3
            refine go F' H' (x1.trans x2) S3 v ?_
            obtain ⟨ad, e1, e2, e3', e4⟩ := rv
            refine ⟨ad, e1, e2, e3', S1.sub_new e4, fun i b q hi hv => ?_⟩
            have hb : ∃ b p, ee[i]? = some (.ow b p) := by
              obtain ⟨_, hat⟩ := putOuts_at hp3
              rcases hat i _ hi with ⟨_, z⟩ | ⟨_, b, p', q', z, _⟩
              · exact ⟨_, _, z⟩
              · exact ⟨_, _, z⟩
            obtain ⟨b', p', hb⟩ := hb
            obtain ⟨a2, f1, f2, _⟩ := S1.ow i b' p' hb
            rw [hv] at f1
            cases f1
            obtain ⟨o', ho'⟩ := f2.cell
            rw [e4] at ho'
            cases ho'
          · exact go.elim
    · exact go.elim
section
variable {k j : Nat} {x : Str} {md : Md} {fn : List PV → FX} {dvs : List V} {dps : List PV} {p pos : Pos} {e : Expr} {es : List Expr} {ds : List (Env' → Res Val)} {f : Addr} {fd : FuncData} {ps : List Str} {vds : List Value} {sp : Sp} {W : WX}
theorem run_fnX {pins : List (Addr × Obj)} {s : Shared} {Q : VK} {us : List Value} {vs : List V} (Fn : FnOk X.prog X.w X.K X.mg X.base (L2.CX X.prog X.w) k f fd ps sp) (hr : Room k X.A) (hb : Binds X.K fd ps vds) (hd : Vals dvs vds) (tk : Takes X W) (I : Inv X pins σ H s) (r : Vals vs us) (h : sp (vs ++ dvs) H Q (WE W σ)) :
    wpAny (model X.prog X.w) X.A (call (.ref f) us) (EP X pins σ Q) X.xe s := by
  have rr := r.append hd
  have hl : (us ++ vds).length = ps.length := by rw [← rr.length]; exact Fn.len _ _ _ _ h
  refine wpAny_call (codeAny_mono (Fn.run X.A X.stack s H ⟨us, []⟩ (us ++ vds) (vs ++ dvs) Q (WE W σ) hr I.env0 (hb s us I.kIn hl) rr h) fun r s' hq => ?_)
  cases r with
  | error e => exact passAt tk σ pins H s e s' I hq
  | ok fl =>
    cases fl with
    | ret u => exact I.after hq
    | next => exact False.elim hq
    | brk => exact False.elim hq
    | cont => exact False.elim hq
end
end
end VL
set_option maxRecDepth 100000
set_option maxHeartbeats 2000000
namespace VL
open PySem PySem.Spec L2
open PyProof.Rows hiding St
/-- a clause: the class, e's slot, what its suite does with the error -/
structure Cla where
  c : Value
  i : Nat
  ts : Addr → Value → Option Addr → TS
/-- the clause's name goes with its end -/
def lessE (i : Nat) (D : Ends) : Ends := { nx := fun σ H => D.nx (σ.set i none) H, bk := fun σ H => D.bk (σ.set i none) H, ct := fun σ H => D.ct (σ.set i none) H, rt := D.rt }
/-- what an error of the body must find -/
def wCla (K : PySem.W.Frag) (Wout : WX) (D : Ends) : List Cla → WX
  | [] => Wout
  | l :: ls => fun cls d σ H => ∃ b, PySem.W.exmOne K cls l.c = some b ∧ if b = true then ∀ a, H a = none → l.ts a cls d (lessE l.i D) (σ.set l.i (some (.ref a))) H else wCla K Wout D ls cls d σ H
inductive ClaOk (X : Cx) : List ExceptHandler → List Cla → Prop where
  | nil : ClaOk X [] []
  | cons {x n : Str} {l : Cla} {b : Stmt} {bs : List Stmt} {np hp : Pos} {hs : List ExceptHandler} {ls : List Cla} (hc : Names X x l.c) (hi : X.N[l.i]? = some n) (hn : X.env.kindOf n = some .local)
      (su : ∀ (a : Addr) (oe : Obj) (cls : Value) (d : Option Addr) (pn : List (Addr × Obj)), Zc cls d oe → (∃ vs, oe.data = .fields vs) → PSs (X.suite a ((a, oe) :: pn)) (b :: bs) (l.ts a cls d)) (r : ClaOk X hs ls) :
      ClaOk X (.ExceptHandler (some (.Name x np)) (some n) (b :: bs) hp :: hs) (l :: ls)
/-- an error that was caught: it lies at a, with what Y stands for behind it -/
structure Caught (X : Cx) (pins : List (Addr × Obj)) (σ : L2.St) (H : Hp) (cls : Value) (d : Option Addr) (a : Addr) (B : Heap) (sI s' : Shared) (h3 : Heap) : Prop where
  J : Inv X pins σ H sI
  nb : ∀ b o, sI.heap.get? b = some o → b ∉ frs X.stack → B.get? b = some o
  up : sI.heap.UpToSlots s'.heap
  na : H a = none
  os : s'.os = sI.os
  ag : AllBare s'.gens
  fl : HandSPX.FlyingZ B (X.env :: X.outer) a (Zc cls d) h3
  up3 : s'.heap.UpToSlots h3
section
variable {X : Cx} {pins : List (Addr × Obj)} {σ : L2.St} {H : Hp} {cls : Value} {d : Option Addr} {a : Addr} {B h3 : Heap} {sI s' : Shared} {D : Ends} {Wout : WX}
theorem Caught.inv (K : Caught X pins σ H cls d a B sI s' h3) {h4 : Heap} (fl : HandSPX.FlyingZ B (X.env :: X.outer) a (Zc cls d) h4) (up : h3.UpToSlots h4) : Inv X pins σ H { s' with heap := h4 } := K.J.landed K.nb fl.1 ((K.up.trans K.up3).trans up) K.os K.ag
/-- the suite's state -/
theorem Caught.suite (K : Caught X pins σ H cls d a B sI s' h3) (hf : X.env.frame = some X.env.locals) {h4 : Heap} (fl : HandSPX.FlyingZ B (X.env :: X.outer) a (Zc cls d) h4) (J : Inv X pins σ H { s' with heap := h4 }) :
    ∃ oe vs, Zc cls d oe ∧ oe.data = .fields vs ∧ h4.get? a = some oe ∧ Inv (X.suite a ((a, oe) :: (X.pn ++ pins))) [] σ H { s' with heap := h4 } := by
  obtain ⟨oe, vs, he, hz, hd⟩ := fl.there
  have off : a ∉ frs (X.env :: X.outer) := fun hm => by
    obtain ⟨_, o', e', no⟩ := fl.2.2.1.mem hm
    rw [he] at e'
    cases e'
    exact no _ hd
  refine ⟨oe, vs, hz, hd, he, J.suite he hd K.na (fun z => off ?_) fun hm => off ?_⟩
  · exact List.mem_filterMap.mpr ⟨X.env, List.mem_cons_self, by rw [hf, z]⟩
  · obtain ⟨e, m, q⟩ := List.mem_filterMap.mp hm
    exact List.mem_filterMap.mpr ⟨e, List.mem_cons_of_mem _ m, q⟩
/-- no clause is left: it goes on -/
theorem caught_out (K : Caught X pins σ H cls d a B sI s' h3) (hs : X.stack = X.env :: X.outer) (hf : X.env.frame = some X.env.locals) (tk : Takes X Wout) (w : Wout cls d σ H) : wpAny (model X.prog X.w) X.A (handleBy (.ref a) X.env []) (SP X pins D) X.xe { s' with heap := h3 } := by
  refine wpAny_handleBy_nil ?_
  obtain ⟨_, _, _, oe, vs, T, oT, ts', he, hz, hd, h1, hr⟩ := id K.fl
  unfold PySem.passOn
  refine wpAny_bind (wpAny_field he hd h1 ?_)
  rw [if_neg (show ¬ ((Value.ref T == Value.none) = true) from by simp)]
  have fin : wpAny (model X.prog X.w) X.A (setFlight (.ref a) X.env.frame) (fun _ s4 => wpAny (model X.prog X.w) X.A (throw (.ref a) : Sem Flow) (SP X pins D) X.xe s4) X.xe { s' with heap := h3 } := by
    rw [hf]
    exact HandSPX.setFlight_upZ K.fl fun h4 hh4 up4 => wpAny_throw (tk _ _ ⟨a, B, sI, pins, σ, H, cls, d, rfl, K.J, K.nb, (K.up.trans K.up3).trans up4, .inr (.inr (by rw [hs]; exact hh4)), K.na, K.os, K.ag, w⟩)
  first
    | exact wpAny_bind (wpAny_pure (wpAny_bind fin))
    | exact wpAny_bind fin
/-- the clauses, one after the other -/
theorem caught_by (K : Caught X pins σ H cls d a B sI s' h3) (hs : X.stack = X.env :: X.outer) (hf : X.env.frame = some X.env.locals) (hN : X.N.Nodup) (tk : Takes X Wout) {hds : List ExceptHandler} {ls : List Cla} (ok : ClaOk X hds ls) (w : wCla X.K Wout D ls cls d σ H) :
    wpAny (model X.prog X.w) X.A (handleBy (.ref a) X.env hds) (SP X pins D) X.xe { s' with heap := h3 } := by
  induction ok with
  | nil => exact caught_out K hs hf tk w
  | @cons x n l b0 bs np hp hs' ls' hc hi hn su r ih =>
    obtain ⟨b, hb, w⟩ := w
    have J3 := K.inv K.fl (Heap.UpToSlots.refl _)
    obtain ⟨oe3, vs3, hz3, hd3, he3, S3⟩ := K.suite hf K.fl J3
    refine wpAny_handleBy_cons (codeAny_handlers_test ?_) (by intro q; cases q)
    have LT : PySem.W.Looks (model X.prog X.w) h3 (typeOf (.ref a)) cls := fun A Q E s k q => wpAny_typeOf_ref (k _ _ he3) (by rw [hz3.1]; exact q)
    have LM := PySem.W.exm_one (M := model X.prog X.w) J3.kIn LT hb
    have test : ∀ {Q : Value → Shared → Prop} {E : Value → Shared → Prop}, Q l.c { s' with heap := h3 } → wpAny (model X.prog X.w) (X.A.mark (some (.ref a))) (eval (.Name x np) X.env) Q E { s' with heap := h3 } := fun {Q E} q => by
      obtain ⟨hg, hdbg, hm | ⟨hm, hv, hnn⟩⟩ := hc
      · exact ld_glob (X := X.suite a ((a, oe3) :: (X.pn ++ pins))) S3 hg hm q hdbg
      · exact ld_blt (X := X.suite a ((a, oe3) :: (X.pn ++ pins))) S3 hg hm hv q hnn hdbg
    refine test (LM.here ?_)
    cases b with
    | false =>
      rw [if_neg Bool.false_ne_true] at w
      exact ih w
    | true =>
      rw [if_pos rfl] at w
      refine codeAny_handlers_suite_as (HandSPX.lands_againZ K.fl fun h4 fl4 up4 => ?_)
      obtain ⟨oe, vs, hz, hd, he, S4⟩ := K.suite hf fl4 (K.inv fl4 up4)
      refine store_ok (X := X.suite a ((a, oe) :: (X.pn ++ pins))) (v := .ref a) S4 hN hi (.inl hn) rfl (fun s5 S5 => ?_) (.inr hn)
      refine wpAny_mono ((su a oe cls d (X.pn ++ pins) hz ⟨_, hd⟩).run [] s5 _ H _ S5 (w a K.na)) (fun f s6 q => ?_) fun _ _ z => z.elim
      have end_ : ∀ {σ6 : L2.St} {H6 : Hp} {Q : Shared → Prop}, Inv (X.suite a ((a, oe) :: (X.pn ++ pins))) [] σ6 H6 s6 → (∀ s7, Inv X pins (σ6.set l.i none) H6 s7 → Q s7) →
          wpAny (model X.prog X.w) X.A (do bindName X.env n .none; unbindBehindTheSuite X.env n hp) (fun _ s7 => Q s7) X.xe s6 := fun {σ6 H6 Q} S6 hq => gone_ok (S6.unsuite K.J.ok) hN hi hn hq
      cases f with
      | next =>
        obtain ⟨σ6, H6, S6, q6⟩ := q
        exact end_ S6 fun s7 J7 => ⟨_, _, J7, q6⟩
      | brk =>
        obtain ⟨σ6, H6, S6, q6⟩ := q
        exact end_ S6 fun s7 J7 => ⟨_, _, J7, q6⟩
      | cont =>
        obtain ⟨σ6, H6, S6, q6⟩ := q
        exact end_ S6 fun s7 J7 => ⟨_, _, J7, q6⟩
      | ret u =>
        obtain ⟨v6, σ6, H6, S6, r6, q6⟩ := q
        exact end_ S6 fun s7 J7 => ⟨_, _, _, J7, r6, q6⟩
variable {body : List Stmt} {hd₀ : ExceptHandler} {hds : List ExceptHandler} {ls : List Cla} {pos : Pos} {tb : WX → TS}
/-- THE RULE -/
theorem ps_tryAs (hs : X.stack = X.env :: X.outer) (hf : X.env.frame = some X.env.locals) (hN : X.N.Nodup) (tk : Takes X Wout) (ok : ClaOk X (hd₀ :: hds) ls)
    (hb : ∀ (W : WX) (pn : List (Addr × Obj)) (xe : Value → Shared → Prop), Takes (X.tr pn xe) W → PassesOwn (model X.prog X.w) X.A X.env xe → PSs (X.tr pn xe) body (tb W)) : PS X (.Try body (hd₀ :: hds) [] [] pos) (fun D σ H => tb (wCla X.K Wout D ls) D σ H) := by
  refine ⟨fun pins s σ H D I h => ?_⟩
  have hfr : X.A.frames = some (X.env :: X.outer) := by rw [I.ok.frames, hs]
  obtain ⟨catch_, ec⟩ : ∃ f : Value → Shared → Prop, f = fun e s₁ => wpAny (model X.prog X.w) X.A (noteFrame e X.env) (fun _ s₂ => wpAny (model X.prog X.w) X.A (setFlight e none) (fun _ s₃ => wpAny (model X.prog X.w) X.A (handleBy e X.env (hd₀ :: hds)) (SP X pins D) X.xe s₃) X.xe s₂) X.xe s₁ := ⟨_, rfl⟩
  have tk' : Takes (X.tr (X.pn ++ pins) catch_) (wCla X.K Wout D ls) := by
    rintro u s' ⟨a, B, sI, pins', σ', H', cls, d, rfl, J', nb, up, sky, na, os, ag, w⟩
    show catch_ _ _
    rw [ec]
    have sky' : Sky B (X.env :: X.outer) a (Zc cls d) X.env.locals s'.heap := by rw [← hs]; exact sky
    exact Sky.land Zc.steady hfr hf sky' fun h3 fl3 up3 => caught_by ⟨J'.ofTry I.ok, nb, up, na, os, ag, fl3, up3⟩ hs hf hN tk ok w
  refine wpAny_Try_except ?_
  refine wpAny_mono ((hb _ (X.pn ++ pins) catch_ tk' (by rw [ec]; exact PassesOwn.looking)).run [] s σ H D (I.toTry _) h) (fun f s1 q => ?_) (fun e s1 he => by rw [ec] at he; exact he)
  cases f with
  | next =>
    obtain ⟨σ', H', J', q⟩ := q
    exact wpAny_execs_nil ⟨σ', H', J'.ofTry I.ok, q⟩
  | brk =>
    obtain ⟨σ', H', J', q⟩ := q
    exact ⟨σ', H', J'.ofTry I.ok, q⟩
  | cont =>
    obtain ⟨σ', H', J', q⟩ := q
    exact ⟨σ', H', J'.ofTry I.ok, q⟩
  | ret u =>
    obtain ⟨v, σ', H', J', r, q⟩ := q
    exact ⟨v, σ', H', J'.ofTry I.ok, r, q⟩
end
end VL
set_option maxRecDepth 100000
set_option maxHeartbeats 2000000
namespace VL
open PySem PySem.Spec L2
open PyProof.Rows hiding St
inductive CIt where
  | str (m : Str) | fld (f : Str) | isi (c : Addr) | rpr (f : Str) (P : Hp → V → V → Prop)
/-- the item reads this field -/
def CIt.has : CIt → Str → Prop
  | .fld f, g => g = f
  | .rpr f _, g => g = f
  | _, _ => False
/-- the error's fields stand in H -/
def XdAt (H : Hp) (d : Option Addr) : Prop := d = none ∨ ∃ dd fs, d = some dd ∧ H dd = some (.xd fs)
/-- an item's value, D the error's class, d its dict -/
def itV (K : PySem.W.Frag) (H : Hp) (D : Addr) (d : Option Addr) : CIt → V → Prop
  | .str m, v => v = .str m
  | .fld f, v => PySem.W.findIn K (.ref D) f = some none ∧ ∃ (dd : Addr) (fs : List (Str × V)), d = some dd ∧ H dd = some (.xd fs) ∧ fs.lookup f = some v
  | .isi c, v => XdAt H d ∧ ∃ b, PySem.W.kitOne K (.ref D) (.ref c) = some b ∧ v = .bl b
  | .rpr f P, v => PySem.W.findIn K (.ref D) f = some none ∧ ∃ (dd : Addr) (fs : List (Str × V)) (v0 : V), d = some dd ∧ H dd = some (.xd fs) ∧ fs.lookup f = some v0 ∧ P H v0 v
def itVs (K : PySem.W.Frag) (H : Hp) (D : Addr) (d : Option Addr) : List CIt → List V → Prop
  | [], vs => vs = []
  | i :: is, vs => ∃ v ws, vs = v :: ws ∧ itV K H D d i v ∧ itVs K H D d is ws
section
variable {X : Cx} {a D : Addr} {oe : Obj} {d : Option Addr} {pn : List (Addr × Obj)} {n : Str} {i : Nat}
theorem peN {e : Expr} {t t' : TE} (h : PE X e t) (k : ∀ σ H Q, σ.length = X.N.length → t' σ H Q → t σ H Q) : PE X e t' := ⟨fun pins s σ H Q I q => h.run pins s σ H Q I (k σ H Q I.len q)⟩
/-- the slot i, if there is one, holds the error -/
def Hld (σ : L2.St) (i : Nat) (a : Addr) : Prop := i < σ.length → σ[i]? = some (some (.ref a))
theorem Hld.get {σ : L2.St} (h : Hld σ i a) (hi : X.N[i]? = some n) (hl : σ.length = X.N.length) : σ[i]? = some (some (.ref a)) := h (by rw [hl]; exact (List.getElem?_eq_some_iff.mp hi).1)
/-- the item e -/
def tIt (K : PySem.W.Frag) (D a : Addr) (d : Option Addr) (i : Nat) (it : CIt) : TE := fun σ H Q => Hld σ i a ∧ ∃ v, itV K H D d it v ∧ Q v H
/-- isinstance(e, c) in the suite, with fields or without -/
def rIsS (K : PySem.W.Frag) (D a : Addr) (d : Option Addr) (c : Addr) : List V → Hp → VK → Prop := fun xs H Q => xs = [.ref a, .ref c] ∧ XdAt H d ∧ ∃ b, PySem.W.kitOne K (.ref D) (.ref c) = some b ∧ Q (.bl b) H
theorem call_isS {c : Addr} (C : ExcC X.K D) (hz : Zc (.ref D) d oe) (hf : ∃ vs, oe.data = .fields vs) : CallR (X.suite a ((a, oe) :: pn)) (.builtin "isinstance") (rIsS X.K D a d c) := by
  rintro pins s σ H xs us Q I r ⟨rfl, xd, b, e, q⟩
  cases r with
  | cons rx rr =>
    cases rr with
    | cons rt rr =>
      cases rr
      cases rx
      cases rt
      obtain ⟨hget, _⟩ := I.pin (a, oe) (List.mem_append.mpr (.inl List.mem_cons_self))
      obtain ⟨vs, hv⟩ := hf
      have J : ∃ od, PySem.W.InstAt s.heap a oe D od := by
        obtain ⟨oc, odd, oda, osl⟩ := oe
        obtain ⟨h1, h2⟩ := hz
        dsimp only at h1 h2 hv
        subst h1 h2 hv
        rcases xd with rfl | ⟨dd, fs, rfl, hd⟩
        · exact ⟨none, hget, rfl, rfl, trivial⟩
        · have hx : ObjOk X.prog X.w H s.heap dd (.xd fs) := I.hok dd _ hd
          obtain ⟨mA, ⟨o, _, _, ho, _⟩, _⟩ := hx
          exact ⟨some o, hget, rfl, rfl, ho⟩
      obtain ⟨od, J⟩ := J
      exact PySem.W.kia_one (PySem.W.kitx_exc (by obtain ⟨cd, hc, _⟩ := PySem.W.any_some C.hd; rw [hc]; rfl) C.hg C.hk C.hs C.ha C.hn C.ht C.hm) I.kIn J e (fun z => nomatch z) fun tk => ⟨.bl b, H, I.kept (t' := tk) fun _ _ z => z, rfl, q⟩
theorem it_isi {x : Str} {c : Addr} {p1 p2 p3 p4 : Pos} (C : ExcC X.K D) (hz : Zc (.ref D) d oe) (hd : ∃ vs, oe.data = .fields vs) (hi : X.N[i]? = some n) (hv : X.env.kindOf n = some .local) (d0 : (n == ("__debug__" : Str)) = false) (d1 : (n == ("__classdict__" : Str)) = false)
    (hg : Gl X "isinstance") (hm : X.mg "isinstance" = none) (hgx : Gl X x) (hmx : X.mg x = some (.ref c)) (dx : (x == ("__debug__" : Str)) = false) (hs : starEach [.Name n p2, .Name x p3] X.env = (false, eval (.Name n p2) X.env) :: starEach [.Name x p3] X.env)
    (hs2 : starEach [.Name x p3] X.env = (false, eval (.Name x p3) X.env) :: starEach [] X.env) (hpl : (backTo p4 (starEach [.Name x p3] X.env)).any (·.1) = false) : PE (X.suite a ((a, oe) :: pn)) (.Call (.Name "isinstance" p1) [.Name n p2, .Name x p3] [] p4) (tIt X.K D a d i (.isi c)) :=
  peN (pe_callB (call_isS C hz hd) hg hm boot_isinstance (pa_cons (pe_var (X := X.suite a ((a, oe) :: pn)) hi (.inl hv) d0 d1) (pa_cons (pe_glob (v := .ref c) hgx hmx rfl dx) pa_nil hs2) hs) (by decide) (by decide) hs hpl)
    fun σ H Q hl ⟨e', v, ⟨xd, b, hb, ev⟩, q⟩ => let e := Hld.get (X := X) e' hi hl; ⟨.ref a, e, rfl, xd, b, hb, by subst ev; exact q⟩
end
end VL
set_option maxRecDepth 100000
set_option maxHeartbeats 2000000
namespace VL
open PySem PySem.Spec L2
open PyProof.Rows hiding St
inductive CItD where
  | str (m : Str) | fld (f : Nat) | isi (ans : Nat → Option Bool) (c : Nat) | rpr (f : Nat) (sem : List PV → Option Val)
/-- a clause: which classes it takes, the slot of its name, where its tuple goes (none: it is given back), the tuple -/
structure ClD where
  ans : Nat → Option Bool
  i : Nat
  y : Option Nat
  its : List CItD
def itP (L : Nat → List Nat) (x : Exc') : CItD → Option PV
  | .str m => some (.str m)
  | .fld f => ((L x.c).idxOf? f).bind fun i => x.fs[i]?
  | .isi ans _ => (ans x.c).map .bl
  | .rpr f sem => (((L x.c).idxOf? f).bind fun i => x.fs[i]?).bind fun p => match sem [p] with
    | some (.fz (.str x)) => some (.str x)
    | _ => none
def itPs (L : Nat → List Nat) (x : Exc') : List CItD → Option (List PV)
  | [] => some []
  | i :: is => match itP L x i, itPs L x is with
    | some p, some ps => some (p :: ps)
    | _, _ => none
/-- the text that sem tells of a field's value -/
def RpV (C : Ct) (sem : List PV → Option Val) (H : Hp) (v0 v : V) : Prop := ∃ (F : Hp) (p : PV) (x : Str), Le F H ∧ LamX.Tabs C.T H ∧ R C F p v0 ∧ sem [p] = some (.fz (.str x)) ∧ v = .str x
def CItD.it (C : Ct) : CItD → CIt
  | .str m => .str m
  | .fld f => .fld (C.nm f)
  | .isi _ c => .isi (C.ea c)
  | .rpr f sem => .rpr (C.nm f) (RpV C sem)
section
variable {X : Cx} {g : Gm} {F F' H H' : Hp} {σ : L2.St} {env : Env'}
theorem Stt.reW {W : Exc' → Env' → L2.St → Hp → Hp → Prop} (S : Stt g F H σ env) : Stt { g with W := W } F H σ env := ⟨S.len, S.frame, S.live, S.ext, S.fresh, S.sub, S.fz, S.ow, S.inj, S.tab⟩
theorem Stt.unW {W : Exc' → Env' → L2.St → Hp → Hp → Prop} (S : Stt { g with W := W } F H σ env) : Stt g F H σ env := ⟨S.len, S.frame, S.live, S.ext, S.fresh, S.sub, S.fz, S.ow, S.inj, S.tab⟩
/-- what the items' words must say -/
structure ItR (X : Cx) (g : Gm) (it : CItD) : Prop where
  is_ : ∀ ans c, it = .isi ans c → ∀ n b, ans n = some b → PySem.W.kitOne X.K (.ref (g.C.ea n)) (.ref (g.C.ea c)) = some b
/-- the items' values -/
theorem it_ok {x : Exc'} {vs : List V} {d : Option Addr} (le : Le F H') (tb : LamX.Tabs g.C.T H') (ok : Ok X g) (co : ∀ c, ErrC g.C c) (hl : vs.length = (g.C.el x.c).length) (rs : Rs g.C F x.fs vs) (fl : FlyE (g.C.el x.c) vs d H H') {it : CItD} (hi : ItR X g it) {p : PV} (h : itP g.C.eL x it = some p) :
    ∃ v, itV X.K H' (g.C.ea x.c) d (it.it g.C) v ∧ R g.C F p v := by
  cases it with
  | str m =>
    cases h
    exact ⟨.str m, rfl, by unfold R; rfl⟩
  | fld f =>
    have h : (((g.C.eL x.c).idxOf? f).bind fun i => x.fs[i]?) = some p := h
    cases hx : (g.C.eL x.c).idxOf? f with
    | none => rw [hx] at h; cases h
    | some i =>
      rw [hx] at h
      have h : x.fs[i]? = some p := h
      obtain ⟨hlt, he, _⟩ := List.findIdx?_eq_some_iff_getElem.mp hx
      have ef : (g.C.eL x.c)[i] = f := by simpa using he
      have hfn : (g.C.el x.c)[i]? = some (g.C.nm f) := by
        unfold Ct.el
        rw [List.getElem?_map, List.getElem?_eq_getElem hlt, ef]
        rfl
      obtain ⟨w, hw, rw'⟩ := rs.get h
      rcases fl with ⟨e0, _⟩ | ⟨dd, e1, e2, e3⟩
      · rw [e0] at hfn
        cases hfn
      · refine ⟨w, ⟨?_, dd, _, e1, by rw [e3, upd_same], flds_look (co x.c).nd hl hfn hw⟩, rw'⟩
        rw [← ok.K]
        exact (co x.c).no f (by rw [← ef]; exact List.getElem_mem hlt)
  | isi ans c =>
    have h : (ans x.c).map PV.bl = some p := h
    cases ha : ans x.c with
    | none => rw [ha] at h; cases h
    | some b =>
      rw [ha] at h
      cases h
      refine ⟨.bl b, ⟨?_, b, hi.is_ ans c rfl x.c b ha, rfl⟩, by unfold R; rfl⟩
      rcases fl with ⟨_, e1, _⟩ | ⟨dd, e1, e2, e3⟩
      · exact .inl e1
      · exact .inr ⟨dd, _, e1, by rw [e3, upd_same]⟩
  | rpr f sem =>
    have h : ((((g.C.eL x.c).idxOf? f).bind fun i => x.fs[i]?).bind fun p => match sem [p] with
      | some (.fz (.str x)) => some (.str x)
      | _ => none) = some p := h
    cases hx : (g.C.eL x.c).idxOf? f with
    | none => rw [hx] at h; cases h
    | some i =>
      rw [hx] at h
      cases hq : x.fs[i]? with
      | none => simp only [Option.bind_some, hq, Option.bind_none] at h; cases h
      | some q =>
        simp only [Option.bind_some, hq] at h
        obtain ⟨hlt, he, _⟩ := List.findIdx?_eq_some_iff_getElem.mp hx
        have ef : (g.C.eL x.c)[i] = f := by simpa using he
        have hfn : (g.C.el x.c)[i]? = some (g.C.nm f) := by
          unfold Ct.el
          rw [List.getElem?_map, List.getElem?_eq_getElem hlt, ef]
          rfl
        obtain ⟨w, hw, rw'⟩ := rs.get hq
        split at h
        · rename_i t hs
          cases h
          rcases fl with ⟨e0, _⟩ | ⟨dd, e1, e2, e3⟩
          · rw [e0] at hfn
            cases hfn
          · refine ⟨.str t, ⟨?_, dd, _, w, e1, by rw [e3, upd_same], flds_look (co x.c).nd hl hfn hw, F, q, t, le, tb, rw', hs, rfl⟩, by unfold R; rfl⟩
            rw [← ok.K]
            exact (co x.c).no f (by rw [← ef]; exact List.getElem_mem hlt)
        · cases h
theorem its_ok {x : Exc'} {vs : List V} {d : Option Addr} (le : Le F H') (tb : LamX.Tabs g.C.T H') (ok : Ok X g) (co : ∀ c, ErrC g.C c) (hl : vs.length = (g.C.el x.c).length) (rs : Rs g.C F x.fs vs) (fl : FlyE (g.C.el x.c) vs d H H') : ∀ {its : List CItD} {ps : List PV}, (∀ it ∈ its, ItR X g it) → itPs g.C.eL x its = some ps →
    ∃ ws, itVs X.K H' (g.C.ea x.c) d (its.map (CItD.it g.C)) ws ∧ Rs g.C F ps ws
  | [], ps, _, h => by
    cases h
    exact ⟨[], rfl, Rs.nil⟩
  | it :: its, ps, hi, h => by
    unfold itPs at h
    split at h
    · rename_i p ps' h1 h2
      cases h
      obtain ⟨v, v1, v2⟩ := it_ok le tb ok co hl rs fl (hi it (List.mem_cons_self ..)) h1
      obtain ⟨ws, w1, w2⟩ := its_ok le tb ok co hl rs fl (fun j hj => hi j (List.mem_cons_of_mem _ hj)) h2
      exact ⟨v :: ws, ⟨v, ws, rfl, v1, w1⟩, Rs.cons v2 w2⟩
    · cases h
theorem FlyE.ex {fs : List Str} {vs : List V} {d : Option Addr} (fl : FlyE fs vs d H H') : Ex H H' := by
  rcases fl with ⟨_, _, rfl⟩ | ⟨dd, _, h1, rfl⟩
  · exact Ex.refl _
  · exact Ex.new h1
theorem its_no (ok : Ok X g) (co : ∀ c, ErrC g.C c) {x : Exc'} : ∀ {its : List CItD} {ps : List PV}, itPs g.C.eL x its = some ps → ∀ f, (∃ it ∈ its.map (CItD.it g.C), it.has f) → PySem.W.findIn X.K (.ref (g.C.ea x.c)) f = some none
  | [], _, _, f, h => by obtain ⟨_, h, _⟩ := h; cases h
  | it :: its, ps, h, f, hf => by
    unfold itPs at h
    split at h
    · rename_i p ps' h1 h2
      obtain ⟨j, hj, hf⟩ := hf
      rw [List.map_cons] at hj
      rcases List.mem_cons.mp hj with z | z
      · subst z
        cases it with
        | str m => exact hf.elim
        | isi a c => exact hf.elim
        | rpr k sem =>
          have hf : f = g.C.nm k := hf
          subst hf
          have h1 : ((((g.C.eL x.c).idxOf? k).bind fun i => x.fs[i]?).bind fun p => match sem [p] with
            | some (.fz (.str x)) => some (.str x)
            | _ => none) = some p := h1
          cases hx : (g.C.eL x.c).idxOf? k with
          | none => rw [hx] at h1; cases h1
          | some i =>
            obtain ⟨hlt, he, _⟩ := List.findIdx?_eq_some_iff_getElem.mp hx
            have ef : (g.C.eL x.c)[i] = k := by simpa using he
            rw [← ok.K]
            exact (co x.c).no k (by rw [← ef]; exact List.getElem_mem hlt)
        | fld k =>
          have hf : f = g.C.nm k := hf
          subst hf
          have h1 : (((g.C.eL x.c).idxOf? k).bind fun i => x.fs[i]?) = some p := h1
          cases hx : (g.C.eL x.c).idxOf? k with
          | none => rw [hx] at h1; cases h1
          | some i =>
            obtain ⟨hlt, he, _⟩ := List.findIdx?_eq_some_iff_getElem.mp hx
            have ef : (g.C.eL x.c)[i] = k := by simpa using he
            rw [← ok.K]
            exact (co x.c).no k (by rw [← ef]; exact List.getElem_mem hlt)
      · exact its_no ok co h2 f ⟨j, z, hf⟩
    · cases h
end
end VL
set_option maxRecDepth 100000
set_option maxHeartbeats 2000000
namespace VL
open PySem PySem.Spec L2
open PyProof.Rows hiding St
end VL
set_option maxRecDepth 100000
set_option maxHeartbeats 2000000
namespace VL
open PySem PySem.Spec L2
open PyProof.Rows hiding St
def mkKX (c : Nat) (md : Md) (fn : List PV → FX) (xs : List Val) (e : Env') : Res Val := (prep md xs e).bind fun ps e2 => if (lentI md xs).Nodup then match fn (.ins c [] :: ps) with
  | .ok (.fz .non) (q :: outs) => (match putOuts (lentI md xs) outs e2 with
    | some e3 => .ok (.new q) e3
    | none => .bad)
  | .err x => .err x (noS (lentI md xs) e2)
  | _ => .bad else .bad
def dMkX (c : Nat) (md : Md) (fn : List PV → FX) (dps : List PV) (ds : List (Env' → Res Val)) : Env' → Res Val := fun e => (dArgs ds e).bind fun xs e1 => mkKX c md fn (xs ++ dps.map Val.fz) e1
section
variable {X : Cx} {g : Gm} {F H : Hp} {σ : St} {env : Env'} {md : Md} {fn : List PV → FX} {W : WX}
theorem make_goX {c : Nat} {xs : List Val} {vs : List V} {Q : VK} (hW : ∀ x e σ F H1 d H2, g.W x e σ F H1 → Stt g F H1 σ e → ErrD g.C F x d H1 H2 → W (.ref (g.C.ea x.c)) d σ H2) (o : AllOld xs) (S : Stt g F H σ env) (r : RVs g F H σ env xs vs)
    (go : Go g F σ (mkKX c md fn xs env) fun x env' F' H' => ∀ v, RV g F' H' σ env' x v → Q v H') {x dx : Addr} (hx : H x = none) (hdx : H dx = none) (hne : dx ≠ x) :
    SpVX g.C (true :: md) fn (.ref x :: vs) (upd (upd H dx (.own x)) x (.ins (g.C.ad c) dx [])) (fun v H2 => v = .non ∧ Q (.ref x) H2) (WE W σ) := by
  have ex : Ex H (upd (upd H dx (.own x)) x (.ins (g.C.ad c) dx [])) := (Ex.new hdx).trans (Ex.new (by rw [upd_ne (Ne.symm hne)]; exact hx))
  unfold mkKX at go
  cases hp : prep md xs env with
  | bad => rw [hp] at go; exact go.elim
  | err y e => exact (prep_noerr hp).elim
  | ok ps ee =>
    rw [hp] at go
    have go : Go g F σ (if (lentI md xs).Nodup then _ else _) _ := go
    split at go
    · rename_i nd
      obtain ⟨F1, x1, S1, a, hl, hw⟩ := prep_ok o S r hp
      have hl : lentV md vs = (lentI md xs).map (vAt σ) := hl
      have cellOf : ∀ i ∈ lentI md xs, ∃ ad, vAt σ i = .ref ad ∧ ∃ o, H ad = some o := fun i hi => by
        obtain ⟨b, q, ad, e1, e2, e3⟩ := isOw_at S1 (hw i hi)
        exact ⟨ad, by unfold vAt; rw [e2], e3.cell⟩
      have ndv : (lentV md vs).Nodup := by
        rw [hl]
        refine nodup_map (fun i hi j hj e => ?_) nd
        obtain ⟨b, q, ad, e1, e2, _⟩ := isOw_at S1 (hw i hi)
        obtain ⟨b', q', ad', f1, f2, _⟩ := isOw_at S1 (hw j hj)
        have h1 : vAt σ i = .ref ad := by unfold vAt; rw [e2]
        have h2 : vAt σ j = .ref ad' := by unfold vAt; rw [f2]
        rw [h1, h2] at e
        cases e
        exact S1.inj i j _ _ _ _ ad e1 f1 e2 f2
      have nx : V.ref x ∉ lentV md vs := fun z => by
        rw [hl] at z
        obtain ⟨i, hi, e⟩ := List.mem_map.mp z
        obtain ⟨ad, e1, o', e2⟩ := cellOf i hi
        rw [e1] at e
        cases e
        rw [hx] at e2
        cases e2
      obtain ⟨n1, n2, n3⟩ := S1.new0 hx
      have S2 := S1.grow ex
      have hlv : lentV (true :: md) (.ref x :: vs) = .ref x :: lentV md vs := rfl
      have hH : ∀ b, (upd (upd H dx (.own x)) x (.ins (g.C.ad c) dx [])) b = none → H b = none := fun b hb => by
        cases z : H b with
        | none => rfl
        | some o => rw [ex b o z] at hb; cases hb
      have off : ∀ {b : Addr} {o : HO}, H b = some o → V.ref b ∉ (lentI md xs).map (vAt σ) → V.ref b ∉ V.ref x :: (lentI md xs).map (vAt σ) := fun {b o} z n w => by
        rcases List.mem_cons.mp w with w | w
        · cases w
          rw [hx] at z
          cases z
        · exact n w
      refine ⟨F1, .ins c [] :: ps, S2.sub, S2.tab, ⟨_, _, _, _, rfl, rfl, ?_, a.grow ex⟩, by rw [hlv]; exact List.nodup_cons.mpr ⟨nx, ndv⟩, ?_⟩
      · rw [if_pos rfl]
        exact ⟨x, rfl, by simp only [R1]; exact ⟨dx, [], upd_same, rfl, Rs.nil⟩, n1⟩
      · rw [hlv, hl]
        split at go
        · rename_i q outs hf
          rw [hf]
          split at go
          · rename_i e3 hp3
            intro F' H' v x2 fr l tb keep oo rv
            obtain ⟨q', qr, ad, e1, e2, e3, e4, oo⟩ := oo
            cases e1
            cases e2
            have S3 := S1.after (F' := F') (H' := H') hw nd x2 (fun b o z => (fr b o z).imp id (Or.imp (hH b) id)) l tb (fun b o z n => keep b o (ex b o z) (off z n)) oo hp3
            have rv : v = .non := by
              have rv : R g.C F' .non v := rv
              unfold R at rv
              exact rv
            refine ⟨rv, go F' H' (x1.trans x2) S3 _ ⟨x, rfl, e3, e4, S1.sub_new hx, fun i b q hi hv => ?_⟩⟩
            have hb : ∃ b p, ee[i]? = some (.ow b p) := by
              obtain ⟨_, hat⟩ := putOuts_at hp3
              rcases hat i _ hi with ⟨_, z⟩ | ⟨_, b, p', q', z, _⟩
              · exact ⟨_, _, z⟩
              · exact ⟨_, _, z⟩
            obtain ⟨b', p', hb⟩ := hb
            obtain ⟨a2, f1, f2, _⟩ := S1.ow i b' p' hb
            rw [hv] at f1
            cases f1
            obtain ⟨o', ho'⟩ := f2.cell
            rw [hx] at ho'
            cases ho'
          · exact go.elim
        · rename_i y hf
          rw [hf]
          intro F' H1 d H2 x2 fr l tb keep live ed
          have S3 := S1.afterE hw x2 (fun b o z => (fr b o z).imp id (Or.imp (hH b) id)) l tb (fun b o z n => keep b o (ex b o z) (off z n)) fun b hb => live b (List.mem_cons_of_mem _ hb)
          exact hW y _ σ F' H1 d H2 (go F' H1 (x1.trans x2) S3) S3 ed
        · exact go.elim
    · exact go.elim
/-- such a class, by its name -/
structure MakX (P : Program) (w : World) (K : PySem.W.Frag) (mg : Str → Option Value) (base : Heap) (k : Nat) (x : Str) (C : Addr) (sp : Sp) (dvs : List V) : Prop where
  ex : ∃ (f : Addr) (fd : FuncData) (ps : List Str) (ds : List Value), Mk K C f ∧ FnOk P w K mg base (L2.CX P w) k f fd ps sp ∧ mg x = some (.ref C) ∧ Binds K fd ps ds ∧ Vals dvs ds
section
variable {k j : Nat} {x : Str} {dvs : List V} {dps : List PV} {p pos : Pos} {e : Expr} {es : List Expr} {ds : List (Env' → Res Val)} {f C : Addr} {fd : FuncData} {ps : List Str} {vds : List Value} {sp : Sp}
theorem run_makeX {pins : List (Addr × Obj)} {s : Shared} {Q : VK} {us : List Value} {vs : List V} (M : Mk X.K C f) (Fn : FnOk X.prog X.w X.K X.mg X.base (L2.CX X.prog X.w) k f fd ps sp) (hr : Room (k + 1) X.A) (hb : Binds X.K fd ps vds) (hd : Vals dvs vds) (tk : Takes X W) (I : Inv X pins σ H s) (r : Vals vs us)
    (h : ∀ x dx, H x = none → H dx = none → dx ≠ x → sp (.ref x :: (vs ++ dvs)) (upd (upd H dx (.own x)) x (.ins C dx [])) (fun v H2 => v = .non ∧ Q (.ref x) H2) (WE W σ)) : wpAny (model X.prog X.w) X.A (call (.ref C) us) (EP X pins σ Q) X.xe s := by
  obtain ⟨a, ea⟩ : ∃ a, a = s.heap.objs.size + 1 := ⟨_, rfl⟩
  have hq := h (s.heap.objs.size + 1) s.heap.objs.size (I.hok.fresh (Nat.le_succ _)) (I.hok.fresh (Nat.le_refl _)) (Nat.ne_of_lt (Nat.lt_succ_self _))
  have I2 := Inv.made (C := C) I
  have r2 : Vals (V.ref (s.heap.objs.size + 1) :: (vs ++ dvs)) (Value.ref (s.heap.objs.size + 1) :: (us ++ vds)) := .cons rfl (r.append hd)
  have hl : (Value.ref (s.heap.objs.size + 1) :: us ++ vds).length = ps.length := (r2.length.symm).trans (Fn.len _ _ _ _ hq)
  refine wpAny_call (make_map (f := f) I.kIn M.makes M.init (beq_iff_eq.mp M.fn) (codeAny_mono (Fn.run _ X.stack _ _ ⟨Value.ref (s.heap.objs.size + 1) :: us, []⟩ (Value.ref (s.heap.objs.size + 1) :: (us ++ vds)) _ _ (WE W σ) (hr.make C us []) (I2.env0.make C us [])
    (hb _ (Value.ref (s.heap.objs.size + 1) :: us) I2.kIn hl) r2 hq) fun r s' hq' => ?_))
  cases r with
  | error e => exact passAt tk σ pins _ _ e s' I2 hq'
  | ok fl =>
    cases fl with
    | ret u =>
      obtain ⟨v, H', I3, rv, ev, q3⟩ := I2.after hq'
      subst ev
      exact ⟨rv, ⟨V.ref (s.heap.objs.size + 1), H', I3, rfl, q3⟩⟩
    | next => exact False.elim hq'
    | brk => exact False.elim hq'
    | cont => exact False.elim hq'
/-- C(e, ..) -/
theorem se_mkX {c : Nat} (ex : ErX X g) (cm : MakX X.prog X.w X.K X.mg X.base k x (g.C.ad c) (SpVX g.C (true :: md) fn) dvs) (hr : Room j X.A) (hk : k + 1 ≤ j) (hg : Gl X x) (hd : ∀ F, Rs g.C F dps dvs) (ha : PA X (e :: es) (tAs g (dArgs ds))) (hdb : (x == ("__debug__" : Str)) = false)
    (he : starEach (e :: es) X.env = (false, eval e X.env) :: starEach es X.env) (hpl : (backTo pos (starEach es X.env)).any (·.1) = false) : PE X (.Call (.Name x p) (e :: es) [] pos) (tE g (dMkX c md fn dps ds)) := by
  obtain ⟨W, tk, hW⟩ := ex
  obtain ⟨f, fd, ps, vds, M, Fn, hm, b, d⟩ := cm.ex
  refine ⟨fun pins s σ H Q I ⟨F, env, S, go⟩ => ?_⟩
  refine wpAny_Call_Name_kw (ld_glob I hg hm ?_ hdb)
  refine PySem.W.callWith_K (h₀ := X.base) I.ok.mod.kin M.kp (thn (paGo ha pos I S go) fun us s1 ⟨vs, H1, I1, r, F1, e1, xs, x1, S1, o1, rv1, go1⟩ => ⟨I1.kIn, ?_⟩) he hpl
  exact run_makeX M Fn (hr.mono hk) b d tk I1 r fun y dy h1 h2 h3 => make_goX hW (AllOld.append o1 dps_old) S1 (RVs.append rv1 (dps_rvs hd)) go1 h1 h2 h3
end
end
end VL
set_option maxRecDepth 100000
set_option maxHeartbeats 2000000
namespace VL
open PySem PySem.Spec L2 LamX
open PyProof.Rows hiding St
end VL
set_option maxRecDepth 100000
set_option maxHeartbeats 2000000
namespace VL
open PySem PySem.Spec L2 LamX
open PyProof.Rows hiding St
def tLamK (T : List (Addr × Str)) (TT : (XK → Hp → VK → Prop) → Hp → VK → Prop) (t : XK → TE) : TE := fun σ H Q => Tabs T H ∧ ∀ H1, KptN H H1 → Tabs T H1 → TT (fun E H' Q' => t E σ H' Q') H1 Q
section
variable {X : Cx}
/-- (LamX.pe_lamcall's way; here the tables are known to stay or to grow) -/
theorem pe_lamcallK {T : List (Addr × Str)} {TT : (XK → Hp → VK → Prop) → Hp → VK → Prop} {x a : Str} {g c P : Addr} {k : Nat} {pg : Arguments} {bg : List Stmt} {sg : Scope} {dV kV doc pm cdv ct oc : Value} {an od : Option Addr} {osl : Array (Option Value)} {Ng : List Str} {params : Arguments} {body : Expr} {scope : Scope} {t : XK → TE} {p lpos pos : Pos}
    (hg : Gl X x) (hm : X.mg x = some (.ref g)) (hk : PySem.W.keepIn X.K (.ref g) = true) (lk : X.K.lookup g = some ⟨oc, od, .func (PySem.W.fnOf x x pg bg sg dV kV doc pm an cdv ct), osl⟩) (hcg : PySem.W.codeIn X.K cdv x = true) (hb : L2.Binds X.K (PySem.W.fnOf x x pg bg sg dV kV doc pm an cdv ct) [a] [])
    (Sg : FnScope Ng [a] sg) (hNg : Ng[0]? = some a) (hva : Vis sg a) (hG : GivesTo X Ng x sg g cdv bg a (X.env.qual ++ "<lambda>") TT) (TB : TabB X.base X.mg c P) (hcode : X.env.code = .ref c) (hmT : (P, X.env.qual ++ "<lambda>") ∈ T) (hu : ∀ p ∈ T, p.1 = P → p.2 = X.env.qual ++ "<lambda>") (hr : Room (k + 2) X.A)
    (L : LamS X.env.scope scope) (hdef : defaultsOf params X.env = ([], [])) (hbind : ∀ (q : Str) (cl : List (Str × Addr)) (pm cv ctv : Value), bindArgs (PySem.W.kla_fn "<lambda>" q params body scope cl pm cv ctv) ⟨[], []⟩ = pure [])
    (hbody : ∀ (A : Around) (outer : List Env) (s : Shared) (H : Hp) (E : XK) (f c' : Addr), Room k (A.deeper (lamEnv X scope s.heap.objs.size f c')) → PE (lamCx X A outer s H E scope f c') body (t E)) (hdb : (x == ("__debug__" : Str)) = false) (hd : (a == ("__debug__" : Str)) = false) (hcd : (a == ("__classdict__" : Str)) = false) :
    PE X (.Call (.Name x p) [.Lambda params body scope lpos] [] pos) (tLamK T TT t) := by
  constructor
  rintro pins s σ H Q I ⟨hT, h⟩
  refine wpAny_Call_Name_kw (ld_glob I hg hm (PySem.W.callWith_K (h₀ := X.base) I.ok.mod.kin hk ?_ (by rfl) (by rfl)) hdb)
  show wpAny _ _ (spliced ((false, eval (.Lambda params body scope lpos) X.env) :: backTo pos (starEach [] X.env))) _ _ s
  refine Calls.spliced_cons (lam_make3 I TB hcode hmT hu hT hdef (L.has I.ok) fun f c' pm' ctv H1 s1 I1 kept T1 hf hfn hfr hco => Calls.spliced_nil ⟨I1.kIn, ?_⟩)
  refine wpAny_call (codeAny_mono (run_ofS (N := Ng) (ps := [a]) (us := [.ref f]) (vs := [.ref f]) (CX := C8.CX0) (E := C8.E0) (Q := Q) lk hcg Sg hr I1.env0 (hb s1 [.ref f] I1.kIn rfl) (.cons rfl .nil) rfl fun hr1 => ?_) fun r s2 hq => ?_)
  · obtain ⟨t1, h1, h2⟩ := hG f c' s1 H1 Q (fun E H' Q' => t E σ H' Q') (fun W pn xe E p1 p2 tk hW => pe_act (i := 0) I1 L hf hfn hfr (hbind _ _ _ _ _) tk hW hr1 (fun A outer s H hr2 => hbody A outer s H E f c' hr2) hNg hva hd hcd) hco (h H1 kept T1)
    exact ⟨t1, h1.nox, h2⟩
  · cases r with
    | error e => exact (show False from hq).elim
    | ok fl =>
      cases fl with
      | ret u => exact I1.after hq
      | next => exact False.elim hq
      | brk => exact False.elim hq
      | cont => exact False.elim hq
end
/-- g for the lambda's body: an error finds E -/
def lamG (g : Gm) (E : XK) : Gm := { g with W := fun x _ _ F H1 => ∀ d H2, ErrD g.C F x d H1 H2 → E (.ref (g.C.ea x.c)) d H2 }
section
variable {X : Cx} {g : Gm} {F F' H H' : Hp} {σ : L2.St} {env : Env'}
/-- an error may leave the lambda's body as lamG tells -/
theorem er_lam {A : Around} {outer : List Env} {s : Shared} {E : XK} {scope : Scope} {f c' : Addr} : ErX (lamCx X A outer s H E scope f c') (lamG g E) := ⟨fun cls d _ H => E cls d H, takes_of rfl rfl rfl rfl, fun x e σ F H1 d H2 w S ed => w d H2 ed⟩
end
end VL
set_option maxRecDepth 100000
set_option maxHeartbeats 2000000
namespace VL
open PySem PySem.Spec L2 LamX
open PyProof.Rows hiding St
def Holds (σ : L2.St) (y : Nat) (v : V) : Prop := y < σ.length → σ[y]? = some (some v)
def tVarL (y : Nat) : TE := fun σ H Q => ∃ v, Holds σ y v ∧ Q v H
theorem pe_varL {X : Cx} {y : Nat} {m : Str} {p : Pos} (hy : X.N[y]? = some m) (hv : Vis X.env.scope m) (d0 : (m == ("__debug__" : Str)) = false) (d1 : (m == ("__classdict__" : Str)) = false) : PE X (.Name m p) (tVarL y) :=
  peN (pe_var hy hv d0 d1) fun σ H Q hl ⟨v, h, q⟩ => ⟨v, h (by rw [hl]; exact (List.getElem?_eq_some_iff.mp hy).1), q⟩
theorem peMono {X : Cx} {e : Expr} {t : TE} (h : PE X e t) : PE X e (fun σ H Q => ∃ Q2 : VK, (∀ v H', Q2 v H' → Q v H') ∧ t σ H Q2) :=
  ⟨fun pins s σ H Q I ⟨Q2, k, q⟩ => thn (h.run pins s σ H Q2 I q) fun u s' ⟨v, H', I', r, z⟩ => ⟨v, H', I', r, k v H' z⟩⟩
end VL
set_option maxRecDepth 100000
set_option maxHeartbeats 2000000
namespace VL
open PySem PySem.Spec L2
open PyProof.Rows hiding St
end VL
set_option maxRecDepth 100000
set_option maxHeartbeats 2000000
namespace VL
open PySem PySem.Spec L2
open PyProof.Rows hiding St
end VL
set_option maxRecDepth 100000
set_option maxHeartbeats 2000000
namespace VL
open PySem PySem.Spec L2
open PyProof.Rows hiding St
end VL
set_option maxRecDepth 100000
set_option maxHeartbeats 2000000
namespace VL
open PySem PySem.Spec L2
open PyProof.Rows hiding St
end VL
set_option maxRecDepth 100000
set_option maxHeartbeats 2000000
namespace VL
open PySem PySem.Spec L2
open PyProof.Rows hiding St
section
variable {prog : Program} {w : World} {A : Around} {E : Value → Shared → Prop} {s : Shared} {K : PySem.W.Frag} {x C L f : Addr} {h₀ : Heap} {m : Str → Option Value} {ox : Obj} {od : Option Obj} {b tb : Value}
/-- object's != asks the own == -/
theorem ask_eq {Q : Fin → Shared → Prop} (hu : A.units < cLine) (X : K.In s.heap) (I : PySem.W.InstAt s.heap x ox C od) (hs : PySem.W.findIn K (.ref C) "__eq__" = some (some (.ref f))) (hf : PySem.W.isFn K (.ref f) = true)
    (h : wpAny (model prog w) A (call (.ref f) [.ref x, b]) (fun v s' => ∃ t, v = .bool t ∧ Q (.done (.ret (.bool (!t)))) s') E s) : wpAny (model prog w) A (Builtin.«object.__ne__» ⟨[.ref x, b], []⟩) Q E s := by
  unfold Builtin.«object.__ne__»
  repeat (first
    | with_reducible refine wpAny_cRoomFor hu ?_
    | (refine wpAny_bind (m := callSpecialIfBound? (.ref x) (Str.ofString "__eq__") [b]) (PySem.W.ifBound_K X I hs hf (wpAny_mono h (fun v s' z => ?_) fun _ _ z => z))
       obtain ⟨t, hv, q⟩ := z
       subst hv
       repeat (first | exact q | exact wpAny_pure q | exact wpAny_truthy_bool q | (refine wpAny_bind (m := truthy (.bool _)) (wpAny_truthy_bool ?_)) | wp_step))
    | wp_step)
theorem bound_ne {M : Model} {args : List Value} {Q : Option Value → Shared → Prop} (X : K.In s.heap) (I : PySem.W.InstAt s.heap x ox C od) (hs : PySem.W.findIn K (.ref C) "__ne__" = some (some (.builtin "object.__ne__")))
    (h : wpAny M A (call (.builtin "object.__ne__") (.ref x :: args)) (fun v => Q (some v)) E s) : wpAny M A (callSpecialIfBound? (.ref x) "__ne__" args) Q E s := by
  simp only [callSpecialIfBound?, bindSpecialIfBound?]
  have run : wpAny M A (call (.builtin "object.__ne__") ([.ref x] ++ args) >>= fun v => pure (some v)) Q E s := wpAny_bind (wpAny_mono h (fun _ _ z => wpAny_pure z) fun _ _ z => z)
  refine wpAny_holding (wpAny_bind (wpAny_bind (wpAny_bind (I.type.here ((PySem.W.looks_findIn X hs).here (wpAny_bind (wpAny_askSetting (wpAny_ite ?_))))))))
  split
  · exact wpAny_bind (wpAny_of_eq (F.cmp_object.ne.bind _) (wpAny_pure (by exact run)))
  · exact wpAny_tryCatch (wpAny_bind (wpAny_of_eq (F.cmp_object.ne.bind _) (wpAny_pure (by exact run))))
theorem ne_own {Q : Value → Shared → Prop} (hu : A.units + 1 < cLine) (Fm : Fr h₀ L s.heap m) (X₀ : K.In h₀) (I : PySem.W.InstAt s.heap x ox C od) (hb : PySem.W.Looks (model prog w) s.heap (typeOf b) tb) (hn : PySem.W.notFirst K C tb = true)
    (hm : PySem.W.mroIn K C (.type "object") = some true) (hne : PySem.W.findIn K (.ref C) "__ne__" = some (some (.builtin "object.__ne__"))) (hs : PySem.W.findIn K (.ref C) "__eq__" = some (some (.ref f))) (hf : PySem.W.isFn K (.ref f) = true)
    (h : wpAny (model prog w) A.in1 (call (.ref f) [.ref x, b]) (fun v s' => ∃ t, v = .bool t ∧ Q (.bool (!t)) s') E s) : wpAny (model prog w) A (richCompare .NotEq (.ref x) b) Q E s := by
  have X := X₀.keeps Fm.keep
  have one : wpAny (model prog w) A (tryCompare (.ref x) "__ne__" b) (fun r s' => ∃ v, r = some v ∧ Q v s') E s := by
    unfold tryCompare
    refine wpAny_bind (bound_ne X I hne (wpAny_call (codeAny_call_builtin F.cmp_object.ne.plain F.cmpEntry_ne (PySem.W.check_slot F.cmpKind_ne F.cmpSplit_ne (I.type.andThen (PySem.W.looks_mroIn X hm)) (F.cmpArgs_ne _ _)
      (ask_eq (A := A.in1) (by show A.units + 1 < cLine; exact hu) X I hs hf (wpAny_mono h (fun v s' z => ?_) fun _ _ z => z))))))
    obtain ⟨t, hv, q⟩ := z
    exact ⟨t, hv, wpAny_pure ⟨_, rfl, q⟩⟩
  unfold richCompare
  simp only [oneThing_ref]
  refine wpAny_holding (wpAny_bind (wpAny_cRoomFor (by omega) ?_))
  rw [cmpInfo_NotEq]
  refine wpAny_bind (I.type.here (wpAny_bind (hb.here ?_)))
  split
  · rename_i q
    have e : PySem.W.subIn K tb (.ref C) = some false := by
      rcases Bool.or_eq_true_iff.mp hn with e | e
      · rw [beq_iff_eq.mp e] at q; simp at q
      · exact beq_iff_eq.mp e
    refine wpAny_bind ((PySem.W.looks_subIn X e).here ?_)
    simp only [Bool.false_eq_true, if_false]
    refine wpAny_bind (wpAny_mono one (fun r s' z => ?_) fun _ _ z => z)
    obtain ⟨v, hv, q⟩ := z
    subst hv
    exact wpAny_pure q
  · refine wpAny_bind (wpAny_pure ?_)
    simp only [Bool.false_eq_true, if_false]
    refine wpAny_bind (wpAny_mono one (fun r s' z => ?_) fun _ _ z => z)
    obtain ⟨v, hv, q⟩ := z
    subst hv
    exact wpAny_pure q
end
end VL
set_option maxRecDepth 100000
set_option maxHeartbeats 2000000
namespace VL
open PySem PySem.Spec L2
open PyProof.Rows hiding St
def cmpN : Bool → CmpOp
  | true => .NotEq
  | false => .Eq
/-- what may stand on the right -/
def rightQ (c : Nat) : PV → Bool
  | .ins c' _ => decide (c' = c)
  | .dT _ _ => false
  | .exc _ _ => false
  | .lnk _ => false
  | _ => true
def dOwnQ (neg : Bool) (c : Nat) (fn : List PV → FR) (da db : Env' → Res Val) : Env' → Res Val := fun e => (stl da e).bind fun x e1 => (stl db e1).bind fun y e2 => if insAt c 0 x e2 = true ∧ (peek y e2).map (rightQ c) = some true then
    (callK [false, false] fn [x, y] e2).bind fun r e3 => match r with
      | .fz (.bl b) => .ok (.fz (.bl (if neg = true then !b else b))) e3
      | _ => .bad
  else .bad
theorem not_first (K : PySem.W.Frag) (C : Addr) : ∀ T ∈ ["NoneType", "bool", "int", "str", "tuple", "list", "dict"], PySem.W.notFirst K C (.type T) = true := by
  have go : ∀ T : String, (fastBuiltinMro T).isSome = true → ((fastBuiltinMro T).getD []).all (fun v => match v with | .ref _ => false | _ => true) = true → PySem.W.notFirst K C (.type T) = true := by
    intro T h1 h2
    unfold PySem.W.notFirst
    have : PySem.W.subIn K (.type T) (.ref C) = some false := by
      show (fastBuiltinMro T).map (·.contains (.ref C)) = some false
      cases h : fastBuiltinMro T with
      | none => rw [h] at h1; cases h1
      | some l =>
        rw [h] at h2
        simp only [Option.map_some, Option.some.injEq]
        rw [List.contains_eq_any_beq, List.any_eq_false]
        intro v hv
        have := List.all_eq_true.mp h2 v hv
        cases v <;> simp_all
    rw [this]
    simp
  intro T hT
  simp only [List.mem_cons, List.not_mem_nil, or_false] at hT
  rcases hT with rfl | rfl | rfl | rfl | rfl | rfl | rfl
  all_goals exact go _ (by decide +kernel) (by decide +kernel)
section
variable {X : Cx} {g : Gm} {pins : List (Addr × Obj)} {F H : Hp} {σ : St} {env : Env'} {s : Shared} {a b : Expr} {da db : Env' → Res Val} {pos : Pos}
theorem tyP_first {p : PV} {c : Nat} (h : rightQ c p = true) : PySem.W.notFirst X.K (g.C.ad c) (tyP g.C p) = true := by
  cases p <;> simp only [rightQ] at h <;> simp only [tyP]
  all_goals try exact not_first _ _ _ (by simp)
  · have := of_decide_eq_true h
    subst this
    unfold PySem.W.notFirst
    simp
  · cases h
theorem own_run {k j : Nat} {c : Nat} {sp : Sp} (neg : Bool) (cm : C8.Met X.prog X.w X.K X.mg X.base k (g.C.ad c) "__eq__" sp []) (hr : Room j X.A) (hk : k + 1 ≤ j) (ok : Ok X g) (co : ∀ c, ClsOk g.C c) (fi : InsF g.C)
    (hne : neg = true → PySem.W.findIn X.K (.ref (g.C.ad c)) "__ne__" = some (some (.builtin "object.__ne__"))) {ad dx : Addr} {fs : List (Str × V)} {q : PV} {y : V} {u : Value} {Q : VK} (I : Inv X pins σ H s) (ha : H ad = some (.ins (g.C.ad c) dx fs)) (ru : RelV y u) (t : Rt g.C F H q y) (hq : rightQ c q = true)
    (h : sp [.ref ad, y] H (fun v H' => ∃ b, v = .bl b ∧ Q (.bl (if neg = true then !b else b)) H') C8.E0) : wpAny (model X.prog X.w) X.A (compareOp (cmpN neg) (.ref ad) u) (EP X pins σ Q) X.xe s := by
  obtain ⟨f, fd, ps, ds, cl, me, Fn, bi, d⟩ := cm.ex
  cases d
  obtain ⟨mA, J, _⟩ := ins_get I.hok ha
  obtain ⟨od, J, _⟩ := J.look
  obtain ⟨m, hF⟩ := I.fr
  have tx := tyP_ok ok co fi t (fun ks xs z => by rw [z] at hq; cases hq) (fun c xs z => by rw [z] at hq; cases hq) fun j z => by rw [z] at hq; cases hq
  obtain ⟨P, kit, hp, _⟩ := kit_of I ru tx
  have lk : PySem.W.Looks (model X.prog X.w) s.heap (typeOf u) (tyP g.C q) := kit.ty _ _ I.kIn hp
  have nf : PySem.W.notFirst X.K (g.C.ad c) (tyP g.C q) = true := tyP_first hq
  have hl := Fn.len _ _ _ _ h
  have rr : Vals [V.ref ad, y] [Value.ref ad, u] := .cons rfl (.cons ru .nil)
  have call : ∀ (B : Around), B.frames = X.A.frames → Room k B → wpAny (model X.prog X.w) B (call (.ref f) [.ref ad, u]) (fun v s' => ∃ t, v = .bool t ∧ EP X pins σ Q (.bool (if neg = true then !t else t)) s') X.xe s := by
    intro B hB rB
    have e0 : Env0 X.prog X.w X.K X.mg X.base B X.stack s H := by
      have e := I.env0
      exact ⟨by rw [hB]; exact e.frames, e.mod, e.bs, e.bsz, e.funs, e.frf, e.hok, e.bare⟩
    refine wpAny_call (codeAny_mono (Fn.run B X.stack s H ⟨[.ref ad, u], []⟩ [.ref ad, u] _ _ C8.E0 rB e0 (by
      have := bi s [.ref ad, u] I.kIn (by simpa using hl)
      simpa using this) rr h) fun r s' z => ?_)
    cases r with
    | error e => exact C8.pass0 (X := X) (E := C8.E0) pins σ H s e s' I z
    | ok fl =>
      cases fl with
      | ret w =>
        obtain ⟨v, H', I', rv, b, e, q⟩ := I.after z
        subst e
        cases rv
        exact ⟨b, rfl, .bl (if neg = true then !b else b), H', I', rfl, q⟩
      | next => exact False.elim z
      | brk => exact False.elim z
      | cont => exact False.elim z
  have u1 := ok.u1
  cases neg with
  | false =>
    show wpAny _ _ (richCompare .Eq (.ref ad) u) _ _ _
    refine PySem.W.cmp_K (op := .Eq) (tb := tyP g.C q) (by omega) hF I.ok.mod.kin J lk nf me.at_ me.fn (wpAny_mono (call X.A rfl (hr.mono (by omega))) (fun v s' z => ?_) fun _ _ z => z)
    obtain ⟨t, hv, q⟩ := z
    subst hv
    exact q
  | true =>
    show wpAny _ _ (richCompare .NotEq (.ref ad) u) _ _ _
    refine ne_own u1 hF I.ok.mod.kin J lk nf ?_ (hne rfl) me.at_ me.fn (call X.A.in1 rfl (hr.mono hk).in1)
    have := fi.hm c
    rw [ok.K] at this
    exact this
theorem own_k {neg : Bool} {k j : Nat} {c : Nat} {fn : List PV → FR} (cm : C8.Met X.prog X.w X.K X.mg X.base k (g.C.ad c) "__eq__" (SpV g.C [false, false] fn) []) (hr : Room j X.A) (hk : k + 1 ≤ j) (ok : Ok X g) (co : ∀ c, ClsOk g.C c) (fi : InsF g.C)
    (hne : neg = true → PySem.W.findIn X.K (.ref (g.C.ad c)) "__ne__" = some (some (.builtin "object.__ne__"))) {K : Val → Env' → Hp → Hp → Prop} {x y : Val} {v w : V} {vv ww : Value} (I : Inv X pins σ H s) (S : Stt g F H σ env) (r1 : RelV v vv) (r2 : RelV w ww) (o1 : x.old) (o2 : y.old) (rx : RV g F H σ env x v) (ry : RV g F H σ env y w)
    (go : Go g F σ (if insAt c 0 x env = true ∧ (peek y env).map (rightQ c) = some true then (callK [false, false] fn [x, y] env).bind fun r e3 => (match r with | .fz (.bl b) => Res.ok (.fz (.bl (if neg = true then !b else b))) e3 | _ => .bad) else .bad) K) :
    wpAny (model X.prog X.w) X.A (compareOp (cmpN neg) vv ww) (EP X pins σ fun z H' => ∃ (b : Bool) (F' : Hp) (e' : Env'), z = .bl b ∧ Ex F F' ∧ Stt g F' H' σ e' ∧ K (.fz (.bl b)) e' F' H') X.xe s := by
  split at go
  · rename_i hh
    obtain ⟨h1, h2⟩ := hh
    obtain ⟨ad, dx, fs, n, rfl, ha, _⟩ := insAt_is S rx h1
    cases r1
    cases hp : peek y env with
    | none => rw [hp] at h2; cases h2
    | some q =>
      rw [hp] at h2
      refine own_run neg cm hr hk ok co fi hne I ha r2 (peek_ok S ry hp) (Option.some.inj h2) ?_
      have k := Go.bind go
      refine call_go (xs := [x, y]) ⟨o1, o2, True.intro⟩ S ⟨_, _, rfl, rx, _, _, rfl, ry, rfl⟩ (k.mono fun r e3 F3 H3 x3 S3 k3 z rz => ?_) C8.E0
      cases r with
      | bor i => exact k3.elim
      | new p => exact k3.elim
      | fz p =>
        cases p <;> try exact k3.elim
        rename_i bb
        have e : z = .bl bb := by
          have : R g.C F3 (.bl bb) z := rz
          unfold R at this; exact this
        exact ⟨bb, e, _, F3, e3, rfl, x3, S3, k3 F3 H3 (Ex.refl F3) S3⟩
  · exact go.elim
theorem se_ownQ (neg : Bool) {op : CmpOp} (hop : cmpN neg = op) {k j : Nat} {c : Nat} {fn : List PV → FR} (cm : C8.Met X.prog X.w X.K X.mg X.base k (g.C.ad c) "__eq__" (SpV g.C [false, false] fn) []) (hr : Room j X.A) (hk : k + 1 ≤ j) (ok : Ok X g) (co : ∀ c, ClsOk g.C c) (fi : InsF g.C)
    (hne : neg = true → PySem.W.findIn X.K (.ref (g.C.ad c)) "__ne__" = some (some (.builtin "object.__ne__"))) (ha : PE X a (tE g da)) (hb : PE X b (tE g db)) (hm : behindInMarks op b = false) : PE X (.Compare a [op] [b] pos) (tE g (dOwnQ neg c fn da db)) := by
  subst hop
  refine ⟨fun pins s σ H Q I ⟨F, env, S, go⟩ => wpAny_Compare1 (thn (peGo ha I S go) fun v s1 ⟨v', H1, I1, r1, F1, e1, x, x1, S1, o1, rv1, go1⟩ => ?_) hm⟩
  refine thn (peGo hb I1 S1 go1) fun u s2 ⟨u', H2, I2, r2, F2, e2, y, x2, S2, o2, rv2, go2⟩ => ?_
  refine thn (own_k cm hr hk ok co fi hne I2 S2 r1 r2 o1 o2 (rv1.later o1 x2) rv2 go2) fun w s3 ⟨w', H3, I3, r3, bb, F3, e3, ew, x3, S3, k3⟩ => ⟨w', H3, I3, r3, k3 w' ?_⟩
  subst ew
  show R _ _ _ _
  unfold R; rfl
theorem st_ownQ (neg : Bool) {op : CmpOp} (hop : cmpN neg = op) {k j : Nat} {c : Nat} {fn : List PV → FR} (cm : C8.Met X.prog X.w X.K X.mg X.base k (g.C.ad c) "__eq__" (SpV g.C [false, false] fn) []) (hr : Room j X.A) (hk : k + 1 ≤ j) (ok : Ok X g) (co : ∀ c, ClsOk g.C c) (fi : InsF g.C)
    (hne : neg = true → PySem.W.findIn X.K (.ref (g.C.ad c)) "__ne__" = some (some (.builtin "object.__ne__"))) (ha : PE X a (tE g da)) (hb : PE X b (tE g db)) (hm : behindInMarks op b = false) : PT X (.Compare a [op] [b] pos) (tT g (asB (dOwnQ neg c fn da db))) := by
  subst hop
  refine ⟨fun pins s σ H Q I ⟨F, env, S, go⟩ => ?_⟩
  have go := Go.bind go
  refine wpAny_isTrue_Compare1 (thn (peGo ha I S go) fun v s1 ⟨v', H1, I1, r1, F1, e1, x, x1, S1, o1, rv1, go1⟩ => ?_) hm
  refine thn (peGo hb I1 S1 go1) fun u s2 ⟨u', H2, I2, r2, F2, e2, y, x2, S2, o2, rv2, go2⟩ => ?_
  refine thn (own_k cm hr hk ok co fi hne I2 S2 r1 r2 o1 o2 (rv1.later o1 x2) rv2 go2) fun w s3 ⟨w', H3, I3, r3, bb, F3, e3, ew, x3, S3, k3⟩ => ?_
  subst ew
  cases r3
  exact wpAny_truthy_bool ⟨H3, I3, k3 F3 H3 (Ex.refl F3) S3⟩
end
def ansO (n c0 : Nat) : PV → Option Bool
  | .ins c _ => if c < n then some (decide (c = c0)) else none
  | .dT _ _ => none
  | .exc _ _ => none
  | .lnk _ => none
  | _ => some false
/-- which own class is which: n of them -/
structure OwnC (C : Ct) (n c0 : Nat) : Prop where
  own : ∀ c, c < n → PySem.W.kitOne C.K (.ref (C.ad c)) (.ref (C.ad c0)) = some (decide (c = c0))
  oth : ∀ T ∈ ["NoneType", "bool", "int", "str", "tuple", "list", "dict"], PySem.W.kitOne C.K (.type T) (.ref (C.ad c0)) = some false
theorem ansO_ok {C : Ct} {n c0 : Nat} (oc : OwnC C n c0) : ∀ p b, ansO n c0 p = some b → PySem.W.kitOne C.K (tyP C p) (.ref (C.ad c0)) = some b := by
  intro p b h
  cases p <;> simp only [ansO] at h
  case dT => cases h
  case exc => cases h
  case lnk => cases h
  case ins c xs =>
    split at h
    · rename_i hc
      cases h
      exact oc.own c hc
    · cases h
  all_goals
    cases h
    exact oc.oth _ (by simp)
section
variable {X : Cx} {g : Gm} {C : Ct} {L : Nat → List Nat} {nm : Nat → Str} {e : Expr} {x : Str} {da : Env' → Res Val} {pos p ce : Pos}
theorem se_isO {n c0 : Nat} (hC : g.C = C) (ok : Ok X g) (cf : CF C L nm) (oc : OwnC C n c0) (hm : X.mg "isinstance" = none) (hg : Gl X "isinstance") (hmT : X.mg x = some (.ref (C.ad c0))) (hgT : Gl X x) (ha : PE X e (tE g da)) (hd : (x == ("__debug__" : Str)) = false)
    (hs : starEach [e, .Name x ce] X.env = (false, eval e X.env) :: starEach [.Name x ce] X.env) (hs2 : starEach [.Name x ce] X.env = (false, eval (.Name x ce) X.env) :: starEach [] X.env) (hpl : (backTo pos (starEach [.Name x ce] X.env)).any (·.1) = false) :
    PE X (.Call (.Name "isinstance" p) [e, .Name x ce] [] pos) (tE g (dIsi (ansO n c0) da)) := by
  subst hC
  exact se_isi ok cf.cls cf.ins (ansO_ok oc) (fun _ _ => rfl) (fun _ _ => rfl) hm hg ha (pe_glob hgT hmT (show RelV (.ref (g.C.ad c0)) (.ref (g.C.ad c0)) from rfl) hd) (by constructor) hs hs2 hpl
end
end VL
namespace VL
open PySem PySem.Spec L2
open PyProof.Rows hiding St
section
variable {X : Cx} {g : Gm} {C : Ct} {L : Nat → List Nat} {nm : Nat → Str} {a b : Expr} {da db : Env' → Res Val} {pos : Pos}
theorem se_ownQC (neg : Bool) {op : CmpOp} (hop : cmpN neg = op) {k j : Nat} {c : Nat} {fn : List PV → FR} (hC : g.C = C) (cm : C8.Met X.prog X.w X.K X.mg X.base k (C.ad c) "__eq__" (SpV C [false, false] fn) []) (hr : Room j X.A) (hk : k + 1 ≤ j) (ok : Ok X g) (cf : CF C L nm)
    (hne : PySem.W.findIn X.K (.ref (C.ad c)) "__ne__" = some (some (.builtin "object.__ne__"))) (ha : PE X a (tE g da)) (hb : PE X b (tE g db)) (hm : behindInMarks op b = false) : PE X (.Compare a [op] [b] pos) (tE g (dOwnQ neg c fn da db)) := by
  subst hC
  exact se_ownQ neg hop cm hr hk ok cf.cls cf.ins (fun _ => hne) ha hb hm
theorem st_ownQC (neg : Bool) {op : CmpOp} (hop : cmpN neg = op) {k j : Nat} {c : Nat} {fn : List PV → FR} (hC : g.C = C) (cm : C8.Met X.prog X.w X.K X.mg X.base k (C.ad c) "__eq__" (SpV C [false, false] fn) []) (hr : Room j X.A) (hk : k + 1 ≤ j) (ok : Ok X g) (cf : CF C L nm)
    (hne : PySem.W.findIn X.K (.ref (C.ad c)) "__ne__" = some (some (.builtin "object.__ne__"))) (ha : PE X a (tE g da)) (hb : PE X b (tE g db)) (hm : behindInMarks op b = false) : PT X (.Compare a [op] [b] pos) (tT g (asB (dOwnQ neg c fn da db))) := by
  subst hC
  exact st_ownQ neg hop cm hr hk ok cf.cls cf.ins (fun _ => hne) ha hb hm
end
end VL
set_option maxRecDepth 100000
set_option maxHeartbeats 2000000
namespace VL
open PySem PySem.Spec L2
open PyProof.Rows hiding St
/-- an error's class, its __init__ as the program has it -/
structure ErrDf where
  cls : Str
  qual : Str
  params : Arguments
  body : List Stmt
  scope : Scope
abbrev ErrV : Type := Option (Str × Str × Arguments × FuncBody × Scope × Addr × List Str × Value × Addr)
def errAd (K : PySem.W.Frag) (x : Str) : Addr := He.ma K (He.ga K x) "__init__"
def errObs (K : PySem.W.Frag) (x : Str) : ErrV := match K.lookup (errAd K x) with
  | some ⟨_, _, .func fd, _⟩ => some (fd.name, fd.qualname, fd.params, fd.body, fd.scope, fd.globals, fd.closure.map (·.1), fd.defaults, fd.builtins)
  | _ => none
def ErrDf.val (d : ErrDf) : ErrV := some ("__init__", d.qual, d.params, .stmts d.body, d.scope, mainGlobals, [("__class__" : Str)], .none, builtinsNs)
def cellB (K : PySem.W.Frag) (cc C : Addr) : Bool := match K.lookup cc with
  | some ⟨_, _, .cell (some (.ref D)), _⟩ => decide (D = C)
  | _ => false
def fileB (K : PySem.W.Frag) (cda : Addr) (file : Str) : Bool := match K.lookup cda with
  | some ⟨_, _, .fields vs, _⟩ => (match (vs[2]? : Option Value) with
    | some (Value.str f _) => file == f
    | _ => false)
  | _ => false
def errB (file : Str) (K : PySem.W.Frag) (x qual : Str) : Bool := match K.lookup (errAd K x) with
  | some ⟨_, _, .func fd, _⟩ => (match fd.closure.map (·.2), fd.code with
    | [cc], .ref cda => PySem.W.codeIn K fd.code qual && (cellB K cc (He.ga K x) && fileB K cda file)
    | _, _ => false)
  | _ => false
theorem cellB_ok {K : PySem.W.Frag} {cc C : Addr} (h : cellB K cc C = true) : ∃ cl cld csl, K.lookup cc = some ⟨cl, cld, .cell (some (.ref C)), csl⟩ := by
  unfold cellB at h
  split at h
  · rename_i a b D sl e
    have := of_decide_eq_true h
    subst this
    exact ⟨_, _, _, e⟩
  · cases h
theorem fileB_ok {K : PySem.W.Frag} {cda : Addr} {file : Str} (h : fileB K cda file = true) : ∃ ccl cdd vs ccs f t, K.lookup cda = some ⟨ccl, cdd, .fields vs, ccs⟩ ∧ vs[2]? = some (.str f t) ∧ (file == f) = true := by
  unfold fileB at h
  split at h
  · rename_i a b vs sl e
    split at h
    · rename_i f t e2
      exact ⟨_, _, _, _, _, _, e, e2, h⟩
    · cases h
  · cases h
/-- the function, as the walk of an error's __init__ asks for it -/
structure ErrFn (file : Str) (K : PySem.W.Frag) (d : ErrDf) (C : Addr) : Prop where
  ex : ∃ oc od dV kV doc pm an ct osl cda cc, K.lookup (errAd K d.cls) = some ⟨oc, od, .func (PySem.W.ksFn "__init__" d.qual d.params d.body d.scope dV kV doc pm an (.ref cda) ct cc), osl⟩ ∧ dV = .none ∧ PySem.W.codeIn K (.ref cda) d.qual = true ∧
    (∃ cl cld csl, K.lookup cc = some ⟨cl, cld, .cell (some (.ref C)), csl⟩) ∧ ∃ ccl cdd vs ccs f t, K.lookup cda = some ⟨ccl, cdd, .fields vs, ccs⟩ ∧ vs[2]? = some (.str f t) ∧ (file == f) = true
theorem errFn_ok {file : Str} {K : PySem.W.Frag} {d : ErrDf} (e : errObs K d.cls = d.val) (h : errB file K d.cls d.qual = true) : ErrFn file K d (He.ga K d.cls) := by
  unfold errObs at e
  unfold errB at h
  cases q : K.lookup (errAd K d.cls) with
  | none => rw [q] at h; cases h
  | some o =>
    obtain ⟨oc, od, dt, osl⟩ := o
    rw [q] at h e
    cases dt with
    | func fd =>
      obtain ⟨n1, n2, n3, n4, n5, n6, n7, n8, n9, n10, n11, n12, n13, n14, n15⟩ := fd
      have e2 : (some (n1, n2, n3, n4, n5, n6, n7.map (·.1), n8, n15) : ErrV) = (some (("__init__" : Str), d.qual, d.params, FuncBody.stmts d.body, d.scope, mainGlobals, [("__class__" : Str)], Value.none, builtinsNs) : ErrV) := e
      simp only [Option.some.injEq, Prod.mk.injEq] at e2
      obtain ⟨h1, h2, h3, h4, h5, h6, h7, h8, h9⟩ := e2
      subst h1 h2 h3 h4 h5 h6 h8 h9
      dsimp only at h
      split at h
      · rename_i _ _ cc cda hcc
        obtain ⟨k1, k2⟩ := He.ba h
        obtain ⟨k3, k4⟩ := He.ba k2
        have hn7 : n7 = [(("__class__" : Str), cc)] := by
          match n7, h7, hcc with
          | [(a, b)], h7, hcc =>
            simp at h7 hcc
            rw [h7, hcc]
        subst hn7
        exact ⟨oc, od, _, n9, n10, n11, n12, n14, osl, cda, cc, q, rfl, k1, cellB_ok k3, fileB_ok k4⟩
      · cases h
    | _ => cases h
def oexB (K : PySem.W.Frag) (C : Addr) : Bool := match K.lookup C with
  | some ⟨.type "type", _, .cls cd, sl⟩ => (match cd.mro, sl.toList with
    | .ref C' :: bm, [_, _, _, _, some (.builtin n), _] => C' == C && (n == "ValueError.__new__" && (!cd.hasDel && (cd.hasDict && PySem.HandSPX.refsVE bm)))
    | _, _ => false)
  | _ => false
theorem oexB_ok {K : PySem.W.Frag} {C : Addr} (h : oexB K C = true) : ∃ nm q N bs bm sn sub ab col dd k0 k1 k2 k3 k5, K.lookup C = some (excClassObj nm q C N bs bm true sn sub ab col dd k0 k1 k2 k3 k5 "ValueError.__new__") ∧ PySem.HandSPX.refsVE bm = true := by
  unfold oexB at h
  split at h
  · rename_i dd cd sl ho
    split at h
    · rename_i C' bm k0 k1 k2 k3 n k5 hm hs
      obtain ⟨h1, h⟩ := He.ba h
      obtain ⟨h2, h⟩ := He.ba h
      obtain ⟨h3, h⟩ := He.ba h
      obtain ⟨h4, h5⟩ := He.ba h
      obtain rfl := beq_iff_eq.mp h1
      obtain rfl := beq_iff_eq.mp h2
      obtain ⟨nm, bs, mro, ns, qn, hd, sn, sub, ab, col, del⟩ := cd
      dsimp only at hm h3 h4
      subst hm h4
      have hdel : del = false := by cases del <;> first | rfl | cases h3
      subst hdel
      have hsl : sl = #[k0, k1, k2, k3, some (.builtin "ValueError.__new__"), k5] := by
        obtain ⟨l⟩ := sl
        simp only at hs
        rw [hs]
      subst hsl
      exact ⟨nm, qn, ns, bs, bm, sn, sub, ab, col, dd, k0, k1, k2, k3, k5, ho, h5⟩
    · cases h
  · cases h
/-- what is asked of an error's class (a base class of errors: the second list alone) -/
def supL (K : PySem.W.Frag) (C : Addr) : List Bool := [oexB K C, He.eqO (PySem.W.findIn K (.ref C) "__setattr__") (some (some (.builtin "object.__setattr__"))), decide (PySem.W.subIn K (.ref C) (.type "BaseException") = some true), decide (PySem.W.typeIn K (.ref C) = some (.type "type")), PySem.W.keepIn K (.ref C),
  He.eqO (PySem.W.ks_superIn K C C "__init__") (some (some (.builtin "ValueError.__init__"))), decide (PySem.W.subIn K (.ref C) (.type "ValueError") = some true), decide (PySem.W.mroIn K C (.ref C) = some true), He.eqO (PySem.W.nsIn K cStatics "thirdparty.any") (some none), He.eqO (PySem.W.nsIn K mainGlobals "super") (some none)]
def excL (K : PySem.W.Frag) (C : Addr) : List Bool := [He.eqO (PySem.W.findIn K (.ref C) "__getattribute__") (some (some (.builtin "BaseException.__getattribute__"))), He.eqO (PySem.W.findIn K (.ref C) "__getattr__") (some none), decide (PySem.W.subIn K (.ref C) (.type "BaseException") = some true), PySem.W.hasDictIn K C,
  He.eqO (PySem.W.findIn K (.ref C) "__class__") (some (some (.builtin "object.__class__"))), He.eqO (PySem.W.specialIn K (.builtin "object.__class__") "__get__") (some (some (.builtin "getset_descriptor.__get__"))), decide (PySem.W.takesIn K (.builtin "object.__class__") = some true), decide (PySem.W.mroIn K C (.type "object") = some true)]
theorem supL_ok {K : PySem.W.Frag} {C : Addr} (h : (supL K C).all id = true) : SupC K C := by
  simp only [supL, List.all_cons, List.all_nil, Bool.and_true, id] at h
  obtain ⟨h1, h⟩ := He.ba h
  obtain ⟨h2, h⟩ := He.ba h
  obtain ⟨h3, h⟩ := He.ba h
  obtain ⟨h4, h⟩ := He.ba h
  obtain ⟨h5, h⟩ := He.ba h
  obtain ⟨h6, h⟩ := He.ba h
  obtain ⟨h7, h⟩ := He.ba h
  obtain ⟨h8, h⟩ := He.ba h
  obtain ⟨h9, h10⟩ := He.ba h
  exact ⟨⟨oexB_ok h1, He.eqO_ok h2, of_decide_eq_true h3, of_decide_eq_true h4, h5⟩, He.eqO_ok h6, of_decide_eq_true h7, of_decide_eq_true h8, He.eqO_ok h9, He.eqO_ok h10⟩
theorem excL_ok {K : PySem.W.Frag} {C : Addr} (h : (excL K C).all id = true) : ExcC K C := by
  simp only [excL, List.all_cons, List.all_nil, Bool.and_true, id] at h
  obtain ⟨h1, h⟩ := He.ba h
  obtain ⟨h2, h⟩ := He.ba h
  obtain ⟨h3, h⟩ := He.ba h
  obtain ⟨h4, h⟩ := He.ba h
  obtain ⟨h5, h⟩ := He.ba h
  obtain ⟨h6, h⟩ := He.ba h
  obtain ⟨h7, h8⟩ := He.ba h
  exact ⟨He.eqO_ok h1, He.eqO_ok h2, of_decide_eq_true h3, h4, He.eqO_ok h5, He.eqO_ok h6, of_decide_eq_true h7, of_decide_eq_true h8⟩
/-- fields that no class of the error has; its __init__ -/
def fieL (K : PySem.W.Frag) (C : Addr) (fs : List Str) : Bool := fs.all fun f => He.eqO (PySem.W.findIn K (.ref C) f) (some none)
theorem fieL_ok {K : PySem.W.Frag} {C : Addr} {fs : List Str} (h : fieL K C fs = true) : ∀ f ∈ fs, PySem.W.findIn K (.ref C) f = some none := fun f hf => He.eqO_ok (List.all_eq_true.mp h f hf)
def iniB (K : PySem.W.Frag) (x : Str) : Bool := He.eqO (PySem.W.findIn K (.ref (He.ga K x)) "__init__") (some (some (.ref (errAd K x)))) && decide (PySem.W.typeIn K (.ref (errAd K x)) = some (.type "function"))
def asY (g : Addr → Option Obj) (n : Nat) : List Addr := cStatics :: He.asD g n
theorem saysY {as : List Addr} {fa : List He.Fa} {fn : List He.DefD} {ts : List He.Tab} {tf : List He.Defn} {ex : PySem.W.Frag → Bool} {w : World} {h : Heap} (e1 : He.obsT fa fn ts (He.frT h.get? as) = He.valT fn ts w) (e2 : (ex (He.frT h.get? as) && He.tabsB h.get? tf (He.frT h.get? as)) = true) :
    He.SaysX fa fn ts tf ex w h (He.frT h.get? as) := by
  obtain ⟨more, tabs⟩ := He.ba e2
  have each : ∀ p ∈ tf, PySem.W.codeHdIn (He.frT h.get? as) (He.cT (He.frT h.get? as) p).1 (He.cT (He.frT h.get? as) p).2 = true ∧ ∃ o, h.get? (He.cT (He.frT h.get? as) p).2 = some o ∧ He.emptyTab o = true := by
    intro p hp
    obtain ⟨z1, z2⟩ := He.ba (List.all_eq_true.mp tabs p hp)
    refine ⟨z1, ?_⟩
    split at z2
    · rename_i o eo
      exact ⟨o, eo, z2⟩
    · cases z2
  constructor
  · exact e1
  · exact more
  · exact fun p hp => (each p hp).1
  · intro p hp
    obtain ⟨_, o, q, z⟩ := each p hp
    exact He.frT_none q z
  · intro p hp
    obtain ⟨_, o, q, z⟩ := each p hp
    rw [q, He.emptyTab_eq z]
abbrev AlY : Type := He.AlX × List ErrV
def obsY (n : Nat) (fa : List He.Fa) (fn : List He.DefD) (tf : List He.Defn) (ex : PySem.W.Frag → Bool) (es : List ErrDf) (g : Addr → Option Obj) : AlY :=
  ((He.obsT fa fn [] (He.frT g (asY g n)), ex (He.frT g (asY g n)) && He.tabsB g tf (He.frT g (asY g n))), es.map fun d => errObs (He.frT g (asY g n)) d.cls)
def hookY (n : Nat) (fa : List He.Fa) (fn : List He.DefD) (tf : List He.Defn) (ex : PySem.W.Frag → Bool) (es : List ErrDf) : PySem.W.Hook where
  α := AlY
  obs := fun s => obsY n fa fn tf ex es s.heap.get?
  val := fun w => ((He.valT fn [] w, true), es.map ErrDf.val)
  says := fun w h => ∃ K : PySem.W.Frag, K.In h ∧ He.SaysX fa fn [] tf ex w h K ∧ es.map (fun d => errObs K d.cls) = es.map ErrDf.val
  of := fun _ _ e => ⟨_, He.frT_in, saysY (congrArg (fun z : AlY => z.1.1) e) (congrArg (fun z : AlY => z.1.2) e), congrArg (fun z : AlY => z.2) e⟩
  keeps := fun _ _ _ ⟨K, hK, c, ce⟩ k => ⟨K, PySem.W.Frag.In.keeps hK k, ⟨c.t, c.more, c.hd, c.out, fun p hp => k _ _ (c.empty p hp)⟩, ce⟩
theorem obsY_eq {n : Nat} {fa : List He.Fa} {fn : List He.DefD} {tf : List He.Defn} {ex : PySem.W.Frag → Bool} {es : List ErrDf} {g : Addr → Option Obj} {s : Shared} (h : ∀ a, g a = s.heap.get? a) : obsY n fa fn tf ex es g = (hookY n fa fn tf ex es).obs s := by
  obtain rfl : g = s.heap.get? := funext h
  rfl
theorem errs_at {K : PySem.W.Frag} {es : List ErrDf} (h : es.map (fun d => errObs K d.cls) = es.map ErrDf.val) {d : ErrDf} (hd : d ∈ es) : errObs K d.cls = d.val := List.map_inj_left.mp h d hd
end VL
set_option maxRecDepth 100000
set_option maxHeartbeats 2000000
namespace VL
open PySem PySem.Spec L2
open PyProof.Rows hiding St
end VL
set_option maxRecDepth 100000
set_option maxHeartbeats 2000000
namespace VL
open PySem PySem.Spec L2 LamX
open PyProof.Rows hiding St
section
variable {C : Ct} {P : Program} {w : World} {K : PySem.W.Frag} {mg : Str → Option Value} {base : Heap} {x qual : Str} {params : Arguments} {body : List Stmt} {scope : Scope} {dvs : List V} {kws : List (Str × V)} {f c : Addr} {fd : FuncData} {N ps : List Str} {md : Md} {k : Nat} {d : Env' → Res Fl}
theorem erx0 {X : Cx} {F H : Hp} {vs : List V} : ErX X (callG C F H md vs) := ⟨fun _ _ _ _ => False, takes0, fun _ _ _ _ _ _ _ w _ _ => w.elim⟩
theorem fnEc (Fd : FunD K x qual params body scope dvs kws f fd) (hc : fd.code = .ref c) (S : FnScope N ps scope) (hmd : md.length = ps.length) (hn : md.length ≤ N.length) (hK : C.K = K)
    (hb : ∀ (A : Around) (outer : List Env) (s : Shared) (H : Hp) (E : XK) (g : Gm), g.C = C → Room k (cxOf C8.CX0 P w K mg base N qual scope f (.ref c) A outer s H E).nox.A → Ok (cxOf C8.CX0 P w K mg base N qual scope f (.ref c) A outer s H E).nox g →
      ErX (cxOf C8.CX0 P w K mg base N qual scope f (.ref c) A outer s H E).nox g → PSs (cxOf C8.CX0 P w K mg base N qual scope f (.ref c) A outer s H E).nox body (tS g d)) : FnOk P w K mg base C8.CX0 (k + 1) f fd ps (SpV C md (callFn N.length md d)) := by
  obtain ⟨oc, od, dV, kV, doc, pm, an, cdv, ct, osl, rfl, lk, hcd, _, _⟩ := Fd.ex
  obtain rfl : cdv = .ref c := hc
  refine fn_of lk hcd S (fun vs H Q E h => by rw [SpV.len vs H Q E h, hmd]) fun A outer s H vs Q E hr h => ?_
  obtain ⟨F, q⟩ := body_ok (E := E) hn h
  exact ⟨_, PSs.nox (hb A outer s H E (callG C F H md vs) rfl hr ⟨hK, by have := hr.un; show A.units + 3 + 65 < cLine; have : (A.deeper (envOfC qual scope s.heap.objs.size f (.ref c))).units = A.units + 3 := rfl; omega, rfl⟩ erx0), q⟩
end
structure EMk (P : Program) (w : World) (K : PySem.W.Frag) (mg : Str → Option Value) (base : Heap) (x : Str) (C : Addr) (fs : List Str) : Prop where
  ex : ∃ (fI : Addr) (fd : FuncData) (ps : List Str), SupC K C ∧ PySem.W.findIn K (.ref C) "__init__" = some (some (.ref fI)) ∧ PySem.W.typeIn K (.ref fI) = some (.type "function") ∧ FnOk P w K mg base C8.CX0 1 fI fd ps (spErr C fs) ∧ Binds K fd ps []
  few : fs.length ≤ 900
  nam : mg x = some (.ref C)
  dbg : (x == ("__debug__" : Str)) = false
section
variable {X : Cx} {g : Gm} {C : Ct} {x : Str} {c n : Nat} {j : Nat} {p pos rpos : Pos} {e : Expr} {es : List Expr} {ds : List (Env' → Res Val)}
theorem ss_raiseE0 (hC : g.C = C) (ok : Ok X g) (ex : ErX X g) (M : EMk X.prog X.w X.K X.mg X.base x (C.ea c) (C.el c)) (hn : (C.el c).length = 0) (hr : Room j X.A) (hj : 2 ≤ j) (hg : Gl X x) : PS X (.Raise (some (.Call (.Name x p) [] [] pos)) none rpos) (tS g (dRaise c 0 [])) := by
  subst hC
  obtain ⟨fI, fd, ps, h1, h2, h3, h4, h5⟩ := M.ex
  exact ss_raise0 ok ex (CX := C8.CX0) (k := 1) (fI := fI) (fd := fd) (ps := ps) ⟨h1, h2, h3, h4, h5, C8.pass0, M.few, M.nam, M.dbg⟩ hn (hr.mono hj) hg
variable {k : Nat} {md : Md} {fn : List PV → FX} {dvs : List V} {dps : List PV}
theorem se_mkXC {c : Nat} {ca : Addr} (hC : g.C = C) (hca : C.ad c = ca) (ex : ErX X g) (cm : MakX X.prog X.w X.K X.mg X.base k x ca (SpVX C (true :: md) fn) dvs) (hr : Room j X.A) (hk : k + 1 ≤ j) (hg : Gl X x) (hd : ∀ F, Rs g.C F dps dvs) (ha : PA X (e :: es) (tAs g (dArgs ds))) (hdb : (x == ("__debug__" : Str)) = false)
    (he : starEach (e :: es) X.env = (false, eval e X.env) :: starEach es X.env) (hpl : (backTo pos (starEach es X.env)).any (·.1) = false) : PE X (.Call (.Name x p) (e :: es) [] pos) (tE g (dMkX c md fn dps ds)) := by
  subst hC
  subst hca
  exact se_mkX ex cm hr hk hg hd ha hdb he hpl
end
structure SuF (X : Cx) (D : Addr) (d : Option Addr) (oe : Obj) : Prop where
  ex : ExcC X.K D
  hz : Zc (.ref D) d oe
  hd : ∃ vs, oe.data = .fields vs
section
variable {X : Cx} {C : Ct} {a D : Addr} {oe : Obj} {d : Option Addr} {pn : List (Addr × Obj)} {n : Str} {i : Nat}
def NoF (K : PySem.W.Frag) (D : Addr) (fs : List CIt) : Prop := ∀ f, (∃ it ∈ fs, it.has f) → PySem.W.findIn K (.ref D) f = some none
theorem itD_isi {c : Nat} {ans : Nat → Option Bool} {x : Str} {p1 p2 p3 p4 : Pos} (su : SuF X D d oe) (hi : X.N[i]? = some n) (hv : X.env.kindOf n = some .local) (d0 : (n == ("__debug__" : Str)) = false) (d1 : (n == ("__classdict__" : Str)) = false)
    (hg : Gl X "isinstance") (hm : X.mg "isinstance" = none) (hgx : Gl X x) (hmx : X.mg x = some (.ref (C.ea c))) (dx : (x == ("__debug__" : Str)) = false) (hs : starEach [.Name n p2, .Name x p3] X.env = (false, eval (.Name n p2) X.env) :: starEach [.Name x p3] X.env)
    (hs2 : starEach [.Name x p3] X.env = (false, eval (.Name x p3) X.env) :: starEach [] X.env) (hpl : (backTo p4 (starEach [.Name x p3] X.env)).any (·.1) = false) (_ : NoF X.K D [CItD.it C (.isi ans c)]) :
    PE (X.suite a ((a, oe) :: pn)) (.Call (.Name "isinstance" p1) [.Name n p2, .Name x p3] [] p4) (tIt X.K D a d i (CItD.it C (.isi ans c))) := it_isi su.ex su.hz su.hd hi hv d0 d1 hg hm hgx hmx dx hs hs2 hpl
end
section
variable {X : Cx} {g : Gm} {C : Ct}
theorem ok_lam {A : Around} {outer : List Env} {s : Shared} {H : Hp} {E : XK} {scope : Scope} {f c' : Addr} {k : Nat} (ok : Ok X g) (hr : Room k (A.deeper (lamEnv X scope s.heap.objs.size f c'))) : Ok (lamCx X A outer s H E scope f c') (lamG g E) :=
  ⟨ok.K, by have := hr.un; show (A.deeper (lamEnv X scope s.heap.objs.size f c')).units + 65 < cLine; omega, rfl⟩
/-- what is known of the answers of isinstance and of clauses -/
structure AnsF (K : PySem.W.Frag) (C : Ct) (ans : Nat → Nat → Option Bool) : Prop where
  exm : ∀ c n b, ans c n = some b → PySem.W.exmOne K (.ref (C.ea n)) (.ref (C.ea c)) = some b
  kit : ∀ c n b, ans c n = some b → PySem.W.kitOne K (.ref (C.ea n)) (.ref (C.ea c)) = some b
/-- a clause over values: the class, its name's slot, its tuple -/
structure ClE where
  c : Nat
  i : Nat
  its : List CItD
def ClE.cs (ans : Nat → Nat → Option Bool) (C : Ct) (y : Option Nat) (l : ClE) : Value × ClD := (.ref (C.ea l.c), ⟨ans l.c, l.i, y, l.its⟩)
def ClE.d (ans : Nat → Nat → Option Bool) (y : Option Nat) (l : ClE) : ClD := ⟨ans l.c, l.i, y, l.its⟩
def itsOk (ans : Nat → Nat → Option Bool) : List CItD → Prop
  | [] => True
  | .isi a c :: r => a = ans c ∧ itsOk ans r
  | _ :: r => itsOk ans r
theorem itsOk.itr {ans : Nat → Nat → Option Bool} (af : AnsF X.K g.C ans) : ∀ {its : List CItD}, itsOk ans its → ∀ it ∈ its, ItR X g it
  | [], _, it, h => by cases h
  | .str _ :: r, o, it, h => by
    rcases List.mem_cons.mp h with rfl | h
    · exact ⟨fun _ _ e => by cases e⟩
    · exact itsOk.itr af (its := r) o it h
  | .fld _ :: r, o, it, h => by
    rcases List.mem_cons.mp h with rfl | h
    · exact ⟨fun _ _ e => by cases e⟩
    · exact itsOk.itr af (its := r) o it h
  | .rpr _ _ :: r, o, it, h => by
    rcases List.mem_cons.mp h with rfl | h
    · exact ⟨fun _ _ e => by cases e⟩
    · exact itsOk.itr af (its := r) o it h
  | .isi a c :: r, o, it, h => by
    rcases List.mem_cons.mp h with rfl | h
    · exact ⟨fun a' c' e n b hb => by cases e; obtain ⟨rfl, _⟩ := o; exact af.kit _ _ _ hb⟩
    · exact itsOk.itr af (its := r) o.2 it h
theorem cs_ok {ans : Nat → Nat → Option Bool} (af : AnsF X.K g.C ans) {y : Option Nat} {ls : List ClE} (o : ∀ l ∈ ls, itsOk ans l.its) : ∀ p ∈ ls.map (ClE.cs ans g.C y), (∀ n b, p.2.ans n = some b → PySem.W.exmOne X.K (.ref (g.C.ea n)) p.1 = some b) ∧ ∀ it ∈ p.2.its, ItR X g it := by
  intro p hp
  obtain ⟨l, hl, rfl⟩ := List.mem_map.mp hp
  exact ⟨fun n b h => af.exm _ _ _ h, (o l hl).itr af⟩
end
end VL
set_option maxRecDepth 100000
set_option maxHeartbeats 2000000
namespace VL
open PySem PySem.Spec L2
open PyProof.Rows hiding St
theorem iniB_ok {K : PySem.W.Frag} {x : Str} (h : iniB K x = true) : PySem.W.findIn K (.ref (He.ga K x)) "__init__" = some (some (.ref (errAd K x))) ∧ PySem.W.typeIn K (.ref (errAd K x)) = some (.type "function") := by
  obtain ⟨h1, h2⟩ := He.ba h
  exact ⟨He.eqO_ok h1, of_decide_eq_true h2⟩
/-- what is asked of an error that is made -/
def madB (file : Str) (K : PySem.W.Frag) (x qual : Str) : Bool := (supL K (He.ga K x)).all id && (iniB K x && errB file K x qual)
/-- of every error -/
def eryB (K : PySem.W.Frag) (x : Str) (fs : List Str) : Bool := (excL K (He.ga K x)).all id && fieL K (He.ga K x) fs
/-- clauses and isinstance -/
def ansTB (K : PySem.W.Frag) (xs : List Str) (ans : Nat → Nat → Option Bool) : Bool := (List.range xs.length).all fun c => (List.range xs.length).all fun n => match ans c n with
  | some b => decide (PySem.W.exmOne K (.ref (He.ga K (xs.getD n ""))) (.ref (He.ga K (xs.getD c ""))) = some b) && decide (PySem.W.kitOne K (.ref (He.ga K (xs.getD n ""))) (.ref (He.ga K (xs.getD c ""))) = some b)
  | none => true
theorem ansF_ok {K : PySem.W.Frag} {C : Ct} {xs : List Str} {ans : Nat → Nat → Option Bool} (h : ansTB K xs ans = true) (hea : ∀ n, n < xs.length → C.ea n = He.ga K (xs.getD n "")) (hb : ∀ c n b, ans c n = some b → c < xs.length ∧ n < xs.length) : AnsF K C ans := by
  have go : ∀ c n b, ans c n = some b → PySem.W.exmOne K (.ref (C.ea n)) (.ref (C.ea c)) = some b ∧ PySem.W.kitOne K (.ref (C.ea n)) (.ref (C.ea c)) = some b := by
    intro c n b e
    obtain ⟨h1, h2⟩ := hb c n b e
    have z := List.all_eq_true.mp (List.all_eq_true.mp h c (List.mem_range.mpr h1)) n (List.mem_range.mpr h2)
    rw [e] at z
    obtain ⟨z1, z2⟩ := He.ba z
    rw [hea n h2, hea c h1]
    exact ⟨of_decide_eq_true z1, of_decide_eq_true z2⟩
  exact ⟨fun c n b e => (go c n b e).1, fun c n b e => (go c n b e).2⟩
theorem ans_in {exT : List (List Bool)} {k : Nat} (hl : exT.length = k) (hr : ∀ r ∈ exT, r.length = k) : ∀ c n b, ((exT[c]?).bind fun r => r[n]?) = some b → c < k ∧ n < k := by
  intro c n b e
  cases h : exT[c]? with
  | none => rw [h] at e; cases e
  | some r =>
    rw [h] at e
    have e : r[n]? = some b := e
    have h1 := (List.getElem?_eq_some_iff.mp h).1
    have h2 := (List.getElem?_eq_some_iff.mp e).1
    rw [hr r (List.mem_of_getElem? h)] at h2
    exact ⟨by omega, h2⟩
theorem errC_ok {K : PySem.W.Frag} {C : Ct} {x : Str} {c : Nat} {fs : List Str} (h : eryB K x fs = true) (hK : C.K = K) (hea : C.ea c = He.ga K x) (hf : C.el c = fs) (nd : fs.Nodup) : ErrC C c := by
  obtain ⟨h1, h2⟩ := He.ba h
  refine ⟨by rw [hK, hea]; exact excL_ok h1, fun f hf' => ?_, by rw [hf]; exact nd⟩
  rw [hK, hea]
  refine fieL_ok h2 _ ?_
  rw [← hf]
  exact List.mem_map_of_mem (f := C.nm) hf'
section
variable {P : Program} {w : World} {K : PySem.W.Frag} {mg : Str → Option Value} {base : Heap} {file : Str} {d : ErrDf} {N ps fs : List Str} {self : Str} {ar : Arg} {p0 p1 p2 p3 p4 p5 : Pos} {m : Str} {j : Nat} {rest : List Stmt} {pl : Sem Bool} {Ca : Addr}
theorem emk_ok (hm : madB file K d.cls d.qual = true) (eo : errObs K d.cls = d.val) (hC : He.ga K d.cls = Ca) (nam : mg d.cls = some (.ref Ca)) (few : fs.length ≤ 900) (hfile : ((P.main.file : Str) == file) = true) (htop : (P.main.scope.names.lookup ("super" : Str)).isSome = false)
    (hbd : d.body = .Expr (.Call (.Attribute (.Call (.Name "super" p0) [] [] p1) "__init__" p2) [.Constant (.str m) j p3] [] p4) p5 :: rest) (S : SupScope N ps d.scope) (har : (d.params.posonlyargs ++ d.params.args).head? = some ar) (hself : ar.arg = self) (h0 : ps[0]? = some self) (d0 : (self == ("__debug__" : Str)) = false) (d1 : (self == ("__classdict__" : Str)) = false)
    (hps : ps.length = fs.length + 1) (hr : ErrRest ps self rest fs 1) (hno : ∀ f ∈ fs, PySem.W.findIn K (.ref Ca) f = some none)
    (hbind : ∀ (kV doc pm : Value) (an : Option Addr) (cdv ct : Value) (cc : Addr) (us : List Value), us.length = ps.length → bindArgs (PySem.W.ksFn "__init__" d.qual d.params d.body d.scope .none kV doc pm an cdv ct cc) ⟨us, []⟩ = pure (ps.zip us)) (dbg : (d.cls == ("__debug__" : Str)) = false)
    (he : ∀ env, eval (.Call (.Attribute (.Call (.Name "super" p0) [] [] p1) "__init__" p2) [.Constant (.str m) j p3] [] p4) env = (do
      let ov ← attributeBase (.Call (.Name "super" p0) [] [] p1) "__init__" env (eval (.Call (.Name "super" p0) [] [] p1) env)
      standAt p2.atName
      let (f, first) ← holding [ov] (getMethod ov "__init__" pl)
      callWith p4 f first (backTo p4 (starEach [.Constant (.str m) j p3] env)) []) := by intro _; rfl) : EMk P w K mg base d.cls Ca fs := by
  subst hC
  obtain ⟨h1, h⟩ := He.ba hm
  obtain ⟨h2, h3⟩ := He.ba h
  obtain ⟨i1, i2⟩ := iniB_ok h2
  obtain ⟨oc, od, dV, kV, doc, pm, an, ct, osl, cda, cc, lk, rfl, hcd, ⟨cl, cld, csl, hcc⟩, ccl, cdd, vs, ccs, f, t, hcda, hvs, hf⟩ := (errFn_ok (file := file) eo h3).ex
  obtain rfl : file = f := by simpa using hf
  have hb := fun us hu => hbind kV doc pm an (.ref cda) ct cc us hu
  rw [hbd] at lk hb
  exact ⟨⟨_, _, ps, supL_ok h1, i1, i2, fn_err (k := 0) (supL_ok h1) lk hcd S hcc hcda hvs hfile htop har hself h0 d0 d1 hps few hr hno he, Binds.all hb⟩, few, nam, dbg⟩
end
end VL
set_option maxRecDepth 100000
set_option maxHeartbeats 2000000
namespace VL
open PySem PySem.Spec L2 LamX
open PyProof.Rows hiding St
section
variable {K : PySem.W.Frag} {cs : List (Addr × Addr)} {a : Addr} {ob : Obj} {u : HO}
/-- what is known ahead: the tables are empty, the script stands -/
def hp0 (K : PySem.W.Frag) (cs : List (Addr × Addr)) (a : Addr) (ob : Obj) (u : HO) : Hp := fun b => if b ∈ cs.map Prod.snd then some (.tbl #[]) else if b = a ∧ K.lookup a = none then some (.frz ob u) else none
inductive At0 (K : PySem.W.Frag) (cs : List (Addr × Addr)) (a : Addr) (ob : Obj) (u : HO) (b : Addr) : Option HO → Prop where
  | tab (h : b ∈ cs.map Prod.snd) : At0 K cs a ob u b (some (.tbl #[]))
  | scr (h : b = a) (n : b ∉ cs.map Prod.snd) (hk : K.lookup a = none) : At0 K cs a ob u b (some (.frz ob u))
  | free (n : b ∉ cs.map Prod.snd) (hk : b = a → K.lookup a ≠ none) : At0 K cs a ob u b none
theorem at0 (b : Addr) : At0 K cs a ob u b (hp0 K cs a ob u b) := by
  unfold hp0
  by_cases h : b ∈ cs.map Prod.snd
  · rw [if_pos h]; exact .tab h
  · rw [if_neg h]
    by_cases h2 : b = a ∧ K.lookup a = none
    · rw [if_pos h2]; exact .scr h2.1 h h2.2
    · rw [if_neg h2]; exact .free h fun e z => h2 ⟨e, z⟩
variable {h₁ : Heap}
/-- the heap that those things stand in -/
structure Start (K : PySem.W.Frag) (cs : List (Addr × Addr)) (a : Addr) (vs : List Value) (h₁ : Heap) : Prop where
  tabs : ∀ p ∈ cs, h₁.get? p.2 = some { cls := .none, data := .fields #[] }
  out : ∀ p ∈ cs, K.lookup p.2 = none
  scr : h₁.get? a = some { cls := .type "list", data := .seq vs.toArray }
abbrev scrO (vs : List Value) : Obj := { cls := .type "list", data := .seq vs.toArray }
theorem Start.tab (S : Start K cs a vs h₁) {b : Addr} (h : b ∈ cs.map Prod.snd) : h₁.get? b = some { cls := .none, data := .fields #[] } ∧ K.lookup b = none := by
  obtain ⟨p, hp, rfl⟩ := List.mem_map.mp h
  exact ⟨S.tabs p hp, S.out p hp⟩
theorem Start.kin {vs : List Value} (S : Start K cs a vs h₁) {b : Addr} {o : Obj} (e : K.lookup b = some o) : hp0 K cs a (scrO vs) u b = none := by
  have z := at0 (K := K) (cs := cs) (a := a) (ob := scrO vs) (u := u) b
  generalize hp0 K cs a (scrO vs) u b = r at z ⊢
  cases z with
  | tab h => rw [(S.tab h).2] at e; cases e
  | scr h n hk => rw [h, hk] at e; cases e
  | free => rfl
/-- an object of another shape is not one of them -/
theorem Start.off {vs : List Value} (S : Start K cs a vs h₁) {b : Addr} {o : Obj} (e : h₁.get? b = some o) (h1 : ∀ xs n, o.data ≠ .seq xs n) (h2 : o.data ≠ .fields #[]) : hp0 K cs a (scrO vs) u b = none := by
  have z := at0 (K := K) (cs := cs) (a := a) (ob := scrO vs) (u := u) b
  generalize hp0 K cs a (scrO vs) u b = r at z ⊢
  cases z with
  | tab h =>
    rw [(S.tab h).1] at e
    exact absurd (congrArg Obj.data (Option.some.inj e)).symm h2
  | scr h n hk =>
    rw [h, S.scr] at e
    exact absurd (congrArg Obj.data (Option.some.inj e)).symm (h1 _ _)
  | free => rfl
theorem Start.ns {vs : List Value} (S : Start K cs a vs h₁) {b : Addr} {m : Str → Option Value} (h : h₁.Ns b m) : (hidT h₁ (hp0 K cs a (scrO vs) u)).Ns b m := by
  obtain ⟨o, es, ep, e, d, r⟩ := h
  exact ⟨o, es, ep, hidT_get e (S.off e (fun xs n z => by rw [d] at z; cases z) fun z => by rw [d] at z; cases z), d, r⟩
theorem Start.hok {P : Program} {w : World} {vs : List Value} {ns : List Int} (S : Start K cs a vs h₁) (hi : IntsAre vs ns) (hl : ns.length ≤ sizeLine) : HOk P w (hp0 K cs a (scrO vs) (.lst (ns.map V.int))) h₁ := by
  intro b x e
  have z := at0 (K := K) (cs := cs) (a := a) (ob := scrO vs) (u := .lst (ns.map V.int)) b
  rw [e] at z
  cases z with
  | tab h => exact (S.tab h).1
  | scr h n hk =>
    rw [h]
    exact ⟨S.scr, by rw [List.length_map]; exact hl, vs, _, vals_ints hi, S.scr⟩
/-- behind the run all stands as it was, but for the tables -/
theorem Start.old {P : Program} {w : World} {vs : List Value} {H' : Hp} {h' : Heap} (S : Start K cs a vs h₁) (C : ∀ p ∈ cs, PySem.W.CodeHd h₁ p.1 p.2) (un : Un (frs []) [] (hp0 K cs a (scrO vs) u) H' h₁ h') (hok : HOk P w H' h') : OldK h₁ h' := by
  have tb : ∀ p ∈ cs, ∃ more : Array Value, h'.get? p.2 = some { cls := .none, data := .fields more } := fun p hp => by
    have e : hp0 K cs a (scrO vs) u p.2 = some (.tbl #[]) := by
      unfold hp0
      rw [if_pos (List.mem_map_of_mem (f := Prod.snd) hp)]
    obtain ⟨more, z⟩ := un.tbls p.2 #[] e
    exact ⟨_, hok p.2 _ z⟩
  have each : ∀ b o, h₁.get? b = some o → asItWas h₁ h' b o ∧ ∃ o', h'.get? b = some o' := fun b o e => by
    have z := at0 (K := K) (cs := cs) (a := a) (ob := scrO vs) (u := u) b
    generalize hr : hp0 K cs a (scrO vs) u b = r at z
    cases z with
    | tab h =>
      obtain ⟨p, hp, rfl⟩ := List.mem_map.mp h
      obtain ⟨more, hm⟩ := tb p hp
      rw [S.tabs p hp] at e
      cases e
      exact ⟨.inr (.inl ⟨((C p hp).tab (S.tabs p hp)).isCodeTable, rfl, #[], more, rfl, by rw [Array.empty_append]; exact hm⟩), _, hm⟩
    | scr h n hk =>
      obtain ⟨e1, _⟩ := hok b _ (un.frzs b _ _ hr)
      rw [h, S.scr] at e
      cases e
      rw [h] at e1 ⊢
      exact ⟨.inl e1, _, e1⟩
    | free n hk =>
      have k := un.keep b o e hr (by intro z; cases z) (by intro z; cases z)
      exact ⟨.inl k, _, k⟩
  exact ⟨fun b o e => (each b o e).1, fun b o e => (each b o e).2⟩
end
end VL
set_option maxRecDepth 100000
set_option maxHeartbeats 2000000
namespace VL
open PySem PySem.Spec L2
open PyProof.Rows hiding St
end VL
set_option maxRecDepth 100000
set_option maxHeartbeats 2000000
namespace VL
open PySem PySem.Spec L2 PySem.HandSPX
end VL
set_option maxRecDepth 100000
set_option maxHeartbeats 2000000
namespace VL
open PySem PySem.Spec L2
open PyProof.Rows hiding St
end VL
set_option maxRecDepth 100000
set_option maxHeartbeats 2000000
namespace VL
open PySem PySem.Spec L2
open PyProof.Rows hiding St
end VL
set_option maxRecDepth 100000
set_option maxHeartbeats 2000000
namespace VL
open PySem PySem.Spec L2
open PyProof.Rows hiding St
/-- what is read at a value, no dict in it being the table of modules -/
def It (h : Heap) (u : Value) (d : PyData) : Prop := ∃ as, Reads h u d as ∧ (d.hasDict = true → sysModules ∉ as)
end VL
set_option maxRecDepth 100000
set_option maxHeartbeats 2000000
namespace VL
open PySem PySem.Spec L2
open PyProof.Rows hiding St
end VL
set_option maxRecDepth 100000
set_option maxHeartbeats 2000000
namespace VL
open PySem PySem.Spec L2
open PyProof.Rows hiding St
def okX (fn : List PV → FX) : List PV → FR := fun as => match fn as with
  | .ok x o => .ok x o
  | _ => .bad
section
variable {P : Program} {w : World} {K : PySem.W.Frag} {mg : Str → Option Value} {base : Heap} {k : Nat} {f : Addr} {fd : FuncData} {ps : List Str} {C : Ct} {md : Md} {fn : List PV → FX} {x : Str} {D : Addr} {dvs : List V}
theorem fnOkX (F : FnOk P w K mg base (L2.CX P w) k f fd ps (SpVX C md fn)) : FnOk P w K mg base C8.CX0 k f fd ps (SpV C md (okX fn)) := by
  have key : ∀ vs H Q E, SpV C md (okX fn) vs H Q E → SpVX C md fn vs H Q (fun _ _ _ => False) := fun vs H Q E ⟨F', args, y, outs, h1, h2, h3, h4, h5, h6⟩ => by
    refine ⟨F', args, h1, h2, h3, h4, ?_⟩
    unfold okX at h5
    cases e : fn args with
    | bad => rw [e] at h5; cases h5
    | err z => rw [e] at h5; cases h5
    | ok z o => rw [e] at h5; cases h5; exact h6
  refine ⟨fun vs H Q E h => F.len vs H Q _ (key vs H Q E h), fun A outer s H args us vs Q E hr he hb hv hs => ?_⟩
  refine codeAny_mono (F.run A outer s H args us vs Q _ hr he hb hv (key vs H Q E hs)) fun r s' h => ?_
  cases r with
  | ok fl => cases fl <;> exact h
  | error e =>
    obtain ⟨a, B, H', cls, d, _, _, _, _, _, _, _, h⟩ := h
    exact h.elim
theorem makOk (c : MakX P w K mg base k x D (SpVX C md fn) dvs) : C8.Mak P w K mg base k x D (SpV C md (okX fn)) dvs := by
  obtain ⟨f, fd, ps, ds, m, h, r⟩ := c.ex
  exact ⟨⟨f, fd, ps, ds, m, fnOkX h, r⟩⟩
end
end VL
set_option maxRecDepth 100000
set_option maxHeartbeats 2000000
namespace VL
open PySem PySem.Spec L2
open PyProof.Rows hiding St
end VL
set_option maxRecDepth 100000
set_option maxHeartbeats 2000000
namespace VL
open PySem PySem.Spec L2
open PyProof.Rows hiding St
end VL
set_option maxRecDepth 100000
set_option maxHeartbeats 2000000
namespace VL
open PySem PySem.Spec L2
open PyProof.Rows hiding St
end VL
set_option maxRecDepth 100000
set_option maxHeartbeats 2000000
namespace VL
open PySem PySem.Spec L2
open PyProof.Rows hiding St
end VL
set_option maxRecDepth 100000
set_option maxHeartbeats 2000000
namespace VL.TQ
open PySem PySem.SeqAt
open AutoSeq1 (wpAny_loadPart')
open MeetsSeq MeetsSeq2 MeetsSeq3 SeqRoads2
end VL.TQ
namespace VL
open PySem PySem.Spec L2
open PyProof.Rows hiding St
end VL
set_option maxRecDepth 100000
set_option maxHeartbeats 2000000
namespace VL
open PySem PySem.Spec L2
open PyProof.Rows hiding St
inductive ZK where
  | L (a : Addr) | T (a : Addr) | S (z : Str)
def ZK.val : ZK → V
  | .L a => .ref a
  | .T a => .ref a
  | .S z => .str z
def chV (z : Str) : List V := z.cps.toList.map fun c => .str ⟨#[c]⟩
/-- what is walked -/
def ZK.is (K : PySem.W.Frag) (H : Hp) : ZK → List V → Prop
  | .L a, xs => SqL K H a xs
  | .T a, xs => SqT K H a xs
  | .S z, xs => xs = chV z
def ZK.fp (it : Addr) : ZK → List Addr
  | .L a => [it, a]
  | .T a => [it, a]
  | .S _ => [it]
def ZK.ad : ZK → List Addr
  | .L a => [a]
  | .T a => [a]
  | .S _ => []
def ZK.st (it : Addr) (i : Nat) (h : Heap) : ZK → Prop
  | .L a => h.IsListIter it a i
  | .T a => h.IsTupleIter it a i
  | .S z => ∃ t, h.IsStrIter it (strIterType z) z t i
theorem ZK.mem {it : Addr} {k : ZK} : it ∈ k.fp it := by cases k <;> simp [ZK.fp]
theorem ZK.keep {it : Addr} {i : Nat} {h h' : Heap} {k : ZK} (st : k.st it i h) (kp : ∀ o, h.get? it = some o → h'.get? it = some o) : k.st it i h' := by
  cases k
  · exact Heap.IsListIter.at st kp
  · exact Heap.IsTupleIter.at st kp
  · obtain ⟨t, o, ho, r⟩ := st
    exact ⟨t, o, kp o ho, r⟩
theorem ZK.obj {it : Addr} {i : Nat} {h : Heap} {k : ZK} (st : k.st it i h) : ∃ o, h.get? it = some o ∧ ∀ v, o.data ≠ .cell v := by
  cases k
  · obtain ⟨o, ho, _, hd⟩ := st
    exact ⟨o, ho, fun v q => by rw [hd] at q; cases q⟩
  · obtain ⟨o, ho, _, hd⟩ := st
    exact ⟨o, ho, fun v q => by rw [hd] at q; cases q⟩
  · obtain ⟨t, o, ho, _, hd⟩ := st
    exact ⟨o, ho, fun v q => by rw [hd] at q; cases q⟩
section
variable {X : Cx} {pins : List (Addr × Obj)} {σ : L2.St} {H : Hp} {s : Shared}
theorem ZK.inj {k : ZK} {xs ys : List V} (I : Inv X pins σ H s) (h : k.is X.K H xs) (h' : k.is X.K H ys) : xs = ys := by
  cases k
  · exact I.list_inj h h'
  · exact I.tuple_inj h h'
  · exact Eq.trans h (Eq.symm h')
end
end VL
set_option maxRecDepth 100000
set_option maxHeartbeats 2000000
namespace VL
open PySem PySem.Spec L2
open PyProof.Rows hiding St
end VL
set_option maxRecDepth 100000
set_option maxHeartbeats 2000000
namespace VL
open PySem PySem.Spec L2
open PyProof.Rows hiding St
end VL
set_option maxRecDepth 100000
set_option maxHeartbeats 2000000
namespace VL
open PySem PySem.Spec L2
open PyProof.Rows hiding St
end VL
set_option maxRecDepth 100000
set_option maxHeartbeats 2000000
namespace VL
open PySem PySem.Spec L2
open PyProof.Rows hiding St
end VL
set_option maxRecDepth 100000
set_option maxHeartbeats 2000000
namespace VL
open PySem PySem.Spec L2
open PyProof.Rows hiding St
end VL
set_option maxRecDepth 100000
set_option maxHeartbeats 2000000
namespace VL
open PySem PySem.Spec L2
open PyProof.Rows hiding St
end VL
set_option maxRecDepth 100000
set_option maxHeartbeats 2000000
namespace VL
open PySem PySem.Spec L2
open PyProof.Rows hiding St
end VL
set_option maxRecDepth 100000
set_option maxHeartbeats 2000000
namespace VL
open PySem PySem.Spec L2 LamX
open PyProof.Rows hiding St
end VL
set_option maxRecDepth 100000
set_option maxHeartbeats 2000000
namespace VL
open PySem PySem.Spec L2
open PyProof.Rows hiding St
end VL
set_option maxRecDepth 100000
set_option maxHeartbeats 2000000
namespace VL
open PySem PySem.Spec L2
open PyProof.Rows hiding St
end VL
set_option maxRecDepth 100000
set_option maxHeartbeats 2000000
namespace VL
open PySem PySem.Spec L2
open PyProof.Rows hiding St
end VL
set_option maxRecDepth 100000
set_option maxHeartbeats 2000000
namespace VL
open PySem PySem.Spec L2
open PyProof.Rows hiding St
end VL
set_option maxRecDepth 100000
set_option maxHeartbeats 2000000
namespace VL
open PySem PySem.Spec L2 LamX
open PyProof.Rows hiding St
end VL
set_option maxRecDepth 100000
set_option maxHeartbeats 2000000
namespace VL
open PySem PySem.Spec L2
open PyProof.Rows hiding St
end VL
set_option maxRecDepth 100000
set_option maxHeartbeats 2000000
namespace VL
open PySem PySem.Spec L2
open PyProof.Rows hiding St
end VL
set_option maxRecDepth 100000
set_option maxHeartbeats 2000000
namespace VL.Srt
open PySem PySem.Calls PySem.W PyProof.Rows
end VL.Srt
set_option maxRecDepth 100000
set_option maxHeartbeats 2000000
namespace VL
open PySem PySem.Spec L2 LamX
open PyProof.Rows hiding St
open PySem.W (EachIs)
structure LamV (sc scope : Scope) (v : Str) : Prop where
  kind : scope.kind = .function
  co : scope.isCoroutine = false
  gen : scope.isGenerator = false
  pv : scope.names.lookup v = some .local
  own : ∀ y ∈ scope.names, y.2 ≠ .cell ∧ (y.2 = .local → y.1 = v)
  free : ∀ y ∈ scope.names, y.2 = .free → sc.names.lookup y.1 = some .cell ∨ sc.names.lookup y.1 = some .free
theorem LamV.has {X : Cx} {scope : Scope} {v : Str} (L : LamV X.env.scope scope v) (ok : X.Ok) : ∀ y ∈ scope.names, y.2 = .free → ∃ c, X.env.cells.lookup y.1 = some c := fun y hy e => by
  rcases L.free y hy e with k | k
  · exact ok.has _ (.inl k)
  · exact ok.has _ (.inr k)
end VL
set_option maxRecDepth 100000
set_option maxHeartbeats 2000000
namespace VL
open PySem PySem.Spec L2 LamX
open PyProof.Rows hiding St
open PySem.W (EachIs)
end VL
set_option maxRecDepth 100000
set_option maxHeartbeats 2000000
namespace VL
open PySem PySem.Spec L2 LamX
open PyProof.Rows hiding St
open PySem.W (EachIs)
end VL
set_option maxRecDepth 100000
set_option maxHeartbeats 2000000
namespace VL
open PySem PySem.Spec L2
open PyProof.Rows hiding St
end VL
set_option maxRecDepth 100000
set_option maxHeartbeats 2000000
namespace VL
open PySem PySem.Spec L2
open PyProof.Rows hiding St
end VL
set_option maxRecDepth 100000
set_option maxHeartbeats 2000000
namespace VL
open PySem PySem.Spec L2
open PyProof.Rows hiding St
end VL
set_option maxRecDepth 100000
set_option maxHeartbeats 2000000
namespace VL
open PySem PySem.Spec L2
open PyProof.Rows hiding St
end VL
set_option maxRecDepth 100000
set_option maxHeartbeats 2000000
namespace VL
open PySem PySem.Spec L2
open PyProof.Rows hiding St
end VL
set_option maxRecDepth 100000
set_option maxHeartbeats 2000000
namespace VL
open PySem PySem.Spec L2
open PyProof.Rows hiding St
/-- the same things, but a walked dict stands again -/
def Lu (F F' : Hp) : Prop := ∀ b o, F b = some o → F' b = some o ∨ ∃ od u, o = .frz od u ∧ (∀ vs, u ≠ .tup vs) ∧ F' b = some u
section
variable {C : Ct} {F H : Hp}
theorem Lu.rd {a : Addr} {u : HO} (l : Lu F H) (h : Rd F a u) (nf : ∀ o v, u ≠ .frz o v := by intro o v e; cases e) : Rd H a u := by
  rcases h with h | ⟨o, h⟩
  · rcases l a u h with q | ⟨od, v, e, _, _⟩
    · exact .inl q
    · exact (nf _ _ e).elim
  · rcases l a _ h with q | ⟨od, v, e, _, q⟩
    · exact .inr ⟨o, q⟩
    · cases e; exact .inl q
theorem Lu.at {a : Addr} {o : HO} (l : Lu F H) (h : F a = some o) (nf : ∀ od v, o ≠ .frz od v := by intro o v e; cases e) : H a = some o := by
  rcases l a o h with q | ⟨od, v, e, _, _⟩
  · exact q
  · exact (nf _ _ e).elim
theorem Lu.frT {a : Addr} {o : Obj} {vs : List V} (l : Lu F H) (h : F a = some (.frz o (.tup vs))) : H a = some (.frz o (.tup vs)) := by
  rcases l a _ h with q | ⟨od, v, e, n, _⟩
  · exact q
  · cases e; exact (n vs rfl).elim
theorem Lu.sqL {K : PySem.W.Frag} {a : Addr} {xs : List V} (l : Lu F H) (h : SqL K F a xs) : SqL K H a xs := by
  rcases h with h | h
  · exact .inl (l.rd h)
  · exact .inr h
theorem Lu.evr {D a : Addr} {fs : List Str} {vs : List V} (l : Lu F H) (h : EvR D fs vs a F) : EvR D fs vs a H := by
  obtain ⟨h0, ⟨h1, h2⟩ | ⟨dx, h1, h2⟩⟩ := h
  · exact ⟨h0, .inl ⟨h1, l.at h2 (by intro o v e; cases e)⟩⟩
  · exact ⟨h0, .inr ⟨dx, l.at h1 (by intro o v e; cases e), l.at h2 (by intro o v e; cases e)⟩⟩
theorem Lu.upd {a : Addr} {od : Obj} {u : HO} (h : F a = some (.frz od u)) (nt : ∀ vs, u ≠ .tup vs) : Lu F (upd F a u) := fun b o q => by
  by_cases e : b = a
  · subst e
    rw [h] at q; cases q
    exact .inr ⟨od, u, rfl, nt, upd_same⟩
  · exact .inl (by rw [upd_ne e]; exact q)
end
end VL
set_option maxRecDepth 100000
set_option maxHeartbeats 2000000
namespace VL
open PySem PySem.Spec L2
open PyProof.Rows hiding St
end VL
namespace VL
open PySem PySem.Spec L2 LamX
open PyProof.Rows hiding St
end VL
set_option maxRecDepth 100000
set_option maxHeartbeats 2000000
namespace VL
open PySem PySem.Spec L2 LamX
open PyProof.Rows hiding St
end VL
set_option maxRecDepth 100000
set_option maxHeartbeats 2000000
namespace VL
open PySem PySem.Spec L2 PyProof.Rows
open PyProof.Rows hiding St
section
variable {prog : Program} {w : World} {A : Around} {E : Value → Shared → Prop} {s : Shared}
/-- the zip object, whatever it knows of the pair it gave last -/
abbrev ZpF (h : Heap) (z TI TO : Addr) (f0 : Value) (b : Bool) : Prop :=
  h.get? z = some { cls := .type "zip", dict := none, data := .fields #[f0, .bool b, .bool false, .ref TI, .ref TO], slots := #[] }
def ZpG (f0 : Value) : Prop := f0 = .none ∨ ∃ T : Nat, f0 = rawInt T
variable {z TI TO i1 i2 l1 l2 : Addr} {k1 k2 : Nat} {xs ys : Array Value}
end
end VL
set_option maxRecDepth 100000
set_option maxHeartbeats 2000000
namespace VL
open PySem PySem.Spec L2 PyProof.Rows
open PyProof.Rows hiding St
end VL
set_option maxRecDepth 100000
set_option maxHeartbeats 2000000
namespace VL
open PySem PySem.Spec L2
open PyProof.Rows hiding St
end VL
set_option maxRecDepth 100000
set_option maxHeartbeats 2000000
namespace VL
open PySem PySem.Spec L2 PyProof.Rows
open PyProof.Rows hiding St
end VL
set_option maxRecDepth 100000
set_option maxHeartbeats 2000000
namespace VL
open PySem PySem.Spec L2
open PyProof.Rows hiding St
end VL
set_option maxRecDepth 100000
set_option maxHeartbeats 2000000
namespace VL
open PySem PySem.Spec L2
open PyProof.Rows hiding St
/-- a list of ours that nothing else knows -/
structure Prv (g : Gm) (F H : Hp) (σ : St) (env : Env') (b : Addr) (ws : List V) : Prop where
  cell : H b = some (.lst ws)
  hF : F b = none
  h0 : g.H0 b = none
  hO : ¬ g.O b
  hn : ∀ (i : Nat) c q, env[i]? = some (.ow c q) → σ[i]? ≠ some (some (.ref b))
structure Tw (g : Gm) (F H : Hp) (σ : St) (env : Env') (D : Addr) (cells : List (Addr × List Int)) : Prop where
  S : Stt g F H σ env
  dl : Prv g F H σ env D (cells.map fun c => V.ref c.1)
  cl : ∀ c ∈ cells, Prv g F H σ env c.1 (c.2.map V.int)
  nd : ∀ c ∈ cells, c.1 ≠ D
section
variable {X : Cx} {g : Gm} {pins : List (Addr × Obj)} {F H F' H' F2 H2 : Hp} {σ σ2 : St} {env env' e2 : Env'} {s : Shared}
theorem lst_pln {vs : List V} : Pln (.lst vs) := ⟨fun _ z => (by cases z), fun _ z => (by cases z), fun _ z => (by cases z)⟩
theorem Prv.next {b : Addr} {ws : List V} {F3 : Hp} (L : Prv g F H σ env b ws) (keep : ∀ b o, H b = some o → Kpt o (H2 b)) (h : F3 b = none) : Prv g F3 H2 σ env b ws :=
  ⟨(keep b _ L.cell).eq lst_pln.1, h, L.h0, L.hO, L.hn⟩
theorem Prv.upd {b d : Addr} {ws : List V} {o : HO} (L : Prv g F H σ env b ws) (n : b ≠ d) : Prv g F (upd H d o) σ env b ws := ⟨by rw [upd_ne n]; exact L.cell, L.hF, L.h0, L.hO, L.hn⟩
theorem Prv.put {b : Addr} {ws us : List V} (L : Prv g F H σ env b ws) : Prv g F (L2.upd H b (.lst us)) σ env b us := ⟨upd_same, L.hF, L.h0, L.hO, L.hn⟩
theorem Tw.start (S : Stt g F H σ env) {D : Addr} (hD : H D = none) : Tw g F (upd H D (.lst [])) σ env D [] := by
  have L := LcS.start S hD
  exact ⟨L.S, ⟨upd_same, L.hF, L.h0, L.hO, L.hn⟩, fun c hc => (by cases hc), fun c hc => (by cases hc)⟩
theorem Prv.sub {b : Addr} {ws : List V} {σ' : St} {env2 : Env'} (L : Prv g F H σ env b ws) (h : ∀ (i : Nat) c q, env2[i]? = some (.ow c q) → σ'[i]? = some (some (.ref b)) → ∃ c q, env[i]? = some (.ow c q) ∧ σ[i]? = some (some (.ref b))) : Prv g F H σ' env2 b ws :=
  ⟨L.cell, L.hF, L.h0, L.hO, fun i c q e z => by
    obtain ⟨c, q, e1, e2⟩ := h i c q e z
    exact L.hn i c q e1 e2⟩
end
end VL
set_option maxRecDepth 100000
set_option maxHeartbeats 2000000
namespace VL
open PySem PySem.Spec L2
open PyProof.Rows hiding St
/-- a method of the class at C that may raise -/
structure MetX (P : Program) (w : World) (K : PySem.W.Frag) (mg : Str → Option Value) (base : Heap) (k : Nat) (C : Addr) (m : Str) (sp : Sp) (dvs : List V) : Prop where
  ex : ∃ (f : Addr) (fd : FuncData) (ps : List Str) (ds : List Value), Cls K C ∧ Meth K C m f ∧ FnOk P w K mg base (L2.CX P w) k f fd ps sp ∧ Binds K fd ps ds ∧ Vals dvs ds
def dMtX (c : Nat) (md : Md) (fn : List PV → FX) (dps : List PV) (da : Env' → Res Val) (ds : List (Env' → Res Val)) : Env' → Res Val := fun e => (stl da e).bind fun x e1 => if insAt c 0 x e1 = true then (dArgs ds e1).bind fun xs e2 => callKX md fn (x :: (xs ++ dps.map Val.fz)) e2 else .bad
theorem metOk {P : Program} {w : World} {K : PySem.W.Frag} {mg : Str → Option Value} {base : Heap} {k : Nat} {D : Addr} {m : Str} {C : Ct} {md : Md} {fn : List PV → FX} {dvs : List V} (c : MetX P w K mg base k D m (SpVX C md fn) dvs) : C8.Met P w K mg base k D m (SpV C md (okX fn)) dvs := by
  obtain ⟨f, fd, ps, ds, h1, h2, h3, h4⟩ := c.ex
  exact ⟨⟨f, fd, ps, ds, h1, h2, fnOkX h3, h4⟩⟩
section
variable {X : Cx} {g : Gm} {F H : Hp} {σ : St} {env : Env'} {k j c : Nat} {m : Str} {md : Md} {fn : List PV → FX} {fr : List PV → FR} {dvs : List V} {dps : List PV} {apos pos : Pos} {e o : Expr} {es : List Expr} {da : Env' → Res Val} {ds : List (Env' → Res Val)} {C : Ct} {L : Nat → List Nat} {nm : Nat → Str}
theorem insAt_in {x : Val} {v : V} (S : Stt g F H σ env) (r : RV g F H σ env x v) (h : insAt c 0 x env = true) (hmf : m ∉ g.C.fl c) : ∃ a dx fs, v = .ref a ∧ H a = some (.ins (g.C.ad c) dx fs) ∧ fs.lookup m = none := by
  obtain ⟨a, dx, fs, n, h1, h2, h3⟩ := insAt_is S r h
  exact ⟨a, dx, fs, h1, h2, no_lookup h3 hmf⟩
/-- o.m(e, ..) -/
theorem se_mtX {pl : Sem Bool} (ex : ErX X g) (cm : MetX X.prog X.w X.K X.mg X.base k (g.C.ad c) m (SpVX g.C md fn) dvs) (hr : Room j X.A) (hk : k ≤ j) (hd : ∀ F, Rs g.C F dps dvs) (hmf : m ∉ g.C.fl c) (ho : PE X o (tE g da)) (ha : PA X (e :: es) (tAs g (dArgs ds)))
    (hst : starEach (e :: es) X.env = (false, eval e X.env) :: starEach es X.env) (hpl : (backTo pos (starEach es X.env)).any (·.1) = false)
    (ht : eval (.Call (.Attribute o m apos) (e :: es) [] pos) X.env = (do
      let ov ← eval o X.env
      standAt apos.atName
      let (f, first) ← holding [ov] (getMethod ov m pl)
      callWith pos f first (backTo pos (starEach (e :: es) X.env)) (backToKw pos (keywordEach [] X.env)))) :
    PE X (.Call (.Attribute o m apos) (e :: es) [] pos) (tE g (dMtX c md fn dps da ds)) := by
  obtain ⟨W, tk, hW⟩ := ex
  obtain ⟨f, fd, ps, vds, hc, hm, Fn, b, d⟩ := cm.ex
  refine ⟨fun pins s σ H Q I ⟨F, env, S, go⟩ => ?_⟩
  refine PySem.W.methodCall_KW (pl := pl) (thn ((peStl ho).run pins s σ H _ I ⟨F, env, S, (Go.withEq (Go.bind go)).mono fun x e1 F1 H1 x1 S1 k v r => show ∃ (F1 : Hp) (e1 : Env') (x : Val), stl da env = .ok x e1 ∧ Stt g F1 H1 σ e1 ∧ RV g F1 H1 σ e1 x v ∧ Go g F1 σ (if insAt c 0 x e1 = true then (dArgs ds e1).bind fun xs e2 => callKX md fn (x :: (xs ++ dps.map Val.fz)) e2 else .bad) fun y env' F' H' => ∀ v, RV g F' H' σ env' y v → Q v H' from ⟨F1, e1, x, k.1, S1, r, k.2⟩⟩) fun u s1 ⟨v, H1, I1, rx, F1, e1, x, hxo, S1, r, k1⟩ => ?_) ht
  have hxo := stl_ok hxo
  split at k1
  · rename_i hi
    obtain ⟨a, dx, fs, hv, h2, h3⟩ := insAt_in S1 r hi hmf
    subst hv
    obtain rfl : u = Value.ref a := rx
    refine getmeth_ok I1 h2 hc hm h3 ?_
    refine PySem.W.callWith_K (first := [.ref a]) (h₀ := X.base) I.ok.mod.kin hm.kp (thn (paGo ha pos I1 S1 k1) fun us s2 ⟨vs, H2, I2, r2, F2, e2, xs, x2, S2, o2, rv2, go2⟩ => ⟨I2.kIn, ?_⟩) hst hpl
    exact run_fnX (us := .ref a :: us) (vs := .ref a :: vs) Fn (hr.mono hk) b d tk I2 (.cons rfl r2) (call_goX (xs := x :: (xs ++ dps.map Val.fz)) (vs := .ref a :: (vs ++ dvs)) hW ⟨hxo, AllOld.append o2 dps_old⟩ S2 ⟨_, _, rfl, r.later hxo x2, RVs.append rv2 (dps_rvs hd)⟩ go2)
  · exact k1.elim
theorem fl_of {cf : CF C L nm} (h : m ∉ (L c).map nm) : m ∉ C.fl c := by
  show m ∉ (C.L c).map C.nm
  rw [cf.L, cf.nm]; exact h
theorem se_mtC {pl : Sem Bool} {ca : Addr} (hC : g.C = C) (hca : C.ad c = ca) (cf : CF C L nm) (cm : C8.Met X.prog X.w X.K X.mg X.base k ca m (SpV C md fr) dvs) (hr : Room j X.A) (hk : k ≤ j) (hd : ∀ F, Rs g.C F dps dvs) (hmf : m ∉ (L c).map nm) (ho : PE X o (tE g da)) (ha : PA X (e :: es) (tAs g (dArgs ds)))
    (hst : starEach (e :: es) X.env = (false, eval e X.env) :: starEach es X.env) (hpl : (backTo pos (starEach es X.env)).any (·.1) = false)
    (ht : eval (.Call (.Attribute o m apos) (e :: es) [] pos) X.env = (do
      let ov ← eval o X.env
      standAt apos.atName
      let (f, first) ← holding [ov] (getMethod ov m pl)
      callWith pos f first (backTo pos (starEach (e :: es) X.env)) (backToKw pos (keywordEach [] X.env)))) :
    PE X (.Call (.Attribute o m apos) (e :: es) [] pos) (tE g (dMt c md fr dps da ds)) := by
  subst hC; subst hca
  exact se_mt (pl := pl) cm hr hk hd (fl_of (cf := cf) hmf) ho ha hst hpl ht
theorem se_mtXC {pl : Sem Bool} {ca : Addr} (hC : g.C = C) (hca : C.ad c = ca) (cf : CF C L nm) (ex : ErX X g) (cm : MetX X.prog X.w X.K X.mg X.base k ca m (SpVX C md fn) dvs) (hr : Room j X.A) (hk : k ≤ j) (hd : ∀ F, Rs g.C F dps dvs) (hmf : m ∉ (L c).map nm) (ho : PE X o (tE g da)) (ha : PA X (e :: es) (tAs g (dArgs ds)))
    (hst : starEach (e :: es) X.env = (false, eval e X.env) :: starEach es X.env) (hpl : (backTo pos (starEach es X.env)).any (·.1) = false)
    (ht : eval (.Call (.Attribute o m apos) (e :: es) [] pos) X.env = (do
      let ov ← eval o X.env
      standAt apos.atName
      let (f, first) ← holding [ov] (getMethod ov m pl)
      callWith pos f first (backTo pos (starEach (e :: es) X.env)) (backToKw pos (keywordEach [] X.env)))) :
    PE X (.Call (.Attribute o m apos) (e :: es) [] pos) (tE g (dMtX c md fn dps da ds)) := by
  subst hC; subst hca
  exact se_mtX (pl := pl) ex cm hr hk hd (fl_of (cf := cf) hmf) ho ha hst hpl ht
end
end VL
set_option maxRecDepth 100000
set_option maxHeartbeats 2000000
namespace VL
open PySem PySem.Spec L2
open PyProof.Rows hiding St
end VL
set_option maxRecDepth 100000
set_option maxHeartbeats 2000000
namespace VL
open PySem PySem.Spec L2
open PyProof.Rows hiding St
end VL
set_option maxRecDepth 100000
set_option maxHeartbeats 2000000
namespace VL
open PySem PySem.Spec L2
open PyProof.Rows hiding St
end VL
set_option maxRecDepth 100000
set_option maxHeartbeats 2000000
namespace VL
open PySem PySem.Spec L2
open PyProof.Rows hiding St
end VL
set_option maxRecDepth 100000
set_option maxHeartbeats 2000000
namespace VL
open PySem PySem.Spec L2
open PyProof.Rows hiding St
end VL
set_option maxRecDepth 100000
set_option maxHeartbeats 2000000
namespace VL
open PySem PySem.Spec L2
open PyProof.Rows hiding St
end VL
set_option maxRecDepth 100000
set_option maxHeartbeats 2000000
namespace VL
open PySem PySem.Spec L2 PyProof.Rows
open PyProof.Rows hiding St
end VL
set_option maxRecDepth 100000
set_option maxHeartbeats 2000000
namespace VL
open PySem PySem.Spec L2 PyProof.Rows
open PyProof.Rows hiding St
end VL
set_option maxRecDepth 100000
set_option maxHeartbeats 2000000
namespace VL
open PySem PySem.Spec L2
open PyProof.Rows hiding St
end VL
set_option maxRecDepth 100000
set_option maxHeartbeats 2000000
namespace VL
open PySem PySem.Spec L2 PyProof.Rows
open PyProof.Rows hiding St
/-- the zip after i pairs -/
structure ZAt (h : Heap) (z TI TO i1 i2 l1 l2 : Addr) (xs ys : Array Value) (i : Nat) : Prop where
  zp : ∃ f0 b', ZpF h z TI TO f0 b' ∧ ZpG f0
  ti : PySem.IsPair h TI (.ref i1) (.ref i2)
  to : ∃ x y, PySem.IsPair h TO x y
  a1 : h.IsTupleIter i1 l1 i
  a2 : h.IsTupleIter i2 l2 i
  b1 : h.IsTuple l1 xs
  b2 : h.IsTuple l2 ys
section
variable {P : Program} {w : World} {A : Around} {E : Value → Shared → Prop} {s : Shared} {z TI TO i1 i2 l1 l2 : Addr} {xs ys : Array Value} {S : Addr} {res : Value}
theorem ZAt.keep {h h' : Heap} {i : Nat} (Z : ZAt h z TI TO i1 i2 l1 l2 xs ys i) (hS : ∀ b o, b ≠ S → h.get? b = some o → h'.get? b = some o) (n : ∀ b ∈ [z, TI, TO, i1, i2, l1, l2], b ≠ S) : ZAt h' z TI TO i1 i2 l1 l2 xs ys i where
  zp := let ⟨f0, b', q, g⟩ := Z.zp; ⟨f0, b', hS _ _ (n _ (by simp)) q, g⟩
  ti := hS _ _ (n _ (by simp)) Z.ti
  to := let ⟨x, y, q⟩ := Z.to; ⟨x, y, hS _ _ (n _ (by simp)) q⟩
  a1 := Z.a1.at fun o e => hS _ _ (n _ (by simp)) e
  a2 := Z.a2.at fun o e => hS _ _ (n _ (by simp)) e
  b1 := let ⟨o, q, r⟩ := Z.b1; ⟨o, hS _ _ (n _ (by simp)) q, r⟩
  b2 := let ⟨o, q, r⟩ := Z.b2; ⟨o, hS _ _ (n _ (by simp)) q, r⟩
end
end VL
set_option maxRecDepth 100000
set_option maxHeartbeats 2000000
namespace VL
open PySem PySem.Spec L2
open PyProof.Rows hiding St
end VL
set_option maxRecDepth 100000
set_option maxHeartbeats 2000000
namespace VL
open PySem PySem.Spec L2 LamX
open PyProof.Rows hiding St
def tSuB (K : PySem.W.Frag) (D a : Addr) (d : Option Addr) (i y : Nat) (its : List CIt) : TS := fun E σ H => Hld σ i a ∧ ∃ v, itVs K H D d its [v] ∧ E.nx (σ.set y (some v)) H
def tsOfB (K : PySem.W.Frag) (C : Ct) (c : ClD) (a : Addr) (cls : Value) (d : Option Addr) : TS := fun E σ H => ∃ D, cls = .ref D ∧ ExcC K D ∧ (∀ f, (∃ it ∈ c.its.map (CItD.it C), it.has f) → PySem.W.findIn K (.ref D) f = some none) ∧
  match c.y with
  | some y => tSuB K D a d c.i y (c.its.map (CItD.it C)) E σ H
  | none => False
def clasB (K : PySem.W.Frag) (C : Ct) (cs : List (Value × ClD)) : List Cla := cs.map fun p => ⟨p.1, p.2.i, tsOfB K C p.2⟩
def wMetB (K : PySem.W.Frag) (C : Ct) (Q : VK) : List (Value × ClD) → XK
  | [] => fun _ _ _ => False
  | p :: r => fun cls d H => ∃ b, PySem.W.exmOne K cls p.1 = some b ∧ if b = true then ∃ D, cls = .ref D ∧ ExcC K D ∧ (∀ f, (∃ it ∈ p.2.its.map (CItD.it C), it.has f) → PySem.W.findIn K (.ref D) f = some none) ∧
    ∃ v, itVs K H D d (p.2.its.map (CItD.it C)) [v] ∧ Q v H else wMetB K C Q r cls d H
theorem wMet_claB {K : PySem.W.Frag} {C : Ct} {D : Ends} {Q : VK} {cls : Value} {d : Option Addr} {H : Hp} {σ : L2.St} {y : Nat} (hD : ∀ σ' H', (∃ v, Holds σ' y v ∧ Q v H') → D.nx σ' H') : ∀ {cs : List (Value × ClD)}, (∀ p ∈ cs, p.2.y = some y ∧ p.2.i ≠ y) → wMetB K C Q cs cls d H →
    wCla K (fun _ _ _ _ => False) D (clasB K C cs) cls d σ H
  | [], _, w => w
  | p :: r, hy, ⟨b, hb, w⟩ => by
    refine ⟨b, hb, ?_⟩
    cases b with
    | false =>
      rw [if_neg Bool.false_ne_true] at w ⊢
      exact wMet_claB hD (fun q hq => hy q (List.mem_cons_of_mem _ hq)) w
    | true =>
      rw [if_pos rfl] at w ⊢
      obtain ⟨D', e1, e2, e3, v, w1, w3⟩ := w
      obtain ⟨y1, y2⟩ := hy p (List.mem_cons_self ..)
      intro a ha
      refine ⟨D', e1, e2, e3, ?_⟩
      rw [y1]
      refine ⟨fun h => List.getElem?_set_self (by simpa using h), v, w1, hD _ _ ⟨v, fun h => ?_, w3⟩⟩
      rw [List.getElem?_set_ne y2]
      exact List.getElem?_set_self (by simpa using h)
def TTrefB (K : PySem.W.Frag) (C : Ct) (cs : List (Value × ClD)) : (XK → Hp → VK → Prop) → Hp → VK → Prop := fun tl H Q => tl (wMetB K C Q cs) H (fun _ H' => Q (.bl false) H')
theorem ref_givesB {X : Cx} {C : Ct} {cs : List (Value × ClD)} {Ng : List Str} {x a q told : Str} {y : Nat} {sg : Scope} {g : Addr} {cdg : Value} {h₀ : ExceptHandler} {hds : List ExceptHandler} {j1 : Nat} {p1 p2 p3 p4 p5 p6 p7 p8 p9 : Pos} (hy : ∀ p ∈ cs, p.2.y = some y ∧ p.2.i ≠ y) (hN : Ng.Nodup) (hNy : Ng[y]? = some told) (y0 : y ≠ 0)
    (hlt : sg.names.lookup told = some .local) (d0 : (told == ("__debug__" : Str)) = false) (d1 : (told == ("__classdict__" : Str)) = false) (h0 : ∀ f : Addr, (L2.start Ng [V.ref f])[0]? = some (some (V.ref f))) (hl : ∀ f : Addr, (L2.start Ng [V.ref f]).length = Ng.length)
    (hcl : ∀ (s : Shared) (H : Hp), ClaOk (cxOf C8.CX0 X.prog X.w X.K X.mg X.base Ng x sg g cdg X.A X.stack s H C8.E0).nox (h₀ :: hds) (clasB X.K C cs)) :
    GivesTo X Ng x sg g cdg [.Assign [.Name told p7] (.Constant (.bool false) j1 p8) p9, .Try [.Expr (.Call (.Name a p1) [] [] p2) p3] (h₀ :: hds) [] [] p4, .Return (some (.Name told p5)) p6] a q (TTrefB X.K C cs) := by
  intro f c' s H Q tl act hc h
  refine ⟨_, pss_cons (ps_set (X := (cxOf C8.CX0 X.prog X.w X.K X.mg X.base Ng x sg g cdg X.A X.stack s H C8.E0).nox) hN hNy (.inl hlt) pe_bl (by rfl) (.inr hlt)) (pss_cons (ps_tryAs (X := (cxOf C8.CX0 X.prog X.w X.K X.mg X.base Ng x sg g cdg X.A X.stack s H C8.E0).nox) (ls := clasB X.K C cs)
      (tb := fun W D σ H => ∃ Ech : XK, (∀ cls d σ' H', Ech cls d H' → W cls d σ' H') ∧ σ[0]? = some (some (.ref f)) ∧ H c' = some (CodeO c' q) ∧ ∃ Q2 : VK, (∀ v H', Q2 v H' → D.nx σ H') ∧ tl Ech H Q2) rfl rfl hN takes0 (hcl s H) fun W pn xe tk _ => ?_)
      (pss_one (ps_ret (pe_varL (X := (cxOf C8.CX0 X.prog X.w X.K X.mg X.base Ng x sg g cdg X.A X.stack s H C8.E0).nox) hNy (.inl hlt) d0 d1)))), ?_⟩
  · refine ⟨fun pins s' σ H' D I h' => ?_⟩
    obtain ⟨Ech, hW, h1, h2, Q2, h4, h3⟩ := h'
    have hp := act W pn xe Ech p1 p2 tk hW
    exact (pss_one (ps_expr (pos := p3) (peMono hp))).run pins s' σ H' D I ⟨Q2, h4, h1, h2, h3⟩
  · refine ⟨wMetB X.K C Q cs, fun cls d σ' H' w => wMet_claB (fun σ2 H2 z => z) hy w, ?_, ?_, ?_⟩
    · rw [List.getElem?_set_ne y0]
      exact h0 f
    · exact hc
    · have hset : Holds ((L2.start Ng [V.ref f]).set y (some (V.bl false))) y (.bl false) := fun h => List.getElem?_set_self (by simpa using h)
      exact ⟨_, fun v H' z => ⟨.bl false, hset, z⟩, h⟩
def metRunB (L : Nat → List Nat) : List ClD → Exc' → Env' → Res Val
  | [], _, _ => .bad
  | c :: cs, x, e => match c.ans x.c with
    | some true => (match itPs L x c.its with
      | some [p] => .ok (.fz p) e
      | _ => .bad)
    | some false => metRunB L cs x e
    | none => .bad
def dRefB (L : Nat → List Nat) (cs : List ClD) (db : Env' → Res Val) : Env' → Res Val := fun e => match db e with
  | .ok _ e1 => .ok (.fz (.bl false)) e1
  | .err x e1 => metRunB L cs x e1
  | .bad => .bad
section
variable {X : Cx} {g : Gm} {F F' H H' : Hp} {σ : L2.St} {env : Env'}
theorem met_goB {x : Exc'} {d : Option Addr} {Q : VK} (ok : Ok X g) (co : ∀ c, ErrC g.C c) (S : Stt g F H σ env) (ed : ErrD g.C F x d H H') : ∀ {cs : List (Value × ClD)}, (∀ p ∈ cs, (∀ n b, p.2.ans n = some b → PySem.W.exmOne X.K (.ref (g.C.ea n)) p.1 = some b) ∧ ∀ it ∈ p.2.its, ItR X g it) →
    Go g F σ (metRunB g.C.eL (cs.map Prod.snd) x env) (fun x env' F' H' => ∀ v, RV g F' H' σ env' x v → Q v H') → wMetB X.K g.C Q cs (.ref (g.C.ea x.c)) d H'
  | [], _, go => go.elim
  | p :: cs, hc, go => by
    rw [List.map_cons] at go
    unfold metRunB at go
    obtain ⟨ans, its⟩ := hc p (List.mem_cons_self ..)
    cases ha : p.2.ans x.c with
    | none => rw [ha] at go; exact go.elim
    | some b =>
      rw [ha] at go
      refine ⟨b, ans _ _ ha, ?_⟩
      cases b with
      | false =>
        rw [if_neg Bool.false_ne_true]
        exact met_goB ok co S ed (fun q hq => hc q (List.mem_cons_of_mem _ hq)) go
      | true =>
        rw [if_pos rfl]
        dsimp only at go
        split at go
        · rename_i p1 hps
          obtain ⟨vs, rs, hl, fl⟩ := ed
          have S2 := S.grow (FlyE.ex fl)
          obtain ⟨ws, w1, w2⟩ := its_ok S2.sub S2.tab ok co hl rs fl its hps
          obtain ⟨v, t, rfl, ry, rt⟩ := w2.cons_inv
          obtain rfl := rt.nil_inv
          exact ⟨_, rfl, by rw [← ok.K]; exact (co x.c).exc, its_no ok co hps, v, w1, go F H' (Ex.refl F) S2 v ry⟩
        · exact go.elim
theorem ref_lamB {Q : VK} {db : Env' → Res Val} {cs : List (Value × ClD)} (ok : Ok X g) (co : ∀ c, ErrC g.C c) (hc : ∀ p ∈ cs, (∀ n b, p.2.ans n = some b → PySem.W.exmOne X.K (.ref (g.C.ea n)) p.1 = some b) ∧ ∀ it ∈ p.2.its, ItR X g it)
    (h : tE g (dRefB g.C.eL (cs.map Prod.snd) db) σ H Q) : tLamK g.C.T (TTrefB X.K g.C cs) (fun E => tE (lamG g E) db) σ H Q := by
  obtain ⟨F, env, S, go⟩ := h
  refine ⟨S.tab, fun H1 kp T1 => ?_⟩
  have S0 := S.lam kp T1
  refine ⟨F, env, S0.reW, ?_⟩
  unfold dRefB at go
  cases q : db env with
  | bad => rw [q] at go; exact go.elim
  | ok y e1 =>
    rw [q] at go
    refine fun F' H' x1 S2 v rv => go F' H' x1 S2.unW (.bl false) ?_
    show R g.C F' (.bl false) (.bl false)
    unfold R
    rfl
  | err x e1 =>
    rw [q] at go
    exact fun F' H' x1 S2 d H2 ed => met_goB ok co S2.unW ed hc (go.up x1)
end
end VL
set_option maxRecDepth 100000
set_option maxHeartbeats 2000000
namespace VL
open PySem PySem.Spec L2 LamX
open PyProof.Rows hiding St
section
variable {X : Cx} {a D : Addr} {oe : Obj} {d : Option Addr} {pn : List (Addr × Obj)} {n : Str} {i : Nat} {C : Ct}
theorem su_setB {y : Nat} {m : Str} {e : Expr} {it : CIt} {p1 p3 : Pos} (hN : X.N.Nodup) (hy : X.N[y]? = some m) (hl : X.env.kindOf m = some .local) (ha : PE (X.suite a ((a, oe) :: pn)) e (tIt X.K D a d i it))
    (hs : swapsWith e (some (.Name m p1)) p3.line X.env = pure false) :
    PSs (X.suite a ((a, oe) :: pn)) [.Assign [.Name m p1] e p3] (tSuB X.K D a d i y [it]) :=
  pssImp' (pss_cons (ps_set (X := X.suite a ((a, oe) :: pn)) hN hy (.inl hl) ha hs (.inr hl)) pss_nil) fun E σ H ⟨e0, v, ⟨v', ws, ev, h1, h2⟩, q⟩ => ⟨e0, v, by cases ev; exact h1, q⟩
theorem cla_setB {c : ClD} {it : CItD} {y : Nat} {m : Str} {e : Expr} {p1 p3 : Pos} (hyc : c.y = some y) (hit : c.its = [it]) (hN : X.N.Nodup) (hy : X.N[y]? = some m) (hl : X.env.kindOf m = some .local) (hs : swapsWith e (some (.Name m p1)) p3.line X.env = pure false)
    (ha : ∀ (a : Addr) (oe : Obj) (D : Addr) (d : Option Addr) (pn : List (Addr × Obj)), SuF X D d oe → NoF X.K D [CItD.it C it] → PE (X.suite a ((a, oe) :: pn)) e (tIt X.K D a d c.i (CItD.it C it))) :
    ∀ (a : Addr) (oe : Obj) (cls : Value) (d : Option Addr) (pn : List (Addr × Obj)), Zc cls d oe → (∃ vs, oe.data = .fields vs) → PSs (X.suite a ((a, oe) :: pn)) [.Assign [.Name m p1] e p3] (tsOfB X.K C c a cls d) := by
  intro a oe cls d pn hz hd
  refine ⟨fun pins s σ H E I ⟨D, e1, e2, e3, q⟩ => ?_⟩
  subst e1
  rw [hyc] at q
  rw [hit] at q e3
  exact (su_setB hN hy hl (ha a oe D d pn ⟨e2, hz, hd⟩ e3) hs).run pins s σ H E I q
end
section
variable {X : Cx} {g : Gm} {F F' H H' : Hp} {σ : L2.St} {env : Env'} {C : Ct}
/-- x(lambda: body) -/
theorem se_refB {x a told : Str} {gf c P : Addr} {k y : Nat} {pg : Arguments} {sg : Scope} {dV kV doc pm cdv ct oc : Value} {an od : Option Addr} {osl : Array (Option Value)} {Ng : List Str} {params : Arguments} {body : Expr} {scope : Scope} {p lpos pos : Pos} {h₀ : ExceptHandler} {hds' : List ExceptHandler} {j1 : Nat} {p1 p2 p3 p4 p5 p6 p7 p8 p9 : Pos}
    {cs : List (Value × ClD)} {db : Env' → Res Val} {L : Nat → List Nat} {ds : List ClD} (ok : Ok X g) (co : ∀ c, ErrC g.C c) (hL : g.C.eL = L) (hds : cs.map Prod.snd = ds) (hc : ∀ p ∈ cs, (∀ n b, p.2.ans n = some b → PySem.W.exmOne X.K (.ref (g.C.ea n)) p.1 = some b) ∧ ∀ it ∈ p.2.its, ItR X g it) (hy : ∀ p ∈ cs, p.2.y = some y ∧ p.2.i ≠ y)
    (hg : Gl X x) (hm : X.mg x = some (.ref gf)) (hk : PySem.W.keepIn X.K (.ref gf) = true) (hNy : Ng[y]? = some told) (y0 : y ≠ 0) (hlt : sg.names.lookup told = some .local) (d0 : (told == ("__debug__" : Str)) = false) (d1 : (told == ("__classdict__" : Str)) = false)
    (lk : X.K.lookup gf = some ⟨oc, od, .func (PySem.W.fnOf x x pg [.Assign [.Name told p7] (.Constant (.bool false) j1 p8) p9, .Try [.Expr (.Call (.Name a p1) [] [] p2) p3] (h₀ :: hds') [] [] p4, .Return (some (.Name told p5)) p6] sg dV kV doc pm an cdv ct), osl⟩) (hcg : PySem.W.codeIn X.K cdv x = true)
    (hb : L2.Binds X.K (PySem.W.fnOf x x pg [.Assign [.Name told p7] (.Constant (.bool false) j1 p8) p9, .Try [.Expr (.Call (.Name a p1) [] [] p2) p3] (h₀ :: hds') [] [] p4, .Return (some (.Name told p5)) p6] sg dV kV doc pm an cdv ct) [a] []) (Sg : FnScope Ng [a] sg) (hNg : Ng[0]? = some a) (hva : Vis sg a)
    (hcl : ∀ (s : Shared) (H : Hp), ClaOk (cxOf C8.CX0 X.prog X.w X.K X.mg X.base Ng x sg gf cdv X.A X.stack s H C8.E0).nox (h₀ :: hds') (clasB X.K g.C cs)) (h0 : ∀ f : Addr, (L2.start Ng [V.ref f])[0]? = some (some (V.ref f))) (hl : ∀ f : Addr, (L2.start Ng [V.ref f]).length = Ng.length)
    (TB : TabB X.base X.mg c P) (hcode : X.env.code = .ref c) (hmT : (P, X.env.qual ++ "<lambda>") ∈ g.C.T) (hu : ∀ p ∈ g.C.T, p.1 = P → p.2 = X.env.qual ++ "<lambda>") (hr : Room (k + 2) X.A) (Ls : LamS X.env.scope scope) (hdef : defaultsOf params X.env = ([], []))
    (hbind : ∀ (q : Str) (cl : List (Str × Addr)) (pm cv ctv : Value), bindArgs (PySem.W.kla_fn "<lambda>" q params body scope cl pm cv ctv) ⟨[], []⟩ = pure [])
    (hbody : ∀ (A : Around) (outer : List Env) (s : Shared) (H : Hp) (E : XK) (f c' : Addr), Room k (A.deeper (lamEnv X scope s.heap.objs.size f c')) → ErX (lamCx X A outer s H E scope f c') (lamG g E) → PE (lamCx X A outer s H E scope f c') body (tE (lamG g E) db))
    (hdb : (x == ("__debug__" : Str)) = false) (hd : (a == ("__debug__" : Str)) = false) (hcd : (a == ("__classdict__" : Str)) = false) : PE X (.Call (.Name x p) [.Lambda params body scope lpos] [] pos) (tE g (dRefB L ds db)) := by
  subst hL hds
  exact peImp (pe_lamcallK (TT := TTrefB X.K g.C cs) (t := fun E => tE (lamG g E) db) hg hm hk lk hcg hb Sg hNg hva (ref_givesB hy Sg.nd hNy y0 hlt d0 d1 h0 hl hcl) TB hcode hmT hu hr Ls hdef hbind (fun A outer s H E f c' hr' => hbody A outer s H E f c' hr' er_lam) hdb hd hcd) fun σ H Q h => ref_lamB ok co hc h
/-- told = () / try: a() except C as e: told = (..) .. / return told -/
theorem se_refBF {x a told : Str} {gf c P : Addr} {k y j0 : Nat} {pg : Arguments} {bg : List Stmt} {sg : Scope} {kws : List (Str × V)} {fd : FuncData} {Ng : List Str} {params : Arguments} {body : Expr} {scope : Scope} {p lpos pos : Pos} {h₀ : ExceptHandler} {hds' : List ExceptHandler} {j1 : Nat} {p1 p2 p3 p4 p5 p6 p7 p8 p9 : Pos}
    {ans : Nat → Nat → Option Bool} {ls : List ClE} {db : Env' → Res Val} {L : Nat → List Nat} (hC : g.C = C) (ok : Ok X g) (co : ∀ c, ErrC C c) (hL : C.eL = L) (af : AnsF X.K C ans) (oi : ∀ l ∈ ls, itsOk ans l.its) (hi : ∀ l ∈ ls, l.i ≠ y)
    (hg : Gl X x) (hm : X.mg x = some (.ref gf)) (Fd : FunD X.K x x pg bg sg [] kws gf fd) (hbg : bg = [.Assign [.Name told p7] (.Constant (.bool false) j1 p8) p9, .Try [.Expr (.Call (.Name a p1) [] [] p2) p3] (h₀ :: hds') [] [] p4, .Return (some (.Name told p5)) p6])
    (hNy : Ng[y]? = some told) (y0 : y ≠ 0) (hlt : sg.names.lookup told = some .local) (d0 : (told == ("__debug__" : Str)) = false) (d1 : (told == ("__classdict__" : Str)) = false)
    (hb : ∀ (kV doc pm : Value) (an : Option Addr) (cdv ct : Value) (us : List Value), us.length = [a].length → bindArgs (PySem.W.fnOf x x pg bg sg .none kV doc pm an cdv ct) ⟨us, []⟩ = pure ([a].zip us)) (Sg : FnScope Ng [a] sg) (hNg : Ng[0]? = some a) (hva : Vis sg a)
    (hcl : ∀ (cdv : Value) (s : Shared) (H : Hp), ClaOk (cxOf C8.CX0 X.prog X.w X.K X.mg X.base Ng x sg gf cdv X.A X.stack s H C8.E0).nox (h₀ :: hds') (clasB X.K C (ls.map (ClE.cs ans C (some y))))) (h0 : ∀ f : Addr, (L2.start Ng [V.ref f])[0]? = some (some (V.ref f))) (hl : ∀ f : Addr, (L2.start Ng [V.ref f]).length = Ng.length)
    (TB : TabB X.base X.mg c P) (hcode : X.env.code = .ref c) (hmT : (P, X.env.qual ++ "<lambda>") ∈ C.T) (hu : ∀ p ∈ C.T, p.1 = P → p.2 = X.env.qual ++ "<lambda>") (hr : Room j0 X.A) (hj : k + 2 ≤ j0) (Ls : LamS X.env.scope scope) (hdef : defaultsOf params X.env = ([], []))
    (hbind : ∀ (q : Str) (cl : List (Str × Addr)) (pm cv ctv : Value), bindArgs (PySem.W.kla_fn "<lambda>" q params body scope cl pm cv ctv) ⟨[], []⟩ = pure [])
    (hbody : ∀ (A : Around) (outer : List Env) (s : Shared) (H : Hp) (E : XK) (f c' : Addr) (g' : Gm), g'.C = C → Room k (lamCx X A outer s H E scope f c').A → Ok (lamCx X A outer s H E scope f c') g' → ErX (lamCx X A outer s H E scope f c') g' → PE (lamCx X A outer s H E scope f c') body (tE g' db))
    (hdb : (x == ("__debug__" : Str)) = false) (hd : (a == ("__debug__" : Str)) = false) (hcd : (a == ("__classdict__" : Str)) = false) : PE X (.Call (.Name x p) [.Lambda params body scope lpos] [] pos) (tE g (dRefB L (ls.map (ClE.d ans (some y))) db)) := by
  subst hC
  subst hbg
  have hb2 := Fd.bindsN (ps := [a]) hb
  have kp := Fd.kp
  obtain ⟨oc, od, dV, kV, doc, pm, an, cdv, ct, osl, rfl, lk, hcg, _, _⟩ := Fd.ex
  refine se_refB (cs := ls.map (ClE.cs ans g.C (some y))) (k := k) ok co hL (by rw [List.map_map]; rfl) (cs_ok af oi) ?_ hg hm kp hNy y0 hlt d0 d1 lk hcg hb2 Sg hNg hva (hcl cdv) h0 hl TB hcode hmT hu (hr.mono hj) Ls hdef hbind (fun A outer s H E f c' hr' ex => hbody A outer s H E f c' _ rfl hr' (ok_lam ok hr') ex) hdb hd hcd
  intro p hp
  obtain ⟨l, hl, rfl⟩ := List.mem_map.mp hp
  exact ⟨rfl, hi l hl⟩
end
end VL
set_option maxRecDepth 100000
set_option maxHeartbeats 2000000
namespace VL
open PySem PySem.Spec L2
open PyProof.Rows hiding St
end VL
set_option maxRecDepth 100000
set_option maxHeartbeats 2000000
namespace VL
open PySem PySem.Spec L2
open PyProof.Rows hiding St
end VL
set_option maxRecDepth 100000
set_option maxHeartbeats 2000000
namespace VL
open PySem PySem.Spec L2
open PyProof.Rows hiding St
def Ct.link (C : Ct) (j : Nat) (a : Addr) : Ct where
  K := C.K
  ad := C.ad
  L := C.L
  nm := C.nm
  T := C.T
  ea := C.ea
  eL := C.eL
  lk := fun i => if i = j then some a else C.lk i
def Gm.link (g : Gm) (j : Nat) (a : Addr) : Gm where
  C := g.C.link j a
  F0 := g.F0
  H0 := g.H0
  P := fun i => if i = j then some a else g.P i
  W := fun _ _ _ _ _ => False
section
variable {C : Ct} {F H : Hp} {j : Nat} {b : Addr}
mutual
theorem R.link (h0 : C.lk j = none) : ∀ {p : PV} {v : V}, R C F p v → R (C.link j b) F p v
  | .non, _, h => h
  | .bl _, _, h => h
  | .int _, _, h => h
  | .str _, _, h => h
  | .tup xs, v, h => by
    unfold R at h ⊢
    obtain ⟨a, vs, e, q, r⟩ := h
    exact ⟨a, vs, e, q, Rs.link h0 r⟩
  | .lst xs, v, h => by
    unfold R at h ⊢
    obtain ⟨a, vs, e, q, r⟩ := h
    exact ⟨a, vs, e, q, Rs.link h0 r⟩
  | .scr ns, v, h => by
    unfold R at h ⊢
    exact h
  | .dK ks xs, v, h => by
    unfold R at h ⊢
    obtain ⟨a, kvs, e, q, k, r⟩ := h
    exact ⟨a, kvs, e, q, k, Rs.link h0 r⟩
  | .dT ks xs, v, h => by
    unfold R at h ⊢
    obtain ⟨a, kvs, e, q, k, r⟩ := h
    exact ⟨a, kvs, e, q, k, Rs.link h0 r⟩
  | .ins c xs, v, h => by
    unfold R at h ⊢
    obtain ⟨a, dx, fs, e, q, k, r⟩ := h
    exact ⟨a, dx, fs, e, q, k, Rs.link h0 r⟩
  | .exc c xs, v, h => by
    unfold R at h ⊢
    obtain ⟨a, vs, e, q, r⟩ := h
    exact ⟨a, vs, e, q, Rs.link h0 r⟩
  | .lnk i, v, h => by
    unfold R at h ⊢
    obtain ⟨a, e, q⟩ := h
    refine ⟨a, ?_, q⟩
    have hi : i ≠ j := fun z => by rw [z, h0] at e; cases e
    show (if i = j then some b else C.lk i) = some a
    rw [if_neg hi]; exact e
  | .ftp xs, v, h => by
    unfold R at h ⊢
    obtain ⟨a, vs, o, e, q, d, r⟩ := h
    exact ⟨a, vs, o, e, q, d, Rs.link h0 r⟩
theorem Rs.link (h0 : C.lk j = none) : ∀ {p : List PV} {v : List V}, Rs C F p v → Rs (C.link j b) F p v
  | [], _, h => by unfold Rs at h ⊢; exact h
  | x :: xs, v, h => by
    unfold Rs at h ⊢
    obtain ⟨y, r, e, q, t⟩ := h
    exact ⟨y, r, e, R.link h0 q, Rs.link h0 t⟩
end
theorem R1.link (h0 : C.lk j = none) {p : PV} {a : Addr} (h : R1 C F H p a) : R1 (C.link j b) F H p a := by
  cases p <;> try exact h.elim
  all_goals simp only [R1] at h ⊢
  · obtain ⟨vs, q, r⟩ := h; exact ⟨vs, q, r.link h0⟩
  · obtain ⟨vs, q, k, r⟩ := h; exact ⟨vs, q, k, r.link h0⟩
  · obtain ⟨vs, q, k, r⟩ := h; exact ⟨vs, q, k, r.link h0⟩
  · obtain ⟨dx, fs, q, k, r⟩ := h; exact ⟨dx, fs, q, k, r.link h0⟩
end
section
variable {X : Cx} {g : Gm} {F H : Hp} {σ : St} {env : Env'}
/-- a new container comes to stand in the slot j, linked -/
theorem Stt.link (S : Stt g F H σ env) {j : Nat} {p : PV} {a : Addr} (h0 : g.C.lk j = none) (hP : g.P j = none) (hj : j < env.length) (r : R1 g.C F H p a) (hf : F a = none) (hH : g.H0 a = none) (hn : ∀ (i : Nat) b q, env[i]? = some (.ow b q) → σ[i]? ≠ some (some (.ref a))) :
    Stt (g.link j a) F H (σ.set j (some (.ref a))) (env.set j (.ow false p)) := by
  have hO : ∀ b, g.O b → (g.link j a).O b := fun b ⟨i, hi⟩ => ⟨i, by
    have : i ≠ j := fun z => by rw [z, hP] at hi; cases hi
    show (if i = j then some a else g.P i) = some b
    rw [if_neg this]; exact hi⟩
  refine ⟨by simpa using S.len, fun b o q n => S.frame b o q fun z => n (hO b z), fun b hb => ?_, S.ext, S.fresh, S.sub, fun i q hq => ?_, fun i f q hq => ?_, fun i k f f' q r' b hi hk e1 e2 => ?_, S.tab⟩
  · obtain ⟨i, hi⟩ := hb
    have hi : (if i = j then some a else g.P i) = some b := hi
    by_cases e : i = j
    · rw [if_pos e] at hi
      cases hi
      exact r.cell
    · rw [if_neg e] at hi
      exact S.live b ⟨i, hi⟩
  · rcases getElem?_set_cases hq with ⟨_, e, _⟩ | ⟨hne, e⟩
    · cases e
    · obtain ⟨v, h1, h2⟩ := S.fz i q e
      exact ⟨v, by rw [List.getElem?_set_ne hne]; exact h1, h2.link h0⟩
  · rcases getElem?_set_cases hq with ⟨rfl, e, hl⟩ | ⟨hne, e⟩
    · cases e
      refine ⟨a, by rw [List.getElem?_set_self (by rw [S.len]; exact hl)], r.link h0, hf, ?_⟩
      rw [if_neg Bool.false_ne_true]
      show (if j = j then some a else g.P j) = some a
      rw [if_pos rfl]
    · obtain ⟨c, h1, h2, h3, h4⟩ := S.ow i f q e
      refine ⟨c, by rw [List.getElem?_set_ne hne]; exact h1, h2.link h0, h3, ?_⟩
      split at h4
      · rename_i hf'
        rw [if_pos hf']; exact h4
      · rename_i hf'
        rw [if_neg hf']
        show (if i = j then some a else g.P i) = some c
        rw [if_neg (Ne.symm hne)]; exact h4
  · rcases getElem?_set_cases hi with ⟨rfl, _, hl1⟩ | ⟨n1, hi'⟩
    · rcases getElem?_set_cases hk with ⟨h, _, _⟩ | ⟨n2, hk'⟩
      · exact h
      · rw [List.getElem?_set_self (by rw [S.len]; exact hl1)] at e1
        cases e1
        rw [List.getElem?_set_ne n2] at e2
        exact (hn k _ r' hk' e2).elim
    · rw [List.getElem?_set_ne n1] at e1
      rcases getElem?_set_cases hk with ⟨rfl, _, hl2⟩ | ⟨n2, hk'⟩
      · rw [List.getElem?_set_self (by rw [S.len]; exact hl2)] at e2
        cases e2
        exact (hn i _ q hi' e1).elim
      · rw [List.getElem?_set_ne n2] at e2
        exact S.inj i k _ _ q r' b hi' hk' e1 e2
end
end VL
set_option maxRecDepth 100000
set_option maxHeartbeats 2000000
namespace VL
open PySem PySem.Spec L2
open PyProof.Rows hiding St
end VL
set_option maxRecDepth 100000
set_option maxHeartbeats 2000000
namespace VL
open PySem PySem.Spec L2
open PyProof.Rows hiding St
section
variable {C : Ct} {j : Nat} {a : Addr}
theorem ClsOk.link {c : Nat} (h : ClsOk C c) : ClsOk (C.link j a) c := ⟨h.cls, h.no, h.nd⟩
theorem InsF.link (h : InsF C) : InsF (C.link j a) := ⟨h.ha, h.hn, h.htk, h.hm⟩
theorem CF.link {L : Nat → List Nat} {nm : Nat → Str} (h : CF C L nm) : CF (C.link j a) L nm := ⟨h.L, h.nm, fun c => (h.cls c).link, h.ins.link, h.kb⟩
theorem OwnC.link {n c0 : Nat} (h : OwnC C n c0) : OwnC (C.link j a) n c0 := ⟨h.own, h.oth⟩
theorem ErrC.link {c : Nat} (h : ErrC C c) : ErrC (C.link j a) c := ⟨h.exc, h.no, h.nd⟩
theorem AnsF.link {K : PySem.W.Frag} {ans : Nat → Nat → Option Bool} (h : AnsF K C ans) : AnsF K (C.link j a) ans := ⟨h.exm, h.kit⟩
theorem LamF.link {base : Heap} {mg : Str → Option Value} {x : Str} {c : Addr} (h : LamF base mg C x c) : LamF base mg (C.link j a) x c := ⟨h.ex⟩
end
end VL
set_option maxRecDepth 100000
set_option maxHeartbeats 2000000
namespace VL
open PySem PySem.Spec L2
open PyProof.Rows hiding St
end VL
set_option maxRecDepth 100000
set_option maxHeartbeats 2000000
namespace VL
open PySem PySem.Spec L2
open PyProof.Rows hiding St
end VL
set_option maxRecDepth 100000
set_option maxHeartbeats 2000000
namespace VL
open PySem PySem.Spec L2
open PyProof.Rows hiding St
end VL
set_option maxRecDepth 100000
set_option maxHeartbeats 3200000
namespace VL
open PySem PySem.Spec L2
open PyProof.Rows hiding St
def txtOf (e : Int × Value) : Str := match e.2 with
  | .str x _ => x
  | _ => Str.empty
def TxtE (w : World) (e : Int × Value) : Prop := ∃ x tk, e.2 = Value.str x tk ∧ e.1 = hashStr w x
/-- the set of the texts ks stands at a -/
def SetT (w : World) (h : Heap) (a : Addr) (ks : List Str) : Prop :=
  ∃ o es ep t, h.get? a = some o ∧ o.ExactSet ∧ o.data = .set es ep t ∧ (∀ e ∈ es.toList, TxtE w e) ∧ (es.toList.map txtOf).Perm ks ∧ ks.Nodup ∧ es.size < scanBound ∧ t.fits es.size = true ∧ Ris t.place.toList ∧
    (w.params.followText "set-order" = true ∨ t.led = true)
section
variable {P : Program} {w : World} {h h' : Heap} {a : Addr} {ks : List Str}
theorem SetT.at (R : SetT w h a ks) (k : ∀ o, h.get? a = some o → h'.get? a = some o) : SetT w h' a ks := by
  obtain ⟨o, es, ep, t, ho, r⟩ := R
  exact ⟨o, es, ep, t, k o ho, r⟩
end
end VL
set_option maxRecDepth 100000
set_option maxHeartbeats 3200000
namespace VL
open PySem PySem.Spec L2
open PyProof.Rows hiding St
end VL
set_option maxRecDepth 100000
set_option maxHeartbeats 3200000
namespace VL
open PySem PySem.Spec L2
open PyProof.Rows hiding St
end VL
set_option maxRecDepth 100000
set_option maxHeartbeats 2000000
namespace VL
open PySem PySem.Spec L2
open PyProof.Rows hiding St
def SpVL (C : Ct) (l : Nat) (md : Md) (fn : List PV → FR) : Sp := fun vs H Q E => ∃ d : Addr, SpV (C.link l d) (md ++ [true]) fn (vs ++ [V.ref d]) H Q E
theorem SpVL.len {C : Ct} {l : Nat} {md : Md} {fn : List PV → FR} : ∀ vs H Q E, SpVL C l md fn vs H Q E → vs.length = md.length := fun vs H Q E ⟨d, h⟩ => by
  have := SpV.len _ _ _ _ h
  simpa using this
end VL
set_option maxRecDepth 100000
set_option maxHeartbeats 2000000
namespace VL
open PySem PySem.Spec L2
open PyProof.Rows hiding St
end VL
set_option maxRecDepth 100000
set_option maxHeartbeats 2000000
namespace VL
open PySem PySem.Spec L2
open PyProof.Rows hiding St
def OwnAt (x : Addr) (s : Shared) : Prop := ∃ C dx, s.heap.get? x = some (PySem.W.instObj C dx)
theorem dec_add (n : Int) (t : Tok) (x : Addr) : GivesAt (OwnAt x) (Builtin.«int.__add__» ⟨[.int n t, .ref x], []⟩) (.val .notImplemented) := by
  intro prog w A R s ⟨C, dx, ho⟩ hq
  obtain ⟨hp, g, d, tk, os⟩ := s
  have ho : hp.get? x = some (PySem.W.instObj C dx) := ho
  unfold Builtin.«int.__add__»
  wp_walk
  simp only [PySem.W.instObj]
  wp_walk
  exact hq
theorem dec_sub (n : Int) (t : Tok) (x : Addr) : GivesAt (OwnAt x) (Builtin.«int.__sub__» ⟨[.int n t, .ref x], []⟩) (.val .notImplemented) := by
  intro prog w A R s ⟨C, dx, ho⟩ hq
  obtain ⟨hp, g, d, tk, os⟩ := s
  have ho : hp.get? x = some (PySem.W.instObj C dx) := ho
  unfold Builtin.«int.__sub__»
  wp_walk
  simp only [PySem.W.instObj]
  wp_walk
  exact hq
theorem dec_mul (n : Int) (t : Tok) (x : Addr) : GivesAt (OwnAt x) (Builtin.«int.__mul__» ⟨[.int n t, .ref x], []⟩) (.val .notImplemented) := by
  intro prog w A R s ⟨C, dx, ho⟩ hq
  obtain ⟨hp, g, d, tk, os⟩ := s
  have ho : hp.get? x = some (PySem.W.instObj C dx) := ho
  unfold Builtin.«int.__mul__»
  wp_walk
  simp only [PySem.W.instObj]
  wp_walk
  exact hq
/-- an int's operator: it declines what is of an own class -/
structure IntOp (op : Operator) : Prop where
  fills : fillsNumberSlot (.type "int") op.info.2 = pure true
  dec : ∃ (id : String) (B : Builtin), Slot "int" (PySem.dunder op.info.2) id ∧ entryFor table id = some B ∧ (∀ a b : Value, argsOk id ⟨[a, b], []⟩) ∧ ∀ (n : Int) (t : Tok) (x : Addr), GivesAt (OwnAt x) (B ⟨[.int n t, .ref x], []⟩) (.val .notImplemented)
theorem intOp_add : IntOp .Add := ⟨F.fills_int_add, _, _, F.slot_int_add, F.entry_int_add, F.args_int_add_2, dec_add⟩
theorem intOp_sub : IntOp .Sub := ⟨F.fills_int_sub, _, _, F.slot_int_sub, F.entry_int_sub, F.args_int_sub_2, dec_sub⟩
theorem intOp_mul : IntOp .Mult := ⟨F.fills_int_mul, _, _, F.slot_int_mul, F.entry_int_mul, F.args_int_mul_2, dec_mul⟩
section
open PySem.W
variable {prog : Program} {w : World} {A : Around} {E : Value → Shared → Prop} {s : Shared} {K : PySem.W.Frag} {x C L f f0 : Addr} {h₀ : Heap} {m : Str → Option Value} {ox : Obj} {od : Option Obj}
theorem try_int {op : Operator} (io : IntOp op) {n : Int} {t : Tok} {Q : Option Value → Shared → Prop} (hx : OwnAt x s) (h : Q none s) : wpAny (model prog w) A (tryMethod (.int n t) (PySem.dunder op.info.2) (.ref x)) Q E s := by
  obtain ⟨id, B, sl, en, ar, de⟩ := io.dec
  exact wpAny_tryMethod_declines (typeIs_int s n t) sl (call_givesAt (Q := fun v s' => v = .notImplemented ∧ Q none s') sl (typeIs_int s n t) en (ar _ _) (de n t x) hx ⟨rfl, h⟩)
theorem own_right {op : Operator} (io : IntOp op) {n : Int} {t : Tok} {Q : Value → Shared → Prop} (Fh : Fr h₀ L s.heap m) (X₀ : K.In h₀) (I : PySem.W.InstAt s.heap x ox C od) (hx : OwnAt x s) (hc : selfFirst K C = true)
    (hs : findIn K (.ref C) (PySem.dunder op.info.2) = some (some (.ref f0))) (hr : findIn K (.ref C) (dunderR op.info.2) = some (some (.ref f))) (hf : isFn K (.ref f) = true) (hsub : subIn K (.ref C) (.type "int") = some false)
    (h : wpAny (model prog w) A (call (.ref f) [.ref x, .int n t]) (PySem.W.CmpBack Q) E s) : wpAny (model prog w) A (binaryOp op (.int n t) (.ref x)) Q E s := by
  have Y := X₀.keeps Fh.keep
  obtain ⟨z, r, hz, first⟩ := ksp_first hc
  have right := ksp_try Y I hr hf h
  have left := fun R p => @try_int prog w A E s x op io n t R hx p
  have fi := io.fills
  generalize hi : op.info = pr at *
  obtain ⟨sy, y⟩ := pr
  simp only at hs hr right left fi
  obtain ⟨h1, gs, dr, tk, so⟩ := s
  have kb : Looks (model prog w) h1 (fillsNumberSlot (.ref C) y) true := fills_K Y hz first hs
  have ka : Looks (model prog w) h1 (fillsNumberSlot (.type "int") y) true := .of_pure fi
  have ks : Looks (model prog w) h1 (isSubtype (.ref C) (.type "int")) false := looks_subIn Y hsub
  have kp : Looks (model prog w) h1 (numberSlotInPython (.type "int") y) false := .of_pure rfl
  have ti : Looks (model prog w) h1 (typeOf (.int n t)) (.type "int") := .of_pure rfl
  have tx : Looks (model prog w) h1 (typeOf (.ref x)) (.ref C) := I.type
  have ne : (Value.type "int" == Value.ref C) = false := Bool.eq_false_iff.mpr fun q => nomatch beq_iff_eq.mp q
  unfold binaryOp binaryOp1
  rw [hi]
  refine wpAny_holding (wpAny_bind ?_)
  ksp_lk
  simp only [ne, Bool.false_eq_true, if_false]
  ksp_lk
  refine left _ ?_
  ksp_lk
  refine wpAny_mono right (fun o s2 ho => ?_) fun _ _ z => z
  obtain ⟨v, rfl, hq⟩ := ho
  ksp_lk
  exact hq
end
/-- what of the class must be known for its operators -/
structure OpK (C : Ct) (c : Nat) : Prop where
  first : PySem.W.selfFirst C.K (C.ad c) = true
  noInt : PySem.W.subIn C.K (.ref (C.ad c)) (.type "int") = some false
theorem intSub (K : PySem.W.Frag) (C : Addr) : PySem.W.subIn K (.type "int") (.ref C) = some false := by
  show (fastBuiltinMro "int").map (·.contains (.ref C)) = some false
  cases h : fastBuiltinMro "int" with
  | none => exact absurd h (by decide +kernel)
  | some l =>
    have h2 : ((fastBuiltinMro "int").getD []).all (fun v => match v with | .ref _ => false | _ => true) = true := by decide +kernel
    rw [h] at h2
    simp only [Option.map_some, Option.some.injEq]
    rw [List.contains_eq_any_beq, List.any_eq_false]
    intro v hv
    have := List.all_eq_true.mp h2 v hv
    cases v <;> simp_all
def opNm (op : Operator) : Prop := op = .Add ∨ op = .Sub ∨ op = .Mult
theorem opNm.io {op : Operator} (h : opNm op) : IntOp op := by
  rcases h with rfl | rfl | rfl
  · exact intOp_add
  · exact intOp_sub
  · exact intOp_mul
theorem opNm.look {op : Operator} (h : opNm op) (K : PySem.W.Frag) : ∃ fo ro, PySem.W.findIn K (.type "int") (PySem.dunder op.info.2) = some fo ∧ PySem.W.findIn K (.type "int") (dunderR op.info.2) = some ro := by
  have key : ∀ n : Str, (fastLookup "int" n).isSome = true → ∃ fo, PySem.W.findIn K (.type "int") n = some fo := fun n h => Option.isSome_iff_exists.mp h
  have all : (fastLookup "int" (PySem.dunder op.info.2)).isSome = true ∧ (fastLookup "int" (dunderR op.info.2)).isSome = true := by
    rcases h with rfl | rfl | rfl <;> exact ⟨by decide +kernel, by decide +kernel⟩
  obtain ⟨a, ha⟩ := key _ all.1
  obtain ⟨b, hb⟩ := key _ all.2
  exact ⟨a, b, ha, hb⟩
section
variable {X : Cx} {g : Gm} {pins : List (Addr × Obj)} {F H : Hp} {σ : St} {env : Env'} {s : Shared} {a b : Expr} {da db : Env' → Res Val} {pos : Pos}
theorem rel_back {v : V} {w : Value} {Q : Value → Shared → Prop} {s' : Shared} (r : RelV v w) (h : Q w s') : PySem.W.CmpBack Q w s' := by
  cases w <;> try exact h
  cases v <;> first | (obtain ⟨_, e⟩ := r; cases e; done) | (cases r; done)
/-- the call of a method found, with two values -/
theorem call_two {k j : Nat} {c : Nat} {nm : Str} {sp : Sp} (cm : C8.Met X.prog X.w X.K X.mg X.base k (g.C.ad c) nm sp []) (hr : Room j X.A) (hk : k ≤ j) {ad : Addr} {y : V} {u : Value} {Q : VK} (I : Inv X pins σ H s) (ru : RelV y u) (h : sp [.ref ad, y] H Q C8.E0) :
    ∃ f : Addr, PySem.W.findIn X.K (.ref (g.C.ad c)) nm = some (some (.ref f)) ∧ PySem.W.isFn X.K (.ref f) = true ∧ wpAny (model X.prog X.w) X.A (call (.ref f) [.ref ad, u]) (PySem.W.CmpBack (EP X pins σ Q)) X.xe s := by
  obtain ⟨f, fd, ps, ds, cl, me, Fn, bi, d⟩ := cm.ex
  cases d
  refine ⟨f, me.at_, me.fn, ?_⟩
  have hl := Fn.len _ _ _ _ h
  have rr : Vals [V.ref ad, y] [Value.ref ad, u] := .cons rfl (.cons ru .nil)
  refine wpAny_call (codeAny_mono (Fn.run X.A X.stack s H ⟨[.ref ad, u], []⟩ [.ref ad, u] _ _ C8.E0 (hr.mono hk) I.env0 (by
    have := bi s [.ref ad, u] I.kIn (by simpa using hl)
    simpa using this) rr h) fun r s' z => ?_)
  cases r with
  | error e => exact C8.pass0 (X := X) (E := C8.E0) pins σ H s e s' I z
  | ok fl =>
    cases fl with
    | ret w =>
      obtain ⟨v, H', I', rv, q⟩ := I.after z
      exact rel_back rv ⟨v, H', I', rv, q⟩
    | next => exact False.elim z
    | brk => exact False.elim z
    | cont => exact False.elim z
theorem opL_run {op : Operator} (ho : opNm op) {k j k2 : Nat} {c : Nat} {sp sp2 : Sp} (cm : C8.Met X.prog X.w X.K X.mg X.base k (g.C.ad c) (PySem.dunder op.info.2) sp []) (cr : C8.Met X.prog X.w X.K X.mg X.base k2 (g.C.ad c) (dunderR op.info.2) sp2 []) (hr : Room j X.A) (hk : k ≤ j) (ok : Ok X g) (oc : OpK g.C c) {ad dx : Addr} {fs : List (Str × V)} {y : V} {u : Value} {Q : VK} (I : Inv X pins σ H s) (ha : H ad = some (.ins (g.C.ad c) dx fs)) (ru : RelV y u)
    (hy : (∃ i, y = .int i) ∨ ∃ a2 d2 f2, y = .ref a2 ∧ H a2 = some (.ins (g.C.ad c) d2 f2)) (h : sp [.ref ad, y] H Q C8.E0) : wpAny (model X.prog X.w) X.A (binaryOp op (.ref ad) u) (EP X pins σ Q) X.xe s := by
  obtain ⟨f, h1, h2, h3⟩ := call_two cm hr hk I ru h
  obtain ⟨mA, J, _⟩ := ins_get I.hok ha
  obtain ⟨od, J, _⟩ := J.look
  obtain ⟨m, hF⟩ := I.fr
  have oc1 := oc.first
  rw [ok.K] at oc1
  rcases hy with ⟨i, rfl⟩ | ⟨a2, d2, f2, rfl, ha2⟩
  · obtain ⟨t, rfl⟩ := ru
    obtain ⟨f', fd, ps, ds, cl, me, Fn, bi, d⟩ := cr.ex
    obtain ⟨fo, ro, l1, l2⟩ := ho.look X.K
    exact PySem.W.ksp_binT hF I.ok.mod.kin J rfl oc1 h1 h2 me.at_ (.inr ⟨_, rfl⟩) l1 l2 (intSub _ _) h3
  · cases ru
    obtain ⟨mA2, J2, _⟩ := ins_get I.hok ha2
    obtain ⟨od2, J2, _⟩ := J2.look
    exact PySem.W.binop_K hF I.ok.mod.kin J J2.type oc1 h1 h2 h3
theorem opR_run {op : Operator} (ho : opNm op) {k j k2 : Nat} {c : Nat} {sp sp2 : Sp} (cm : C8.Met X.prog X.w X.K X.mg X.base k (g.C.ad c) (PySem.dunder op.info.2) sp []) (cr : C8.Met X.prog X.w X.K X.mg X.base k2 (g.C.ad c) (dunderR op.info.2) sp2 []) (hr : Room j X.A) (hk : k2 ≤ j) (ok : Ok X g) (oc : OpK g.C c) {ad dx : Addr} {fs : List (Str × V)} {i : Int} {u : Value} {Q : VK} (I : Inv X pins σ H s) (ha : H ad = some (.ins (g.C.ad c) dx fs)) (ru : RelV (.int i) u)
    (h : sp2 [.ref ad, .int i] H Q C8.E0) : wpAny (model X.prog X.w) X.A (binaryOp op u (.ref ad)) (EP X pins σ Q) X.xe s := by
  obtain ⟨f, h1, h2, h3⟩ := call_two cr hr hk I ru h
  obtain ⟨t, rfl⟩ := ru
  obtain ⟨mA, J, _⟩ := ins_get I.hok ha
  have hx : OwnAt ad s := ⟨_, _, J.obj⟩
  obtain ⟨od, J, _⟩ := J.look
  obtain ⟨m, hF⟩ := I.fr
  have oc1 := oc.first
  have oc2 := oc.noInt
  rw [ok.K] at oc1 oc2
  obtain ⟨f', fd, ps, ds, cl, me, Fn, bi, d⟩ := cm.ex
  exact own_right ho.io hF I.ok.mod.kin J hx oc1 me.at_ h1 h2 oc2 h3
def isIntV : Val → Bool
  | .fz (.int _) => true
  | _ => false
theorem isIntV_is {x : Val} {v : V} (r : RV g F H σ env x v) (h : isIntV x = true) : ∃ i, v = .int i := by
  cases x with
  | fz p =>
    cases p <;> simp only [isIntV] at h <;> try (cases h; done)
    have r : R g.C F (.int _) v := r
    unfold R at r
    exact ⟨_, r⟩
  | new p => cases h
  | bor i => cases h
def dOpO (c : Nat) (fl fr : List PV → FR) (da db : Env' → Res Val) : Env' → Res Val := fun e => (stl da e).bind fun x e1 => (stl db e1).bind fun y e2 =>
  if insAt c 0 x e2 = true ∧ (isIntV y = true ∨ insAt c 0 y e2 = true) then callK [false, false] fl [x, y] e2
  else if isIntV x = true ∧ insAt c 0 y e2 = true then callK [false, false] fr [y, x] e2
  else .bad
theorem op_k {op : Operator} (ho : opNm op) {k j k2 : Nat} {c : Nat} {fl fr : List PV → FR} (cm : C8.Met X.prog X.w X.K X.mg X.base k (g.C.ad c) (PySem.dunder op.info.2) (SpV g.C [false, false] fl) []) (cr : C8.Met X.prog X.w X.K X.mg X.base k2 (g.C.ad c) (dunderR op.info.2) (SpV g.C [false, false] fr) []) (hr : Room j X.A) (hk : k ≤ j) (hk2 : k2 ≤ j) (ok : Ok X g) (oc : OpK g.C c)
    {Q : VK} {x y : Val} {v w : V} {vv ww : Value} (I : Inv X pins σ H s) (S : Stt g F H σ env) (r1 : RelV v vv) (r2 : RelV w ww) (o1 : x.old) (o2 : y.old) (rx : RV g F H σ env x v) (ry : RV g F H σ env y w)
    (go : Go g F σ (if insAt c 0 x env = true ∧ (isIntV y = true ∨ insAt c 0 y env = true) then callK [false, false] fl [x, y] env else if isIntV x = true ∧ insAt c 0 y env = true then callK [false, false] fr [y, x] env else .bad) fun z e' F' H' => ∀ v, RV g F' H' σ e' z v → Q v H') :
    wpAny (model X.prog X.w) X.A (binaryOp op vv ww) (EP X pins σ Q) X.xe s := by
  split at go
  · rename_i hh
    obtain ⟨h1, h2⟩ := hh
    obtain ⟨ad, dx, fs, n, rfl, ha, _⟩ := insAt_is S rx h1
    cases r1
    refine opL_run ho cm cr hr hk ok oc I ha r2 ?_ (call_go (xs := [x, y]) ⟨o1, o2, True.intro⟩ S ⟨_, _, rfl, rx, _, _, rfl, ry, rfl⟩ go C8.E0)
    rcases h2 with h2 | h2
    · exact .inl (isIntV_is ry h2)
    · obtain ⟨a2, d2, f2, n2, e2, ha2, _⟩ := insAt_is S ry h2
      exact .inr ⟨a2, d2, f2, e2, ha2⟩
  · split at go
    · rename_i hh
      obtain ⟨h1, h2⟩ := hh
      obtain ⟨ad, dx, fs, n, rfl, ha, _⟩ := insAt_is S ry h2
      cases r2
      obtain ⟨i, rfl⟩ := isIntV_is rx h1
      exact opR_run ho cm cr hr hk2 ok oc I ha r1 (call_go (xs := [y, x]) ⟨o2, o1, True.intro⟩ S ⟨_, _, rfl, ry, _, _, rfl, rx, rfl⟩ go C8.E0)
    · exact go.elim
theorem se_opO {op : Operator} (ho : opNm op) {k j k2 : Nat} {c : Nat} {C : Ct} {fl fr : List PV → FR} (hC : g.C = C) (cm : C8.Met X.prog X.w X.K X.mg X.base k (C.ad c) (PySem.dunder op.info.2) (SpV C [false, false] fl) []) (cr : C8.Met X.prog X.w X.K X.mg X.base k2 (C.ad c) (dunderR op.info.2) (SpV C [false, false] fr) []) (hr : Room j X.A) (hk : k ≤ j) (hk2 : k2 ≤ j) (ok : Ok X g) (oc : OpK C c)
    (ha : PE X a (tE g da)) (hb : PE X b (tE g db)) : PE X (.BinOp a op b pos) (tE g (dOpO c fl fr da db)) := by
  subst hC
  refine ⟨fun pins s σ H Q I ⟨F, env, S, go⟩ => wpAny_BinOp (thn (peGo ha I S go) fun v s1 ⟨v', H1, I1, r1, F1, e1, x, x1, S1, o1, rv1, go1⟩ => ?_)⟩
  refine thn (peGo hb I1 S1 go1) fun u s2 ⟨u', H2, I2, r2, F2, e2, y, x2, S2, o2, rv2, go2⟩ => ?_
  exact op_k ho cm cr hr hk hk2 ok oc I2 S2 r1 r2 o1 o2 (rv1.later o1 x2) rv2 go2
end
end VL
set_option maxRecDepth 100000
set_option maxHeartbeats 2000000
namespace VL
open PySem PySem.Spec L2
open PyProof.Rows hiding St
section
variable {X : Cx} {g : Gm} {pins : List (Addr × Obj)} {F H : Hp} {σ : St} {env : Env'} {s : Shared} {a e : Expr} {da : Env' → Res Val} {pos : Pos}
/-- the call of a method found, of the object alone, in B -/
theorem call_one {k : Nat} {c : Nat} {nm : Str} {sp : Sp} (cm : C8.Met X.prog X.w X.K X.mg X.base k (g.C.ad c) nm sp []) {ad : Addr} {Q : VK} (I : Inv X pins σ H s) (B : Around) (hB : B.frames = X.A.frames) (rB : Room k B) (h : sp [.ref ad] H Q C8.E0) :
    ∃ f : Addr, PySem.W.findIn X.K (.ref (g.C.ad c)) nm = some (some (.ref f)) ∧ PySem.W.isFn X.K (.ref f) = true ∧ wpAny (model X.prog X.w) B (call (.ref f) [.ref ad]) (EP X pins σ Q) X.xe s := by
  obtain ⟨f, fd, ps, ds, cl, me, Fn, bi, d⟩ := cm.ex
  cases d
  refine ⟨f, me.at_, me.fn, ?_⟩
  have hl := Fn.len _ _ _ _ h
  have rr : Vals [V.ref ad] [Value.ref ad] := .cons rfl .nil
  have e0 : Env0 X.prog X.w X.K X.mg X.base B X.stack s H := by
    have e := I.env0
    exact ⟨by rw [hB]; exact e.frames, e.mod, e.bs, e.bsz, e.funs, e.frf, e.hok, e.bare⟩
  refine wpAny_call (codeAny_mono (Fn.run B X.stack s H ⟨[.ref ad], []⟩ [.ref ad] _ _ C8.E0 rB e0 (by
    have := bi s [.ref ad] I.kIn (by simpa using hl)
    simpa using this) rr h) fun r s' z => ?_)
  cases r with
  | error e => exact C8.pass0 (X := X) (E := C8.E0) pins σ H s e s' I z
  | ok fl =>
    cases fl with
    | ret w =>
      obtain ⟨v, H', I', rv, q⟩ := I.after z
      exact ⟨v, H', I', rv, q⟩
    | next => exact False.elim z
    | brk => exact False.elim z
    | cont => exact False.elim z
def dNegO (c : Nat) (fn : List PV → FR) (da : Env' → Res Val) : Env' → Res Val := fun e => (stl da e).bind fun x e1 => if insAt c 0 x e1 = true then callK [false] fn [x] e1 else .bad
theorem se_negO {k j : Nat} {c : Nat} {C : Ct} {fn : List PV → FR} (hC : g.C = C) (cm : C8.Met X.prog X.w X.K X.mg X.base k (C.ad c) "__neg__" (SpV C [false] fn) []) (hr : Room j X.A) (hk : k ≤ j) (ha : PE X a (tE g da)) : PE X (.UnaryOp .USub a pos) (tE g (dNegO c fn da)) := by
  subst hC
  refine ⟨fun pins s σ H Q I ⟨F, env, S, go⟩ => UnaryOp_ (thn (peGo ha I S go) fun v s1 ⟨v', H1, I1, r1, F1, e1, x, x1, S1, o1, rv1, go1⟩ => ?_)⟩
  have go1 : Go g F1 σ (if insAt c 0 x e1 = true then callK [false] fn [x] e1 else Res.bad) _ := go1
  split at go1
  · rename_i hh
    obtain ⟨ad, dx, fs, n, rfl, hx, _⟩ := insAt_is S1 rv1 hh
    cases r1
    obtain ⟨f, h1, h2, h3⟩ := call_one cm I1 X.A rfl (hr.mono hk) (call_go (xs := [x]) ⟨o1, True.intro⟩ S1 ⟨_, _, rfl, rv1, rfl⟩ go1 C8.E0)
    obtain ⟨mA, J, _⟩ := ins_get I1.hok hx
    obtain ⟨od, J, _⟩ := J.look
    obtain ⟨m, hF⟩ := I1.fr
    exact PySem.W.ksp_neg hF I1.ok.mod.kin J h1 h2 h3
  · exact go1.elim
def dCallU (c : Nat) (fn : List PV → FR) (ds : List (Env' → Res Val)) : Env' → Res Val := fun e => (dArgs ds e).bind fun xs e1 => match xs with
  | [x] => if insAt c 0 x e1 = true then callK [false] fn [x] e1 else .bad
  | _ => .bad
theorem abs_run {f x : Addr} {ox : Obj} {od : Option Obj} {C L : Addr} {h₀ : Heap} {m : Str → Option Value} {K : PySem.W.Frag} {prog : Program} {w : World} {A : Around} {E : Value → Shared → Prop} {Q : Value → Shared → Prop} (Fh : Fr h₀ L s.heap m) (X₀ : K.In h₀) (J : PySem.W.InstAt s.heap x ox C od) (h1 : PySem.W.findIn K (.ref C) "__abs__" = some (some (.ref f))) (h2 : PySem.W.isFn K (.ref f) = true)
    (h : wpAny (model prog w) A.in1 (call (.ref f) [.ref x]) Q E s) : wpAny (model prog w) A (call (.builtin "abs") [.ref x]) Q E s := by
  refine PySem.Calls.call_function_entry kind_abs plain_abs entry_abs (args_abs _) ?_
  unfold Builtin.«abs»
  refine wpAny_bind (m := oneArg "abs" ⟨[.ref x], []⟩) (wpAny_pure ?_)
  refine wpAny_bind (PySem.W.special_fn (X₀.keeps Fh.keep) J h1 (beq_iff_eq.mp h2) (wpAny_mono h (fun v s' hv => ?_) fun _ _ z => z))
  exact wpAny_pure ⟨_, rfl, hv⟩
def one1 (c : Nat) (fn : List PV → FR) (xs : List Val) (e1 : Env') : Res Val := match xs with
  | [x] => if insAt c 0 x e1 = true then callK [false] fn [x] e1 else .bad
  | _ => .bad
theorem dCallU_e {c : Nat} {fn : List PV → FR} {ds : List (Env' → Res Val)} {e : Env'} : dCallU c fn ds e = (dArgs ds e).bind (one1 c fn) := by
  unfold dCallU one1
  congr 1
theorem se_absO {k j : Nat} {c : Nat} {C : Ct} {fn : List PV → FR} {x : Str} {p : Pos} {ds : List (Env' → Res Val)} (hC : g.C = C) (cm : C8.Met X.prog X.w X.K X.mg X.base k (C.ad c) "__abs__" (SpV C [false] fn) []) (hr : Room j X.A) (hk : k + 1 ≤ j)
    (hg : Gl X x) (hm : X.mg x = none) (hv : bootBuiltins x = some (.builtin "abs")) (ha : PA X [e] (tAs g (dArgs ds))) (hn : x ≠ "__name__") (hdb : (x == ("__debug__" : Str)) = false)
    (he : starEach [e] X.env = (false, eval e X.env) :: starEach [] X.env) (hpl : (backTo pos (starEach [] X.env)).any (·.1) = false) : PE X (.Call (.Name x p) [e] [] pos) (tE g (dCallU c fn ds)) := by
  subst hC
  refine ⟨fun pins s σ H Q I ⟨F, env, S, go⟩ => ?_⟩
  rw [dCallU_e] at go
  refine wpAny_Call_Name_kw (ld_blt I hg hm hv ?_ hn hdb)
  refine PyProof.Rows.callWith_builtin1 (thn (paGo ha pos I S go) fun us s1 ⟨vs, H1, I1, r1, F1, e1, xs, x1, S1, o1, rv1, go1⟩ => ?_) he hpl
  unfold one1 at go1
  split at go1
  · rename_i y
    split at go1
    · rename_i hh
      obtain ⟨v, rest, rfl, ry, hrest⟩ := rv1
      cases rest with
      | cons _ _ => exact nomatch hrest
      | nil =>
      obtain ⟨ad, dx, fs, n, rfl, hx, _⟩ := insAt_is S1 ry hh
      obtain ⟨u, rfl, ru⟩ : ∃ u, us = [u] ∧ RelV (.ref ad) u := by
        cases r1 with
        | cons r q => cases q; exact ⟨_, rfl, r⟩
      cases ru
      obtain ⟨f, h1, h2, h3⟩ := call_one cm I1 X.A.in1 rfl (hr.mono hk).in1 (call_go (xs := [y]) ⟨o1.1, True.intro⟩ S1 ⟨_, _, rfl, ry, rfl⟩ go1 C8.E0)
      obtain ⟨mA, J, _⟩ := ins_get I1.hok hx
      obtain ⟨od, J, _⟩ := J.look
      obtain ⟨m, hF⟩ := I1.fr
      exact abs_run hF I1.ok.mod.kin J h1 h2 h3
    · exact go1.elim
  · exact go1.elim
/-- str(a): what the method tells must be a text -/
def txtK : Val → Env' → Res Val
  | .fz (.str t), e => .ok (.fz (.str t)) e
  | _, _ => .bad
def one1S (c : Nat) (fn : List PV → FR) (xs : List Val) (e1 : Env') : Res Val := (one1 c fn xs e1).bind txtK
def dStrO (c : Nat) (fn : List PV → FR) (ds : List (Env' → Res Val)) : Env' → Res Val := fun e => (dArgs ds e).bind (one1S c fn)
theorem se_strO {k j : Nat} {c : Nat} {C : Ct} {fn : List PV → FR} {x : Str} {p : Pos} {ds : List (Env' → Res Val)} (hC : g.C = C) (cm : C8.Met X.prog X.w X.K X.mg X.base k (C.ad c) "__str__" (SpV C [false] fn) []) (hr : Room j X.A) (hk : k + 2 ≤ j)
    (hg : Gl X x) (hm : X.mg x = none) (hv : bootBuiltins x = some (.type "str")) (ha : PA X [e] (tAs g (dArgs ds))) (hn : x ≠ "__name__") (hdb : (x == ("__debug__" : Str)) = false)
    (he : starEach [e] X.env = (false, eval e X.env) :: starEach [] X.env) (hpl : (backTo pos (starEach [] X.env)).any (·.1) = false) : PE X (.Call (.Name x p) [e] [] pos) (tE g (dStrO c fn ds)) := by
  subst hC
  refine ⟨fun pins s σ H Q I ⟨F, env, S, go⟩ => ?_⟩
  unfold dStrO at go
  refine wpAny_Call_Name_kw (ld_blt I hg hm hv ?_ hn hdb)
  refine PyProof.Rows.callWith_type1 (thn (paGo ha pos I S go) fun us s1 ⟨vs, H1, I1, r1, F1, e1, xs, x1, S1, o1, rv1, go1⟩ => ?_) he hpl
  replace go1 := Go.bind go1
  unfold one1 at go1
  split at go1
  · rename_i y
    split at go1
    · rename_i hh
      obtain ⟨v, rest, rfl, ry, hrest⟩ := rv1
      cases rest with
      | cons _ _ => exact nomatch hrest
      | nil =>
      obtain ⟨ad, dx, fs, n, rfl, hx, _⟩ := insAt_is S1 ry hh
      obtain ⟨u, rfl, ru⟩ : ∃ u, us = [u] ∧ RelV (.ref ad) u := by
        cases r1 with
        | cons r q => cases q; exact ⟨_, rfl, r⟩
      cases ru
      have two : Room k X.A.in1.in1 := ((hr.mono hk).in1).in1
      obtain ⟨f, h1, h2, h3⟩ := call_one cm I1 X.A.in1.in1 rfl two (Q := fun v H' => ∃ t, v = .str t ∧ Q (.str t) H') (call_go (xs := [y]) ⟨o1.1, True.intro⟩ S1 ⟨_, _, rfl, ry, rfl⟩ (go1.mono fun r e3 F3 H3 x3 S3 k3 z rz => by
        cases r with
        | bor i => exact k3.elim
        | new q => exact k3.elim
        | fz q =>
          cases q <;> try exact k3.elim
          rename_i t
          have hz : R g.C F3 (.str t) z := rz
          unfold R at hz
          exact ⟨t, hz, k3 F3 H3 (Ex.refl F3) S3 _ (by show R _ _ _ _; unfold R; rfl)⟩) C8.E0)
      obtain ⟨mA, J, _⟩ := ins_get I1.hok hx
      obtain ⟨od, J, _⟩ := J.look
      refine PySem.W.kso_call ?_ I1.kIn J h1 h2 (wpAny_mono h3 (fun v s' z => ?_) fun _ _ z => z)
      · have := two.un
        omega
      · obtain ⟨v', H', I', rv, t, rfl, q⟩ := z
        obtain ⟨tk, rfl⟩ := rv
        exact ⟨.str t, H', I', ⟨tk, rfl⟩, q⟩
    · exact go1.elim
  · exact go1.elim
end
end VL
set_option maxRecDepth 100000
set_option maxHeartbeats 2000000
namespace VL
open PySem PySem.Spec L2
open PyProof.Rows hiding St
def fmtK (x : Val) (e : Env') : Res Val := match x with
  | .fz (.str y) => if y.length ≤ sizeLine then .ok (.fz (.str y)) e else .bad
  | .fz (.int i) => if i.natAbs.log2 < 1920 then .ok (.fz (.str (toString i))) e else .bad
  | _ => .bad
def dFmt (d : Env' → Res Val) : Env' → Res Val := fun e => (d e).bind fmtK
def joinL : List (Env' → Res Val) → Str → Env' → Res Val
  | [], acc, e => .ok (.fz (.str acc)) e
  | d :: ds, acc, e => (d e).bind fun x e1 => match x with
    | .fz (.str y) => if (acc ++ y).length ≤ sizeLine then joinL ds (acc ++ y) e1 else .bad
    | _ => .bad
def dJoin (ds : List (Env' → Res Val)) : Env' → Res Val := joinL ds Str.empty
section
variable {X : Cx} {g : Gm} {F H : Hp} {σ : St} {env : Env'} {e : Expr} {d : Env' → Res Val} {pos : Pos}
theorem se_fmt (he : PE X e (tE g d)) : PE X (.FormattedValue e (-1) none pos) (tE g (dFmt d)) :=
  peImp (pe_fmt he) fun σ H Q ⟨F, env, S, go⟩ => by
    refine ⟨F, env, S, (Go.bind go).mono fun x e1 F1 H1 x1 S1 k v rv => ?_⟩
    unfold fmtK at k
    split at k
    · split at k
      · rename_i y hy
        have h : R g.C F1 (.str y) v := rv
        unfold R at h
        exact .inl ⟨y, h, hy, k F1 H1 (Ex.refl F1) S1 _ (by show R _ _ _ _; unfold R; rfl)⟩
      · exact k.elim
    · split at k
      · rename_i i hi
        have h : R g.C F1 (.int i) v := rv
        unfold R at h
        exact .inr ⟨i, h, hi, k F1 H1 (Ex.refl F1) S1 _ (by show R _ _ _ _; unfold R; rfl)⟩
      · exact k.elim
    · exact k.elim
theorem join_go {Q : VK} : ∀ (ds : List (Env' → Res Val)) (acc : Str) {F H : Hp} {env : Env'}, Stt g F H σ env → Go g F σ (joinL ds acc env) (fun x env' F' H' => ∀ v, RV g F' H' σ env' x v → Q v H') → tJs (ds.map (tE g)) acc σ H fun out H1 => Q (.str out) H1
  | [], acc, F, H, env, S, go => go F H (Ex.refl F) S _ (by show R _ _ _ _; unfold R; rfl)
  | d :: ds, acc, F, H, env, S, go => by
    refine ⟨F, env, S, (Go.bind go).mono fun x e1 F1 H1 x1 S1 k v rv => ?_⟩
    split at k
    · rename_i y
      split at k
      · rename_i hy
        have h : R g.C F1 (.str y) v := rv
        unfold R at h
        exact ⟨y, h, hy, join_go ds _ S1 k⟩
      · exact k.elim
    · exact k.elim
theorem se_join {v1 v2 : Expr} {rest : List Expr} {ds : List (Env' → Res Val)} (h : PJ X (v1 :: v2 :: rest) (ds.map (tE g))) : PE X (.JoinedStr (v1 :: v2 :: rest) pos) (tE g (dJoin ds)) :=
  peImp (pe_joined h) fun σ H Q ⟨F, env, S, go⟩ => join_go ds Str.empty S go
theorem pj_n : PJ X [] (([] : List (Env' → Res Val)).map (tE g)) := .nil
theorem pj_c {es : List Expr} {ds : List (Env' → Res Val)} (h : PE X e (tE g d)) (r : PJ X es (ds.map (tE g))) : PJ X (e :: es) ((d :: ds).map (tE g)) := .cons h r
end
end VL
set_option maxRecDepth 100000
set_option maxHeartbeats 2000000
namespace VL
open PySem PySem.Spec L2
open PyProof.Rows hiding St
section
variable {X : Cx} {g : Gm} {pins : List (Addr × Obj)} {F H : Hp} {σ : St} {env : Env'} {s : Shared} {a b : Expr} {da db : Env' → Res Val} {pos : Pos}
def dOpS (c : Nat) (fl : List PV → FR) (da db : Env' → Res Val) : Env' → Res Val := fun e => (stl da e).bind fun x e1 => (stl db e1).bind fun y e2 =>
  if insAt c 0 x e2 = true ∧ insAt c 0 y e2 = true then callK [false, false] fl [x, y] e2 else .bad
theorem se_opS {op : Operator} {nm : Str} {k j : Nat} {c : Nat} {C : Ct} {fl : List PV → FR} (hC : g.C = C) (cm : C8.Met X.prog X.w X.K X.mg X.base k (C.ad c) nm (SpV C [false, false] fl) []) (hn : nm = PySem.dunder op.info.2) (hr : Room j X.A) (hk : k ≤ j) (ok : Ok X g) (oc : OpK C c)
    (ha : PE X a (tE g da)) (hb : PE X b (tE g db)) : PE X (.BinOp a op b pos) (tE g (dOpS c fl da db)) := by
  subst hC
  subst hn
  refine ⟨fun pins s σ H Q I ⟨F, env, S, go⟩ => wpAny_BinOp (thn (peGo ha I S go) fun v s1 ⟨v', H1, I1, r1, F1, e1, x, x1, S1, o1, rv1, go1⟩ => ?_)⟩
  refine thn (peGo hb I1 S1 go1) fun u s2 ⟨u', H2, I2, r2, F2, e2, y, x2, S2, o2, rv2, go2⟩ => ?_
  have go2 : Go g F2 σ (if insAt c 0 x e2 = true ∧ insAt c 0 y e2 = true then callK [false, false] fl [x, y] e2 else Res.bad) _ := go2
  have rx : RV g F2 H2 σ e2 x v' := rv1.later o1 x2
  split at go2
  · rename_i hh
    obtain ⟨h1, h2⟩ := hh
    obtain ⟨ad, dx, fs, n, rfl, hx, _⟩ := insAt_is S2 rx h1
    obtain ⟨a2, d2, f2, n2, rfl, hx2, _⟩ := insAt_is S2 rv2 h2
    cases r1
    cases r2
    obtain ⟨f, h1, h2, h3⟩ := call_two cm hr hk I2 (show RelV (.ref a2) (.ref a2) from rfl) (call_go (xs := [x, y]) ⟨o1, o2, True.intro⟩ S2 ⟨_, _, rfl, rx, _, _, rfl, rv2, rfl⟩ go2 C8.E0)
    obtain ⟨mA, J, _⟩ := ins_get I2.hok hx
    obtain ⟨od, J, _⟩ := J.look
    obtain ⟨m, hF⟩ := I2.fr
    have oc1 := oc.first
    rw [ok.K] at oc1
    obtain ⟨mA2, J2, _⟩ := ins_get I2.hok hx2
    obtain ⟨od2, J2, _⟩ := J2.look
    exact PySem.W.binop_K hF I2.ok.mod.kin J J2.type oc1 h1 h2 h3
  · exact go2.elim
theorem se_opN {op : Operator} (ho : opNm op) {n1 n2 : Str} {k j k2 : Nat} {c : Nat} {C : Ct} {fl fr : List PV → FR} (hC : g.C = C) (cm : C8.Met X.prog X.w X.K X.mg X.base k (C.ad c) n1 (SpV C [false, false] fl) []) (cr : C8.Met X.prog X.w X.K X.mg X.base k2 (C.ad c) n2 (SpV C [false, false] fr) []) (h1 : n1 = PySem.dunder op.info.2) (h2 : n2 = dunderR op.info.2) (hr : Room j X.A) (hk : k ≤ j) (hk2 : k2 ≤ j) (ok : Ok X g) (oc : OpK C c)
    (ha : PE X a (tE g da)) (hb : PE X b (tE g db)) : PE X (.BinOp a op b pos) (tE g (dOpO c fl fr da db)) := by
  subst h1
  subst h2
  exact se_opO ho hC cm cr hr hk hk2 ok oc ha hb
end
def CDivN (_ j : Int) : Prop := j ≠ 0 ∧ j.natAbs.log2 < 9000
instance (i j : Int) : Decidable (CDivN i j) := by unfold CDivN; infer_instance
def semDivN : PV → PV → Option Val
  | .int i, .int j => if CDivN i j then some (.fz (.int (i.fdiv j))) else none
  | _, _ => none
section
variable {X : Cx} {g : Gm}
theorem op_fdivN : OpR X (binaryOp .FloorDiv) (rI CDivN fun i j => .int (i.fdiv j)) := opI fun i j _ _ _ _ _ hc q => floordiv_int hc.1 q (.inl (PyProof.noPylong_of_log2 hc.2))
theorem o_divN : Op2 X g (binaryOp .FloorDiv) semDivN := fun pins s σ F H env p q v u vv uu r Q I S r1 r2 t1 t2 e k => by
  unfold semDivN at e
  split at e
  · split at e
    · rename_i i j hc
      cases e
      cases Z0m t1
      cases Z0m t2
      exact op_fdivN pins s σ H _ _ vv uu Q I r1 r2 ⟨_, _, rfl, rfl, hc, fin_int S k⟩
    · cases e
  · cases e
end
end VL
set_option maxRecDepth 100000
set_option maxHeartbeats 4000000
namespace K35
open PySem PySem.Spec L2 VL
open PyProof.Rows hiding St
def top (i : Nat) : Stmt := PySem.Challenge.pw_leastjoined_k35_ratios.main.body.getD i (.Pass ⟨0, 0, 0, 0⟩)
def mth (i j : Nat) : Stmt := (C8.clsBody (top i)).getD j (.Pass ⟨0, 0, 0, 0⟩)
def lay : Nat → List Nat
  | 0 => [0, 1]
  | _ => [0, 1]
def nam : Nat → Str
  | 0 => "number"
  | 1 => "over"
  | _ => ""
theorem ok_c {X : Cx} {g g' : Gm} (ok : Ok X g) (h : g'.C = g.C) : Ok X g' := ⟨by rw [h]; exact ok.K, ok.u, ok.calm⟩
structure Fx (mg : Str → Option Value) : Prop where
  n_abs : mg "abs" = none
  n_all : mg "all" = none
  n_int : mg "int" = none
  n_isinstance : mg "isinstance" = none
  n_len : mg "len" = none
  n_list : mg "list" = none
  n_range : mg "range" = none
  n_str : mg "str" = none
structure Dx (K : PySem.W.Frag) (mg : Str → Option Value) (C : Ct) : Prop where
  hK : C.K = K
  d_law_pen_of : ∃ f fd, mg "_law_pen_of" = some (.ref f) ∧ FunD K "_law_pen_of" "_law_pen_of" (defArgs (top 8)) (defBody (top 8)) (defScope (top 8)) [] [] f fd
  d_law_draw : ∃ f fd, mg "_law_draw" = some (.ref f) ∧ FunD K "_law_draw" "_law_draw" (defArgs (top 9)) (defBody (top 9)) (defScope (top 9)) [] [] f fd
  d_law_pick : ∃ f fd, mg "_law_pick" = some (.ref f) ∧ FunD K "_law_pick" "_law_pick" (defArgs (top 10)) (defBody (top 10)) (defScope (top 10)) [] [] f fd
  d_law_number_of : ∃ f fd, mg "_law_number_of" = some (.ref f) ∧ FunD K "_law_number_of" "_law_number_of" (defArgs (top 11)) (defBody (top 11)) (defScope (top 11)) [] [] f fd
  d_divisor : ∃ f fd, mg "divisor" = some (.ref f) ∧ FunD K "divisor" "divisor" (defArgs (top 4)) (defBody (top 4)) (defScope (top 4)) [] [] f fd
  d_Ratio___init__ : ∃ f fd, Mk K (C.ad 0) f ∧ mg "Ratio" = some (.ref (C.ad 0)) ∧ FunD K "__init__" "Ratio.__init__" (defArgs (mth 5 0)) (defBody (mth 5 0)) (defScope (mth 5 0)) [.int 1] [] f fd
  d_law_lowest : ∃ f fd, mg "_law_lowest" = some (.ref f) ∧ FunD K "_law_lowest" "_law_lowest" (defArgs (top 12)) (defBody (top 12)) (defScope (top 12)) [] [] f fd
  d_law_is : ∃ f fd, mg "_law_is" = some (.ref f) ∧ FunD K "_law_is" "_law_is" (defArgs (top 13)) (defBody (top 13)) (defScope (top 13)) [] [] f fd
  d_as_ratio : ∃ f fd, mg "as_ratio" = some (.ref f) ∧ FunD K "as_ratio" "as_ratio" (defArgs (top 6)) (defBody (top 6)) (defScope (top 6)) [] [] f fd
  d_Ratio___add__ : ∃ f fd, Cls K (C.ad 0) ∧ Meth K (C.ad 0) "__add__" f ∧ FunD K "__add__" "Ratio.__add__" (defArgs (mth 5 2)) (defBody (mth 5 2)) (defScope (mth 5 2)) [] [] f fd
  d_Ratio___sub__ : ∃ f fd, Cls K (C.ad 0) ∧ Meth K (C.ad 0) "__sub__" f ∧ FunD K "__sub__" "Ratio.__sub__" (defArgs (mth 5 4)) (defBody (mth 5 4)) (defScope (mth 5 4)) [] [] f fd
  d_Ratio___mul__ : ∃ f fd, Cls K (C.ad 0) ∧ Meth K (C.ad 0) "__mul__" f ∧ FunD K "__mul__" "Ratio.__mul__" (defArgs (mth 5 6)) (defBody (mth 5 6)) (defScope (mth 5 6)) [] [] f fd
  d_Ratio___neg__ : ∃ f fd, Cls K (C.ad 0) ∧ Meth K (C.ad 0) "__neg__" f ∧ FunD K "__neg__" "Ratio.__neg__" (defArgs (mth 5 8)) (defBody (mth 5 8)) (defScope (mth 5 8)) [] [] f fd
  d_Ratio___abs__ : ∃ f fd, Cls K (C.ad 0) ∧ Meth K (C.ad 0) "__abs__" f ∧ FunD K "__abs__" "Ratio.__abs__" (defArgs (mth 5 9)) (defBody (mth 5 9)) (defScope (mth 5 9)) [] [] f fd
  d_Ratio___eq__ : ∃ f fd, Cls K (C.ad 0) ∧ Meth K (C.ad 0) "__eq__" f ∧ FunD K "__eq__" "Ratio.__eq__" (defArgs (mth 5 1)) (defBody (mth 5 1)) (defScope (mth 5 1)) [] [] f fd
  d_Ratio_is_less : ∃ f fd, Cls K (C.ad 0) ∧ Meth K (C.ad 0) "is_less" f ∧ FunD K "is_less" "Ratio.is_less" (defArgs (mth 5 11)) (defBody (mth 5 11)) (defScope (mth 5 11)) [] [] f fd
  d_Ratio_divided : ∃ f fd, Cls K (C.ad 0) ∧ Meth K (C.ad 0) "divided" f ∧ FunD K "divided" "Ratio.divided" (defArgs (mth 5 12)) (defBody (mth 5 12)) (defScope (mth 5 12)) [] [] f fd
  d_Ratio___radd__ : ∃ f fd, Cls K (C.ad 0) ∧ Meth K (C.ad 0) "__radd__" f ∧ FunD K "__radd__" "Ratio.__radd__" (defArgs (mth 5 3)) (defBody (mth 5 3)) (defScope (mth 5 3)) [] [] f fd
  d_Ratio___rsub__ : ∃ f fd, Cls K (C.ad 0) ∧ Meth K (C.ad 0) "__rsub__" f ∧ FunD K "__rsub__" "Ratio.__rsub__" (defArgs (mth 5 5)) (defBody (mth 5 5)) (defScope (mth 5 5)) [] [] f fd
  d_Ratio___rmul__ : ∃ f fd, Cls K (C.ad 0) ∧ Meth K (C.ad 0) "__rmul__" f ∧ FunD K "__rmul__" "Ratio.__rmul__" (defArgs (mth 5 7)) (defBody (mth 5 7)) (defScope (mth 5 7)) [] [] f fd
  d_Ratio___str__ : ∃ f fd, Cls K (C.ad 0) ∧ Meth K (C.ad 0) "__str__" f ∧ FunD K "__str__" "Ratio.__str__" (defArgs (mth 5 10)) (defBody (mth 5 10)) (defScope (mth 5 10)) [] [] f fd
  d_law_bad : ∃ f fd, mg "_law_bad" = some (.ref f) ∧ FunD K "_law_bad" "_law_bad" (defArgs (top 14)) (defBody (top 14)) (defScope (top 14)) [] [] f fd
  m_Ratio : mg "Ratio" = some (.ref (C.ad 0))
  o_Ratio : OwnC C 1 0
  k_Ratio : OpK C 0
  ne_Ratio : PySem.W.findIn K (.ref (C.ad 0)) "__ne__" = some (some (.builtin "object.__ne__"))
structure Lx (K : PySem.W.Frag) (mg : Str → Option Value) (base : Heap) (C : Ct) : Prop where
  l_law_pair : ∃ f fd c, mg "_law_pair" = some (.ref f) ∧ FunD K "_law_pair" "_law_pair" (defArgs (top 15)) (defBody (top 15)) (defScope (top 15)) [] [] f fd ∧ fd.code = .ref c ∧ LamF base mg C "_law_pair" c
  l_law_whole : ∃ f fd c, mg "_law_whole" = some (.ref f) ∧ FunD K "_law_whole" "_law_whole" (defArgs (top 16)) (defBody (top 16)) (defScope (top 16)) [] [] f fd ∧ fd.code = .ref c ∧ LamF base mg C "_law_whole" c
  l_law : ∃ f fd c, mg "law" = some (.ref f) ∧ FunD K "law" "law" (defArgs (top 17)) (defBody (top 17)) (defScope (top 17)) [] [] f fd ∧ fd.code = .ref c ∧ LamF base mg C "law" c
  one : True
def eLay : Nat → List Nat
  | 0 => []
  | 1 => []
  | _ => []
def exT : List (List Bool) := [[true, true], [false, true]]
def ansX : Nat → Nat → Option Bool := fun c n => (exT[c]?).bind fun r => r[n]?
structure Ek (P : Program) (w : World) (K : PySem.W.Frag) (mg : Str → Option Value) (base : Heap) (C : Ct) : Prop where
  n_JoinsError : mg "JoinsError" = some (.ref (C.ea 0))
  e_BadOver : EMk P w K mg base "BadOver" (C.ea 1) (C.el 1)
  l_BadOver : (C.el 1).length = 0
  n_BadOver : mg "BadOver" = some (.ref (C.ea 1))
  isi : mg "isinstance" = none
  co : ∀ c, ErrC C c
  eL : C.eL = eLay
  ans : AnsF K C ansX
def N_law_bad : List Str := ["_law_call", "_law_told", "e"]
theorem nd_law_bad : N_law_bad.Nodup := by decide
theorem sg_law_bad : FnScope N_law_bad ["_law_call"] (defScope (top 14)) := C8.fnScope_by (by decide +kernel)
def cl_law_bad : List ClE := [⟨1, 2, [.isi (ansX 0) 0]⟩]
theorem oi_law_bad : ∀ l ∈ cl_law_bad, itsOk ansX l.its := by
  intro l hl
  simp only [cl_law_bad, List.mem_cons, List.not_mem_nil, or_false] at hl
  rcases hl with rfl <;> simp [itsOk]
def hs_law_bad : List ExceptHandler := (match defBody (top 14) with | [_, .Try _ hs _ _ _, _] => hs | [.Try _ hs _ _ _, _] => hs | _ => [])
theorem hcl_law_bad {P : Program} {w : World} {K : PySem.W.Frag} {mg : Str → Option Value} {base : Heap} {C : Ct} (cf : CF C lay nam) (ek : Ek P w K mg base C) {gf : Addr} {cdv : Value} {A : Around} {outer : List Env} {s : Shared} {H : Hp} : ClaOk (cxOf C8.CX0 P w K mg base N_law_bad "_law_bad" (defScope (top 14)) gf cdv A outer s H C8.E0).nox hs_law_bad (clasB K C (cl_law_bad.map (ClE.cs ansX C (some 1)))) :=
  (ClaOk.cons (l := ⟨.ref (C.ea 1), 2, tsOfB K C (ClE.d ansX (some 1) ⟨1, 2, [.isi (ansX 0) 0]⟩)⟩) ⟨rfl, by decide, .inl ek.n_BadOver⟩ rfl rfl (cla_setB (y := 1) rfl rfl nd_law_bad rfl rfl rfl (fun a oe D d pn su => (itD_isi su rfl rfl (by decide) (by decide) rfl ek.isi rfl ek.n_JoinsError (by decide) rfl rfl rfl)))
    ClaOk.nil)
def N_law_pen_of : List Str := ["_law_script"]
def d_law_pen_of : Env' → Res Fl := (dRet (dDisp [((fun e => .ok (.fz (.str "cells")) e), (dCall semList [(dSl (dVar 0) none (some (fun e => .ok (.fz (.int 63)) e)))])), ((fun e => .ok (.fz (.str "next")) e), (fun e => .ok (.fz (.int 0)) e)), ((fun e => .ok (.fz (.str "left")) e), (fun e => .ok (.fz (.int 0)) e))] [] []))
def F_law_pen_of : List PV → FR := callFn 1 [false] d_law_pen_of
theorem fn_law_pen_of {P : Program} {w : World} {K : PySem.W.Frag} {mg : Str → Option Value} {base : Heap} {C : Ct} (fx : Fx mg) (dx : Dx K mg C) (cf : CF C lay nam) (lx : Lx K mg base C) (ek : Ek P w K mg base C) {f : Addr} {fd : FuncData} (Fd : FunD K "_law_pen_of" "_law_pen_of" (defArgs (top 8)) (defBody (top 8)) (defScope (top 8)) [] [] f fd) : FnOk P w K mg base C8.CX0 1 f fd ["_law_script"] (SpV C [false] F_law_pen_of) :=
  fnV (N := N_law_pen_of) (k := 0) Fd (C8.fnScope_by (by decide +kernel)) rfl (by decide) dx.hK fun cdv A outer s H E g hC hr ok =>
    (Z0i (Z0j (se_disp (prs := [((fun e => .ok (.fz (.str "cells")) e), (dCall semList [(dSl (dVar 0) none (some (fun e => .ok (.fz (.int 63)) e)))])), ((fun e => .ok (.fz (.str "next")) e), (fun e => .ok (.fz (.int 0)) e)), ((fun e => .ok (.fz (.str "left")) e), (fun e => .ok (.fz (.int 0)) e))]) (spp_cons (fun g1 h1 => have ok1 := ok_c ok h1; se_str) (fun g1 h1 => have ok1 := ok_c ok h1; (se_callTy (c_list ok1) rfl fx.n_list boot_list (Z0b (se_slice ok1 (Z0a (i := 0) (by rfl) ((by first | exact .inl rfl | exact .inr (.inl rfl) | exact .inr (.inr rfl))) (by decide) (by decide)) spo_none (spo_some Z0f)) Z0c rfl) (by decide) (by decide) rfl rfl)) (spp_cons (fun g1 h1 => have ok1 := ok_c ok h1; se_str) (fun g1 h1 => have ok1 := ok_c ok h1; Z0f) (spp_cons (fun g1 h1 => have ok1 := ok_c ok h1; se_str) (fun g1 h1 => have ok1 := ok_c ok h1; Z0f) pps_nil))) rfl rfl (by simp) (by decide) (by decide))))
theorem cal_law_pen_of {P : Program} {w : World} {K : PySem.W.Frag} {mg : Str → Option Value} {base : Heap} {C : Ct} (fx : Fx mg) (dx : Dx K mg C) (cf : CF C lay nam) (lx : Lx K mg base C) (ek : Ek P w K mg base C) : C8.Cal P w K mg base 1 "_law_pen_of" (SpV C [false] F_law_pen_of) [] := by
  obtain ⟨f, fd, hm, Fd⟩ := dx.d_law_pen_of
  exact ⟨f, fd, ["_law_script"], [], fn_law_pen_of fx dx cf lx ek Fd, hm, Fd.kp, (Fd.bindsN (ps := ["_law_script"]) fun _ _ _ _ _ _ us hl => match us, hl with | [_], _ => rfl), .nil⟩
def N_law_draw : List Str := ["_law_pen", "_law_many", "_law_digit", "_law_index", "_law_size", "_law_cell", "_law_mixed"]
theorem nd_law_draw : N_law_draw.Nodup := by decide
def d_law_draw : Env' → Res Fl := (dSeq (dIfS (asB (dBin semGt (dBin semIx (dVar 0) (fun e => .ok (.fz (.str "left")) e)) (fun e => .ok (.fz (.int 0)) e))) (dSeq (dSet 2 (dBin semMod (dCall semInt [(dBin semIx (dVar 0) (fun e => .ok (.fz (.str "left")) e))]) (dVar 1))) (dSeq (dPut 0 (fun e => .ok (.fz (.str "left")) e) (dBin semDiv (dBin semIx (dVar 0) (fun e => .ok (.fz (.str "left")) e)) (dVar 1))) (dRet (dVar 2)))) (fun e => .ok .nx e)) (dSeq (dPar [3, 4] [(dBin semIx (dVar 0) (fun e => .ok (.fz (.str "next")) e)), (dCall semLen [(dBin semIx (dVar 0) (fun e => .ok (.fz (.str "cells")) e))])]) (dSeq (dPut 0 (fun e => .ok (.fz (.str "next")) e) (dBin semAdd (dVar 3) (fun e => .ok (.fz (.int 1)) e))) (dSeq (dIfS (asB (dBin semEq (dVar 4) (fun e => .ok (.fz (.int 0)) e))) (dRet (dBin semMod (dCall semInt [(dBin semAdd (dBin semMul (fun e => .ok (.fz (.int 7)) e) (dVar 3)) (fun e => .ok (.fz (.int 3)) e))]) (dVar 1))) (fun e => .ok .nx e)) (dSeq (dSet 5 (dBin semIx (dBin semIx (dVar 0) (fun e => .ok (.fz (.str "cells")) e)) (dBin semMod (dCall semInt [(dVar 3)]) (dVar 4)))) (dSeq (dIfS (dAndT (asB (dBin semLt (dVar 3) (dVar 4))) (asB (dBin semGe (dCall semAbs [(dVar 5)]) (dBin semPow (fun e => .ok (.fz (.int 10)) e) (fun e => .ok (.fz (.int 18)) e))))) (dSeq (dPut 0 (fun e => .ok (.fz (.str "left")) e) (dBin semDiv (dBin semSub (dCall semAbs [(dVar 5)]) (dBin semPow (fun e => .ok (.fz (.int 10)) e) (fun e => .ok (.fz (.int 18)) e))) (dVar 1))) (dRet (dBin semMod (dCall semInt [(dBin semSub (dCall semAbs [(dVar 5)]) (dBin semPow (fun e => .ok (.fz (.int 10)) e) (fun e => .ok (.fz (.int 18)) e)))]) (dVar 1)))) (fun e => .ok .nx e)) (dSeq (dSet 6 (dBin semAdd (dBin semMul (dBin semMod (dCall semInt [(dVar 5)]) (fun e => .ok (.fz (.int 4294967197)) e)) (fun e => .ok (.fz (.int 52711)) e)) (dBin semMul (dBin semMul (fun e => .ok (.fz (.int 20353)) e) (dVar 3)) (dVar 3)))) (dSeq (dSet 6 (dBin semMod (dCall semInt [(dBin semAdd (dBin semAdd (dVar 6) (dBin semMul (fun e => .ok (.fz (.int 1531)) e) (dVar 3))) (fun e => .ok (.fz (.int 11)) e))]) (fun e => .ok (.fz (.int 4294967189)) e))) (dSeq (dSet 6 (dBin semMod (dCall semInt [(dBin semAdd (dBin semAdd (dBin semAdd (dBin semMul (dVar 6) (dVar 6)) (dBin semMul (fun e => .ok (.fz (.int 68903)) e) (dVar 6))) (dBin semMul (fun e => .ok (.fz (.int 23)) e) (dVar 3))) (fun e => .ok (.fz (.int 7)) e))]) (fun e => .ok (.fz (.int 4294967161)) e))) (dRet (dBin semMod (dCall semInt [(dBin semDiv (dBin semMod (dCall semInt [(dBin semMul (dVar 6) (dBin semAdd (dVar 6) (fun e => .ok (.fz (.int 57037)) e)))]) (fun e => .ok (.fz (.int 4294967143)) e)) (fun e => .ok (.fz (.int 64)) e))]) (dVar 1))))))))))))
def F_law_draw : List PV → FR := callFn 7 [true, false] d_law_draw
theorem fn_law_draw {P : Program} {w : World} {K : PySem.W.Frag} {mg : Str → Option Value} {base : Heap} {C : Ct} (fx : Fx mg) (dx : Dx K mg C) (cf : CF C lay nam) (lx : Lx K mg base C) (ek : Ek P w K mg base C) {f : Addr} {fd : FuncData} (Fd : FunD K "_law_draw" "_law_draw" (defArgs (top 9)) (defBody (top 9)) (defScope (top 9)) [] [] f fd) : FnOk P w K mg base C8.CX0 1 f fd ["_law_pen", "_law_many"] (SpV C [true, false] F_law_draw) :=
  fnV (N := N_law_draw) (k := 0) Fd (C8.fnScope_by (by decide +kernel)) rfl (by decide) dx.hK fun cdv A outer s H E g hC hr ok =>
    (Z0g (ss_if (st_cmp (se_ix (o_ix ok) (Z0a (i := 0) (by rfl) ((by first | exact .inl rfl | exact .inr (.inl rfl) | exact .inr (.inr rfl))) (by decide) (by decide)) se_str (fun _ _ => rfl)) Z0f o_gt rfl) (Z0g (ss_set (i := 2) nd_law_draw rfl ((by first | exact .inl rfl | exact .inr rfl)) (Z0d (se_callTy (c_int) rfl fx.n_int boot_int (Z0b (se_ix (o_ix ok) (Z0a (i := 0) (by rfl) ((by first | exact .inl rfl | exact .inr (.inl rfl) | exact .inr (.inr rfl))) (by decide) (by decide)) se_str (fun _ _ => rfl)) Z0c rfl) (by decide) (by decide) rfl rfl) (Z0a (i := 1) (by rfl) ((by first | exact .inl rfl | exact .inr (.inl rfl) | exact .inr (.inr rfl))) (by decide) (by decide)) o_mod) rfl ((by first | exact .inr rfl | exact .inl rfl)))
    (Z0g (ss_put (i := 0) ok (pe_var (i := 0) (by rfl) ((by first | exact .inl rfl | exact .inr (.inl rfl) | exact .inr (.inr rfl))) (by decide) (by decide)) se_str (Z0d (se_ix (o_ix ok) (Z0a (i := 0) (by rfl) ((by first | exact .inl rfl | exact .inr (.inl rfl) | exact .inr (.inr rfl))) (by decide) (by decide)) se_str (fun _ _ => rfl)) (Z0a (i := 1) (by rfl) ((by first | exact .inl rfl | exact .inr (.inl rfl) | exact .inr (.inr rfl))) (by decide) (by decide)) o_div) rfl rfl rfl (fun _ => rfl))
    (Z0i (Z0j (Z0a (i := 2) (by rfl) ((by first | exact .inl rfl | exact .inr (.inl rfl) | exact .inr (.inr rfl))) (by decide) (by decide)))))) ss_nil)
    (Z0g (ss_par (i := 3) (j := 4) ok nd_law_draw rfl rfl (by decide) rfl rfl (sax_cons (fun g1 h1 => have ok1 := ok_c ok h1; (se_ix (o_ix ok1) (Z0a (i := 0) (by rfl) ((by first | exact .inl rfl | exact .inr (.inl rfl) | exact .inr (.inr rfl))) (by decide) (by decide)) se_str (fun _ _ => rfl))) (sax_cons (fun g1 h1 => have ok1 := ok_c ok h1; (se_callB (c_len ok1) rfl fx.n_len boot_len (Z0b (se_ix (o_ix ok1) (Z0a (i := 0) (by rfl) ((by first | exact .inl rfl | exact .inr (.inl rfl) | exact .inr (.inr rfl))) (by decide) (by decide)) se_str (fun _ _ => rfl)) Z0c rfl) (by decide) (by decide) rfl rfl)) sax_nil rfl) rfl) rfl rfl)
    (Z0g (ss_put (i := 0) ok (pe_var (i := 0) (by rfl) ((by first | exact .inl rfl | exact .inr (.inl rfl) | exact .inr (.inr rfl))) (by decide) (by decide)) se_str (Z0d (Z0a (i := 3) (by rfl) ((by first | exact .inl rfl | exact .inr (.inl rfl) | exact .inr (.inr rfl))) (by decide) (by decide)) Z0f o_add) rfl rfl rfl (fun _ => rfl))
    (Z0g (ss_if (st_cmp (Z0a (i := 4) (by rfl) ((by first | exact .inl rfl | exact .inr (.inl rfl) | exact .inr (.inr rfl))) (by decide) (by decide)) Z0f (o_eq ok) rfl) (Z0i (Z0j (Z0d (se_callTy (c_int) rfl fx.n_int boot_int (Z0b (Z0d (Z0d Z0f (Z0a (i := 3) (by rfl) ((by first | exact .inl rfl | exact .inr (.inl rfl) | exact .inr (.inr rfl))) (by decide) (by decide)) Z0l) Z0f o_add) Z0c rfl) (by decide) (by decide) rfl rfl) (Z0a (i := 1) (by rfl) ((by first | exact .inl rfl | exact .inr (.inl rfl) | exact .inr (.inr rfl))) (by decide) (by decide)) o_mod))) ss_nil)
    (Z0g (ss_set (i := 5) nd_law_draw rfl ((by first | exact .inl rfl | exact .inr rfl)) (se_ix (o_ix ok) (se_ix (o_ix ok) (Z0a (i := 0) (by rfl) ((by first | exact .inl rfl | exact .inr (.inl rfl) | exact .inr (.inr rfl))) (by decide) (by decide)) se_str (fun _ _ => rfl)) (Z0d (se_callTy (c_int) rfl fx.n_int boot_int (Z0b (Z0a (i := 3) (by rfl) ((by first | exact .inl rfl | exact .inr (.inl rfl) | exact .inr (.inr rfl))) (by decide) (by decide)) Z0c rfl) (by decide) (by decide) rfl rfl) (Z0a (i := 4) (by rfl) ((by first | exact .inl rfl | exact .inr (.inl rfl) | exact .inr (.inr rfl))) (by decide) (by decide)) o_mod) (fun _ _ => rfl)) rfl ((by first | exact .inr rfl | exact .inl rfl)))
    (Z0g (ss_if (PW.pt (sw_and (st_cmp (Z0a (i := 3) (by rfl) ((by first | exact .inl rfl | exact .inr (.inl rfl) | exact .inr (.inr rfl))) (by decide) (by decide)) (Z0a (i := 4) (by rfl) ((by first | exact .inl rfl | exact .inr (.inl rfl) | exact .inr (.inr rfl))) (by decide) (by decide)) o_lt rfl) (sw_and1 (st_cmp (se_callB (c_abs) rfl fx.n_abs boot_abs (Z0b (Z0a (i := 5) (by rfl) ((by first | exact .inl rfl | exact .inr (.inl rfl) | exact .inr (.inr rfl))) (by decide) (by decide)) Z0c rfl) (by decide) (by decide) rfl rfl) (Z0d Z0f Z0f o_pow) o_ge rfl)))) (Z0g (ss_put (i := 0) ok (pe_var (i := 0) (by rfl) ((by first | exact .inl rfl | exact .inr (.inl rfl) | exact .inr (.inr rfl))) (by decide) (by decide)) se_str (Z0d (Z0d (se_callB (c_abs) rfl fx.n_abs boot_abs (Z0b (Z0a (i := 5) (by rfl) ((by first | exact .inl rfl | exact .inr (.inl rfl) | exact .inr (.inr rfl))) (by decide) (by decide)) Z0c rfl) (by decide) (by decide) rfl rfl) (Z0d Z0f Z0f o_pow) o_sub) (Z0a (i := 1) (by rfl) ((by first | exact .inl rfl | exact .inr (.inl rfl) | exact .inr (.inr rfl))) (by decide) (by decide)) o_div) rfl rfl rfl (fun _ => rfl))
    (Z0i (Z0j (Z0d (se_callTy (c_int) rfl fx.n_int boot_int (Z0b (Z0d (se_callB (c_abs) rfl fx.n_abs boot_abs (Z0b (Z0a (i := 5) (by rfl) ((by first | exact .inl rfl | exact .inr (.inl rfl) | exact .inr (.inr rfl))) (by decide) (by decide)) Z0c rfl) (by decide) (by decide) rfl rfl) (Z0d Z0f Z0f o_pow) o_sub) Z0c rfl) (by decide) (by decide) rfl rfl) (Z0a (i := 1) (by rfl) ((by first | exact .inl rfl | exact .inr (.inl rfl) | exact .inr (.inr rfl))) (by decide) (by decide)) o_mod)))) ss_nil)
    (Z0g (ss_set (i := 6) nd_law_draw rfl ((by first | exact .inl rfl | exact .inr rfl)) (Z0d (Z0d (Z0d (se_callTy (c_int) rfl fx.n_int boot_int (Z0b (Z0a (i := 5) (by rfl) ((by first | exact .inl rfl | exact .inr (.inl rfl) | exact .inr (.inr rfl))) (by decide) (by decide)) Z0c rfl) (by decide) (by decide) rfl rfl) Z0f o_mod) Z0f Z0l) (Z0d (Z0d Z0f (Z0a (i := 3) (by rfl) ((by first | exact .inl rfl | exact .inr (.inl rfl) | exact .inr (.inr rfl))) (by decide) (by decide)) Z0l) (Z0a (i := 3) (by rfl) ((by first | exact .inl rfl | exact .inr (.inl rfl) | exact .inr (.inr rfl))) (by decide) (by decide)) Z0l) o_add) rfl ((by first | exact .inr rfl | exact .inl rfl)))
    (Z0g (ss_set (i := 6) nd_law_draw rfl ((by first | exact .inl rfl | exact .inr rfl)) (Z0d (se_callTy (c_int) rfl fx.n_int boot_int (Z0b (Z0d (Z0d (Z0a (i := 6) (by rfl) ((by first | exact .inl rfl | exact .inr (.inl rfl) | exact .inr (.inr rfl))) (by decide) (by decide)) (Z0d Z0f (Z0a (i := 3) (by rfl) ((by first | exact .inl rfl | exact .inr (.inl rfl) | exact .inr (.inr rfl))) (by decide) (by decide)) Z0l) o_add) Z0f o_add) Z0c rfl) (by decide) (by decide) rfl rfl) Z0f o_mod) rfl ((by first | exact .inr rfl | exact .inl rfl)))
    (Z0g (ss_set (i := 6) nd_law_draw rfl ((by first | exact .inl rfl | exact .inr rfl)) (Z0d (se_callTy (c_int) rfl fx.n_int boot_int (Z0b (Z0d (Z0d (Z0d (Z0d (Z0a (i := 6) (by rfl) ((by first | exact .inl rfl | exact .inr (.inl rfl) | exact .inr (.inr rfl))) (by decide) (by decide)) (Z0a (i := 6) (by rfl) ((by first | exact .inl rfl | exact .inr (.inl rfl) | exact .inr (.inr rfl))) (by decide) (by decide)) Z0l) (Z0d Z0f (Z0a (i := 6) (by rfl) ((by first | exact .inl rfl | exact .inr (.inl rfl) | exact .inr (.inr rfl))) (by decide) (by decide)) Z0l) o_add) (Z0d Z0f (Z0a (i := 3) (by rfl) ((by first | exact .inl rfl | exact .inr (.inl rfl) | exact .inr (.inr rfl))) (by decide) (by decide)) Z0l) o_add) Z0f o_add) Z0c rfl) (by decide) (by decide) rfl rfl) Z0f o_mod) rfl ((by first | exact .inr rfl | exact .inl rfl)))
    (Z0i (Z0j (Z0d (se_callTy (c_int) rfl fx.n_int boot_int (Z0b (Z0d (Z0d (se_callTy (c_int) rfl fx.n_int boot_int (Z0b (Z0d (Z0a (i := 6) (by rfl) ((by first | exact .inl rfl | exact .inr (.inl rfl) | exact .inr (.inr rfl))) (by decide) (by decide)) (Z0d (Z0a (i := 6) (by rfl) ((by first | exact .inl rfl | exact .inr (.inl rfl) | exact .inr (.inr rfl))) (by decide) (by decide)) Z0f o_add) Z0l) Z0c rfl) (by decide) (by decide) rfl rfl) Z0f o_mod) Z0f o_div) Z0c rfl) (by decide) (by decide) rfl rfl) (Z0a (i := 1) (by rfl) ((by first | exact .inl rfl | exact .inr (.inl rfl) | exact .inr (.inr rfl))) (by decide) (by decide)) o_mod))))))))))))
theorem cal_law_draw {P : Program} {w : World} {K : PySem.W.Frag} {mg : Str → Option Value} {base : Heap} {C : Ct} (fx : Fx mg) (dx : Dx K mg C) (cf : CF C lay nam) (lx : Lx K mg base C) (ek : Ek P w K mg base C) : C8.Cal P w K mg base 1 "_law_draw" (SpV C [true, false] F_law_draw) [] := by
  obtain ⟨f, fd, hm, Fd⟩ := dx.d_law_draw
  exact ⟨f, fd, ["_law_pen", "_law_many"], [], fn_law_draw fx dx cf lx ek Fd, hm, Fd.kp, (Fd.bindsN (ps := ["_law_pen", "_law_many"]) fun _ _ _ _ _ _ us hl => match us, hl with | [_, _], _ => rfl), .nil⟩
def N_law_pick : List Str := ["_law_pen", "_law_items"]
def d_law_pick : Env' → Res Fl := (dRet (dBin semIx (dVar 1) (dFn [true, false] F_law_draw [] [(dVar 0), (dCall semLen [(dVar 1)])])))
def F_law_pick : List PV → FR := callFn 2 [true, false] d_law_pick
theorem fn_law_pick {P : Program} {w : World} {K : PySem.W.Frag} {mg : Str → Option Value} {base : Heap} {C : Ct} (fx : Fx mg) (dx : Dx K mg C) (cf : CF C lay nam) (lx : Lx K mg base C) (ek : Ek P w K mg base C) {f : Addr} {fd : FuncData} (Fd : FunD K "_law_pick" "_law_pick" (defArgs (top 10)) (defBody (top 10)) (defScope (top 10)) [] [] f fd) : FnOk P w K mg base C8.CX0 2 f fd ["_law_pen", "_law_items"] (SpV C [true, false] F_law_pick) :=
  fnV (N := N_law_pick) (k := 1) Fd (C8.fnScope_by (by decide +kernel)) rfl (by decide) dx.hK fun cdv A outer s H E g hC hr ok =>
    (Z0i (Z0j (se_ix (o_ix ok) (Z0a (i := 1) (by rfl) ((by first | exact .inl rfl | exact .inr (.inl rfl) | exact .inr (.inr rfl))) (by decide) (by decide)) (Z0k hC (cal_law_draw fx dx cf lx ek) hr (by decide) rfl Z0e (Z0b (Z0a (i := 0) (by rfl) ((by first | exact .inl rfl | exact .inr (.inl rfl) | exact .inr (.inr rfl))) (by decide) (by decide)) (Z0b (se_callB (c_len ok) rfl fx.n_len boot_len (Z0b (Z0a (i := 1) (by rfl) ((by first | exact .inl rfl | exact .inr (.inl rfl) | exact .inr (.inr rfl))) (by decide) (by decide)) Z0c rfl) (by decide) (by decide) rfl rfl) Z0c rfl) rfl) (by decide) rfl rfl) (fun _ _ => rfl))))
theorem cal_law_pick {P : Program} {w : World} {K : PySem.W.Frag} {mg : Str → Option Value} {base : Heap} {C : Ct} (fx : Fx mg) (dx : Dx K mg C) (cf : CF C lay nam) (lx : Lx K mg base C) (ek : Ek P w K mg base C) : C8.Cal P w K mg base 2 "_law_pick" (SpV C [true, false] F_law_pick) [] := by
  obtain ⟨f, fd, hm, Fd⟩ := dx.d_law_pick
  exact ⟨f, fd, ["_law_pen", "_law_items"], [], fn_law_pick fx dx cf lx ek Fd, hm, Fd.kp, (Fd.bindsN (ps := ["_law_pen", "_law_items"]) fun _ _ _ _ _ _ us hl => match us, hl with | [_, _], _ => rfl), .nil⟩
def N_law_number_of : List Str := ["_law_pen", "_law_menu", "_law_found"]
theorem nd_law_number_of : N_law_number_of.Nodup := by decide
def d_law_number_of : Env' → Res Fl := (dSeq (dSet 1 (dLst [(dFn [true, false] F_law_draw [] [(dVar 0), (fun e => .ok (.fz (.int 7)) e)]), (dBin semAdd (dBin semMul (dFn [true, false] F_law_draw [] [(dVar 0), (fun e => .ok (.fz (.int 1000)) e)]) (dBin semPow (fun e => .ok (.fz (.int 10)) e) (fun e => .ok (.fz (.int 37)) e))) (fun e => .ok (.fz (.int 1)) e)), (fun e => .ok (.fz (.int 0)) e), (dBin semMul (dFn [true, false] F_law_draw [] [(dVar 0), (fun e => .ok (.fz (.int 50)) e)]) (dBin semPow (fun e => .ok (.fz (.int 10)) e) (fun e => .ok (.fz (.int 20)) e)))])) (dSeq (dSet 2 (dFn [true, false] F_law_pick [] [(dVar 0), (dVar 1)])) (dRet (dIf (asB (dBin semEq (dFn [true, false] F_law_draw [] [(dVar 0), (fun e => .ok (.fz (.int 2)) e)]) (fun e => .ok (.fz (.int 0)) e))) (dUn semNeg (dVar 2)) (dVar 2)))))
def F_law_number_of : List PV → FR := callFn 3 [true] d_law_number_of
theorem fn_law_number_of {P : Program} {w : World} {K : PySem.W.Frag} {mg : Str → Option Value} {base : Heap} {C : Ct} (fx : Fx mg) (dx : Dx K mg C) (cf : CF C lay nam) (lx : Lx K mg base C) (ek : Ek P w K mg base C) {f : Addr} {fd : FuncData} (Fd : FunD K "_law_number_of" "_law_number_of" (defArgs (top 11)) (defBody (top 11)) (defScope (top 11)) [] [] f fd) : FnOk P w K mg base C8.CX0 3 f fd ["_law_pen"] (SpV C [true] F_law_number_of) :=
  fnV (N := N_law_number_of) (k := 2) Fd (C8.fnScope_by (by decide +kernel)) rfl (by decide) dx.hK fun cdv A outer s H E g hC hr ok =>
    (Z0g (ss_set (i := 1) nd_law_number_of rfl ((by first | exact .inl rfl | exact .inr rfl)) (se_lst (Z0b (Z0k hC (cal_law_draw fx dx cf lx ek) hr (by decide) rfl Z0e (Z0b (Z0a (i := 0) (by rfl) ((by first | exact .inl rfl | exact .inr (.inl rfl) | exact .inr (.inr rfl))) (by decide) (by decide)) (Z0b Z0f Z0c rfl) rfl) (by decide) rfl rfl) (Z0b (Z0d (Z0d (Z0k hC (cal_law_draw fx dx cf lx ek) hr (by decide) rfl Z0e (Z0b (Z0a (i := 0) (by rfl) ((by first | exact .inl rfl | exact .inr (.inl rfl) | exact .inr (.inr rfl))) (by decide) (by decide)) (Z0b Z0f Z0c rfl) rfl) (by decide) rfl rfl) (Z0d Z0f Z0f o_pow) Z0l) Z0f o_add) (Z0b Z0f (Z0b (Z0d (Z0k hC (cal_law_draw fx dx cf lx ek) hr (by decide) rfl Z0e (Z0b (Z0a (i := 0) (by rfl) ((by first | exact .inl rfl | exact .inr (.inl rfl) | exact .inr (.inr rfl))) (by decide) (by decide)) (Z0b Z0f Z0c rfl) rfl) (by decide) rfl rfl) (Z0d Z0f Z0f o_pow) Z0l) Z0c rfl) rfl) rfl) rfl)) rfl ((by first | exact .inr rfl | exact .inl rfl)))
    (Z0g (ss_set (i := 2) nd_law_number_of rfl ((by first | exact .inl rfl | exact .inr rfl)) (Z0k hC (cal_law_pick fx dx cf lx ek) hr (by decide) rfl Z0e (Z0b (Z0a (i := 0) (by rfl) ((by first | exact .inl rfl | exact .inr (.inl rfl) | exact .inr (.inr rfl))) (by decide) (by decide)) (Z0b (Z0a (i := 1) (by rfl) ((by first | exact .inl rfl | exact .inr (.inl rfl) | exact .inr (.inr rfl))) (by decide) (by decide)) Z0c rfl) rfl) (by decide) rfl rfl) rfl ((by first | exact .inr rfl | exact .inl rfl)))
    (Z0i (Z0j (se_if (st_cmp (Z0k hC (cal_law_draw fx dx cf lx ek) hr (by decide) rfl Z0e (Z0b (Z0a (i := 0) (by rfl) ((by first | exact .inl rfl | exact .inr (.inl rfl) | exact .inr (.inr rfl))) (by decide) (by decide)) (Z0b Z0f Z0c rfl) rfl) (by decide) rfl rfl) Z0f (o_eq ok) rfl) (se_un (Z0a (i := 2) (by rfl) ((by first | exact .inl rfl | exact .inr (.inl rfl) | exact .inr (.inr rfl))) (by decide) (by decide)) o_neg) (Z0a (i := 2) (by rfl) ((by first | exact .inl rfl | exact .inr (.inl rfl) | exact .inr (.inr rfl))) (by decide) (by decide)))))))
theorem cal_law_number_of {P : Program} {w : World} {K : PySem.W.Frag} {mg : Str → Option Value} {base : Heap} {C : Ct} (fx : Fx mg) (dx : Dx K mg C) (cf : CF C lay nam) (lx : Lx K mg base C) (ek : Ek P w K mg base C) : C8.Cal P w K mg base 3 "_law_number_of" (SpV C [true] F_law_number_of) [] := by
  obtain ⟨f, fd, hm, Fd⟩ := dx.d_law_number_of
  exact ⟨f, fd, ["_law_pen"], [], fn_law_number_of fx dx cf lx ek Fd, hm, Fd.kp, (Fd.bindsN (ps := ["_law_pen"]) fun _ _ _ _ _ _ us hl => match us, hl with | [_], _ => rfl), .nil⟩
def N_divisor : List Str := ["one", "other"]
theorem nd_divisor : N_divisor.Nodup := by decide
def d_divisor : Env' → Res Fl := (dSeq (dPar [0, 1] [(dCall semAbs [(dVar 0)]), (dCall semAbs [(dVar 1)])]) (dSeq (dWhile (dTru (dVar 1)) (dPar [0, 1] [(dVar 1), (dBin semMod (dVar 0) (dVar 1))]) big) (dRet (dVar 0))))
def F_divisor : List PV → FR := callFn 2 [false, false] d_divisor
theorem fn_divisor {P : Program} {w : World} {K : PySem.W.Frag} {mg : Str → Option Value} {base : Heap} {C : Ct} (fx : Fx mg) (dx : Dx K mg C) (cf : CF C lay nam) (lx : Lx K mg base C) (ek : Ek P w K mg base C) {f : Addr} {fd : FuncData} (Fd : FunD K "divisor" "divisor" (defArgs (top 4)) (defBody (top 4)) (defScope (top 4)) [] [] f fd) : FnOk P w K mg base C8.CX0 1 f fd ["one", "other"] (SpV C [false, false] F_divisor) :=
  fnV (N := N_divisor) (k := 0) Fd (C8.fnScope_by (by decide +kernel)) rfl (by decide) dx.hK fun cdv A outer s H E g hC hr ok =>
    (Z0g (ss_par (i := 0) (j := 1) ok nd_divisor rfl rfl (by decide) rfl rfl (sax_cons (fun g1 h1 => have ok1 := ok_c ok h1; (se_callB (c_abs) rfl fx.n_abs boot_abs (Z0b (Z0a (i := 0) (by rfl) ((by first | exact .inl rfl | exact .inr (.inl rfl) | exact .inr (.inr rfl))) (by decide) (by decide)) Z0c rfl) (by decide) (by decide) rfl rfl)) (sax_cons (fun g1 h1 => have ok1 := ok_c ok h1; (se_callB (c_abs) rfl fx.n_abs boot_abs (Z0b (Z0a (i := 1) (by rfl) ((by first | exact .inl rfl | exact .inr (.inl rfl) | exact .inr (.inr rfl))) (by decide) (by decide)) Z0c rfl) (by decide) (by decide) rfl rfl)) sax_nil rfl) rfl) rfl rfl)
    (Z0g (ss_while big PassesOwn.never (st_val ok.K (Z0a (i := 1) (by rfl) ((by first | exact .inl rfl | exact .inr (.inl rfl) | exact .inr (.inr rfl))) (by decide) (by decide)) (fun _ => rfl)) (Z0i (ss_par (i := 0) (j := 1) ok nd_divisor rfl rfl (by decide) rfl rfl (sax_cons (fun g1 h1 => have ok1 := ok_c ok h1; (Z0a (i := 1) (by rfl) ((by first | exact .inl rfl | exact .inr (.inl rfl) | exact .inr (.inr rfl))) (by decide) (by decide))) (sax_cons (fun g1 h1 => have ok1 := ok_c ok h1; (Z0d (Z0a (i := 0) (by rfl) ((by first | exact .inl rfl | exact .inr (.inl rfl) | exact .inr (.inr rfl))) (by decide) (by decide)) (Z0a (i := 1) (by rfl) ((by first | exact .inl rfl | exact .inr (.inl rfl) | exact .inr (.inr rfl))) (by decide) (by decide)) o_mod)) sax_nil rfl) rfl) rfl rfl)))
    (Z0i (Z0j (Z0a (i := 0) (by rfl) ((by first | exact .inl rfl | exact .inr (.inl rfl) | exact .inr (.inr rfl))) (by decide) (by decide))))))
theorem cal_divisor {P : Program} {w : World} {K : PySem.W.Frag} {mg : Str → Option Value} {base : Heap} {C : Ct} (fx : Fx mg) (dx : Dx K mg C) (cf : CF C lay nam) (lx : Lx K mg base C) (ek : Ek P w K mg base C) : C8.Cal P w K mg base 1 "divisor" (SpV C [false, false] F_divisor) [] := by
  obtain ⟨f, fd, hm, Fd⟩ := dx.d_divisor
  exact ⟨f, fd, ["one", "other"], [], fn_divisor fx dx cf lx ek Fd, hm, Fd.kp, (Fd.bindsN (ps := ["one", "other"]) fun _ _ _ _ _ _ us hl => match us, hl with | [_, _], _ => rfl), .nil⟩
def N_Ratio___init__ : List Str := ["self", "number", "over", "shared"]
theorem nd_Ratio___init__ : N_Ratio___init__.Nodup := by decide
def d_Ratio___init__ : Env' → Res Fl := (dSeq (dIfS (asB (dBin semEq (dVar 2) (fun e => .ok (.fz (.int 0)) e))) (dRaise 1 0 []) (fun e => .ok .nx e)) (dSeq (dSet 3 (dFn [false, false] F_divisor [] [(dVar 1), (dVar 2)])) (dSeq (dIfS (asB (dBin semLt (dVar 2) (fun e => .ok (.fz (.int 0)) e))) (dSet 3 (dUn semNeg (dVar 3))) (fun e => .ok .nx e)) (dSeq (dFldSL lay 0 0 (dBin semDivN (dVar 1) (dVar 3))) (dFldSL lay 1 0 (dBin semDivN (dVar 2) (dVar 3)))))))
def F_Ratio___init__ : List PV → FX := callFnX 4 [true, false, false] d_Ratio___init__
theorem fn_Ratio___init__ {P : Program} {w : World} {K : PySem.W.Frag} {mg : Str → Option Value} {base : Heap} {C : Ct} (fx : Fx mg) (dx : Dx K mg C) (cf : CF C lay nam) (lx : Lx K mg base C) (ek : Ek P w K mg base C) {f : Addr} {fd : FuncData} (Fd : FunD K "__init__" "Ratio.__init__" (defArgs (mth 5 0)) (defBody (mth 5 0)) (defScope (mth 5 0)) [.int 1] [] f fd) : FnOk P w K mg base (L2.CX P w) 3 f fd ["self", "number", "over"] (SpVX C [true, false, false] F_Ratio___init__) :=
  fnVX (N := N_Ratio___init__) (k := 2) Fd (C8.fnScope_by (by decide +kernel)) rfl (by decide) dx.hK fun cdv A outer s H E g hC hr ok ex =>
    (Z0g (ss_if (st_cmp (Z0a (i := 2) (by rfl) ((by first | exact .inl rfl | exact .inr (.inl rfl) | exact .inr (.inr rfl))) (by decide) (by decide)) Z0f (o_eq ok) rfl) (Z0i (ss_raiseE0 hC ok ex ek.e_BadOver ek.l_BadOver hr (by decide) rfl)) ss_nil)
    (Z0g (ss_set (i := 3) nd_Ratio___init__ rfl ((by first | exact .inl rfl | exact .inr rfl)) (Z0k hC (cal_divisor fx dx cf lx ek) hr (by decide) rfl Z0e (Z0b (Z0a (i := 1) (by rfl) ((by first | exact .inl rfl | exact .inr (.inl rfl) | exact .inr (.inr rfl))) (by decide) (by decide)) (Z0b (Z0a (i := 2) (by rfl) ((by first | exact .inl rfl | exact .inr (.inl rfl) | exact .inr (.inr rfl))) (by decide) (by decide)) Z0c rfl) rfl) (by decide) rfl rfl) rfl ((by first | exact .inr rfl | exact .inl rfl)))
    (Z0g (ss_if (st_cmp (Z0a (i := 2) (by rfl) ((by first | exact .inl rfl | exact .inr (.inl rfl) | exact .inr (.inr rfl))) (by decide) (by decide)) Z0f o_lt rfl) (Z0i (ss_set (i := 3) nd_Ratio___init__ rfl ((by first | exact .inl rfl | exact .inr rfl)) (se_un (Z0a (i := 3) (by rfl) ((by first | exact .inl rfl | exact .inr (.inl rfl) | exact .inr (.inr rfl))) (by decide) (by decide)) o_neg) rfl ((by first | exact .inr rfl | exact .inl rfl)))) ss_nil)
    (Z0g (ss_fldSC (f := 0) (i := 0) hC ok cf rfl (pe_var (i := 0) (by rfl) ((by first | exact .inl rfl | exact .inr (.inl rfl) | exact .inr (.inr rfl))) (by decide) (by decide)) (Z0d (Z0a (i := 1) (by rfl) ((by first | exact .inl rfl | exact .inr (.inl rfl) | exact .inr (.inr rfl))) (by decide) (by decide)) (Z0a (i := 3) (by rfl) ((by first | exact .inl rfl | exact .inr (.inl rfl) | exact .inr (.inr rfl))) (by decide) (by decide)) o_divN) rfl)
    (Z0i (ss_fldSC (f := 1) (i := 0) hC ok cf rfl (pe_var (i := 0) (by rfl) ((by first | exact .inl rfl | exact .inr (.inl rfl) | exact .inr (.inr rfl))) (by decide) (by decide)) (Z0d (Z0a (i := 2) (by rfl) ((by first | exact .inl rfl | exact .inr (.inl rfl) | exact .inr (.inr rfl))) (by decide) (by decide)) (Z0a (i := 3) (by rfl) ((by first | exact .inl rfl | exact .inr (.inl rfl) | exact .inr (.inr rfl))) (by decide) (by decide)) o_divN) rfl))))))
theorem makX_Ratio {P : Program} {w : World} {K : PySem.W.Frag} {mg : Str → Option Value} {base : Heap} {C : Ct} (fx : Fx mg) (dx : Dx K mg C) (cf : CF C lay nam) (lx : Lx K mg base C) (ek : Ek P w K mg base C) : MakX P w K mg base 3 "Ratio" (C.ad 0) (SpVX C [true, false, false] F_Ratio___init__) [] := by
  obtain ⟨f, fd, M, hm, Fd⟩ := dx.d_Ratio___init__
  obtain ⟨ds, vds, bds⟩ := Fd.binds1 (ps := ["self", "number", "over"]) 3 1 (by simp) rfl (fun T kV doc pm an cdv ct us its h1 h2 => match us, its, h1, h2 with | [_, _, _], [_], _, _ => ⟨_, rfl, rfl⟩)
  exact ⟨f, fd, ["self", "number", "over"], ds, M, fn_Ratio___init__ fx dx cf lx ek Fd, hm, bds, vds⟩
theorem makX_Ratio_1 {P : Program} {w : World} {K : PySem.W.Frag} {mg : Str → Option Value} {base : Heap} {C : Ct} (fx : Fx mg) (dx : Dx K mg C) (cf : CF C lay nam) (lx : Lx K mg base C) (ek : Ek P w K mg base C) : MakX P w K mg base 3 "Ratio" (C.ad 0) (SpVX C [true, false, false] F_Ratio___init__) [.int 1] := by
  obtain ⟨f, fd, M, hm, Fd⟩ := dx.d_Ratio___init__
  obtain ⟨ds, vds, bds⟩ := Fd.binds1 (ps := ["self", "number", "over"]) 2 0 (by simp) rfl (fun T kV doc pm an cdv ct us its h1 h2 => match us, its, h1, h2 with | [_, _], [_], _, _ => ⟨_, rfl, rfl⟩)
  exact ⟨f, fd, ["self", "number", "over"], ds, M, fn_Ratio___init__ fx dx cf lx ek Fd, hm, bds, vds⟩
def N_law_lowest : List Str := ["_law_number", "_law_over", "_law_one", "_law_other", "_law_sign"]
theorem nd_law_lowest : N_law_lowest.Nodup := by decide
def d_law_lowest : Env' → Res Fl := (dSeq (dPar [2, 3] [(dCall semAbs [(dVar 0)]), (dCall semAbs [(dVar 1)])]) (dSeq (dWhile (asB (dBin semGt (dVar 3) (fun e => .ok (.fz (.int 0)) e))) (dPar [2, 3] [(dVar 3), (dBin semMod (dCall semInt [(dVar 2)]) (dVar 3))]) big) (dSeq (dSet 4 (dIf (asB (dBin semLt (dVar 1) (fun e => .ok (.fz (.int 0)) e))) (dUn semNeg (fun e => .ok (.fz (.int 1)) e)) (fun e => .ok (.fz (.int 1)) e))) (dRet (dTup [(dBin semDiv (dBin semMul (dVar 4) (dVar 0)) (dVar 2)), (dBin semDiv (dBin semMul (dVar 4) (dVar 1)) (dVar 2))])))))
def F_law_lowest : List PV → FR := callFn 5 [false, false] d_law_lowest
theorem fn_law_lowest {P : Program} {w : World} {K : PySem.W.Frag} {mg : Str → Option Value} {base : Heap} {C : Ct} (fx : Fx mg) (dx : Dx K mg C) (cf : CF C lay nam) (lx : Lx K mg base C) (ek : Ek P w K mg base C) {f : Addr} {fd : FuncData} (Fd : FunD K "_law_lowest" "_law_lowest" (defArgs (top 12)) (defBody (top 12)) (defScope (top 12)) [] [] f fd) : FnOk P w K mg base C8.CX0 1 f fd ["_law_number", "_law_over"] (SpV C [false, false] F_law_lowest) :=
  fnV (N := N_law_lowest) (k := 0) Fd (C8.fnScope_by (by decide +kernel)) rfl (by decide) dx.hK fun cdv A outer s H E g hC hr ok =>
    (Z0g (ss_par (i := 2) (j := 3) ok nd_law_lowest rfl rfl (by decide) rfl rfl (sax_cons (fun g1 h1 => have ok1 := ok_c ok h1; (se_callB (c_abs) rfl fx.n_abs boot_abs (Z0b (Z0a (i := 0) (by rfl) ((by first | exact .inl rfl | exact .inr (.inl rfl) | exact .inr (.inr rfl))) (by decide) (by decide)) Z0c rfl) (by decide) (by decide) rfl rfl)) (sax_cons (fun g1 h1 => have ok1 := ok_c ok h1; (se_callB (c_abs) rfl fx.n_abs boot_abs (Z0b (Z0a (i := 1) (by rfl) ((by first | exact .inl rfl | exact .inr (.inl rfl) | exact .inr (.inr rfl))) (by decide) (by decide)) Z0c rfl) (by decide) (by decide) rfl rfl)) sax_nil rfl) rfl) rfl rfl)
    (Z0g (ss_while big PassesOwn.never (st_cmp (Z0a (i := 3) (by rfl) ((by first | exact .inl rfl | exact .inr (.inl rfl) | exact .inr (.inr rfl))) (by decide) (by decide)) Z0f o_gt rfl) (Z0i (ss_par (i := 2) (j := 3) ok nd_law_lowest rfl rfl (by decide) rfl rfl (sax_cons (fun g1 h1 => have ok1 := ok_c ok h1; (Z0a (i := 3) (by rfl) ((by first | exact .inl rfl | exact .inr (.inl rfl) | exact .inr (.inr rfl))) (by decide) (by decide))) (sax_cons (fun g1 h1 => have ok1 := ok_c ok h1; (Z0d (se_callTy (c_int) rfl fx.n_int boot_int (Z0b (Z0a (i := 2) (by rfl) ((by first | exact .inl rfl | exact .inr (.inl rfl) | exact .inr (.inr rfl))) (by decide) (by decide)) Z0c rfl) (by decide) (by decide) rfl rfl) (Z0a (i := 3) (by rfl) ((by first | exact .inl rfl | exact .inr (.inl rfl) | exact .inr (.inr rfl))) (by decide) (by decide)) o_mod)) sax_nil rfl) rfl) rfl rfl)))
    (Z0g (ss_set (i := 4) nd_law_lowest rfl ((by first | exact .inl rfl | exact .inr rfl)) (se_if (st_cmp (Z0a (i := 1) (by rfl) ((by first | exact .inl rfl | exact .inr (.inl rfl) | exact .inr (.inr rfl))) (by decide) (by decide)) Z0f o_lt rfl) (se_un Z0f o_neg) Z0f) rfl ((by first | exact .inr rfl | exact .inl rfl)))
    (Z0i (Z0j (se_tup (Z0b (Z0d (Z0d (Z0a (i := 4) (by rfl) ((by first | exact .inl rfl | exact .inr (.inl rfl) | exact .inr (.inr rfl))) (by decide) (by decide)) (Z0a (i := 0) (by rfl) ((by first | exact .inl rfl | exact .inr (.inl rfl) | exact .inr (.inr rfl))) (by decide) (by decide)) Z0l) (Z0a (i := 2) (by rfl) ((by first | exact .inl rfl | exact .inr (.inl rfl) | exact .inr (.inr rfl))) (by decide) (by decide)) o_div) (Z0b (Z0d (Z0d (Z0a (i := 4) (by rfl) ((by first | exact .inl rfl | exact .inr (.inl rfl) | exact .inr (.inr rfl))) (by decide) (by decide)) (Z0a (i := 1) (by rfl) ((by first | exact .inl rfl | exact .inr (.inl rfl) | exact .inr (.inr rfl))) (by decide) (by decide)) Z0l) (Z0a (i := 2) (by rfl) ((by first | exact .inl rfl | exact .inr (.inl rfl) | exact .inr (.inr rfl))) (by decide) (by decide)) o_div) Z0c rfl) rfl)))))))
theorem cal_law_lowest {P : Program} {w : World} {K : PySem.W.Frag} {mg : Str → Option Value} {base : Heap} {C : Ct} (fx : Fx mg) (dx : Dx K mg C) (cf : CF C lay nam) (lx : Lx K mg base C) (ek : Ek P w K mg base C) : C8.Cal P w K mg base 1 "_law_lowest" (SpV C [false, false] F_law_lowest) [] := by
  obtain ⟨f, fd, hm, Fd⟩ := dx.d_law_lowest
  exact ⟨f, fd, ["_law_number", "_law_over"], [], fn_law_lowest fx dx cf lx ek Fd, hm, Fd.kp, (Fd.bindsN (ps := ["_law_number", "_law_over"]) fun _ _ _ _ _ _ us hl => match us, hl with | [_, _], _ => rfl), .nil⟩
def N_law_is : List Str := ["_law_told", "_law_number", "_law_over"]
def d_law_is : Env' → Res Fl := (dRet (dBool true (dIsi (ansO 1 0) (dVar 0)) (dBin semEq (dTup [(dFldL lay 0 (dVar 0)), (dFldL lay 1 (dVar 0))]) (dFn [false, false] F_law_lowest [] [(dVar 1), (dVar 2)]))))
def F_law_is : List PV → FR := callFn 3 [false, false, false] d_law_is
theorem fn_law_is {P : Program} {w : World} {K : PySem.W.Frag} {mg : Str → Option Value} {base : Heap} {C : Ct} (fx : Fx mg) (dx : Dx K mg C) (cf : CF C lay nam) (lx : Lx K mg base C) (ek : Ek P w K mg base C) {f : Addr} {fd : FuncData} (Fd : FunD K "_law_is" "_law_is" (defArgs (top 13)) (defBody (top 13)) (defScope (top 13)) [] [] f fd) : FnOk P w K mg base C8.CX0 2 f fd ["_law_told", "_law_number", "_law_over"] (SpV C [false, false, false] F_law_is) :=
  fnV (N := N_law_is) (k := 1) Fd (C8.fnScope_by (by decide +kernel)) rfl (by decide) dx.hK fun cdv A outer s H E g hC hr ok =>
    (Z0i (Z0j (se_and ok.K (se_isO (n := 1) (c0 := 0) hC ok cf dx.o_Ratio fx.n_isinstance rfl dx.m_Ratio rfl (Z0a (i := 0) (by rfl) ((by first | exact .inl rfl | exact .inr (.inl rfl) | exact .inr (.inr rfl))) (by decide) (by decide)) (by decide) rfl rfl (by rfl)) (se_one (se_cmp (se_tup (Z0b (Z0h (f := 0) hC ok cf rfl (Z0a (i := 0) (by rfl) ((by first | exact .inl rfl | exact .inr (.inl rfl) | exact .inr (.inr rfl))) (by decide) (by decide)) rfl) (Z0b (Z0h (f := 1) hC ok cf rfl (Z0a (i := 0) (by rfl) ((by first | exact .inl rfl | exact .inr (.inl rfl) | exact .inr (.inr rfl))) (by decide) (by decide)) rfl) Z0c rfl) rfl)) (Z0k hC (cal_law_lowest fx dx cf lx ek) hr (by decide) rfl Z0e (Z0b (Z0a (i := 1) (by rfl) ((by first | exact .inl rfl | exact .inr (.inl rfl) | exact .inr (.inr rfl))) (by decide) (by decide)) (Z0b (Z0a (i := 2) (by rfl) ((by first | exact .inl rfl | exact .inr (.inl rfl) | exact .inr (.inr rfl))) (by decide) (by decide)) Z0c rfl) rfl) (by decide) rfl rfl) (o_eq ok) rfl)))))
theorem cal_law_is {P : Program} {w : World} {K : PySem.W.Frag} {mg : Str → Option Value} {base : Heap} {C : Ct} (fx : Fx mg) (dx : Dx K mg C) (cf : CF C lay nam) (lx : Lx K mg base C) (ek : Ek P w K mg base C) : C8.Cal P w K mg base 2 "_law_is" (SpV C [false, false, false] F_law_is) [] := by
  obtain ⟨f, fd, hm, Fd⟩ := dx.d_law_is
  exact ⟨f, fd, ["_law_told", "_law_number", "_law_over"], [], fn_law_is fx dx cf lx ek Fd, hm, Fd.kp, (Fd.bindsN (ps := ["_law_told", "_law_number", "_law_over"]) fun _ _ _ _ _ _ us hl => match us, hl with | [_, _, _], _ => rfl), .nil⟩
def N_as_ratio : List Str := ["value"]
def d_as_ratio : Env' → Res Fl := (dRet (dIf (dTru (dIsi (ansO 1 0) (dVar 0))) (dVar 0) (dMk 0 [false, false] (okX F_Ratio___init__) [.int 1] [(dVar 0)])))
def F_as_ratio : List PV → FR := callFn 1 [false] d_as_ratio
theorem fn_as_ratio {P : Program} {w : World} {K : PySem.W.Frag} {mg : Str → Option Value} {base : Heap} {C : Ct} (fx : Fx mg) (dx : Dx K mg C) (cf : CF C lay nam) (lx : Lx K mg base C) (ek : Ek P w K mg base C) {f : Addr} {fd : FuncData} (Fd : FunD K "as_ratio" "as_ratio" (defArgs (top 6)) (defBody (top 6)) (defScope (top 6)) [] [] f fd) : FnOk P w K mg base C8.CX0 5 f fd ["value"] (SpV C [false] F_as_ratio) :=
  fnV (N := N_as_ratio) (k := 4) Fd (C8.fnScope_by (by decide +kernel)) rfl (by decide) dx.hK fun cdv A outer s H E g hC hr ok =>
    (Z0i (Z0j (se_if (st_val ok.K (se_isO (n := 1) (c0 := 0) hC ok cf dx.o_Ratio fx.n_isinstance rfl dx.m_Ratio rfl (Z0a (i := 0) (by rfl) ((by first | exact .inl rfl | exact .inr (.inl rfl) | exact .inr (.inr rfl))) (by decide) (by decide)) (by decide) rfl rfl (by rfl)) (fun _ => rfl)) (Z0a (i := 0) (by rfl) ((by first | exact .inl rfl | exact .inr (.inl rfl) | exact .inr (.inr rfl))) (by decide) (by decide)) (se_mkC (c := 0) hC rfl (makOk (makX_Ratio_1 fx dx cf lx ek)) hr (by decide) rfl rs_int1 (Z0b (Z0a (i := 0) (by rfl) ((by first | exact .inl rfl | exact .inr (.inl rfl) | exact .inr (.inr rfl))) (by decide) (by decide)) Z0c rfl) (by decide) rfl rfl))))
theorem cal_as_ratio {P : Program} {w : World} {K : PySem.W.Frag} {mg : Str → Option Value} {base : Heap} {C : Ct} (fx : Fx mg) (dx : Dx K mg C) (cf : CF C lay nam) (lx : Lx K mg base C) (ek : Ek P w K mg base C) : C8.Cal P w K mg base 5 "as_ratio" (SpV C [false] F_as_ratio) [] := by
  obtain ⟨f, fd, hm, Fd⟩ := dx.d_as_ratio
  exact ⟨f, fd, ["value"], [], fn_as_ratio fx dx cf lx ek Fd, hm, Fd.kp, (Fd.bindsN (ps := ["value"]) fun _ _ _ _ _ _ us hl => match us, hl with | [_], _ => rfl), .nil⟩
def N_Ratio___add__ : List Str := ["self", "other"]
theorem nd_Ratio___add__ : N_Ratio___add__.Nodup := by decide
def d_Ratio___add__ : Env' → Res Fl := (dSeq (dSet 1 (dFn [false] F_as_ratio [] [(dVar 1)])) (dRet (dMk 0 [false, false] (okX F_Ratio___init__) [] [(dBin semAdd (dBin semMul (dFldL lay 0 (dVar 0)) (dFldL lay 1 (dVar 1))) (dBin semMul (dFldL lay 0 (dVar 1)) (dFldL lay 1 (dVar 0)))), (dBin semMul (dFldL lay 1 (dVar 0)) (dFldL lay 1 (dVar 1)))])))
def F_Ratio___add__ : List PV → FR := callFn 2 [false, false] d_Ratio___add__
theorem fn_Ratio___add__ {P : Program} {w : World} {K : PySem.W.Frag} {mg : Str → Option Value} {base : Heap} {C : Ct} (fx : Fx mg) (dx : Dx K mg C) (cf : CF C lay nam) (lx : Lx K mg base C) (ek : Ek P w K mg base C) {f : Addr} {fd : FuncData} (Fd : FunD K "__add__" "Ratio.__add__" (defArgs (mth 5 2)) (defBody (mth 5 2)) (defScope (mth 5 2)) [] [] f fd) : FnOk P w K mg base C8.CX0 6 f fd ["self", "other"] (SpV C [false, false] F_Ratio___add__) :=
  fnV (N := N_Ratio___add__) (k := 5) Fd (C8.fnScope_by (by decide +kernel)) rfl (by decide) dx.hK fun cdv A outer s H E g hC hr ok =>
    (Z0g (ss_set (i := 1) nd_Ratio___add__ rfl ((by first | exact .inl rfl | exact .inr rfl)) (Z0k hC (cal_as_ratio fx dx cf lx ek) hr (by decide) rfl Z0e (Z0b (Z0a (i := 1) (by rfl) ((by first | exact .inl rfl | exact .inr (.inl rfl) | exact .inr (.inr rfl))) (by decide) (by decide)) Z0c rfl) (by decide) rfl rfl) rfl ((by first | exact .inr rfl | exact .inl rfl)))
    (Z0i (Z0j (se_mkC (c := 0) hC rfl (makOk (makX_Ratio fx dx cf lx ek)) hr (by decide) rfl Z0e (Z0b (Z0d (Z0d (Z0h (f := 0) hC ok cf rfl (Z0a (i := 0) (by rfl) ((by first | exact .inl rfl | exact .inr (.inl rfl) | exact .inr (.inr rfl))) (by decide) (by decide)) rfl) (Z0h (f := 1) hC ok cf rfl (Z0a (i := 1) (by rfl) ((by first | exact .inl rfl | exact .inr (.inl rfl) | exact .inr (.inr rfl))) (by decide) (by decide)) rfl) Z0l) (Z0d (Z0h (f := 0) hC ok cf rfl (Z0a (i := 1) (by rfl) ((by first | exact .inl rfl | exact .inr (.inl rfl) | exact .inr (.inr rfl))) (by decide) (by decide)) rfl) (Z0h (f := 1) hC ok cf rfl (Z0a (i := 0) (by rfl) ((by first | exact .inl rfl | exact .inr (.inl rfl) | exact .inr (.inr rfl))) (by decide) (by decide)) rfl) Z0l) o_add) (Z0b (Z0d (Z0h (f := 1) hC ok cf rfl (Z0a (i := 0) (by rfl) ((by first | exact .inl rfl | exact .inr (.inl rfl) | exact .inr (.inr rfl))) (by decide) (by decide)) rfl) (Z0h (f := 1) hC ok cf rfl (Z0a (i := 1) (by rfl) ((by first | exact .inl rfl | exact .inr (.inl rfl) | exact .inr (.inr rfl))) (by decide) (by decide)) rfl) Z0l) Z0c rfl) rfl) (by decide) rfl rfl))))
theorem met_Ratio___add__ {P : Program} {w : World} {K : PySem.W.Frag} {mg : Str → Option Value} {base : Heap} {C : Ct} (fx : Fx mg) (dx : Dx K mg C) (cf : CF C lay nam) (lx : Lx K mg base C) (ek : Ek P w K mg base C) : C8.Met P w K mg base 6 (C.ad 0) "__add__" (SpV C [false, false] F_Ratio___add__) [] := by
  obtain ⟨f, fd, cl, me, Fd⟩ := dx.d_Ratio___add__
  exact ⟨f, fd, ["self", "other"], [], cl, me, fn_Ratio___add__ fx dx cf lx ek Fd, (Fd.bindsN (ps := ["self", "other"]) fun _ _ _ _ _ _ us hl => match us, hl with | [_, _], _ => rfl), .nil⟩
def N_Ratio___sub__ : List Str := ["self", "other"]
theorem nd_Ratio___sub__ : N_Ratio___sub__.Nodup := by decide
def d_Ratio___sub__ : Env' → Res Fl := (dSeq (dSet 1 (dFn [false] F_as_ratio [] [(dVar 1)])) (dRet (dMk 0 [false, false] (okX F_Ratio___init__) [] [(dBin semSub (dBin semMul (dFldL lay 0 (dVar 0)) (dFldL lay 1 (dVar 1))) (dBin semMul (dFldL lay 0 (dVar 1)) (dFldL lay 1 (dVar 0)))), (dBin semMul (dFldL lay 1 (dVar 0)) (dFldL lay 1 (dVar 1)))])))
def F_Ratio___sub__ : List PV → FR := callFn 2 [false, false] d_Ratio___sub__
theorem fn_Ratio___sub__ {P : Program} {w : World} {K : PySem.W.Frag} {mg : Str → Option Value} {base : Heap} {C : Ct} (fx : Fx mg) (dx : Dx K mg C) (cf : CF C lay nam) (lx : Lx K mg base C) (ek : Ek P w K mg base C) {f : Addr} {fd : FuncData} (Fd : FunD K "__sub__" "Ratio.__sub__" (defArgs (mth 5 4)) (defBody (mth 5 4)) (defScope (mth 5 4)) [] [] f fd) : FnOk P w K mg base C8.CX0 6 f fd ["self", "other"] (SpV C [false, false] F_Ratio___sub__) :=
  fnV (N := N_Ratio___sub__) (k := 5) Fd (C8.fnScope_by (by decide +kernel)) rfl (by decide) dx.hK fun cdv A outer s H E g hC hr ok =>
    (Z0g (ss_set (i := 1) nd_Ratio___sub__ rfl ((by first | exact .inl rfl | exact .inr rfl)) (Z0k hC (cal_as_ratio fx dx cf lx ek) hr (by decide) rfl Z0e (Z0b (Z0a (i := 1) (by rfl) ((by first | exact .inl rfl | exact .inr (.inl rfl) | exact .inr (.inr rfl))) (by decide) (by decide)) Z0c rfl) (by decide) rfl rfl) rfl ((by first | exact .inr rfl | exact .inl rfl)))
    (Z0i (Z0j (se_mkC (c := 0) hC rfl (makOk (makX_Ratio fx dx cf lx ek)) hr (by decide) rfl Z0e (Z0b (Z0d (Z0d (Z0h (f := 0) hC ok cf rfl (Z0a (i := 0) (by rfl) ((by first | exact .inl rfl | exact .inr (.inl rfl) | exact .inr (.inr rfl))) (by decide) (by decide)) rfl) (Z0h (f := 1) hC ok cf rfl (Z0a (i := 1) (by rfl) ((by first | exact .inl rfl | exact .inr (.inl rfl) | exact .inr (.inr rfl))) (by decide) (by decide)) rfl) Z0l) (Z0d (Z0h (f := 0) hC ok cf rfl (Z0a (i := 1) (by rfl) ((by first | exact .inl rfl | exact .inr (.inl rfl) | exact .inr (.inr rfl))) (by decide) (by decide)) rfl) (Z0h (f := 1) hC ok cf rfl (Z0a (i := 0) (by rfl) ((by first | exact .inl rfl | exact .inr (.inl rfl) | exact .inr (.inr rfl))) (by decide) (by decide)) rfl) Z0l) o_sub) (Z0b (Z0d (Z0h (f := 1) hC ok cf rfl (Z0a (i := 0) (by rfl) ((by first | exact .inl rfl | exact .inr (.inl rfl) | exact .inr (.inr rfl))) (by decide) (by decide)) rfl) (Z0h (f := 1) hC ok cf rfl (Z0a (i := 1) (by rfl) ((by first | exact .inl rfl | exact .inr (.inl rfl) | exact .inr (.inr rfl))) (by decide) (by decide)) rfl) Z0l) Z0c rfl) rfl) (by decide) rfl rfl))))
theorem met_Ratio___sub__ {P : Program} {w : World} {K : PySem.W.Frag} {mg : Str → Option Value} {base : Heap} {C : Ct} (fx : Fx mg) (dx : Dx K mg C) (cf : CF C lay nam) (lx : Lx K mg base C) (ek : Ek P w K mg base C) : C8.Met P w K mg base 6 (C.ad 0) "__sub__" (SpV C [false, false] F_Ratio___sub__) [] := by
  obtain ⟨f, fd, cl, me, Fd⟩ := dx.d_Ratio___sub__
  exact ⟨f, fd, ["self", "other"], [], cl, me, fn_Ratio___sub__ fx dx cf lx ek Fd, (Fd.bindsN (ps := ["self", "other"]) fun _ _ _ _ _ _ us hl => match us, hl with | [_, _], _ => rfl), .nil⟩
def N_Ratio___mul__ : List Str := ["self", "other"]
theorem nd_Ratio___mul__ : N_Ratio___mul__.Nodup := by decide
def d_Ratio___mul__ : Env' → Res Fl := (dSeq (dSet 1 (dFn [false] F_as_ratio [] [(dVar 1)])) (dRet (dMk 0 [false, false] (okX F_Ratio___init__) [] [(dBin semMul (dFldL lay 0 (dVar 0)) (dFldL lay 0 (dVar 1))), (dBin semMul (dFldL lay 1 (dVar 0)) (dFldL lay 1 (dVar 1)))])))
def F_Ratio___mul__ : List PV → FR := callFn 2 [false, false] d_Ratio___mul__
theorem fn_Ratio___mul__ {P : Program} {w : World} {K : PySem.W.Frag} {mg : Str → Option Value} {base : Heap} {C : Ct} (fx : Fx mg) (dx : Dx K mg C) (cf : CF C lay nam) (lx : Lx K mg base C) (ek : Ek P w K mg base C) {f : Addr} {fd : FuncData} (Fd : FunD K "__mul__" "Ratio.__mul__" (defArgs (mth 5 6)) (defBody (mth 5 6)) (defScope (mth 5 6)) [] [] f fd) : FnOk P w K mg base C8.CX0 6 f fd ["self", "other"] (SpV C [false, false] F_Ratio___mul__) :=
  fnV (N := N_Ratio___mul__) (k := 5) Fd (C8.fnScope_by (by decide +kernel)) rfl (by decide) dx.hK fun cdv A outer s H E g hC hr ok =>
    (Z0g (ss_set (i := 1) nd_Ratio___mul__ rfl ((by first | exact .inl rfl | exact .inr rfl)) (Z0k hC (cal_as_ratio fx dx cf lx ek) hr (by decide) rfl Z0e (Z0b (Z0a (i := 1) (by rfl) ((by first | exact .inl rfl | exact .inr (.inl rfl) | exact .inr (.inr rfl))) (by decide) (by decide)) Z0c rfl) (by decide) rfl rfl) rfl ((by first | exact .inr rfl | exact .inl rfl)))
    (Z0i (Z0j (se_mkC (c := 0) hC rfl (makOk (makX_Ratio fx dx cf lx ek)) hr (by decide) rfl Z0e (Z0b (Z0d (Z0h (f := 0) hC ok cf rfl (Z0a (i := 0) (by rfl) ((by first | exact .inl rfl | exact .inr (.inl rfl) | exact .inr (.inr rfl))) (by decide) (by decide)) rfl) (Z0h (f := 0) hC ok cf rfl (Z0a (i := 1) (by rfl) ((by first | exact .inl rfl | exact .inr (.inl rfl) | exact .inr (.inr rfl))) (by decide) (by decide)) rfl) Z0l) (Z0b (Z0d (Z0h (f := 1) hC ok cf rfl (Z0a (i := 0) (by rfl) ((by first | exact .inl rfl | exact .inr (.inl rfl) | exact .inr (.inr rfl))) (by decide) (by decide)) rfl) (Z0h (f := 1) hC ok cf rfl (Z0a (i := 1) (by rfl) ((by first | exact .inl rfl | exact .inr (.inl rfl) | exact .inr (.inr rfl))) (by decide) (by decide)) rfl) Z0l) Z0c rfl) rfl) (by decide) rfl rfl))))
theorem met_Ratio___mul__ {P : Program} {w : World} {K : PySem.W.Frag} {mg : Str → Option Value} {base : Heap} {C : Ct} (fx : Fx mg) (dx : Dx K mg C) (cf : CF C lay nam) (lx : Lx K mg base C) (ek : Ek P w K mg base C) : C8.Met P w K mg base 6 (C.ad 0) "__mul__" (SpV C [false, false] F_Ratio___mul__) [] := by
  obtain ⟨f, fd, cl, me, Fd⟩ := dx.d_Ratio___mul__
  exact ⟨f, fd, ["self", "other"], [], cl, me, fn_Ratio___mul__ fx dx cf lx ek Fd, (Fd.bindsN (ps := ["self", "other"]) fun _ _ _ _ _ _ us hl => match us, hl with | [_, _], _ => rfl), .nil⟩
def N_Ratio___neg__ : List Str := ["self"]
def d_Ratio___neg__ : Env' → Res Fl := (dRet (dMk 0 [false, false] (okX F_Ratio___init__) [] [(dUn semNeg (dFldL lay 0 (dVar 0))), (dFldL lay 1 (dVar 0))]))
def F_Ratio___neg__ : List PV → FR := callFn 1 [false] d_Ratio___neg__
theorem fn_Ratio___neg__ {P : Program} {w : World} {K : PySem.W.Frag} {mg : Str → Option Value} {base : Heap} {C : Ct} (fx : Fx mg) (dx : Dx K mg C) (cf : CF C lay nam) (lx : Lx K mg base C) (ek : Ek P w K mg base C) {f : Addr} {fd : FuncData} (Fd : FunD K "__neg__" "Ratio.__neg__" (defArgs (mth 5 8)) (defBody (mth 5 8)) (defScope (mth 5 8)) [] [] f fd) : FnOk P w K mg base C8.CX0 5 f fd ["self"] (SpV C [false] F_Ratio___neg__) :=
  fnV (N := N_Ratio___neg__) (k := 4) Fd (C8.fnScope_by (by decide +kernel)) rfl (by decide) dx.hK fun cdv A outer s H E g hC hr ok =>
    (Z0i (Z0j (se_mkC (c := 0) hC rfl (makOk (makX_Ratio fx dx cf lx ek)) hr (by decide) rfl Z0e (Z0b (se_un (Z0h (f := 0) hC ok cf rfl (Z0a (i := 0) (by rfl) ((by first | exact .inl rfl | exact .inr (.inl rfl) | exact .inr (.inr rfl))) (by decide) (by decide)) rfl) o_neg) (Z0b (Z0h (f := 1) hC ok cf rfl (Z0a (i := 0) (by rfl) ((by first | exact .inl rfl | exact .inr (.inl rfl) | exact .inr (.inr rfl))) (by decide) (by decide)) rfl) Z0c rfl) rfl) (by decide) rfl rfl)))
theorem met_Ratio___neg__ {P : Program} {w : World} {K : PySem.W.Frag} {mg : Str → Option Value} {base : Heap} {C : Ct} (fx : Fx mg) (dx : Dx K mg C) (cf : CF C lay nam) (lx : Lx K mg base C) (ek : Ek P w K mg base C) : C8.Met P w K mg base 5 (C.ad 0) "__neg__" (SpV C [false] F_Ratio___neg__) [] := by
  obtain ⟨f, fd, cl, me, Fd⟩ := dx.d_Ratio___neg__
  exact ⟨f, fd, ["self"], [], cl, me, fn_Ratio___neg__ fx dx cf lx ek Fd, (Fd.bindsN (ps := ["self"]) fun _ _ _ _ _ _ us hl => match us, hl with | [_], _ => rfl), .nil⟩
def N_Ratio___abs__ : List Str := ["self"]
def d_Ratio___abs__ : Env' → Res Fl := (dRet (dMk 0 [false, false] (okX F_Ratio___init__) [] [(dCall semAbs [(dFldL lay 0 (dVar 0))]), (dFldL lay 1 (dVar 0))]))
def F_Ratio___abs__ : List PV → FR := callFn 1 [false] d_Ratio___abs__
theorem fn_Ratio___abs__ {P : Program} {w : World} {K : PySem.W.Frag} {mg : Str → Option Value} {base : Heap} {C : Ct} (fx : Fx mg) (dx : Dx K mg C) (cf : CF C lay nam) (lx : Lx K mg base C) (ek : Ek P w K mg base C) {f : Addr} {fd : FuncData} (Fd : FunD K "__abs__" "Ratio.__abs__" (defArgs (mth 5 9)) (defBody (mth 5 9)) (defScope (mth 5 9)) [] [] f fd) : FnOk P w K mg base C8.CX0 5 f fd ["self"] (SpV C [false] F_Ratio___abs__) :=
  fnV (N := N_Ratio___abs__) (k := 4) Fd (C8.fnScope_by (by decide +kernel)) rfl (by decide) dx.hK fun cdv A outer s H E g hC hr ok =>
    (Z0i (Z0j (se_mkC (c := 0) hC rfl (makOk (makX_Ratio fx dx cf lx ek)) hr (by decide) rfl Z0e (Z0b (se_callB (c_abs) rfl fx.n_abs boot_abs (Z0b (Z0h (f := 0) hC ok cf rfl (Z0a (i := 0) (by rfl) ((by first | exact .inl rfl | exact .inr (.inl rfl) | exact .inr (.inr rfl))) (by decide) (by decide)) rfl) Z0c rfl) (by decide) (by decide) rfl rfl) (Z0b (Z0h (f := 1) hC ok cf rfl (Z0a (i := 0) (by rfl) ((by first | exact .inl rfl | exact .inr (.inl rfl) | exact .inr (.inr rfl))) (by decide) (by decide)) rfl) Z0c rfl) rfl) (by decide) rfl rfl)))
theorem met_Ratio___abs__ {P : Program} {w : World} {K : PySem.W.Frag} {mg : Str → Option Value} {base : Heap} {C : Ct} (fx : Fx mg) (dx : Dx K mg C) (cf : CF C lay nam) (lx : Lx K mg base C) (ek : Ek P w K mg base C) : C8.Met P w K mg base 5 (C.ad 0) "__abs__" (SpV C [false] F_Ratio___abs__) [] := by
  obtain ⟨f, fd, cl, me, Fd⟩ := dx.d_Ratio___abs__
  exact ⟨f, fd, ["self"], [], cl, me, fn_Ratio___abs__ fx dx cf lx ek Fd, (Fd.bindsN (ps := ["self"]) fun _ _ _ _ _ _ us hl => match us, hl with | [_], _ => rfl), .nil⟩
def N_Ratio___eq__ : List Str := ["self", "other"]
def d_Ratio___eq__ : Env' → Res Fl := (dRet (dBool true (dIsi (ansO 1 0) (dVar 1)) (dBool true (dBin semEq (dFldL lay 0 (dVar 0)) (dFldL lay 0 (dVar 1))) (dBin semEq (dFldL lay 1 (dVar 0)) (dFldL lay 1 (dVar 1))))))
def F_Ratio___eq__ : List PV → FR := callFn 2 [false, false] d_Ratio___eq__
theorem fn_Ratio___eq__ {P : Program} {w : World} {K : PySem.W.Frag} {mg : Str → Option Value} {base : Heap} {C : Ct} (fx : Fx mg) (dx : Dx K mg C) (cf : CF C lay nam) (lx : Lx K mg base C) (ek : Ek P w K mg base C) {f : Addr} {fd : FuncData} (Fd : FunD K "__eq__" "Ratio.__eq__" (defArgs (mth 5 1)) (defBody (mth 5 1)) (defScope (mth 5 1)) [] [] f fd) : FnOk P w K mg base C8.CX0 1 f fd ["self", "other"] (SpV C [false, false] F_Ratio___eq__) :=
  fnV (N := N_Ratio___eq__) (k := 0) Fd (C8.fnScope_by (by decide +kernel)) rfl (by decide) dx.hK fun cdv A outer s H E g hC hr ok =>
    (Z0i (Z0j (se_and ok.K (se_isO (n := 1) (c0 := 0) hC ok cf dx.o_Ratio fx.n_isinstance rfl dx.m_Ratio rfl (Z0a (i := 1) (by rfl) ((by first | exact .inl rfl | exact .inr (.inl rfl) | exact .inr (.inr rfl))) (by decide) (by decide)) (by decide) rfl rfl (by rfl)) (se_and ok.K (se_cmp (Z0h (f := 0) hC ok cf rfl (Z0a (i := 0) (by rfl) ((by first | exact .inl rfl | exact .inr (.inl rfl) | exact .inr (.inr rfl))) (by decide) (by decide)) rfl) (Z0h (f := 0) hC ok cf rfl (Z0a (i := 1) (by rfl) ((by first | exact .inl rfl | exact .inr (.inl rfl) | exact .inr (.inr rfl))) (by decide) (by decide)) rfl) (o_eq ok) rfl) (se_one (se_cmp (Z0h (f := 1) hC ok cf rfl (Z0a (i := 0) (by rfl) ((by first | exact .inl rfl | exact .inr (.inl rfl) | exact .inr (.inr rfl))) (by decide) (by decide)) rfl) (Z0h (f := 1) hC ok cf rfl (Z0a (i := 1) (by rfl) ((by first | exact .inl rfl | exact .inr (.inl rfl) | exact .inr (.inr rfl))) (by decide) (by decide)) rfl) (o_eq ok) rfl))))))
theorem met_Ratio___eq__ {P : Program} {w : World} {K : PySem.W.Frag} {mg : Str → Option Value} {base : Heap} {C : Ct} (fx : Fx mg) (dx : Dx K mg C) (cf : CF C lay nam) (lx : Lx K mg base C) (ek : Ek P w K mg base C) : C8.Met P w K mg base 1 (C.ad 0) "__eq__" (SpV C [false, false] F_Ratio___eq__) [] := by
  obtain ⟨f, fd, cl, me, Fd⟩ := dx.d_Ratio___eq__
  exact ⟨f, fd, ["self", "other"], [], cl, me, fn_Ratio___eq__ fx dx cf lx ek Fd, (Fd.bindsN (ps := ["self", "other"]) fun _ _ _ _ _ _ us hl => match us, hl with | [_, _], _ => rfl), .nil⟩
def N_Ratio_is_less : List Str := ["self", "other"]
theorem nd_Ratio_is_less : N_Ratio_is_less.Nodup := by decide
def d_Ratio_is_less : Env' → Res Fl := (dSeq (dSet 1 (dFn [false] F_as_ratio [] [(dVar 1)])) (dRet (dBin semLt (dBin semMul (dFldL lay 0 (dVar 0)) (dFldL lay 1 (dVar 1))) (dBin semMul (dFldL lay 0 (dVar 1)) (dFldL lay 1 (dVar 0))))))
def F_Ratio_is_less : List PV → FR := callFn 2 [false, false] d_Ratio_is_less
theorem fn_Ratio_is_less {P : Program} {w : World} {K : PySem.W.Frag} {mg : Str → Option Value} {base : Heap} {C : Ct} (fx : Fx mg) (dx : Dx K mg C) (cf : CF C lay nam) (lx : Lx K mg base C) (ek : Ek P w K mg base C) {f : Addr} {fd : FuncData} (Fd : FunD K "is_less" "Ratio.is_less" (defArgs (mth 5 11)) (defBody (mth 5 11)) (defScope (mth 5 11)) [] [] f fd) : FnOk P w K mg base C8.CX0 6 f fd ["self", "other"] (SpV C [false, false] F_Ratio_is_less) :=
  fnV (N := N_Ratio_is_less) (k := 5) Fd (C8.fnScope_by (by decide +kernel)) rfl (by decide) dx.hK fun cdv A outer s H E g hC hr ok =>
    (Z0g (ss_set (i := 1) nd_Ratio_is_less rfl ((by first | exact .inl rfl | exact .inr rfl)) (Z0k hC (cal_as_ratio fx dx cf lx ek) hr (by decide) rfl Z0e (Z0b (Z0a (i := 1) (by rfl) ((by first | exact .inl rfl | exact .inr (.inl rfl) | exact .inr (.inr rfl))) (by decide) (by decide)) Z0c rfl) (by decide) rfl rfl) rfl ((by first | exact .inr rfl | exact .inl rfl)))
    (Z0i (Z0j (se_cmp (Z0d (Z0h (f := 0) hC ok cf rfl (Z0a (i := 0) (by rfl) ((by first | exact .inl rfl | exact .inr (.inl rfl) | exact .inr (.inr rfl))) (by decide) (by decide)) rfl) (Z0h (f := 1) hC ok cf rfl (Z0a (i := 1) (by rfl) ((by first | exact .inl rfl | exact .inr (.inl rfl) | exact .inr (.inr rfl))) (by decide) (by decide)) rfl) Z0l) (Z0d (Z0h (f := 0) hC ok cf rfl (Z0a (i := 1) (by rfl) ((by first | exact .inl rfl | exact .inr (.inl rfl) | exact .inr (.inr rfl))) (by decide) (by decide)) rfl) (Z0h (f := 1) hC ok cf rfl (Z0a (i := 0) (by rfl) ((by first | exact .inl rfl | exact .inr (.inl rfl) | exact .inr (.inr rfl))) (by decide) (by decide)) rfl) Z0l) o_lt rfl))))
theorem met_Ratio_is_less {P : Program} {w : World} {K : PySem.W.Frag} {mg : Str → Option Value} {base : Heap} {C : Ct} (fx : Fx mg) (dx : Dx K mg C) (cf : CF C lay nam) (lx : Lx K mg base C) (ek : Ek P w K mg base C) : C8.Met P w K mg base 6 (C.ad 0) "is_less" (SpV C [false, false] F_Ratio_is_less) [] := by
  obtain ⟨f, fd, cl, me, Fd⟩ := dx.d_Ratio_is_less
  exact ⟨f, fd, ["self", "other"], [], cl, me, fn_Ratio_is_less fx dx cf lx ek Fd, (Fd.bindsN (ps := ["self", "other"]) fun _ _ _ _ _ _ us hl => match us, hl with | [_, _], _ => rfl), .nil⟩
def N_Ratio_divided : List Str := ["self", "other"]
theorem nd_Ratio_divided : N_Ratio_divided.Nodup := by decide
def d_Ratio_divided : Env' → Res Fl := (dSeq (dSet 1 (dFn [false] F_as_ratio [] [(dVar 1)])) (dSeq (dIfS (asB (dBin semEq (dFldL lay 0 (dVar 1)) (fun e => .ok (.fz (.int 0)) e))) (dRaise 1 0 []) (fun e => .ok .nx e)) (dRet (dMk 0 [false, false] (okX F_Ratio___init__) [] [(dBin semMul (dFldL lay 0 (dVar 0)) (dFldL lay 1 (dVar 1))), (dBin semMul (dFldL lay 1 (dVar 0)) (dFldL lay 0 (dVar 1)))]))))
def F_Ratio_divided : List PV → FX := callFnX 2 [false, false] d_Ratio_divided
theorem fn_Ratio_divided {P : Program} {w : World} {K : PySem.W.Frag} {mg : Str → Option Value} {base : Heap} {C : Ct} (fx : Fx mg) (dx : Dx K mg C) (cf : CF C lay nam) (lx : Lx K mg base C) (ek : Ek P w K mg base C) {f : Addr} {fd : FuncData} (Fd : FunD K "divided" "Ratio.divided" (defArgs (mth 5 12)) (defBody (mth 5 12)) (defScope (mth 5 12)) [] [] f fd) : FnOk P w K mg base (L2.CX P w) 6 f fd ["self", "other"] (SpVX C [false, false] F_Ratio_divided) :=
  fnVX (N := N_Ratio_divided) (k := 5) Fd (C8.fnScope_by (by decide +kernel)) rfl (by decide) dx.hK fun cdv A outer s H E g hC hr ok ex =>
    (Z0g (ss_set (i := 1) nd_Ratio_divided rfl ((by first | exact .inl rfl | exact .inr rfl)) (Z0k hC (cal_as_ratio fx dx cf lx ek) hr (by decide) rfl Z0e (Z0b (Z0a (i := 1) (by rfl) ((by first | exact .inl rfl | exact .inr (.inl rfl) | exact .inr (.inr rfl))) (by decide) (by decide)) Z0c rfl) (by decide) rfl rfl) rfl ((by first | exact .inr rfl | exact .inl rfl)))
    (Z0g (ss_if (st_cmp (Z0h (f := 0) hC ok cf rfl (Z0a (i := 1) (by rfl) ((by first | exact .inl rfl | exact .inr (.inl rfl) | exact .inr (.inr rfl))) (by decide) (by decide)) rfl) Z0f (o_eq ok) rfl) (Z0i (ss_raiseE0 hC ok ex ek.e_BadOver ek.l_BadOver hr (by decide) rfl)) ss_nil)
    (Z0i (Z0j (se_mkC (c := 0) hC rfl (makOk (makX_Ratio fx dx cf lx ek)) hr (by decide) rfl Z0e (Z0b (Z0d (Z0h (f := 0) hC ok cf rfl (Z0a (i := 0) (by rfl) ((by first | exact .inl rfl | exact .inr (.inl rfl) | exact .inr (.inr rfl))) (by decide) (by decide)) rfl) (Z0h (f := 1) hC ok cf rfl (Z0a (i := 1) (by rfl) ((by first | exact .inl rfl | exact .inr (.inl rfl) | exact .inr (.inr rfl))) (by decide) (by decide)) rfl) Z0l) (Z0b (Z0d (Z0h (f := 1) hC ok cf rfl (Z0a (i := 0) (by rfl) ((by first | exact .inl rfl | exact .inr (.inl rfl) | exact .inr (.inr rfl))) (by decide) (by decide)) rfl) (Z0h (f := 0) hC ok cf rfl (Z0a (i := 1) (by rfl) ((by first | exact .inl rfl | exact .inr (.inl rfl) | exact .inr (.inr rfl))) (by decide) (by decide)) rfl) Z0l) Z0c rfl) rfl) (by decide) rfl rfl)))))
theorem metX_Ratio_divided {P : Program} {w : World} {K : PySem.W.Frag} {mg : Str → Option Value} {base : Heap} {C : Ct} (fx : Fx mg) (dx : Dx K mg C) (cf : CF C lay nam) (lx : Lx K mg base C) (ek : Ek P w K mg base C) : MetX P w K mg base 6 (C.ad 0) "divided" (SpVX C [false, false] F_Ratio_divided) [] := by
  obtain ⟨f, fd, cl, me, Fd⟩ := dx.d_Ratio_divided
  exact ⟨f, fd, ["self", "other"], [], cl, me, fn_Ratio_divided fx dx cf lx ek Fd, (Fd.bindsN (ps := ["self", "other"]) fun _ _ _ _ _ _ us hl => match us, hl with | [_, _], _ => rfl), .nil⟩
def N_law_pair : List Str := ["_law_one", "_law_other", "_law_a", "_law_b", "_law_c", "_law_d", "_law_less", "_law_refused"]
theorem nd_law_pair : N_law_pair.Nodup := by decide
def d_law_pair : Env' → Res Fl := (dSeq (dIfS (dOrT (dNotT (dTru (dFn [false, false, false] F_law_is [] [(dVar 0), (dVar 2), (dVar 3)]))) (dNotT (dTru (dFn [false, false, false] F_law_is [] [(dOpS 0 F_Ratio___add__ (dVar 0) (dVar 1)), (dBin semAdd (dBin semMul (dVar 2) (dVar 5)) (dBin semMul (dVar 4) (dVar 3))), (dBin semMul (dVar 3) (dVar 5))])))) (dRet (fun e => .ok (.fz (.bl false)) e)) (fun e => .ok .nx e)) (dSeq (dIfS (dOrT (dNotT (dTru (dFn [false, false, false] F_law_is [] [(dOpS 0 F_Ratio___sub__ (dVar 0) (dVar 1)), (dBin semSub (dBin semMul (dVar 2) (dVar 5)) (dBin semMul (dVar 4) (dVar 3))), (dBin semMul (dVar 3) (dVar 5))]))) (dNotT (dTru (dFn [false, false, false] F_law_is [] [(dOpS 0 F_Ratio___mul__ (dVar 0) (dVar 1)), (dBin semMul (dVar 2) (dVar 4)), (dBin semMul (dVar 3) (dVar 5))])))) (dRet (fun e => .ok (.fz (.bl false)) e)) (fun e => .ok .nx e)) (dSeq (dIfS (dOrT (dNotT (dTru (dFn [false, false, false] F_law_is [] [(dNegO 0 F_Ratio___neg__ (dVar 0)), (dUn semNeg (dVar 2)), (dVar 3)]))) (dOrT (dNotT (dTru (dFn [false, false, false] F_law_is [] [(dCallU 0 F_Ratio___abs__ [(dVar 0)]), (dCall semAbs [(dVar 2)]), (dCall semAbs [(dVar 3)])]))) (asB (dBin semNe (dOwnQ false 0 F_Ratio___eq__ (dVar 0) (dVar 1)) (dBin semEq (dBin semMul (dVar 2) (dVar 5)) (dBin semMul (dVar 4) (dVar 3))))))) (dRet (fun e => .ok (.fz (.bl false)) e)) (fun e => .ok .nx e)) (dSeq (dSet 6 (dBin semLt (dBin semMul (dBin semMul (dBin semMul (dVar 2) (dVar 3)) (dVar 5)) (dVar 5)) (dBin semMul (dBin semMul (dBin semMul (dVar 4) (dVar 5)) (dVar 3)) (dVar 3)))) (dSeq (dIfS (dOrT (dAndT (asB (dBin semIsNot (dMt 0 [false, false] F_Ratio_is_less [] (dVar 0) [(dVar 1)]) (fun e => .ok (.fz (.bl true)) e))) (dTru (dVar 6))) (dAndT (asB (dBin semIsNot (dMt 0 [false, false] F_Ratio_is_less [] (dVar 0) [(dVar 1)]) (fun e => .ok (.fz (.bl false)) e))) (dNotT (dTru (dVar 6))))) (dRet (fun e => .ok (.fz (.bl false)) e)) (fun e => .ok .nx e)) (dSeq (dIfS (asB (dBin semEq (dVar 4) (fun e => .ok (.fz (.int 0)) e))) (dSeq (dSet 7 (dRefB eLay (cl_law_bad.map (ClE.d ansX (some 1))) (dMtX 0 [false, false] F_Ratio_divided [] (dVar 0) [(dVar 1)]))) (dRet (dBool true (dVar 7) (dRefB eLay (cl_law_bad.map (ClE.d ansX (some 1))) (dMtX 0 [false, false] F_Ratio_divided [] (dVar 0) [(fun e => .ok (.fz (.int 0)) e)]))))) (fun e => .ok .nx e)) (dRet (dFn [false, false, false] F_law_is [] [(dMt 0 [false, false] (okX F_Ratio_divided) [] (dVar 0) [(dVar 1)]), (dBin semMul (dVar 2) (dVar 5)), (dBin semMul (dVar 3) (dVar 4))]))))))))
def F_law_pair : List PV → FR := callFn 8 [false, false, false, false, false, false] d_law_pair
theorem fn_law_pair {P : Program} {w : World} {K : PySem.W.Frag} {mg : Str → Option Value} {base : Heap} {C : Ct} (fx : Fx mg) (dx : Dx K mg C) (cf : CF C lay nam) (lx : Lx K mg base C) (ek : Ek P w K mg base C) {f : Addr} {fd : FuncData} (Fd : FunD K "_law_pair" "_law_pair" (defArgs (top 15)) (defBody (top 15)) (defScope (top 15)) [] [] f fd) {c : Addr} (hc : fd.code = .ref c) (lf : LamF base mg C "_law_pair" c) : FnOk P w K mg base C8.CX0 9 f fd ["_law_one", "_law_other", "_law_a", "_law_b", "_law_c", "_law_d"] (SpV C [false, false, false, false, false, false] F_law_pair) :=
  fnEc (N := N_law_pair) (k := 8) Fd hc (C8.fnScope_by (by decide +kernel)) rfl (by decide) dx.hK fun A outer s H E g hC hr ok ex =>
    (Z0g (ss_if (PW.pt (sw_or (st_not (st_val ok.K (Z0k hC (cal_law_is fx dx cf lx ek) hr (by decide) rfl Z0e (Z0b (Z0a (i := 0) (by rfl) ((by first | exact .inl rfl | exact .inr (.inl rfl) | exact .inr (.inr rfl))) (by decide) (by decide)) (Z0b (Z0a (i := 2) (by rfl) ((by first | exact .inl rfl | exact .inr (.inl rfl) | exact .inr (.inr rfl))) (by decide) (by decide)) (Z0b (Z0a (i := 3) (by rfl) ((by first | exact .inl rfl | exact .inr (.inl rfl) | exact .inr (.inr rfl))) (by decide) (by decide)) Z0c rfl) rfl) rfl) (by decide) rfl rfl) (fun _ => rfl))) (sw_or1 (st_not (st_val ok.K (Z0k hC (cal_law_is fx dx cf lx ek) hr (by decide) rfl Z0e (Z0b (se_opS (c := 0) hC (met_Ratio___add__ fx dx cf lx ek) (by decide +kernel) hr (by decide) ok dx.k_Ratio (Z0a (i := 0) (by rfl) ((by first | exact .inl rfl | exact .inr (.inl rfl) | exact .inr (.inr rfl))) (by decide) (by decide)) (Z0a (i := 1) (by rfl) ((by first | exact .inl rfl | exact .inr (.inl rfl) | exact .inr (.inr rfl))) (by decide) (by decide))) (Z0b (Z0d (Z0d (Z0a (i := 2) (by rfl) ((by first | exact .inl rfl | exact .inr (.inl rfl) | exact .inr (.inr rfl))) (by decide) (by decide)) (Z0a (i := 5) (by rfl) ((by first | exact .inl rfl | exact .inr (.inl rfl) | exact .inr (.inr rfl))) (by decide) (by decide)) Z0l) (Z0d (Z0a (i := 4) (by rfl) ((by first | exact .inl rfl | exact .inr (.inl rfl) | exact .inr (.inr rfl))) (by decide) (by decide)) (Z0a (i := 3) (by rfl) ((by first | exact .inl rfl | exact .inr (.inl rfl) | exact .inr (.inr rfl))) (by decide) (by decide)) Z0l) o_add) (Z0b (Z0d (Z0a (i := 3) (by rfl) ((by first | exact .inl rfl | exact .inr (.inl rfl) | exact .inr (.inr rfl))) (by decide) (by decide)) (Z0a (i := 5) (by rfl) ((by first | exact .inl rfl | exact .inr (.inl rfl) | exact .inr (.inr rfl))) (by decide) (by decide)) Z0l) Z0c rfl) rfl) rfl) (by decide) rfl rfl) (fun _ => rfl)))))) (Z0i (Z0j se_bl)) ss_nil)
    (Z0g (ss_if (PW.pt (sw_or (st_not (st_val ok.K (Z0k hC (cal_law_is fx dx cf lx ek) hr (by decide) rfl Z0e (Z0b (se_opS (c := 0) hC (met_Ratio___sub__ fx dx cf lx ek) (by decide +kernel) hr (by decide) ok dx.k_Ratio (Z0a (i := 0) (by rfl) ((by first | exact .inl rfl | exact .inr (.inl rfl) | exact .inr (.inr rfl))) (by decide) (by decide)) (Z0a (i := 1) (by rfl) ((by first | exact .inl rfl | exact .inr (.inl rfl) | exact .inr (.inr rfl))) (by decide) (by decide))) (Z0b (Z0d (Z0d (Z0a (i := 2) (by rfl) ((by first | exact .inl rfl | exact .inr (.inl rfl) | exact .inr (.inr rfl))) (by decide) (by decide)) (Z0a (i := 5) (by rfl) ((by first | exact .inl rfl | exact .inr (.inl rfl) | exact .inr (.inr rfl))) (by decide) (by decide)) Z0l) (Z0d (Z0a (i := 4) (by rfl) ((by first | exact .inl rfl | exact .inr (.inl rfl) | exact .inr (.inr rfl))) (by decide) (by decide)) (Z0a (i := 3) (by rfl) ((by first | exact .inl rfl | exact .inr (.inl rfl) | exact .inr (.inr rfl))) (by decide) (by decide)) Z0l) o_sub) (Z0b (Z0d (Z0a (i := 3) (by rfl) ((by first | exact .inl rfl | exact .inr (.inl rfl) | exact .inr (.inr rfl))) (by decide) (by decide)) (Z0a (i := 5) (by rfl) ((by first | exact .inl rfl | exact .inr (.inl rfl) | exact .inr (.inr rfl))) (by decide) (by decide)) Z0l) Z0c rfl) rfl) rfl) (by decide) rfl rfl) (fun _ => rfl))) (sw_or1 (st_not (st_val ok.K (Z0k hC (cal_law_is fx dx cf lx ek) hr (by decide) rfl Z0e (Z0b (se_opS (c := 0) hC (met_Ratio___mul__ fx dx cf lx ek) (by decide +kernel) hr (by decide) ok dx.k_Ratio (Z0a (i := 0) (by rfl) ((by first | exact .inl rfl | exact .inr (.inl rfl) | exact .inr (.inr rfl))) (by decide) (by decide)) (Z0a (i := 1) (by rfl) ((by first | exact .inl rfl | exact .inr (.inl rfl) | exact .inr (.inr rfl))) (by decide) (by decide))) (Z0b (Z0d (Z0a (i := 2) (by rfl) ((by first | exact .inl rfl | exact .inr (.inl rfl) | exact .inr (.inr rfl))) (by decide) (by decide)) (Z0a (i := 4) (by rfl) ((by first | exact .inl rfl | exact .inr (.inl rfl) | exact .inr (.inr rfl))) (by decide) (by decide)) Z0l) (Z0b (Z0d (Z0a (i := 3) (by rfl) ((by first | exact .inl rfl | exact .inr (.inl rfl) | exact .inr (.inr rfl))) (by decide) (by decide)) (Z0a (i := 5) (by rfl) ((by first | exact .inl rfl | exact .inr (.inl rfl) | exact .inr (.inr rfl))) (by decide) (by decide)) Z0l) Z0c rfl) rfl) rfl) (by decide) rfl rfl) (fun _ => rfl)))))) (Z0i (Z0j se_bl)) ss_nil)
    (Z0g (ss_if (PW.pt (sw_or (st_not (st_val ok.K (Z0k hC (cal_law_is fx dx cf lx ek) hr (by decide) rfl Z0e (Z0b (se_negO (c := 0) hC (met_Ratio___neg__ fx dx cf lx ek) hr (by decide) (Z0a (i := 0) (by rfl) ((by first | exact .inl rfl | exact .inr (.inl rfl) | exact .inr (.inr rfl))) (by decide) (by decide))) (Z0b (se_un (Z0a (i := 2) (by rfl) ((by first | exact .inl rfl | exact .inr (.inl rfl) | exact .inr (.inr rfl))) (by decide) (by decide)) o_neg) (Z0b (Z0a (i := 3) (by rfl) ((by first | exact .inl rfl | exact .inr (.inl rfl) | exact .inr (.inr rfl))) (by decide) (by decide)) Z0c rfl) rfl) rfl) (by decide) rfl rfl) (fun _ => rfl))) (sw_or (st_not (st_val ok.K (Z0k hC (cal_law_is fx dx cf lx ek) hr (by decide) rfl Z0e (Z0b (se_absO (c := 0) hC (met_Ratio___abs__ fx dx cf lx ek) hr (by decide) rfl fx.n_abs boot_abs (Z0b (Z0a (i := 0) (by rfl) ((by first | exact .inl rfl | exact .inr (.inl rfl) | exact .inr (.inr rfl))) (by decide) (by decide)) Z0c rfl) (by decide) (by decide) rfl rfl) (Z0b (se_callB (c_abs) rfl fx.n_abs boot_abs (Z0b (Z0a (i := 2) (by rfl) ((by first | exact .inl rfl | exact .inr (.inl rfl) | exact .inr (.inr rfl))) (by decide) (by decide)) Z0c rfl) (by decide) (by decide) rfl rfl) (Z0b (se_callB (c_abs) rfl fx.n_abs boot_abs (Z0b (Z0a (i := 3) (by rfl) ((by first | exact .inl rfl | exact .inr (.inl rfl) | exact .inr (.inr rfl))) (by decide) (by decide)) Z0c rfl) (by decide) (by decide) rfl rfl) Z0c rfl) rfl) rfl) (by decide) rfl rfl) (fun _ => rfl))) (sw_or1 (st_cmp (se_ownQC false rfl (c := 0) hC (met_Ratio___eq__ fx dx cf lx ek) hr (by decide) ok cf dx.ne_Ratio (Z0a (i := 0) (by rfl) ((by first | exact .inl rfl | exact .inr (.inl rfl) | exact .inr (.inr rfl))) (by decide) (by decide)) (Z0a (i := 1) (by rfl) ((by first | exact .inl rfl | exact .inr (.inl rfl) | exact .inr (.inr rfl))) (by decide) (by decide)) rfl) (se_cmp (Z0d (Z0a (i := 2) (by rfl) ((by first | exact .inl rfl | exact .inr (.inl rfl) | exact .inr (.inr rfl))) (by decide) (by decide)) (Z0a (i := 5) (by rfl) ((by first | exact .inl rfl | exact .inr (.inl rfl) | exact .inr (.inr rfl))) (by decide) (by decide)) Z0l) (Z0d (Z0a (i := 4) (by rfl) ((by first | exact .inl rfl | exact .inr (.inl rfl) | exact .inr (.inr rfl))) (by decide) (by decide)) (Z0a (i := 3) (by rfl) ((by first | exact .inl rfl | exact .inr (.inl rfl) | exact .inr (.inr rfl))) (by decide) (by decide)) Z0l) (o_eq ok) rfl) (o_ne ok) rfl))))) (Z0i (Z0j se_bl)) ss_nil)
    (Z0g (ss_set (i := 6) nd_law_pair rfl ((by first | exact .inl rfl | exact .inr rfl)) (se_cmp (Z0d (Z0d (Z0d (Z0a (i := 2) (by rfl) ((by first | exact .inl rfl | exact .inr (.inl rfl) | exact .inr (.inr rfl))) (by decide) (by decide)) (Z0a (i := 3) (by rfl) ((by first | exact .inl rfl | exact .inr (.inl rfl) | exact .inr (.inr rfl))) (by decide) (by decide)) Z0l) (Z0a (i := 5) (by rfl) ((by first | exact .inl rfl | exact .inr (.inl rfl) | exact .inr (.inr rfl))) (by decide) (by decide)) Z0l) (Z0a (i := 5) (by rfl) ((by first | exact .inl rfl | exact .inr (.inl rfl) | exact .inr (.inr rfl))) (by decide) (by decide)) Z0l) (Z0d (Z0d (Z0d (Z0a (i := 4) (by rfl) ((by first | exact .inl rfl | exact .inr (.inl rfl) | exact .inr (.inr rfl))) (by decide) (by decide)) (Z0a (i := 5) (by rfl) ((by first | exact .inl rfl | exact .inr (.inl rfl) | exact .inr (.inr rfl))) (by decide) (by decide)) Z0l) (Z0a (i := 3) (by rfl) ((by first | exact .inl rfl | exact .inr (.inl rfl) | exact .inr (.inr rfl))) (by decide) (by decide)) Z0l) (Z0a (i := 3) (by rfl) ((by first | exact .inl rfl | exact .inr (.inl rfl) | exact .inr (.inr rfl))) (by decide) (by decide)) Z0l) o_lt rfl) rfl ((by first | exact .inr rfl | exact .inl rfl)))
    (Z0g (ss_if (PW.pt (sw_or (PW.pt (sw_and (st_cmp (se_mtC (c := 0) hC rfl cf (met_Ratio_is_less fx dx cf lx ek) hr (by decide) Z0e (by decide) (Z0a (i := 0) (by rfl) ((by first | exact .inl rfl | exact .inr (.inl rfl) | exact .inr (.inr rfl))) (by decide) (by decide)) (Z0b (Z0a (i := 1) (by rfl) ((by first | exact .inl rfl | exact .inr (.inl rfl) | exact .inr (.inr rfl))) (by decide) (by decide)) Z0c rfl) rfl rfl rfl) se_bl o_isnot rfl) (sw_and1 (st_val ok.K (Z0a (i := 6) (by rfl) ((by first | exact .inl rfl | exact .inr (.inl rfl) | exact .inr (.inr rfl))) (by decide) (by decide)) (fun _ => rfl))))) (sw_or1 (PW.pt (sw_and (st_cmp (se_mtC (c := 0) hC rfl cf (met_Ratio_is_less fx dx cf lx ek) hr (by decide) Z0e (by decide) (Z0a (i := 0) (by rfl) ((by first | exact .inl rfl | exact .inr (.inl rfl) | exact .inr (.inr rfl))) (by decide) (by decide)) (Z0b (Z0a (i := 1) (by rfl) ((by first | exact .inl rfl | exact .inr (.inl rfl) | exact .inr (.inr rfl))) (by decide) (by decide)) Z0c rfl) rfl rfl rfl) se_bl o_isnot rfl) (sw_and1 (st_not (st_val ok.K (Z0a (i := 6) (by rfl) ((by first | exact .inl rfl | exact .inr (.inl rfl) | exact .inr (.inr rfl))) (by decide) (by decide)) (fun _ => rfl))))))))) (Z0i (Z0j se_bl)) ss_nil)
    (Z0g (ss_if (st_cmp (Z0a (i := 4) (by rfl) ((by first | exact .inl rfl | exact .inr (.inl rfl) | exact .inr (.inr rfl))) (by decide) (by decide)) Z0f (o_eq ok) rfl) (Z0g (ss_set (i := 7) nd_law_pair rfl ((by first | exact .inl rfl | exact .inr rfl)) (dx.d_law_bad.elim fun gf hf => hf.elim fun fd Fg => lf.ex.elim fun P hP => se_refBF (P := P) (k := 6) (y := 1) (j0 := 8) (ls := cl_law_bad) hC ok ek.co ek.eL ek.ans oi_law_bad (by decide) rfl Fg.1 Fg.2 rfl rfl (by decide) rfl (by decide) (by decide) (fun _ _ _ _ _ _ us hl => match us, hl with | [_], _ => rfl) (Ng := N_law_bad) sg_law_bad rfl (.inl rfl) (fun _ _ _ => hcl_law_bad cf ek) (fun _ => rfl) (fun _ => rfl) hP.1 rfl hP.2.1 hP.2.2 hr (by decide) (LamX.lamS_by (show LamX.lamSB (defScope (top 15)) _ = true by decide +kernel)) rfl (fun _ _ _ _ _ => rfl) (fun A1 o1 s1 H1 E1 f1 c1 g1 hC1 hr1 ok1 ex1 => (se_mtXC (c := 0) hC1 rfl cf ex1 (metX_Ratio_divided fx dx cf lx ek) hr1 (by decide) Z0e (by decide) (Z0a (i := 0) (by rfl) ((by first | exact .inl rfl | exact .inr (.inl rfl) | exact .inr (.inr rfl))) (by decide) (by decide)) (Z0b (Z0a (i := 1) (by rfl) ((by first | exact .inl rfl | exact .inr (.inl rfl) | exact .inr (.inr rfl))) (by decide) (by decide)) Z0c rfl) rfl rfl rfl)) (by decide) (by decide) (by decide)) rfl ((by first | exact .inr rfl | exact .inl rfl)))
    (Z0i (Z0j (se_and ok.K (Z0a (i := 7) (by rfl) ((by first | exact .inl rfl | exact .inr (.inl rfl) | exact .inr (.inr rfl))) (by decide) (by decide)) (se_one (dx.d_law_bad.elim fun gf hf => hf.elim fun fd Fg => lf.ex.elim fun P hP => se_refBF (P := P) (k := 6) (y := 1) (j0 := 8) (ls := cl_law_bad) hC ok ek.co ek.eL ek.ans oi_law_bad (by decide) rfl Fg.1 Fg.2 rfl rfl (by decide) rfl (by decide) (by decide) (fun _ _ _ _ _ _ us hl => match us, hl with | [_], _ => rfl) (Ng := N_law_bad) sg_law_bad rfl (.inl rfl) (fun _ _ _ => hcl_law_bad cf ek) (fun _ => rfl) (fun _ => rfl) hP.1 rfl hP.2.1 hP.2.2 hr (by decide) (LamX.lamS_by (show LamX.lamSB (defScope (top 15)) _ = true by decide +kernel)) rfl (fun _ _ _ _ _ => rfl) (fun A1 o1 s1 H1 E1 f1 c1 g1 hC1 hr1 ok1 ex1 => (se_mtXC (c := 0) hC1 rfl cf ex1 (metX_Ratio_divided fx dx cf lx ek) hr1 (by decide) Z0e (by decide) (Z0a (i := 0) (by rfl) ((by first | exact .inl rfl | exact .inr (.inl rfl) | exact .inr (.inr rfl))) (by decide) (by decide)) (Z0b Z0f Z0c rfl) rfl rfl rfl)) (by decide) (by decide) (by decide))))))) ss_nil)
    (Z0i (Z0j (Z0k hC (cal_law_is fx dx cf lx ek) hr (by decide) rfl Z0e (Z0b (se_mtC (c := 0) hC rfl cf (metOk (metX_Ratio_divided fx dx cf lx ek)) hr (by decide) Z0e (by decide) (Z0a (i := 0) (by rfl) ((by first | exact .inl rfl | exact .inr (.inl rfl) | exact .inr (.inr rfl))) (by decide) (by decide)) (Z0b (Z0a (i := 1) (by rfl) ((by first | exact .inl rfl | exact .inr (.inl rfl) | exact .inr (.inr rfl))) (by decide) (by decide)) Z0c rfl) rfl rfl rfl) (Z0b (Z0d (Z0a (i := 2) (by rfl) ((by first | exact .inl rfl | exact .inr (.inl rfl) | exact .inr (.inr rfl))) (by decide) (by decide)) (Z0a (i := 5) (by rfl) ((by first | exact .inl rfl | exact .inr (.inl rfl) | exact .inr (.inr rfl))) (by decide) (by decide)) Z0l) (Z0b (Z0d (Z0a (i := 3) (by rfl) ((by first | exact .inl rfl | exact .inr (.inl rfl) | exact .inr (.inr rfl))) (by decide) (by decide)) (Z0a (i := 4) (by rfl) ((by first | exact .inl rfl | exact .inr (.inl rfl) | exact .inr (.inr rfl))) (by decide) (by decide)) Z0l) Z0c rfl) rfl) rfl) (by decide) rfl rfl)))))))))
theorem cal_law_pair {P : Program} {w : World} {K : PySem.W.Frag} {mg : Str → Option Value} {base : Heap} {C : Ct} (fx : Fx mg) (dx : Dx K mg C) (cf : CF C lay nam) (lx : Lx K mg base C) (ek : Ek P w K mg base C) : C8.Cal P w K mg base 9 "_law_pair" (SpV C [false, false, false, false, false, false] F_law_pair) [] := by
  obtain ⟨f, fd, c, hm, Fd, hc, lf⟩ := lx.l_law_pair
  exact ⟨f, fd, ["_law_one", "_law_other", "_law_a", "_law_b", "_law_c", "_law_d"], [], fn_law_pair fx dx cf lx ek Fd hc lf, hm, Fd.kp, (Fd.bindsN (ps := ["_law_one", "_law_other", "_law_a", "_law_b", "_law_c", "_law_d"]) fun _ _ _ _ _ _ us hl => match us, hl with | [_, _, _, _, _, _], _ => rfl), .nil⟩
def N_Ratio___radd__ : List Str := ["self", "other"]
def d_Ratio___radd__ : Env' → Res Fl := (dRet (dOpS 0 F_Ratio___add__ (dFn [false] F_as_ratio [] [(dVar 1)]) (dVar 0)))
def F_Ratio___radd__ : List PV → FR := callFn 2 [false, false] d_Ratio___radd__
theorem fn_Ratio___radd__ {P : Program} {w : World} {K : PySem.W.Frag} {mg : Str → Option Value} {base : Heap} {C : Ct} (fx : Fx mg) (dx : Dx K mg C) (cf : CF C lay nam) (lx : Lx K mg base C) (ek : Ek P w K mg base C) {f : Addr} {fd : FuncData} (Fd : FunD K "__radd__" "Ratio.__radd__" (defArgs (mth 5 3)) (defBody (mth 5 3)) (defScope (mth 5 3)) [] [] f fd) : FnOk P w K mg base C8.CX0 7 f fd ["self", "other"] (SpV C [false, false] F_Ratio___radd__) :=
  fnV (N := N_Ratio___radd__) (k := 6) Fd (C8.fnScope_by (by decide +kernel)) rfl (by decide) dx.hK fun cdv A outer s H E g hC hr ok =>
    (Z0i (Z0j (se_opS (c := 0) hC (met_Ratio___add__ fx dx cf lx ek) (by decide +kernel) hr (by decide) ok dx.k_Ratio (Z0k hC (cal_as_ratio fx dx cf lx ek) hr (by decide) rfl Z0e (Z0b (Z0a (i := 1) (by rfl) ((by first | exact .inl rfl | exact .inr (.inl rfl) | exact .inr (.inr rfl))) (by decide) (by decide)) Z0c rfl) (by decide) rfl rfl) (Z0a (i := 0) (by rfl) ((by first | exact .inl rfl | exact .inr (.inl rfl) | exact .inr (.inr rfl))) (by decide) (by decide)))))
theorem met_Ratio___radd__ {P : Program} {w : World} {K : PySem.W.Frag} {mg : Str → Option Value} {base : Heap} {C : Ct} (fx : Fx mg) (dx : Dx K mg C) (cf : CF C lay nam) (lx : Lx K mg base C) (ek : Ek P w K mg base C) : C8.Met P w K mg base 7 (C.ad 0) "__radd__" (SpV C [false, false] F_Ratio___radd__) [] := by
  obtain ⟨f, fd, cl, me, Fd⟩ := dx.d_Ratio___radd__
  exact ⟨f, fd, ["self", "other"], [], cl, me, fn_Ratio___radd__ fx dx cf lx ek Fd, (Fd.bindsN (ps := ["self", "other"]) fun _ _ _ _ _ _ us hl => match us, hl with | [_, _], _ => rfl), .nil⟩
def N_Ratio___rsub__ : List Str := ["self", "other"]
def d_Ratio___rsub__ : Env' → Res Fl := (dRet (dOpS 0 F_Ratio___sub__ (dFn [false] F_as_ratio [] [(dVar 1)]) (dVar 0)))
def F_Ratio___rsub__ : List PV → FR := callFn 2 [false, false] d_Ratio___rsub__
theorem fn_Ratio___rsub__ {P : Program} {w : World} {K : PySem.W.Frag} {mg : Str → Option Value} {base : Heap} {C : Ct} (fx : Fx mg) (dx : Dx K mg C) (cf : CF C lay nam) (lx : Lx K mg base C) (ek : Ek P w K mg base C) {f : Addr} {fd : FuncData} (Fd : FunD K "__rsub__" "Ratio.__rsub__" (defArgs (mth 5 5)) (defBody (mth 5 5)) (defScope (mth 5 5)) [] [] f fd) : FnOk P w K mg base C8.CX0 7 f fd ["self", "other"] (SpV C [false, false] F_Ratio___rsub__) :=
  fnV (N := N_Ratio___rsub__) (k := 6) Fd (C8.fnScope_by (by decide +kernel)) rfl (by decide) dx.hK fun cdv A outer s H E g hC hr ok =>
    (Z0i (Z0j (se_opS (c := 0) hC (met_Ratio___sub__ fx dx cf lx ek) (by decide +kernel) hr (by decide) ok dx.k_Ratio (Z0k hC (cal_as_ratio fx dx cf lx ek) hr (by decide) rfl Z0e (Z0b (Z0a (i := 1) (by rfl) ((by first | exact .inl rfl | exact .inr (.inl rfl) | exact .inr (.inr rfl))) (by decide) (by decide)) Z0c rfl) (by decide) rfl rfl) (Z0a (i := 0) (by rfl) ((by first | exact .inl rfl | exact .inr (.inl rfl) | exact .inr (.inr rfl))) (by decide) (by decide)))))
theorem met_Ratio___rsub__ {P : Program} {w : World} {K : PySem.W.Frag} {mg : Str → Option Value} {base : Heap} {C : Ct} (fx : Fx mg) (dx : Dx K mg C) (cf : CF C lay nam) (lx : Lx K mg base C) (ek : Ek P w K mg base C) : C8.Met P w K mg base 7 (C.ad 0) "__rsub__" (SpV C [false, false] F_Ratio___rsub__) [] := by
  obtain ⟨f, fd, cl, me, Fd⟩ := dx.d_Ratio___rsub__
  exact ⟨f, fd, ["self", "other"], [], cl, me, fn_Ratio___rsub__ fx dx cf lx ek Fd, (Fd.bindsN (ps := ["self", "other"]) fun _ _ _ _ _ _ us hl => match us, hl with | [_, _], _ => rfl), .nil⟩
def N_Ratio___rmul__ : List Str := ["self", "other"]
def d_Ratio___rmul__ : Env' → Res Fl := (dRet (dOpS 0 F_Ratio___mul__ (dFn [false] F_as_ratio [] [(dVar 1)]) (dVar 0)))
def F_Ratio___rmul__ : List PV → FR := callFn 2 [false, false] d_Ratio___rmul__
theorem fn_Ratio___rmul__ {P : Program} {w : World} {K : PySem.W.Frag} {mg : Str → Option Value} {base : Heap} {C : Ct} (fx : Fx mg) (dx : Dx K mg C) (cf : CF C lay nam) (lx : Lx K mg base C) (ek : Ek P w K mg base C) {f : Addr} {fd : FuncData} (Fd : FunD K "__rmul__" "Ratio.__rmul__" (defArgs (mth 5 7)) (defBody (mth 5 7)) (defScope (mth 5 7)) [] [] f fd) : FnOk P w K mg base C8.CX0 7 f fd ["self", "other"] (SpV C [false, false] F_Ratio___rmul__) :=
  fnV (N := N_Ratio___rmul__) (k := 6) Fd (C8.fnScope_by (by decide +kernel)) rfl (by decide) dx.hK fun cdv A outer s H E g hC hr ok =>
    (Z0i (Z0j (se_opS (c := 0) hC (met_Ratio___mul__ fx dx cf lx ek) (by decide +kernel) hr (by decide) ok dx.k_Ratio (Z0k hC (cal_as_ratio fx dx cf lx ek) hr (by decide) rfl Z0e (Z0b (Z0a (i := 1) (by rfl) ((by first | exact .inl rfl | exact .inr (.inl rfl) | exact .inr (.inr rfl))) (by decide) (by decide)) Z0c rfl) (by decide) rfl rfl) (Z0a (i := 0) (by rfl) ((by first | exact .inl rfl | exact .inr (.inl rfl) | exact .inr (.inr rfl))) (by decide) (by decide)))))
theorem met_Ratio___rmul__ {P : Program} {w : World} {K : PySem.W.Frag} {mg : Str → Option Value} {base : Heap} {C : Ct} (fx : Fx mg) (dx : Dx K mg C) (cf : CF C lay nam) (lx : Lx K mg base C) (ek : Ek P w K mg base C) : C8.Met P w K mg base 7 (C.ad 0) "__rmul__" (SpV C [false, false] F_Ratio___rmul__) [] := by
  obtain ⟨f, fd, cl, me, Fd⟩ := dx.d_Ratio___rmul__
  exact ⟨f, fd, ["self", "other"], [], cl, me, fn_Ratio___rmul__ fx dx cf lx ek Fd, (Fd.bindsN (ps := ["self", "other"]) fun _ _ _ _ _ _ us hl => match us, hl with | [_, _], _ => rfl), .nil⟩
def N_law_whole : List Str := ["_law_one", "_law_a", "_law_b", "_law_n", "_law_told", "_law_due", "_law_at", "_law_less"]
theorem nd_law_whole : N_law_whole.Nodup := by decide
def d_law_whole : Env' → Res Fl := (dSeq (dSet 4 (dLst [(dOpO 0 F_Ratio___add__ F_Ratio___radd__ (dVar 0) (dVar 3)), (dOpO 0 F_Ratio___add__ F_Ratio___radd__ (dVar 3) (dVar 0)), (dOpO 0 F_Ratio___sub__ F_Ratio___rsub__ (dVar 0) (dVar 3)), (dOpO 0 F_Ratio___sub__ F_Ratio___rsub__ (dVar 3) (dVar 0)), (dOpO 0 F_Ratio___mul__ F_Ratio___rmul__ (dVar 0) (dVar 3)), (dOpO 0 F_Ratio___mul__ F_Ratio___rmul__ (dVar 3) (dVar 0))])) (dSeq (dSet 5 (dLst [(dTup [(dBin semAdd (dVar 1) (dBin semMul (dVar 3) (dVar 2))), (dVar 2)]), (dTup [(dBin semAdd (dVar 1) (dBin semMul (dVar 3) (dVar 2))), (dVar 2)]), (dTup [(dBin semSub (dVar 1) (dBin semMul (dVar 3) (dVar 2))), (dVar 2)]), (dTup [(dBin semSub (dBin semMul (dVar 3) (dVar 2)) (dVar 1)), (dVar 2)]), (dTup [(dBin semMul (dVar 1) (dVar 3)), (dVar 2)]), (dTup [(dBin semMul (dVar 1) (dVar 3)), (dVar 2)])])) (dSeq (dIfS (dOrT (dNotT (dTru (dCall semAll [(dLc [6] (dRng1 (fun e => .ok (.fz (.int 6)) e)) (uNm 6) none (dFn [false, false, false] F_law_is [] [(dBin semIx (dVar 4) (dVar 6)), (dBin semIx (dBin semIx (dVar 5) (dVar 6)) (fun e => .ok (.fz (.int 0)) e)), (dBin semIx (dBin semIx (dVar 5) (dVar 6)) (fun e => .ok (.fz (.int 1)) e))]))]))) (asB (dOwnQ false 0 F_Ratio___eq__ (dVar 0) (dVar 3)))) (dRet (fun e => .ok (.fz (.bl false)) e)) (fun e => .ok .nx e)) (dSeq (dSet 7 (dBin semLt (dBin semMul (dVar 1) (dVar 2)) (dBin semMul (dBin semMul (dVar 3) (dVar 2)) (dVar 2)))) (dSeq (dIfS (dOrT (dAndT (asB (dBin semIsNot (dMt 0 [false, false] F_Ratio_is_less [] (dVar 0) [(dVar 3)]) (fun e => .ok (.fz (.bl true)) e))) (dTru (dVar 7))) (dAndT (asB (dBin semIsNot (dMt 0 [false, false] F_Ratio_is_less [] (dVar 0) [(dVar 3)]) (fun e => .ok (.fz (.bl false)) e))) (dNotT (dTru (dVar 7))))) (dRet (fun e => .ok (.fz (.bl false)) e)) (fun e => .ok .nx e)) (dRet (dIf (asB (dBin semEq (dVar 3) (fun e => .ok (.fz (.int 0)) e))) (dRefB eLay (cl_law_bad.map (ClE.d ansX (some 1))) (dMtX 0 [false, false] F_Ratio_divided [] (dVar 0) [(dVar 3)])) (dFn [false, false, false] F_law_is [] [(dMt 0 [false, false] (okX F_Ratio_divided) [] (dVar 0) [(dVar 3)]), (dVar 1), (dBin semMul (dVar 2) (dVar 3))]))))))))
def F_law_whole : List PV → FR := callFn 8 [false, false, false, false] d_law_whole
theorem fn_law_whole {P : Program} {w : World} {K : PySem.W.Frag} {mg : Str → Option Value} {base : Heap} {C : Ct} (fx : Fx mg) (dx : Dx K mg C) (cf : CF C lay nam) (lx : Lx K mg base C) (ek : Ek P w K mg base C) {f : Addr} {fd : FuncData} (Fd : FunD K "_law_whole" "_law_whole" (defArgs (top 16)) (defBody (top 16)) (defScope (top 16)) [] [] f fd) {c : Addr} (hc : fd.code = .ref c) (lf : LamF base mg C "_law_whole" c) : FnOk P w K mg base C8.CX0 9 f fd ["_law_one", "_law_a", "_law_b", "_law_n"] (SpV C [false, false, false, false] F_law_whole) :=
  fnEc (N := N_law_whole) (k := 8) Fd hc (C8.fnScope_by (by decide +kernel)) rfl (by decide) dx.hK fun A outer s H E g hC hr ok ex =>
    (Z0g (ss_set (i := 4) nd_law_whole rfl ((by first | exact .inl rfl | exact .inr rfl)) (se_lst (Z0b (se_opN (.inl rfl) (c := 0) hC (met_Ratio___add__ fx dx cf lx ek) (met_Ratio___radd__ fx dx cf lx ek) (by decide +kernel) (by decide +kernel) hr (by decide) (by decide) ok dx.k_Ratio (Z0a (i := 0) (by rfl) ((by first | exact .inl rfl | exact .inr (.inl rfl) | exact .inr (.inr rfl))) (by decide) (by decide)) (Z0a (i := 3) (by rfl) ((by first | exact .inl rfl | exact .inr (.inl rfl) | exact .inr (.inr rfl))) (by decide) (by decide))) (Z0b (se_opN (.inl rfl) (c := 0) hC (met_Ratio___add__ fx dx cf lx ek) (met_Ratio___radd__ fx dx cf lx ek) (by decide +kernel) (by decide +kernel) hr (by decide) (by decide) ok dx.k_Ratio (Z0a (i := 3) (by rfl) ((by first | exact .inl rfl | exact .inr (.inl rfl) | exact .inr (.inr rfl))) (by decide) (by decide)) (Z0a (i := 0) (by rfl) ((by first | exact .inl rfl | exact .inr (.inl rfl) | exact .inr (.inr rfl))) (by decide) (by decide))) (Z0b (se_opN (.inr (.inl rfl)) (c := 0) hC (met_Ratio___sub__ fx dx cf lx ek) (met_Ratio___rsub__ fx dx cf lx ek) (by decide +kernel) (by decide +kernel) hr (by decide) (by decide) ok dx.k_Ratio (Z0a (i := 0) (by rfl) ((by first | exact .inl rfl | exact .inr (.inl rfl) | exact .inr (.inr rfl))) (by decide) (by decide)) (Z0a (i := 3) (by rfl) ((by first | exact .inl rfl | exact .inr (.inl rfl) | exact .inr (.inr rfl))) (by decide) (by decide))) (Z0b (se_opN (.inr (.inl rfl)) (c := 0) hC (met_Ratio___sub__ fx dx cf lx ek) (met_Ratio___rsub__ fx dx cf lx ek) (by decide +kernel) (by decide +kernel) hr (by decide) (by decide) ok dx.k_Ratio (Z0a (i := 3) (by rfl) ((by first | exact .inl rfl | exact .inr (.inl rfl) | exact .inr (.inr rfl))) (by decide) (by decide)) (Z0a (i := 0) (by rfl) ((by first | exact .inl rfl | exact .inr (.inl rfl) | exact .inr (.inr rfl))) (by decide) (by decide))) (Z0b (se_opN (.inr (.inr rfl)) (c := 0) hC (met_Ratio___mul__ fx dx cf lx ek) (met_Ratio___rmul__ fx dx cf lx ek) (by decide +kernel) (by decide +kernel) hr (by decide) (by decide) ok dx.k_Ratio (Z0a (i := 0) (by rfl) ((by first | exact .inl rfl | exact .inr (.inl rfl) | exact .inr (.inr rfl))) (by decide) (by decide)) (Z0a (i := 3) (by rfl) ((by first | exact .inl rfl | exact .inr (.inl rfl) | exact .inr (.inr rfl))) (by decide) (by decide))) (Z0b (se_opN (.inr (.inr rfl)) (c := 0) hC (met_Ratio___mul__ fx dx cf lx ek) (met_Ratio___rmul__ fx dx cf lx ek) (by decide +kernel) (by decide +kernel) hr (by decide) (by decide) ok dx.k_Ratio (Z0a (i := 3) (by rfl) ((by first | exact .inl rfl | exact .inr (.inl rfl) | exact .inr (.inr rfl))) (by decide) (by decide)) (Z0a (i := 0) (by rfl) ((by first | exact .inl rfl | exact .inr (.inl rfl) | exact .inr (.inr rfl))) (by decide) (by decide))) Z0c rfl) rfl) rfl) rfl) rfl) rfl)) rfl ((by first | exact .inr rfl | exact .inl rfl)))
    (Z0g (ss_set (i := 5) nd_law_whole rfl ((by first | exact .inl rfl | exact .inr rfl)) (se_lst (Z0b (se_tup (Z0b (Z0d (Z0a (i := 1) (by rfl) ((by first | exact .inl rfl | exact .inr (.inl rfl) | exact .inr (.inr rfl))) (by decide) (by decide)) (Z0d (Z0a (i := 3) (by rfl) ((by first | exact .inl rfl | exact .inr (.inl rfl) | exact .inr (.inr rfl))) (by decide) (by decide)) (Z0a (i := 2) (by rfl) ((by first | exact .inl rfl | exact .inr (.inl rfl) | exact .inr (.inr rfl))) (by decide) (by decide)) Z0l) o_add) (Z0b (Z0a (i := 2) (by rfl) ((by first | exact .inl rfl | exact .inr (.inl rfl) | exact .inr (.inr rfl))) (by decide) (by decide)) Z0c rfl) rfl)) (Z0b (se_tup (Z0b (Z0d (Z0a (i := 1) (by rfl) ((by first | exact .inl rfl | exact .inr (.inl rfl) | exact .inr (.inr rfl))) (by decide) (by decide)) (Z0d (Z0a (i := 3) (by rfl) ((by first | exact .inl rfl | exact .inr (.inl rfl) | exact .inr (.inr rfl))) (by decide) (by decide)) (Z0a (i := 2) (by rfl) ((by first | exact .inl rfl | exact .inr (.inl rfl) | exact .inr (.inr rfl))) (by decide) (by decide)) Z0l) o_add) (Z0b (Z0a (i := 2) (by rfl) ((by first | exact .inl rfl | exact .inr (.inl rfl) | exact .inr (.inr rfl))) (by decide) (by decide)) Z0c rfl) rfl)) (Z0b (se_tup (Z0b (Z0d (Z0a (i := 1) (by rfl) ((by first | exact .inl rfl | exact .inr (.inl rfl) | exact .inr (.inr rfl))) (by decide) (by decide)) (Z0d (Z0a (i := 3) (by rfl) ((by first | exact .inl rfl | exact .inr (.inl rfl) | exact .inr (.inr rfl))) (by decide) (by decide)) (Z0a (i := 2) (by rfl) ((by first | exact .inl rfl | exact .inr (.inl rfl) | exact .inr (.inr rfl))) (by decide) (by decide)) Z0l) o_sub) (Z0b (Z0a (i := 2) (by rfl) ((by first | exact .inl rfl | exact .inr (.inl rfl) | exact .inr (.inr rfl))) (by decide) (by decide)) Z0c rfl) rfl)) (Z0b (se_tup (Z0b (Z0d (Z0d (Z0a (i := 3) (by rfl) ((by first | exact .inl rfl | exact .inr (.inl rfl) | exact .inr (.inr rfl))) (by decide) (by decide)) (Z0a (i := 2) (by rfl) ((by first | exact .inl rfl | exact .inr (.inl rfl) | exact .inr (.inr rfl))) (by decide) (by decide)) Z0l) (Z0a (i := 1) (by rfl) ((by first | exact .inl rfl | exact .inr (.inl rfl) | exact .inr (.inr rfl))) (by decide) (by decide)) o_sub) (Z0b (Z0a (i := 2) (by rfl) ((by first | exact .inl rfl | exact .inr (.inl rfl) | exact .inr (.inr rfl))) (by decide) (by decide)) Z0c rfl) rfl)) (Z0b (se_tup (Z0b (Z0d (Z0a (i := 1) (by rfl) ((by first | exact .inl rfl | exact .inr (.inl rfl) | exact .inr (.inr rfl))) (by decide) (by decide)) (Z0a (i := 3) (by rfl) ((by first | exact .inl rfl | exact .inr (.inl rfl) | exact .inr (.inr rfl))) (by decide) (by decide)) Z0l) (Z0b (Z0a (i := 2) (by rfl) ((by first | exact .inl rfl | exact .inr (.inl rfl) | exact .inr (.inr rfl))) (by decide) (by decide)) Z0c rfl) rfl)) (Z0b (se_tup (Z0b (Z0d (Z0a (i := 1) (by rfl) ((by first | exact .inl rfl | exact .inr (.inl rfl) | exact .inr (.inr rfl))) (by decide) (by decide)) (Z0a (i := 3) (by rfl) ((by first | exact .inl rfl | exact .inr (.inl rfl) | exact .inr (.inr rfl))) (by decide) (by decide)) Z0l) (Z0b (Z0a (i := 2) (by rfl) ((by first | exact .inl rfl | exact .inr (.inl rfl) | exact .inr (.inr rfl))) (by decide) (by decide)) Z0c rfl) rfl)) Z0c rfl) rfl) rfl) rfl) rfl) rfl)) rfl ((by first | exact .inr rfl | exact .inl rfl)))
    (Z0g (ss_if (PW.pt (sw_or (st_not (st_val ok.K (se_callB (c_all ok) rfl fx.n_all boot_all (Z0b (se_lc (vs := [6]) [("_law_at", 6)] ok nd_law_whole (si_range1 rfl fx.n_range (Z0b Z0f Z0c rfl) rfl) (blkOk_by (by rfl)) rfl (by decide) (fun _ _ _ _ _ g1 h1 ok1 => (sg_name (i := 6) nd_law_whole rfl ((by first | exact .inl rfl | exact .inr rfl)) ((by first | exact .inr rfl | exact .inl rfl)))) (fun _ _ _ _ _ g1 h1 ok1 => sts_nil) (fun _ _ _ _ _ g1 h1 ok1 => (Z0k (h1.trans hC) (cal_law_is fx dx cf lx ek) hr (by decide) rfl Z0e (Z0b (se_ix (o_ix ok1) (Z0a (i := 4) (by rfl) ((by first | exact .inl rfl | exact .inr (.inl rfl) | exact .inr (.inr rfl))) (by decide) (by decide)) (Z0a (i := 6) (by rfl) ((by first | exact .inl rfl | exact .inr (.inl rfl) | exact .inr (.inr rfl))) (by decide) (by decide)) (fun _ _ => rfl)) (Z0b (se_ix (o_ix ok1) (se_ix (o_ix ok1) (Z0a (i := 5) (by rfl) ((by first | exact .inl rfl | exact .inr (.inl rfl) | exact .inr (.inr rfl))) (by decide) (by decide)) (Z0a (i := 6) (by rfl) ((by first | exact .inl rfl | exact .inr (.inl rfl) | exact .inr (.inr rfl))) (by decide) (by decide)) (fun _ _ => rfl)) Z0f (fun _ _ => rfl)) (Z0b (se_ix (o_ix ok1) (se_ix (o_ix ok1) (Z0a (i := 5) (by rfl) ((by first | exact .inl rfl | exact .inr (.inl rfl) | exact .inr (.inr rfl))) (by decide) (by decide)) (Z0a (i := 6) (by rfl) ((by first | exact .inl rfl | exact .inr (.inl rfl) | exact .inr (.inr rfl))) (by decide) (by decide)) (fun _ _ => rfl)) Z0f (fun _ _ => rfl)) Z0c rfl) rfl) rfl) (by decide) rfl rfl)) (fun _ => rfl)) Z0c rfl) (by decide) (by decide) rfl rfl) (fun _ => rfl))) (sw_or1 (st_ownQC false rfl (c := 0) hC (met_Ratio___eq__ fx dx cf lx ek) hr (by decide) ok cf dx.ne_Ratio (Z0a (i := 0) (by rfl) ((by first | exact .inl rfl | exact .inr (.inl rfl) | exact .inr (.inr rfl))) (by decide) (by decide)) (Z0a (i := 3) (by rfl) ((by first | exact .inl rfl | exact .inr (.inl rfl) | exact .inr (.inr rfl))) (by decide) (by decide)) rfl)))) (Z0i (Z0j se_bl)) ss_nil)
    (Z0g (ss_set (i := 7) nd_law_whole rfl ((by first | exact .inl rfl | exact .inr rfl)) (se_cmp (Z0d (Z0a (i := 1) (by rfl) ((by first | exact .inl rfl | exact .inr (.inl rfl) | exact .inr (.inr rfl))) (by decide) (by decide)) (Z0a (i := 2) (by rfl) ((by first | exact .inl rfl | exact .inr (.inl rfl) | exact .inr (.inr rfl))) (by decide) (by decide)) Z0l) (Z0d (Z0d (Z0a (i := 3) (by rfl) ((by first | exact .inl rfl | exact .inr (.inl rfl) | exact .inr (.inr rfl))) (by decide) (by decide)) (Z0a (i := 2) (by rfl) ((by first | exact .inl rfl | exact .inr (.inl rfl) | exact .inr (.inr rfl))) (by decide) (by decide)) Z0l) (Z0a (i := 2) (by rfl) ((by first | exact .inl rfl | exact .inr (.inl rfl) | exact .inr (.inr rfl))) (by decide) (by decide)) Z0l) o_lt rfl) rfl ((by first | exact .inr rfl | exact .inl rfl)))
    (Z0g (ss_if (PW.pt (sw_or (PW.pt (sw_and (st_cmp (se_mtC (c := 0) hC rfl cf (met_Ratio_is_less fx dx cf lx ek) hr (by decide) Z0e (by decide) (Z0a (i := 0) (by rfl) ((by first | exact .inl rfl | exact .inr (.inl rfl) | exact .inr (.inr rfl))) (by decide) (by decide)) (Z0b (Z0a (i := 3) (by rfl) ((by first | exact .inl rfl | exact .inr (.inl rfl) | exact .inr (.inr rfl))) (by decide) (by decide)) Z0c rfl) rfl rfl rfl) se_bl o_isnot rfl) (sw_and1 (st_val ok.K (Z0a (i := 7) (by rfl) ((by first | exact .inl rfl | exact .inr (.inl rfl) | exact .inr (.inr rfl))) (by decide) (by decide)) (fun _ => rfl))))) (sw_or1 (PW.pt (sw_and (st_cmp (se_mtC (c := 0) hC rfl cf (met_Ratio_is_less fx dx cf lx ek) hr (by decide) Z0e (by decide) (Z0a (i := 0) (by rfl) ((by first | exact .inl rfl | exact .inr (.inl rfl) | exact .inr (.inr rfl))) (by decide) (by decide)) (Z0b (Z0a (i := 3) (by rfl) ((by first | exact .inl rfl | exact .inr (.inl rfl) | exact .inr (.inr rfl))) (by decide) (by decide)) Z0c rfl) rfl rfl rfl) se_bl o_isnot rfl) (sw_and1 (st_not (st_val ok.K (Z0a (i := 7) (by rfl) ((by first | exact .inl rfl | exact .inr (.inl rfl) | exact .inr (.inr rfl))) (by decide) (by decide)) (fun _ => rfl))))))))) (Z0i (Z0j se_bl)) ss_nil)
    (Z0i (Z0j (se_if (st_cmp (Z0a (i := 3) (by rfl) ((by first | exact .inl rfl | exact .inr (.inl rfl) | exact .inr (.inr rfl))) (by decide) (by decide)) Z0f (o_eq ok) rfl) (dx.d_law_bad.elim fun gf hf => hf.elim fun fd Fg => lf.ex.elim fun P hP => se_refBF (P := P) (k := 6) (y := 1) (j0 := 8) (ls := cl_law_bad) hC ok ek.co ek.eL ek.ans oi_law_bad (by decide) rfl Fg.1 Fg.2 rfl rfl (by decide) rfl (by decide) (by decide) (fun _ _ _ _ _ _ us hl => match us, hl with | [_], _ => rfl) (Ng := N_law_bad) sg_law_bad rfl (.inl rfl) (fun _ _ _ => hcl_law_bad cf ek) (fun _ => rfl) (fun _ => rfl) hP.1 rfl hP.2.1 hP.2.2 hr (by decide) (LamX.lamS_by (show LamX.lamSB (defScope (top 16)) _ = true by decide +kernel)) rfl (fun _ _ _ _ _ => rfl) (fun A1 o1 s1 H1 E1 f1 c1 g1 hC1 hr1 ok1 ex1 => (se_mtXC (c := 0) hC1 rfl cf ex1 (metX_Ratio_divided fx dx cf lx ek) hr1 (by decide) Z0e (by decide) (Z0a (i := 0) (by rfl) ((by first | exact .inl rfl | exact .inr (.inl rfl) | exact .inr (.inr rfl))) (by decide) (by decide)) (Z0b (Z0a (i := 3) (by rfl) ((by first | exact .inl rfl | exact .inr (.inl rfl) | exact .inr (.inr rfl))) (by decide) (by decide)) Z0c rfl) rfl rfl rfl)) (by decide) (by decide) (by decide)) (Z0k hC (cal_law_is fx dx cf lx ek) hr (by decide) rfl Z0e (Z0b (se_mtC (c := 0) hC rfl cf (metOk (metX_Ratio_divided fx dx cf lx ek)) hr (by decide) Z0e (by decide) (Z0a (i := 0) (by rfl) ((by first | exact .inl rfl | exact .inr (.inl rfl) | exact .inr (.inr rfl))) (by decide) (by decide)) (Z0b (Z0a (i := 3) (by rfl) ((by first | exact .inl rfl | exact .inr (.inl rfl) | exact .inr (.inr rfl))) (by decide) (by decide)) Z0c rfl) rfl rfl rfl) (Z0b (Z0a (i := 1) (by rfl) ((by first | exact .inl rfl | exact .inr (.inl rfl) | exact .inr (.inr rfl))) (by decide) (by decide)) (Z0b (Z0d (Z0a (i := 2) (by rfl) ((by first | exact .inl rfl | exact .inr (.inl rfl) | exact .inr (.inr rfl))) (by decide) (by decide)) (Z0a (i := 3) (by rfl) ((by first | exact .inl rfl | exact .inr (.inl rfl) | exact .inr (.inr rfl))) (by decide) (by decide)) Z0l) Z0c rfl) rfl) rfl) (by decide) rfl rfl)))))))))
theorem cal_law_whole {P : Program} {w : World} {K : PySem.W.Frag} {mg : Str → Option Value} {base : Heap} {C : Ct} (fx : Fx mg) (dx : Dx K mg C) (cf : CF C lay nam) (lx : Lx K mg base C) (ek : Ek P w K mg base C) : C8.Cal P w K mg base 9 "_law_whole" (SpV C [false, false, false, false] F_law_whole) [] := by
  obtain ⟨f, fd, c, hm, Fd, hc, lf⟩ := lx.l_law_whole
  exact ⟨f, fd, ["_law_one", "_law_a", "_law_b", "_law_n"], [], fn_law_whole fx dx cf lx ek Fd hc lf, hm, Fd.kp, (Fd.bindsN (ps := ["_law_one", "_law_a", "_law_b", "_law_n"]) fun _ _ _ _ _ _ us hl => match us, hl with | [_, _, _, _], _ => rfl), .nil⟩
def N_Ratio___str__ : List Str := ["self"]
def d_Ratio___str__ : Env' → Res Fl := (dSeq (dIfS (asB (dBin semEq (dFldL lay 1 (dVar 0)) (fun e => .ok (.fz (.int 1)) e))) (dRet (dCall semStr [(dFldL lay 0 (dVar 0))])) (fun e => .ok .nx e)) (dRet (dJoin [(dFmt (dFldL lay 0 (dVar 0))), (fun e => .ok (.fz (.str "/")) e), (dFmt (dFldL lay 1 (dVar 0)))])))
def F_Ratio___str__ : List PV → FR := callFn 1 [false] d_Ratio___str__
theorem fn_Ratio___str__ {P : Program} {w : World} {K : PySem.W.Frag} {mg : Str → Option Value} {base : Heap} {C : Ct} (fx : Fx mg) (dx : Dx K mg C) (cf : CF C lay nam) (lx : Lx K mg base C) (ek : Ek P w K mg base C) {f : Addr} {fd : FuncData} (Fd : FunD K "__str__" "Ratio.__str__" (defArgs (mth 5 10)) (defBody (mth 5 10)) (defScope (mth 5 10)) [] [] f fd) : FnOk P w K mg base C8.CX0 1 f fd ["self"] (SpV C [false] F_Ratio___str__) :=
  fnV (N := N_Ratio___str__) (k := 0) Fd (C8.fnScope_by (by decide +kernel)) rfl (by decide) dx.hK fun cdv A outer s H E g hC hr ok =>
    (Z0g (ss_if (st_cmp (Z0h (f := 1) hC ok cf rfl (Z0a (i := 0) (by rfl) ((by first | exact .inl rfl | exact .inr (.inl rfl) | exact .inr (.inr rfl))) (by decide) (by decide)) rfl) Z0f (o_eq ok) rfl) (Z0i (Z0j (se_callTy (c_str) rfl fx.n_str boot_str (Z0b (Z0h (f := 0) hC ok cf rfl (Z0a (i := 0) (by rfl) ((by first | exact .inl rfl | exact .inr (.inl rfl) | exact .inr (.inr rfl))) (by decide) (by decide)) rfl) Z0c rfl) (by decide) (by decide) rfl rfl))) ss_nil)
    (Z0i (Z0j (se_join (pj_c (se_fmt (Z0h (f := 0) hC ok cf rfl (Z0a (i := 0) (by rfl) ((by first | exact .inl rfl | exact .inr (.inl rfl) | exact .inr (.inr rfl))) (by decide) (by decide)) rfl)) (pj_c se_str (pj_c (se_fmt (Z0h (f := 1) hC ok cf rfl (Z0a (i := 0) (by rfl) ((by first | exact .inl rfl | exact .inr (.inl rfl) | exact .inr (.inr rfl))) (by decide) (by decide)) rfl)) pj_n)))))))
theorem met_Ratio___str__ {P : Program} {w : World} {K : PySem.W.Frag} {mg : Str → Option Value} {base : Heap} {C : Ct} (fx : Fx mg) (dx : Dx K mg C) (cf : CF C lay nam) (lx : Lx K mg base C) (ek : Ek P w K mg base C) : C8.Met P w K mg base 1 (C.ad 0) "__str__" (SpV C [false] F_Ratio___str__) [] := by
  obtain ⟨f, fd, cl, me, Fd⟩ := dx.d_Ratio___str__
  exact ⟨f, fd, ["self"], [], cl, me, fn_Ratio___str__ fx dx cf lx ek Fd, (Fd.bindsN (ps := ["self"]) fun _ _ _ _ _ _ us hl => match us, hl with | [_], _ => rfl), .nil⟩
def N_law : List Str := ["_law_script", "_law_pen", "_law_turn", "_law_a", "_law_c", "_law_n", "_law_b", "_law_d", "_law_one", "_law_other", "_law_number", "_law_over"]
theorem nd_law : N_law.Nodup := by decide
def d_law : Env' → Res Fl := (dSeq (dSet 1 (dFn [false] F_law_pen_of [] [(dVar 0)])) (dSeq (dFor (dRng1 (fun e => .ok (.fz (.int 6)) e)) (uNm 2) (dSeq (dPar [3, 4, 5] [(dFn [true] F_law_number_of [] [(dVar 1)]), (dFn [true] F_law_number_of [] [(dVar 1)]), (dFn [true] F_law_number_of [] [(dVar 1)])]) (dSeq (dPar [6, 7] [(dBin semAdd (fun e => .ok (.fz (.int 1)) e) (dFn [true, false] F_law_draw [] [(dVar 1), (fun e => .ok (.fz (.int 12)) e)])), (dBin semSub (dUn semNeg (fun e => .ok (.fz (.int 1)) e)) (dBin semMul (dFn [true, false] F_law_draw [] [(dVar 1), (fun e => .ok (.fz (.int 9)) e)]) (dBin semPow (fun e => .ok (.fz (.int 10)) e) (fun e => .ok (.fz (.int 20)) e))))]) (dSeq (dPar [8, 9] [(dMk 0 [false, false] (okX F_Ratio___init__) [] [(dVar 3), (dVar 6)]), (dMk 0 [false, false] (okX F_Ratio___init__) [] [(dVar 4), (dVar 7)])]) (dSeq (dIfS (dOrT (dNotT (dTru (dFn [false, false, false, false, false, false] F_law_pair [] [(dVar 8), (dVar 9), (dVar 3), (dVar 6), (dVar 4), (dVar 7)]))) (dNotT (dTru (dFn [false, false, false, false, false, false] F_law_pair [] [(dVar 9), (dVar 8), (dVar 4), (dVar 7), (dVar 3), (dVar 6)])))) (dRet (fun e => .ok (.fz (.bl false)) e)) (fun e => .ok .nx e)) (dSeq (dIfS (dOrT (dNotT (dTru (dFn [false, false, false, false] F_law_whole [] [(dVar 8), (dVar 3), (dVar 6), (dVar 5)]))) (dNotT (dTru (dFn [false, false, false, false] F_law_whole [] [(dVar 9), (dVar 4), (dVar 7), (dVar 5)])))) (dRet (fun e => .ok (.fz (.bl false)) e)) (fun e => .ok .nx e)) (dSeq (dAsgT (dFn [false, false] F_law_lowest [] [(dVar 3), (dVar 6)]) (uTup 2 (uCons (uNm 10) (uCons (uNm 11) uNil)))) (dSeq (dIfS (asB (dBin semNe (dStrO 0 F_Ratio___str__ [(dVar 8)]) (dIf (asB (dBin semEq (dVar 11) (fun e => .ok (.fz (.int 1)) e))) (dCall semStr [(dVar 10)]) (dBin semAdd (dBin semAdd (dCall semStr [(dVar 10)]) (fun e => .ok (.fz (.str "/")) e)) (dCall semStr [(dVar 11)]))))) (dRet (fun e => .ok (.fz (.bl false)) e)) (fun e => .ok .nx e)) (dIfS (dOrT (dNotT (dTru (dFn [false, false, false] F_law_is [] [(dMk 0 [false, false] (okX F_Ratio___init__) [.int 1] [(dVar 5)]), (dVar 5), (fun e => .ok (.fz (.int 1)) e)]))) (dNotT (dTru (dRefB eLay (cl_law_bad.map (ClE.d ansX (some 1))) (dMkX 0 [false, false] F_Ratio___init__ [] [(dVar 3), (fun e => .ok (.fz (.int 0)) e)]))))) (dRet (fun e => .ok (.fz (.bl false)) e)) (fun e => .ok .nx e)))))))))) (dRet (dBool true (dFn [false, false, false] F_law_is [] [(dMk 0 [false, false] (okX F_Ratio___init__) [] [(fun e => .ok (.fz (.int 0)) e), (dUn semNeg (fun e => .ok (.fz (.int 7)) e))]), (fun e => .ok (.fz (.int 0)) e), (fun e => .ok (.fz (.int 1)) e)]) (dBool true (dOwnQ true 0 F_Ratio___eq__ (dMk 0 [false, false] (okX F_Ratio___init__) [.int 1] [(fun e => .ok (.fz (.int 2)) e)]) (fun e => .ok (.fz (.int 2)) e)) (dNot (dOwnQ false 0 F_Ratio___eq__ (dMk 0 [false, false] (okX F_Ratio___init__) [.int 1] [(fun e => .ok (.fz (.int 2)) e)]) (fun e => .ok (.fz (.int 2)) e))))))))
def F_law : List PV → FR := callFn 12 [false] d_law
theorem fn_law {P : Program} {w : World} {K : PySem.W.Frag} {mg : Str → Option Value} {base : Heap} {C : Ct} (fx : Fx mg) (dx : Dx K mg C) (cf : CF C lay nam) (lx : Lx K mg base C) (ek : Ek P w K mg base C) {f : Addr} {fd : FuncData} (Fd : FunD K "law" "law" (defArgs (top 17)) (defBody (top 17)) (defScope (top 17)) [] [] f fd) {c : Addr} (hc : fd.code = .ref c) (lf : LamF base mg C "law" c) : FnOk P w K mg base C8.CX0 10 f fd ["_law_script"] (SpV C [false] F_law) :=
  fnEc (N := N_law) (k := 9) Fd hc (C8.fnScope_by (by decide +kernel)) rfl (by decide) dx.hK fun A outer s H E g hC hr ok ex =>
    (Z0g (ss_set (i := 1) nd_law rfl ((by first | exact .inl rfl | exact .inr rfl)) (Z0k hC (cal_law_pen_of fx dx cf lx ek) hr (by decide) rfl Z0e (Z0b (Z0a (i := 0) (by rfl) ((by first | exact .inl rfl | exact .inr (.inl rfl) | exact .inr (.inr rfl))) (by decide) (by decide)) Z0c rfl) (by decide) rfl rfl) rfl ((by first | exact .inr rfl | exact .inl rfl)))
    (Z0g (ss_for PassesOwn.never ok (si_range1 rfl fx.n_range (Z0b Z0f Z0c rfl) rfl) (sg_name (i := 2) nd_law rfl ((by first | exact .inl rfl | exact .inr rfl)) ((by first | exact .inr rfl | exact .inl rfl))) (Z0g (ss_parO ok rfl (by decide) (sgn_cons (i := 3) nd_law rfl ((by first | exact .inl rfl | exact .inr rfl)) ((by first | exact .inr rfl | exact .inl rfl)) (sgn_cons (i := 4) nd_law rfl ((by first | exact .inl rfl | exact .inr rfl)) ((by first | exact .inr rfl | exact .inl rfl)) (sgn_cons (i := 5) nd_law rfl ((by first | exact .inl rfl | exact .inr rfl)) ((by first | exact .inr rfl | exact .inl rfl)) sgn_nil rfl) rfl) rfl) (sax_cons (fun g1 h1 => have ok1 := ok_c ok h1; (Z0k (h1.trans hC) (cal_law_number_of fx dx cf lx ek) hr (by decide) rfl Z0e (Z0b (Z0a (i := 1) (by rfl) ((by first | exact .inl rfl | exact .inr (.inl rfl) | exact .inr (.inr rfl))) (by decide) (by decide)) Z0c rfl) (by decide) rfl rfl)) (sax_cons (fun g1 h1 => have ok1 := ok_c ok h1; (Z0k (h1.trans hC) (cal_law_number_of fx dx cf lx ek) hr (by decide) rfl Z0e (Z0b (Z0a (i := 1) (by rfl) ((by first | exact .inl rfl | exact .inr (.inl rfl) | exact .inr (.inr rfl))) (by decide) (by decide)) Z0c rfl) (by decide) rfl rfl)) (sax_cons (fun g1 h1 => have ok1 := ok_c ok h1; (Z0k (h1.trans hC) (cal_law_number_of fx dx cf lx ek) hr (by decide) rfl Z0e (Z0b (Z0a (i := 1) (by rfl) ((by first | exact .inl rfl | exact .inr (.inl rfl) | exact .inr (.inr rfl))) (by decide) (by decide)) Z0c rfl) (by decide) rfl rfl)) sax_nil rfl) rfl) rfl) rfl rfl rfl rfl rfl)
    (Z0g (ss_par (i := 6) (j := 7) ok nd_law rfl rfl (by decide) rfl rfl (sax_cons (fun g1 h1 => have ok1 := ok_c ok h1; (Z0d Z0f (Z0k (h1.trans hC) (cal_law_draw fx dx cf lx ek) hr (by decide) rfl Z0e (Z0b (Z0a (i := 1) (by rfl) ((by first | exact .inl rfl | exact .inr (.inl rfl) | exact .inr (.inr rfl))) (by decide) (by decide)) (Z0b Z0f Z0c rfl) rfl) (by decide) rfl rfl) o_add)) (sax_cons (fun g1 h1 => have ok1 := ok_c ok h1; (Z0d (se_un Z0f o_neg) (Z0d (Z0k (h1.trans hC) (cal_law_draw fx dx cf lx ek) hr (by decide) rfl Z0e (Z0b (Z0a (i := 1) (by rfl) ((by first | exact .inl rfl | exact .inr (.inl rfl) | exact .inr (.inr rfl))) (by decide) (by decide)) (Z0b Z0f Z0c rfl) rfl) (by decide) rfl rfl) (Z0d Z0f Z0f o_pow) Z0l) o_sub)) sax_nil rfl) rfl) rfl rfl)
    (Z0g (ss_par (i := 8) (j := 9) ok nd_law rfl rfl (by decide) rfl rfl (sax_cons (fun g1 h1 => have ok1 := ok_c ok h1; (se_mkC (c := 0) (h1.trans hC) rfl (makOk (makX_Ratio fx dx cf lx ek)) hr (by decide) rfl Z0e (Z0b (Z0a (i := 3) (by rfl) ((by first | exact .inl rfl | exact .inr (.inl rfl) | exact .inr (.inr rfl))) (by decide) (by decide)) (Z0b (Z0a (i := 6) (by rfl) ((by first | exact .inl rfl | exact .inr (.inl rfl) | exact .inr (.inr rfl))) (by decide) (by decide)) Z0c rfl) rfl) (by decide) rfl rfl)) (sax_cons (fun g1 h1 => have ok1 := ok_c ok h1; (se_mkC (c := 0) (h1.trans hC) rfl (makOk (makX_Ratio fx dx cf lx ek)) hr (by decide) rfl Z0e (Z0b (Z0a (i := 4) (by rfl) ((by first | exact .inl rfl | exact .inr (.inl rfl) | exact .inr (.inr rfl))) (by decide) (by decide)) (Z0b (Z0a (i := 7) (by rfl) ((by first | exact .inl rfl | exact .inr (.inl rfl) | exact .inr (.inr rfl))) (by decide) (by decide)) Z0c rfl) rfl) (by decide) rfl rfl)) sax_nil rfl) rfl) rfl rfl)
    (Z0g (ss_if (PW.pt (sw_or (st_not (st_val ok.K (Z0k hC (cal_law_pair fx dx cf lx ek) hr (by decide) rfl Z0e (Z0b (Z0a (i := 8) (by rfl) ((by first | exact .inl rfl | exact .inr (.inl rfl) | exact .inr (.inr rfl))) (by decide) (by decide)) (Z0b (Z0a (i := 9) (by rfl) ((by first | exact .inl rfl | exact .inr (.inl rfl) | exact .inr (.inr rfl))) (by decide) (by decide)) (Z0b (Z0a (i := 3) (by rfl) ((by first | exact .inl rfl | exact .inr (.inl rfl) | exact .inr (.inr rfl))) (by decide) (by decide)) (Z0b (Z0a (i := 6) (by rfl) ((by first | exact .inl rfl | exact .inr (.inl rfl) | exact .inr (.inr rfl))) (by decide) (by decide)) (Z0b (Z0a (i := 4) (by rfl) ((by first | exact .inl rfl | exact .inr (.inl rfl) | exact .inr (.inr rfl))) (by decide) (by decide)) (Z0b (Z0a (i := 7) (by rfl) ((by first | exact .inl rfl | exact .inr (.inl rfl) | exact .inr (.inr rfl))) (by decide) (by decide)) Z0c rfl) rfl) rfl) rfl) rfl) rfl) (by decide) rfl rfl) (fun _ => rfl))) (sw_or1 (st_not (st_val ok.K (Z0k hC (cal_law_pair fx dx cf lx ek) hr (by decide) rfl Z0e (Z0b (Z0a (i := 9) (by rfl) ((by first | exact .inl rfl | exact .inr (.inl rfl) | exact .inr (.inr rfl))) (by decide) (by decide)) (Z0b (Z0a (i := 8) (by rfl) ((by first | exact .inl rfl | exact .inr (.inl rfl) | exact .inr (.inr rfl))) (by decide) (by decide)) (Z0b (Z0a (i := 4) (by rfl) ((by first | exact .inl rfl | exact .inr (.inl rfl) | exact .inr (.inr rfl))) (by decide) (by decide)) (Z0b (Z0a (i := 7) (by rfl) ((by first | exact .inl rfl | exact .inr (.inl rfl) | exact .inr (.inr rfl))) (by decide) (by decide)) (Z0b (Z0a (i := 3) (by rfl) ((by first | exact .inl rfl | exact .inr (.inl rfl) | exact .inr (.inr rfl))) (by decide) (by decide)) (Z0b (Z0a (i := 6) (by rfl) ((by first | exact .inl rfl | exact .inr (.inl rfl) | exact .inr (.inr rfl))) (by decide) (by decide)) Z0c rfl) rfl) rfl) rfl) rfl) rfl) (by decide) rfl rfl) (fun _ => rfl)))))) (Z0i (Z0j se_bl)) ss_nil)
    (Z0g (ss_if (PW.pt (sw_or (st_not (st_val ok.K (Z0k hC (cal_law_whole fx dx cf lx ek) hr (by decide) rfl Z0e (Z0b (Z0a (i := 8) (by rfl) ((by first | exact .inl rfl | exact .inr (.inl rfl) | exact .inr (.inr rfl))) (by decide) (by decide)) (Z0b (Z0a (i := 3) (by rfl) ((by first | exact .inl rfl | exact .inr (.inl rfl) | exact .inr (.inr rfl))) (by decide) (by decide)) (Z0b (Z0a (i := 6) (by rfl) ((by first | exact .inl rfl | exact .inr (.inl rfl) | exact .inr (.inr rfl))) (by decide) (by decide)) (Z0b (Z0a (i := 5) (by rfl) ((by first | exact .inl rfl | exact .inr (.inl rfl) | exact .inr (.inr rfl))) (by decide) (by decide)) Z0c rfl) rfl) rfl) rfl) (by decide) rfl rfl) (fun _ => rfl))) (sw_or1 (st_not (st_val ok.K (Z0k hC (cal_law_whole fx dx cf lx ek) hr (by decide) rfl Z0e (Z0b (Z0a (i := 9) (by rfl) ((by first | exact .inl rfl | exact .inr (.inl rfl) | exact .inr (.inr rfl))) (by decide) (by decide)) (Z0b (Z0a (i := 4) (by rfl) ((by first | exact .inl rfl | exact .inr (.inl rfl) | exact .inr (.inr rfl))) (by decide) (by decide)) (Z0b (Z0a (i := 7) (by rfl) ((by first | exact .inl rfl | exact .inr (.inl rfl) | exact .inr (.inr rfl))) (by decide) (by decide)) (Z0b (Z0a (i := 5) (by rfl) ((by first | exact .inl rfl | exact .inr (.inl rfl) | exact .inr (.inr rfl))) (by decide) (by decide)) Z0c rfl) rfl) rfl) rfl) (by decide) rfl rfl) (fun _ => rfl)))))) (Z0i (Z0j se_bl)) ss_nil)
    (Z0g (ss_asgT (Z0k hC (cal_law_lowest fx dx cf lx ek) hr (by decide) rfl Z0e (Z0b (Z0a (i := 3) (by rfl) ((by first | exact .inl rfl | exact .inr (.inl rfl) | exact .inr (.inr rfl))) (by decide) (by decide)) (Z0b (Z0a (i := 6) (by rfl) ((by first | exact .inl rfl | exact .inr (.inl rfl) | exact .inr (.inr rfl))) (by decide) (by decide)) Z0c rfl) rfl) (by decide) rfl rfl) (sg_tup ok ok.calm (sgs_cons (sg_name (i := 10) nd_law rfl ((by first | exact .inl rfl | exact .inr rfl)) ((by first | exact .inr rfl | exact .inl rfl))) (sgs_cons (sg_name (i := 11) nd_law rfl ((by first | exact .inl rfl | exact .inr rfl)) ((by first | exact .inr rfl | exact .inl rfl))) sgs_nil rfl) rfl) rfl rfl) rfl rfl rfl)
    (Z0g (ss_if (st_cmp (se_strO (c := 0) hC (met_Ratio___str__ fx dx cf lx ek) hr (by decide) rfl fx.n_str boot_str (Z0b (Z0a (i := 8) (by rfl) ((by first | exact .inl rfl | exact .inr (.inl rfl) | exact .inr (.inr rfl))) (by decide) (by decide)) Z0c rfl) (by decide) (by decide) rfl rfl) (se_if (st_cmp (Z0a (i := 11) (by rfl) ((by first | exact .inl rfl | exact .inr (.inl rfl) | exact .inr (.inr rfl))) (by decide) (by decide)) Z0f (o_eq ok) rfl) (se_callTy (c_str) rfl fx.n_str boot_str (Z0b (Z0a (i := 10) (by rfl) ((by first | exact .inl rfl | exact .inr (.inl rfl) | exact .inr (.inr rfl))) (by decide) (by decide)) Z0c rfl) (by decide) (by decide) rfl rfl) (Z0d (Z0d (se_callTy (c_str) rfl fx.n_str boot_str (Z0b (Z0a (i := 10) (by rfl) ((by first | exact .inl rfl | exact .inr (.inl rfl) | exact .inr (.inr rfl))) (by decide) (by decide)) Z0c rfl) (by decide) (by decide) rfl rfl) se_str o_add) (se_callTy (c_str) rfl fx.n_str boot_str (Z0b (Z0a (i := 11) (by rfl) ((by first | exact .inl rfl | exact .inr (.inl rfl) | exact .inr (.inr rfl))) (by decide) (by decide)) Z0c rfl) (by decide) (by decide) rfl rfl) o_add)) (o_ne ok) rfl) (Z0i (Z0j se_bl)) ss_nil)
    (Z0i (ss_if (PW.pt (sw_or (st_not (st_val ok.K (Z0k hC (cal_law_is fx dx cf lx ek) hr (by decide) rfl Z0e (Z0b (se_mkC (c := 0) hC rfl (makOk (makX_Ratio_1 fx dx cf lx ek)) hr (by decide) rfl rs_int1 (Z0b (Z0a (i := 5) (by rfl) ((by first | exact .inl rfl | exact .inr (.inl rfl) | exact .inr (.inr rfl))) (by decide) (by decide)) Z0c rfl) (by decide) rfl rfl) (Z0b (Z0a (i := 5) (by rfl) ((by first | exact .inl rfl | exact .inr (.inl rfl) | exact .inr (.inr rfl))) (by decide) (by decide)) (Z0b Z0f Z0c rfl) rfl) rfl) (by decide) rfl rfl) (fun _ => rfl))) (sw_or1 (st_not (st_val ok.K (dx.d_law_bad.elim fun gf hf => hf.elim fun fd Fg => lf.ex.elim fun P hP => se_refBF (P := P) (k := 7) (y := 1) (j0 := 9) (ls := cl_law_bad) hC ok ek.co ek.eL ek.ans oi_law_bad (by decide) rfl Fg.1 Fg.2 rfl rfl (by decide) rfl (by decide) (by decide) (fun _ _ _ _ _ _ us hl => match us, hl with | [_], _ => rfl) (Ng := N_law_bad) sg_law_bad rfl (.inl rfl) (fun _ _ _ => hcl_law_bad cf ek) (fun _ => rfl) (fun _ => rfl) hP.1 rfl hP.2.1 hP.2.2 hr (by decide) (LamX.lamS_by (show LamX.lamSB (defScope (top 17)) _ = true by decide +kernel)) rfl (fun _ _ _ _ _ => rfl) (fun A1 o1 s1 H1 E1 f1 c1 g1 hC1 hr1 ok1 ex1 => (se_mkXC (c := 0) hC1 rfl ex1 (makX_Ratio fx dx cf lx ek) hr1 (by decide) rfl Z0e (Z0b (Z0a (i := 3) (by rfl) ((by first | exact .inl rfl | exact .inr (.inl rfl) | exact .inr (.inr rfl))) (by decide) (by decide)) (Z0b Z0f Z0c rfl) rfl) (by decide) rfl rfl)) (by decide) (by decide) (by decide)) (fun _ => rfl)))))) (Z0i (Z0j se_bl)) ss_nil))))))))) (fun _ => rfl))
    (Z0i (Z0j (se_and ok.K (Z0k hC (cal_law_is fx dx cf lx ek) hr (by decide) rfl Z0e (Z0b (se_mkC (c := 0) hC rfl (makOk (makX_Ratio fx dx cf lx ek)) hr (by decide) rfl Z0e (Z0b Z0f (Z0b (se_un Z0f o_neg) Z0c rfl) rfl) (by decide) rfl rfl) (Z0b Z0f (Z0b Z0f Z0c rfl) rfl) rfl) (by decide) rfl rfl) (se_and ok.K (se_ownQC true rfl (c := 0) hC (met_Ratio___eq__ fx dx cf lx ek) hr (by decide) ok cf dx.ne_Ratio (se_mkC (c := 0) hC rfl (makOk (makX_Ratio_1 fx dx cf lx ek)) hr (by decide) rfl rs_int1 (Z0b Z0f Z0c rfl) (by decide) rfl rfl) Z0f rfl) (se_one (se_un (se_ownQC false rfl (c := 0) hC (met_Ratio___eq__ fx dx cf lx ek) hr (by decide) ok cf dx.ne_Ratio (se_mkC (c := 0) hC rfl (makOk (makX_Ratio_1 fx dx cf lx ek)) hr (by decide) rfl rs_int1 (Z0b Z0f Z0c rfl) (by decide) rfl rfl) Z0f rfl) (op_not ok.K)))))))))
end K35
set_option maxRecDepth 100000
set_option maxHeartbeats 0
namespace HK35
open PySem PySem.Spec L2 VL
open PyProof.Rows hiding St
open K35 (top mth)
def dd_divisor : He.DefD := ⟨("divisor", none), "divisor", "divisor", defArgs (top 4), defBody (top 4), defScope (top 4), [], []⟩
def dd_Ratio___init__ : He.DefD := ⟨("Ratio", some "__init__"), "__init__", "Ratio.__init__", defArgs (mth 5 0), defBody (mth 5 0), defScope (mth 5 0), [.int 1], []⟩
def dd_Ratio___eq__ : He.DefD := ⟨("Ratio", some "__eq__"), "__eq__", "Ratio.__eq__", defArgs (mth 5 1), defBody (mth 5 1), defScope (mth 5 1), [], []⟩
def dd_Ratio___add__ : He.DefD := ⟨("Ratio", some "__add__"), "__add__", "Ratio.__add__", defArgs (mth 5 2), defBody (mth 5 2), defScope (mth 5 2), [], []⟩
def dd_Ratio___radd__ : He.DefD := ⟨("Ratio", some "__radd__"), "__radd__", "Ratio.__radd__", defArgs (mth 5 3), defBody (mth 5 3), defScope (mth 5 3), [], []⟩
def dd_Ratio___sub__ : He.DefD := ⟨("Ratio", some "__sub__"), "__sub__", "Ratio.__sub__", defArgs (mth 5 4), defBody (mth 5 4), defScope (mth 5 4), [], []⟩
def dd_Ratio___rsub__ : He.DefD := ⟨("Ratio", some "__rsub__"), "__rsub__", "Ratio.__rsub__", defArgs (mth 5 5), defBody (mth 5 5), defScope (mth 5 5), [], []⟩
def dd_Ratio___mul__ : He.DefD := ⟨("Ratio", some "__mul__"), "__mul__", "Ratio.__mul__", defArgs (mth 5 6), defBody (mth 5 6), defScope (mth 5 6), [], []⟩
def dd_Ratio___rmul__ : He.DefD := ⟨("Ratio", some "__rmul__"), "__rmul__", "Ratio.__rmul__", defArgs (mth 5 7), defBody (mth 5 7), defScope (mth 5 7), [], []⟩
def dd_Ratio___neg__ : He.DefD := ⟨("Ratio", some "__neg__"), "__neg__", "Ratio.__neg__", defArgs (mth 5 8), defBody (mth 5 8), defScope (mth 5 8), [], []⟩
def dd_Ratio___abs__ : He.DefD := ⟨("Ratio", some "__abs__"), "__abs__", "Ratio.__abs__", defArgs (mth 5 9), defBody (mth 5 9), defScope (mth 5 9), [], []⟩
def dd_Ratio___str__ : He.DefD := ⟨("Ratio", some "__str__"), "__str__", "Ratio.__str__", defArgs (mth 5 10), defBody (mth 5 10), defScope (mth 5 10), [], []⟩
def dd_Ratio_is_less : He.DefD := ⟨("Ratio", some "is_less"), "is_less", "Ratio.is_less", defArgs (mth 5 11), defBody (mth 5 11), defScope (mth 5 11), [], []⟩
def dd_Ratio_divided : He.DefD := ⟨("Ratio", some "divided"), "divided", "Ratio.divided", defArgs (mth 5 12), defBody (mth 5 12), defScope (mth 5 12), [], []⟩
def dd_as_ratio : He.DefD := ⟨("as_ratio", none), "as_ratio", "as_ratio", defArgs (top 6), defBody (top 6), defScope (top 6), [], []⟩
def dd_law_pen_of : He.DefD := ⟨("_law_pen_of", none), "_law_pen_of", "_law_pen_of", defArgs (top 8), defBody (top 8), defScope (top 8), [], []⟩
def dd_law_draw : He.DefD := ⟨("_law_draw", none), "_law_draw", "_law_draw", defArgs (top 9), defBody (top 9), defScope (top 9), [], []⟩
def dd_law_pick : He.DefD := ⟨("_law_pick", none), "_law_pick", "_law_pick", defArgs (top 10), defBody (top 10), defScope (top 10), [], []⟩
def dd_law_number_of : He.DefD := ⟨("_law_number_of", none), "_law_number_of", "_law_number_of", defArgs (top 11), defBody (top 11), defScope (top 11), [], []⟩
def dd_law_lowest : He.DefD := ⟨("_law_lowest", none), "_law_lowest", "_law_lowest", defArgs (top 12), defBody (top 12), defScope (top 12), [], []⟩
def dd_law_is : He.DefD := ⟨("_law_is", none), "_law_is", "_law_is", defArgs (top 13), defBody (top 13), defScope (top 13), [], []⟩
def dd_law_bad : He.DefD := ⟨("_law_bad", none), "_law_bad", "_law_bad", defArgs (top 14), defBody (top 14), defScope (top 14), [], []⟩
def dd_law_pair : He.DefD := ⟨("_law_pair", none), "_law_pair", "_law_pair", defArgs (top 15), defBody (top 15), defScope (top 15), [], []⟩
def dd_law_whole : He.DefD := ⟨("_law_whole", none), "_law_whole", "_law_whole", defArgs (top 16), defBody (top 16), defScope (top 16), [], []⟩
def dd_law : He.DefD := ⟨("law", none), "law", "law", defArgs (top 17), defBody (top 17), defScope (top 17), [], []⟩
def fn0 : List He.DefD := [dd_divisor, dd_Ratio___init__, dd_Ratio___eq__, dd_Ratio___add__, dd_Ratio___radd__, dd_Ratio___sub__, dd_Ratio___rsub__, dd_Ratio___mul__, dd_Ratio___rmul__, dd_Ratio___neg__, dd_Ratio___abs__, dd_Ratio___str__, dd_Ratio_is_less, dd_Ratio_divided, dd_as_ratio, dd_law_pen_of, dd_law_draw, dd_law_pick, dd_law_number_of, dd_law_lowest, dd_law_is, dd_law_bad, dd_law_pair, dd_law_whole, dd_law]
def fn : List He.DefD := fn0
def fa0 : List He.Fa := [.glo "divisor", .glo "as_ratio", .glo "_law_pen_of", .glo "_law_draw", .glo "_law_pick", .glo "_law_number_of", .glo "_law_lowest", .glo "_law_is", .glo "_law_bad", .glo "_law_pair", .glo "_law_whole", .glo "law", .glo "Ratio", .cls "Ratio", .mkr "Ratio", .keep "Ratio", .meth "Ratio" "__eq__", .meth "Ratio" "__add__", .meth "Ratio" "__radd__", .meth "Ratio" "__sub__", .meth "Ratio" "__rsub__", .meth "Ratio" "__mul__", .meth "Ratio" "__rmul__", .meth "Ratio" "__neg__", .meth "Ratio" "__abs__", .meth "Ratio" "__str__", .meth "Ratio" "is_less", .meth "Ratio" "divided", .noat "Ratio" "number", .noat "Ratio" "over"]
def fa1 : List He.Fa := [.glo "JoinsError", .glo "BadOver", .free "repr", .free "len", .free "abs", .free "sum", .free "all", .free "any", .free "max", .free "min", .free "sorted", .free "isinstance", .free "int", .free "bool", .free "str", .free "tuple", .free "list", .free "dict", .free "range", .free "enumerate", .free "zip"]
def fa : List He.Fa := fa0 ++ fa1
def tf : List He.Defn := [("_law_pair", none), ("_law_whole", none), ("law", none)]
def tfq : List (He.Defn × Str) := [(("_law_pair", none), "_law_pair"), (("_law_whole", none), "_law_whole"), (("law", none), "law")]
theorem tfm : ∀ p ∈ tfq, p.1 ∈ tf := by simp [tf, tfq]
def bt : List String := ["int", "bool", "str", "tuple", "list", "dict"]
def clss : List Str := ["Ratio"]
def kt : List String := ["NoneType", "bool", "int", "str", "tuple", "list", "dict"]
def exP (K : PySem.W.Frag) (x : Str) : Bool := PySem.W.selfFirst K (He.ga K x) && decide (PySem.W.subIn K (.ref (He.ga K x)) (.type "int") = some false)
def exO (K : PySem.W.Frag) (x : Str) : Bool := (He.eqO (PySem.W.findIn K (.ref (He.ga K x)) "__ne__") (some (some (.builtin "object.__ne__"))) && exP K x) && ((clss.all fun y => decide (PySem.W.kitOne K (.ref (He.ga K y)) (.ref (He.ga K x)) = some (decide (y = x)))) && kt.all fun T => decide (PySem.W.kitOne K (.type T) (.ref (He.ga K x)) = some false))
def exC (K : PySem.W.Frag) (x : Str) : Bool := He.eqO (PySem.W.findIn K (.ref (He.ga K x)) "__class__") (some (some (.builtin "object.__class__"))) && (decide (PySem.W.mroIn K (He.ga K x) (.type "object") = some true) && ((bt.all fun T => decide (PySem.W.kitOne K (.ref (He.ga K x)) (.type T) = some false)) && exO K x))
def lamB (K : PySem.W.Frag) : Bool := tfq.all fun r => tfq.all fun p => decide ((He.cT K r.1).2 = (He.cT K p.1).2 → r = p)
def ed_BadOver : ErrDf := ⟨"BadOver", "BadOver.__init__", defArgs (mth 2 0), defBody (mth 2 0), defScope (mth 2 0)⟩
def es : List ErrDf := [ed_BadOver]
def ery : List (Str × List Str) := [("JoinsError", []), ("BadOver", [])]
def eryN : List Str := ["JoinsError", "BadOver"]
def fileN : Str := "/claim/cut.py"
def exE (K : PySem.W.Frag) : Bool := (es.all fun d => madB fileN K d.cls d.qual) && ((ery.all fun p => eryB K p.1 p.2) && ansTB K eryN K35.ansX)
def ex0 (K : PySem.W.Frag) : Bool := He.eqO (PySem.W.specialIn K (.builtin "object.__class__") "__get__") (some (some (.builtin "getset_descriptor.__get__"))) && (decide (PySem.W.takesIn K (.builtin "object.__class__") = some true) && (clss.all (exC K) && lamB K))
def ex (K : PySem.W.Frag) : Bool := ex0 K && exE K
def lo0 : List Str := ["JoinsError", "BadOver", "divisor", "Ratio", "as_ratio", "_law_pen_of", "_law_draw", "_law_pick", "_law_number_of", "_law_lowest", "_law_is", "_law_bad", "_law_pair", "_law_whole"]
def loose : List Str := lo0
abbrev R : PySem.W.OpenRow := PySem.W.OpenLaw.row PySem.Challenge.rw_leastjoined_k35_ratios
abbrev hk : PySem.W.Hook := hookY 4 fa fn tf ex es
def ob (s : PySem.W.SharedT) : AlY := obsY 4 fa fn tf ex es (HandSHeadRun.getT s)
theorem ob_eq (s : PySem.W.SharedT) : ob s = hk.obs s.abs := obsY_eq (HandSHeadRun.getT_eq s)
abbrev qv : Program := PySem.W.view R.prog [17]
theorem run (w : World) : HandSHeadRun.RunEq R qv hk ob 20000 loose w := by
  intro os
  kernel_rfl
def adK (K : PySem.W.Frag) : Nat → Addr
  | 0 => He.ga K "Ratio"
  | _ => He.ga K "Ratio"
def eaK (K : PySem.W.Frag) : Nat → Addr
  | 0 => He.ga K "JoinsError"
  | 1 => He.ga K "BadOver"
  | _ => He.ga K "JoinsError"
def CK (K : PySem.W.Frag) : Ct := ⟨K, adK K, K35.lay, K35.nam, tfq.map fun p => ((He.cT K p.1).2, lamQ p.2), eaK K, K35.eLay, fun _ => none⟩
section
variable {w : World} {K : PySem.W.Frag} {h : Heap} {mg : Str → Option Value} (X : K.In h) (G : h.Ns mainGlobals mg) (c : He.SaysX fa fn [] tf ex w h K)
include X G c
theorem fx_ok : K35.Fx mg where
  n_abs := He.free_ok X G (c.t.d.facts (f := .free "abs") (List.mem_of_getElem? (i := 34) rfl))
  n_all := He.free_ok X G (c.t.d.facts (f := .free "all") (List.mem_of_getElem? (i := 36) rfl))
  n_int := He.free_ok X G (c.t.d.facts (f := .free "int") (List.mem_of_getElem? (i := 42) rfl))
  n_isinstance := He.free_ok X G (c.t.d.facts (f := .free "isinstance") (List.mem_of_getElem? (i := 41) rfl))
  n_len := He.free_ok X G (c.t.d.facts (f := .free "len") (List.mem_of_getElem? (i := 33) rfl))
  n_list := He.free_ok X G (c.t.d.facts (f := .free "list") (List.mem_of_getElem? (i := 46) rfl))
  n_range := He.free_ok X G (c.t.d.facts (f := .free "range") (List.mem_of_getElem? (i := 48) rfl))
  n_str := He.free_ok X G (c.t.d.facts (f := .free "str") (List.mem_of_getElem? (i := 44) rfl))
theorem ex_ok : He.eqO (PySem.W.specialIn K (.builtin "object.__class__") "__get__") (some (some (.builtin "getset_descriptor.__get__"))) = true ∧ PySem.W.takesIn K (.builtin "object.__class__") = some true ∧ (∀ x ∈ clss, exC K x = true) ∧ lamB K = true := by
  obtain ⟨h1, h2⟩ := He.ba (show (_ && _) = true from (He.ba (show (_ && _) = true from c.more)).1)
  obtain ⟨h3, h4⟩ := He.ba (show (_ && _) = true from h2)
  obtain ⟨h5, h6⟩ := He.ba (show (_ && _) = true from h4)
  exact ⟨h1, of_decide_eq_true h3, fun x hx => List.all_eq_true.mp h5 x hx, h6⟩
theorem cls_x (i : Nat) : ∃ x ∈ clss, adK K i = He.ga K x := by
  match i with
  | 0 => exact ⟨"Ratio", by simp [clss], rfl⟩
  | _ + 1 => exact ⟨"Ratio", by simp [clss], rfl⟩
theorem exc_ok {x : Str} (hx : exC K x = true) : PySem.W.findIn K (.ref (He.ga K x)) "__class__" = some (some (.builtin "object.__class__")) ∧ PySem.W.mroIn K (He.ga K x) (.type "object") = some true ∧ (∀ T ∈ bt, PySem.W.kitOne K (.ref (He.ga K x)) (.type T) = some false) ∧ exO K x = true := by
  obtain ⟨h1, h2⟩ := He.ba (show (_ && _) = true from hx)
  obtain ⟨h3, h4⟩ := He.ba (show (_ && _) = true from h2)
  obtain ⟨h5, h6⟩ := He.ba (show (_ && _) = true from h4)
  exact ⟨He.eqO_ok h1, of_decide_eq_true h3, fun T hT => of_decide_eq_true (List.all_eq_true.mp h5 T hT), h6⟩
theorem exo_ok {x : Str} (hx : x ∈ clss) : exO K x = true := by
  obtain ⟨_, _, h3, _⟩ := ex_ok X G c
  exact (exc_ok X G c (h3 x hx)).2.2.2
theorem ne_ok {x : Str} (hx : x ∈ clss) : PySem.W.findIn K (.ref (He.ga K x)) "__ne__" = some (some (.builtin "object.__ne__")) := by
  obtain ⟨h, _⟩ := He.ba (show (_ && _) = true from exo_ok X G c hx)
  obtain ⟨h, _⟩ := He.ba (show (_ && _) = true from h)
  exact He.eqO_ok h
def nmC : Nat → Str
  | 0 => "Ratio"
  | _ => "Ratio"
theorem op_ok {x : Str} {c0 : Nat} (hx : x ∈ clss) (h0 : (CK K).ad c0 = He.ga K x) : OpK (CK K) c0 := by
  obtain ⟨h, _⟩ := He.ba (show (_ && _) = true from exo_ok X G c hx)
  obtain ⟨_, h⟩ := He.ba (show (_ && _) = true from h)
  obtain ⟨h1, h2⟩ := He.ba (show (_ && _) = true from h)
  exact ⟨by rw [h0]; exact h1, by rw [h0]; exact of_decide_eq_true h2⟩
theorem own_ok {x : Str} {c0 : Nat} (hx : x ∈ clss) (h0 : nmC c0 = x ∧ c0 < 1 := by exact ⟨rfl, by decide⟩) : OwnC (CK K) 1 c0 := by
  obtain ⟨_, h⟩ := He.ba (show (_ && _) = true from exo_ok X G c hx)
  obtain ⟨h1, h2⟩ := He.ba (show (_ && _) = true from h)
  obtain ⟨rfl, hc⟩ := h0
  have ad : ∀ i, (CK K).ad i = He.ga K (nmC i) := fun i => by
    match i with
    | 0 => rfl
    | _ + 1 => rfl
  have mem : ∀ i, nmC i ∈ clss := fun i => by
    match i with
    | 0 => simp [nmC, clss]
    | _ + 1 => simp [nmC, clss]
  have inj : ∀ i, i < 1 → ∀ j, j < 1 → decide (nmC i = nmC j) = decide (i = j) := by decide
  refine ⟨fun i hi => ?_, fun T hT => ?_⟩
  · rw [ad, ad, ← inj i hi c0 hc]
    exact of_decide_eq_true (List.all_eq_true.mp h1 _ (mem i))
  · rw [ad]
    exact of_decide_eq_true (List.all_eq_true.mp h2 T hT)
theorem cls_ok (i : Nat) : ClsOk (CK K) i := by
  match i with
  | 0 => exact ⟨He.cls_ok (c.t.d.facts (f := .cls "Ratio") (List.mem_of_getElem? (i := 13) rfl)), fun f hf => (by
      have hf : f ∈ ([0, 1] : List Nat) := hf
      simp only [List.mem_cons, List.not_mem_nil, or_false] at hf
      rcases hf with rfl | rfl
      · exact He.noat_ok (c.t.d.facts (f := .noat "Ratio" "number") (List.mem_of_getElem? (i := 28) rfl))
      · exact He.noat_ok (c.t.d.facts (f := .noat "Ratio" "over") (List.mem_of_getElem? (i := 29) rfl))), (show (["number", "over"] : List Str).Nodup by decide)⟩
  | _ + 1 => exact ⟨He.cls_ok (c.t.d.facts (f := .cls "Ratio") (List.mem_of_getElem? (i := 13) rfl)), fun f hf => (by
      have hf : f ∈ ([0, 1] : List Nat) := hf
      simp only [List.mem_cons, List.not_mem_nil, or_false] at hf
      rcases hf with rfl | rfl
      · exact He.noat_ok (c.t.d.facts (f := .noat "Ratio" "number") (List.mem_of_getElem? (i := 28) rfl))
      · exact He.noat_ok (c.t.d.facts (f := .noat "Ratio" "over") (List.mem_of_getElem? (i := 29) rfl))), (show (["number", "over"] : List Str).Nodup by decide)⟩
theorem cf_ok : CF (CK K) K35.lay K35.nam where
  L := rfl
  nm := rfl
  cls := cls_ok X G c
  ins := by
    obtain ⟨h1, h2, h3, _⟩ := ex_ok X G c
    exact ⟨fun i => by obtain ⟨x, hx, e⟩ := cls_x X G c i; show PySem.W.findIn K (.ref (adK K i)) _ = _; rw [e]; exact (exc_ok X G c (h3 x hx)).1, He.eqO_ok h1, h2, fun i => by obtain ⟨x, hx, e⟩ := cls_x X G c i; show PySem.W.mroIn K (adK K i) _ = _; rw [e]; exact (exc_ok X G c (h3 x hx)).2.1⟩
  kb := fun i T hT => by
    obtain ⟨_, _, h3, _⟩ := ex_ok X G c
    obtain ⟨x, hx, e⟩ := cls_x X G c i
    show PySem.W.kitOne K (.ref (adK K i)) _ = _
    rw [e]
    exact (exc_ok X G c (h3 x hx)).2.2.1 T hT
theorem dx_ok : K35.Dx K mg (CK K) where
  hK := rfl
  d_law_pen_of := let ⟨fd, F⟩ := c.t.d.defs (d := dd_law_pen_of) (List.mem_of_getElem? (i := 15) rfl); ⟨_, fd, He.glo_ok X G (c.t.d.facts (f := .glo "_law_pen_of") (List.mem_of_getElem? (i := 2) rfl)), F⟩
  d_law_draw := let ⟨fd, F⟩ := c.t.d.defs (d := dd_law_draw) (List.mem_of_getElem? (i := 16) rfl); ⟨_, fd, He.glo_ok X G (c.t.d.facts (f := .glo "_law_draw") (List.mem_of_getElem? (i := 3) rfl)), F⟩
  d_law_pick := let ⟨fd, F⟩ := c.t.d.defs (d := dd_law_pick) (List.mem_of_getElem? (i := 17) rfl); ⟨_, fd, He.glo_ok X G (c.t.d.facts (f := .glo "_law_pick") (List.mem_of_getElem? (i := 4) rfl)), F⟩
  d_law_number_of := let ⟨fd, F⟩ := c.t.d.defs (d := dd_law_number_of) (List.mem_of_getElem? (i := 18) rfl); ⟨_, fd, He.glo_ok X G (c.t.d.facts (f := .glo "_law_number_of") (List.mem_of_getElem? (i := 5) rfl)), F⟩
  d_divisor := let ⟨fd, F⟩ := c.t.d.defs (d := dd_divisor) (List.mem_of_getElem? (i := 0) rfl); ⟨_, fd, He.glo_ok X G (c.t.d.facts (f := .glo "divisor") (List.mem_of_getElem? (i := 0) rfl)), F⟩
  d_Ratio___init__ := let ⟨fd, F⟩ := c.t.d.defs (d := dd_Ratio___init__) (List.mem_of_getElem? (i := 1) rfl); ⟨_, fd, He.mkr_ok (c.t.d.facts (f := .mkr "Ratio") (List.mem_of_getElem? (i := 14) rfl)), He.glo_ok X G (c.t.d.facts (f := .glo "Ratio") (List.mem_of_getElem? (i := 12) rfl)), F⟩
  d_law_lowest := let ⟨fd, F⟩ := c.t.d.defs (d := dd_law_lowest) (List.mem_of_getElem? (i := 19) rfl); ⟨_, fd, He.glo_ok X G (c.t.d.facts (f := .glo "_law_lowest") (List.mem_of_getElem? (i := 6) rfl)), F⟩
  d_law_is := let ⟨fd, F⟩ := c.t.d.defs (d := dd_law_is) (List.mem_of_getElem? (i := 20) rfl); ⟨_, fd, He.glo_ok X G (c.t.d.facts (f := .glo "_law_is") (List.mem_of_getElem? (i := 7) rfl)), F⟩
  d_as_ratio := let ⟨fd, F⟩ := c.t.d.defs (d := dd_as_ratio) (List.mem_of_getElem? (i := 14) rfl); ⟨_, fd, He.glo_ok X G (c.t.d.facts (f := .glo "as_ratio") (List.mem_of_getElem? (i := 1) rfl)), F⟩
  d_Ratio___add__ := let ⟨fd, F⟩ := c.t.d.defs (d := dd_Ratio___add__) (List.mem_of_getElem? (i := 3) rfl); ⟨_, fd, He.cls_ok (c.t.d.facts (f := .cls "Ratio") (List.mem_of_getElem? (i := 13) rfl)), He.meth_ok (c.t.d.facts (f := .meth "Ratio" "__add__") (List.mem_of_getElem? (i := 17) rfl)), F⟩
  d_Ratio___sub__ := let ⟨fd, F⟩ := c.t.d.defs (d := dd_Ratio___sub__) (List.mem_of_getElem? (i := 5) rfl); ⟨_, fd, He.cls_ok (c.t.d.facts (f := .cls "Ratio") (List.mem_of_getElem? (i := 13) rfl)), He.meth_ok (c.t.d.facts (f := .meth "Ratio" "__sub__") (List.mem_of_getElem? (i := 19) rfl)), F⟩
  d_Ratio___mul__ := let ⟨fd, F⟩ := c.t.d.defs (d := dd_Ratio___mul__) (List.mem_of_getElem? (i := 7) rfl); ⟨_, fd, He.cls_ok (c.t.d.facts (f := .cls "Ratio") (List.mem_of_getElem? (i := 13) rfl)), He.meth_ok (c.t.d.facts (f := .meth "Ratio" "__mul__") (List.mem_of_getElem? (i := 21) rfl)), F⟩
  d_Ratio___neg__ := let ⟨fd, F⟩ := c.t.d.defs (d := dd_Ratio___neg__) (List.mem_of_getElem? (i := 9) rfl); ⟨_, fd, He.cls_ok (c.t.d.facts (f := .cls "Ratio") (List.mem_of_getElem? (i := 13) rfl)), He.meth_ok (c.t.d.facts (f := .meth "Ratio" "__neg__") (List.mem_of_getElem? (i := 23) rfl)), F⟩
  d_Ratio___abs__ := let ⟨fd, F⟩ := c.t.d.defs (d := dd_Ratio___abs__) (List.mem_of_getElem? (i := 10) rfl); ⟨_, fd, He.cls_ok (c.t.d.facts (f := .cls "Ratio") (List.mem_of_getElem? (i := 13) rfl)), He.meth_ok (c.t.d.facts (f := .meth "Ratio" "__abs__") (List.mem_of_getElem? (i := 24) rfl)), F⟩
  d_Ratio___eq__ := let ⟨fd, F⟩ := c.t.d.defs (d := dd_Ratio___eq__) (List.mem_of_getElem? (i := 2) rfl); ⟨_, fd, He.cls_ok (c.t.d.facts (f := .cls "Ratio") (List.mem_of_getElem? (i := 13) rfl)), He.meth_ok (c.t.d.facts (f := .meth "Ratio" "__eq__") (List.mem_of_getElem? (i := 16) rfl)), F⟩
  d_Ratio_is_less := let ⟨fd, F⟩ := c.t.d.defs (d := dd_Ratio_is_less) (List.mem_of_getElem? (i := 12) rfl); ⟨_, fd, He.cls_ok (c.t.d.facts (f := .cls "Ratio") (List.mem_of_getElem? (i := 13) rfl)), He.meth_ok (c.t.d.facts (f := .meth "Ratio" "is_less") (List.mem_of_getElem? (i := 26) rfl)), F⟩
  d_Ratio_divided := let ⟨fd, F⟩ := c.t.d.defs (d := dd_Ratio_divided) (List.mem_of_getElem? (i := 13) rfl); ⟨_, fd, He.cls_ok (c.t.d.facts (f := .cls "Ratio") (List.mem_of_getElem? (i := 13) rfl)), He.meth_ok (c.t.d.facts (f := .meth "Ratio" "divided") (List.mem_of_getElem? (i := 27) rfl)), F⟩
  d_Ratio___radd__ := let ⟨fd, F⟩ := c.t.d.defs (d := dd_Ratio___radd__) (List.mem_of_getElem? (i := 4) rfl); ⟨_, fd, He.cls_ok (c.t.d.facts (f := .cls "Ratio") (List.mem_of_getElem? (i := 13) rfl)), He.meth_ok (c.t.d.facts (f := .meth "Ratio" "__radd__") (List.mem_of_getElem? (i := 18) rfl)), F⟩
  d_Ratio___rsub__ := let ⟨fd, F⟩ := c.t.d.defs (d := dd_Ratio___rsub__) (List.mem_of_getElem? (i := 6) rfl); ⟨_, fd, He.cls_ok (c.t.d.facts (f := .cls "Ratio") (List.mem_of_getElem? (i := 13) rfl)), He.meth_ok (c.t.d.facts (f := .meth "Ratio" "__rsub__") (List.mem_of_getElem? (i := 20) rfl)), F⟩
  d_Ratio___rmul__ := let ⟨fd, F⟩ := c.t.d.defs (d := dd_Ratio___rmul__) (List.mem_of_getElem? (i := 8) rfl); ⟨_, fd, He.cls_ok (c.t.d.facts (f := .cls "Ratio") (List.mem_of_getElem? (i := 13) rfl)), He.meth_ok (c.t.d.facts (f := .meth "Ratio" "__rmul__") (List.mem_of_getElem? (i := 22) rfl)), F⟩
  d_Ratio___str__ := let ⟨fd, F⟩ := c.t.d.defs (d := dd_Ratio___str__) (List.mem_of_getElem? (i := 11) rfl); ⟨_, fd, He.cls_ok (c.t.d.facts (f := .cls "Ratio") (List.mem_of_getElem? (i := 13) rfl)), He.meth_ok (c.t.d.facts (f := .meth "Ratio" "__str__") (List.mem_of_getElem? (i := 25) rfl)), F⟩
  d_law_bad := let ⟨fd, F⟩ := c.t.d.defs (d := dd_law_bad) (List.mem_of_getElem? (i := 21) rfl); ⟨_, fd, He.glo_ok X G (c.t.d.facts (f := .glo "_law_bad") (List.mem_of_getElem? (i := 8) rfl)), F⟩
  m_Ratio := He.glo_ok X G (c.t.d.facts (f := .glo "Ratio") (List.mem_of_getElem? (i := 12) rfl))
  o_Ratio := own_ok X G c (x := "Ratio") (by simp [clss])
  k_Ratio := op_ok X G c (x := "Ratio") (by simp [clss]) rfl
  ne_Ratio := ne_ok X G c (x := "Ratio") (by simp [clss])
theorem lam_at {p : He.Defn × Str} (hp : p ∈ tfq) : ∀ q ∈ (CK K).T, q.1 = (He.cT K p.1).2 → q.2 = lamQ p.2 := by
  obtain ⟨_, _, _, h⟩ := ex_ok X G c
  intro q hq e
  obtain ⟨r, hr, rfl⟩ := List.mem_map.mp hq
  have := of_decide_eq_true (List.all_eq_true.mp (List.all_eq_true.mp h r hr) p hp)
  rw [this e]
theorem lx_ok {base : Heap} (tb : ∀ p ∈ tf.map (He.cT K), LamX.TabB base mg p.1 p.2) : K35.Lx K mg base (CK K) where
  l_law_pair := let ⟨fd, F⟩ := c.t.d.defs (d := dd_law_pair) (List.mem_of_getElem? (i := 22) rfl); ⟨_, fd, _, He.glo_ok X G (c.t.d.facts (f := .glo "_law_pair") (List.mem_of_getElem? (i := 9) rfl)), F, code_at F, ⟨_, tb _ (List.mem_map_of_mem (f := He.cT K) (l := tf) (a := ("_law_pair", none)) (List.mem_of_getElem? (i := 0) rfl)), List.mem_map.mpr ⟨(("_law_pair", none), "_law_pair"), (List.mem_of_getElem? (i := 0) rfl), rfl⟩, lam_at X G c (p := (("_law_pair", none), "_law_pair")) (List.mem_of_getElem? (i := 0) rfl)⟩⟩
  l_law_whole := let ⟨fd, F⟩ := c.t.d.defs (d := dd_law_whole) (List.mem_of_getElem? (i := 23) rfl); ⟨_, fd, _, He.glo_ok X G (c.t.d.facts (f := .glo "_law_whole") (List.mem_of_getElem? (i := 10) rfl)), F, code_at F, ⟨_, tb _ (List.mem_map_of_mem (f := He.cT K) (l := tf) (a := ("_law_whole", none)) (List.mem_of_getElem? (i := 1) rfl)), List.mem_map.mpr ⟨(("_law_whole", none), "_law_whole"), (List.mem_of_getElem? (i := 1) rfl), rfl⟩, lam_at X G c (p := (("_law_whole", none), "_law_whole")) (List.mem_of_getElem? (i := 1) rfl)⟩⟩
  l_law := let ⟨fd, F⟩ := c.t.d.defs (d := dd_law) (List.mem_of_getElem? (i := 24) rfl); ⟨_, fd, _, He.glo_ok X G (c.t.d.facts (f := .glo "law") (List.mem_of_getElem? (i := 11) rfl)), F, code_at F, ⟨_, tb _ (List.mem_map_of_mem (f := He.cT K) (l := tf) (a := ("law", none)) (List.mem_of_getElem? (i := 2) rfl)), List.mem_map.mpr ⟨(("law", none), "law"), (List.mem_of_getElem? (i := 2) rfl), rfl⟩, lam_at X G c (p := (("law", none), "law")) (List.mem_of_getElem? (i := 2) rfl)⟩⟩
  one := trivial
theorem law_ok : ∃ fd, mg "law" = some (.ref (He.fAd K ("law", none))) ∧ FunD K "law" "law" (defArgs (top 17)) (defBody (top 17)) (defScope (top 17)) [] [] (He.fAd K ("law", none)) fd := let ⟨fd, F⟩ := c.t.d.defs (d := dd_law) (List.mem_of_getElem? (i := 24) rfl); ⟨fd, He.glo_ok X G (c.t.d.facts (f := .glo "law") (List.mem_of_getElem? (i := 11) rfl)), F⟩
theorem lfl_ok {base : Heap} (tb : ∀ p ∈ tf.map (He.cT K), LamX.TabB base mg p.1 p.2) : LamF base mg (CK K) "law" (He.cT K ("law", none)).1 := ⟨_, tb _ (List.mem_map_of_mem (f := He.cT K) (l := tf) (a := ("law", none)) (List.mem_of_getElem? (i := 2) rfl)), List.mem_map.mpr ⟨(("law", none), "law"), (List.mem_of_getElem? (i := 2) rfl), rfl⟩, lam_at X G c (p := (("law", none), "law")) (List.mem_of_getElem? (i := 2) rfl)⟩
theorem exE_ok : (∀ d ∈ es, madB fileN K d.cls d.qual = true) ∧ (∀ p ∈ ery, eryB K p.1 p.2 = true) ∧ ansTB K eryN K35.ansX = true := by
  obtain ⟨h1, h2⟩ := He.ba (show (_ && _) = true from (He.ba (show (_ && _) = true from c.more)).2)
  obtain ⟨h3, h4⟩ := He.ba (show (_ && _) = true from h2)
  exact ⟨fun d hd => List.all_eq_true.mp h1 d hd, fun p hp => List.all_eq_true.mp h3 p hp, h4⟩
theorem erc_ok (i : Nat) : ErrC (CK K) i := by
  match i with
  | 0 => exact errC_ok ((exE_ok X G c).2.1 ("JoinsError", []) (List.mem_of_getElem? (i := 0) rfl)) rfl rfl rfl (by decide)
  | 1 => exact errC_ok ((exE_ok X G c).2.1 ("BadOver", []) (List.mem_of_getElem? (i := 1) rfl)) rfl rfl rfl (by decide)
  | _ + 2 => exact errC_ok ((exE_ok X G c).2.1 ("JoinsError", []) (List.mem_of_getElem? (i := 0) rfl)) rfl rfl rfl (by decide)
theorem ek_ok (ce : es.map (fun d => errObs K d.cls) = es.map ErrDf.val) {P : Program} {base : Heap} (hfile : ((P.main.file : Str) == fileN) = true) (htop : (P.main.scope.names.lookup ("super" : Str)).isSome = false) : K35.Ek P w K mg base (CK K) where
  n_JoinsError := He.glo_ok X G (c.t.d.facts (f := .glo "JoinsError") (List.mem_of_getElem? (i := 30) rfl))
  e_BadOver := emk_ok (d := ed_BadOver) (N := ["self"]) (ps := ["self"]) (fs := []) ((exE_ok X G c).1 ed_BadOver (List.mem_of_getElem? (i := 0) rfl)) (errs_at ce (List.mem_of_getElem? (i := 0) rfl)) rfl (He.glo_ok X G (c.t.d.facts (f := .glo "BadOver") (List.mem_of_getElem? (i := 31) rfl))) (by decide) hfile htop rfl (supScope_by (by decide +kernel)) rfl rfl rfl (by decide) (by decide) rfl (.nil _) (fieL_ok (He.ba ((exE_ok X G c).2.1 ("BadOver", []) (List.mem_of_getElem? (i := 1) rfl))).2) (fun _ _ _ _ _ _ _ us hl => match us, hl with | [_], _ => rfl) (by decide)
  l_BadOver := rfl
  n_BadOver := He.glo_ok X G (c.t.d.facts (f := .glo "BadOver") (List.mem_of_getElem? (i := 31) rfl))
  isi := He.free_ok X G (c.t.d.facts (f := .free "isinstance") (List.mem_of_getElem? (i := 41) rfl))
  co := erc_ok X G c
  eL := rfl
  ans := ansF_ok (exE_ok X G c).2.2 (fun n hn => match n, hn with
    | 0, _ => rfl
    | 1, _ => rfl
    | n + 2, hn => absurd hn (by show ¬ (n + 2 < 2); omega)) (ans_in (exT := K35.exT) rfl (by decide))
end
end HK35
section
open PySem PySem.W PySem.Calls PyProof.Rows
theorem HK35_holds (pure : ∀ ns : List Int, ns.length ≤ 63 → (∀ z ∈ ns, Builtin.Int.intBits z ≤ 1048576) → K35.F_law [.scr ns] = .ok (.fz (.bl true)) []) : PySem.Challenge.rw_leastjoined_k35_ratios.Holds := by
  w_on; o_law
  refine HandSHeadRun.head_any (r := OpenLaw.row PySem.Challenge.rw_leastjoined_k35_ratios) (q := HK35.qv) (H := HK35.hk) (ob := HK35.ob) (M := 20000) (loose := HK35.loose) (d := HandSHeadRun.topDef (OpenLaw.row PySem.Challenge.rw_leastjoined_k35_ratios).prog 17) (kwd := []) HK35.ob_eq
    (by kernel_rfl) (fun s => by kernel_rfl) HK35.run (by kernel_rfl) (by kernel_rfl) (by kernel_rfl) (by rfl) (by first | assumption | decide +kernel) (by decide +kernel) ⟨rfl, rfl, rfl, rfl, rfl, by decide +kernel⟩ ?hw ?hc
  case hw => w_witness2
  case hc =>
    refine LamX.walk_ofTsE (l := PySem.Challenge.rw_leastjoined_k35_ratios) (n := 63) (k := 10) (x := "_law_script") (CX := fun _ => C8.CX0) rfl (by decide) (by kernel_rfl) ⟨rfl, by decide, by decide⟩ ?F (fun _ _ _ _ _ z => z)
    intro w mg fa h Y G hmg0
    obtain ⟨K, KX, c, ce⟩ := Y
    have hmg : mg ("law" : PySem.Str) = some (.ref fa) := by
      have e : (HandSHeadRun.topDef (OpenLaw.row PySem.Challenge.rw_leastjoined_k35_ratios).prog 17).name = ("law" : PySem.Str) := by kernel_rfl
      rw [← e]
      exact hmg0
    obtain ⟨fd, hf, Fd⟩ := HK35.law_ok KX G c
    have e : He.fAd K ("law", none) = fa := by
      rw [hf] at hmg
      cases hmg; rfl
    subst e
    refine ⟨K, KX, fd, HK35.tf.map (He.cT K), VL.SpV (HK35.CK K) [false] K35.F_law, fun p hp => ?_, fun p hp => ?_, fun p hp => ?_, fun s v => ?_, fun H a ns hl hbits hT hS => ?_, fun base bK bG tb => ?_⟩
    · obtain ⟨q, hq, rfl⟩ := List.mem_map.mp hp
      exact c.empty q hq
    · obtain ⟨q, hq, rfl⟩ := List.mem_map.mp hp
      exact c.out q hq
    · obtain ⟨q, hq, rfl⟩ := List.mem_map.mp hp
      exact PySem.W.codeHd_of_K KX (c.hd q hq)
    · exact (L2.FunD.bindsA (ps := ["_law_script"]) Fd fun _ _ _ _ _ _ us hl => match us, hl with | [_], _ => rfl) s [v] rfl
    · refine VL.spv_law hS (VL.tabs_nil fun p hp => ?_) (pure ns hl hbits)
      obtain ⟨q, hq, rfl⟩ := List.mem_map.mp hp
      exact hT _ (List.mem_map_of_mem (f := He.cT K) (HK35.tfm q hq))
    · exact K35.fn_law (HK35.fx_ok KX G c) (HK35.dx_ok KX G c) (HK35.cf_ok KX G c) (HK35.lx_ok KX G c tb) (HK35.ek_ok KX G c ce (by rfl) (by rfl)) Fd (VL.code_at Fd) (HK35.lfl_ok KX G c tb)
end
set_option maxRecDepth 100000
set_option maxHeartbeats 2000000
namespace VL
open PySem PySem.Spec L2
open PyProof.Rows hiding St
/-- a continuation, held: simp does not look into it (a witness depends on it) -/
inductive Wit {γ : Type} (f : γ) : Type where
  | mk
def Res.bh {α β : Type} (r : Res α) (f : α → Env' → Res β) (_ : Wit f := .mk) : Res β := r.bind f
section
variable {α β : Type} {e e' : Env'} {d d1 d2 d3 : Env' → Res Val} {s1 s2 : Env' → Res Fl} {t t1 t2 : Env' → Res Bool} {di : Env' → Res (List PV)} {u : UG} {i j k : Nat}
theorem bind_k {x : α} {f : α → Env' → Res β} : (Res.ok x e).bind f = f x e := id rfl
theorem bh_k {x : α} {f : α → Env' → Res β} {w : Wit f} : (Res.ok x e).bh f w = f x e := id rfl
def seqK (s : Env' → Res Fl) (f : Fl) (e : Env') : Res Fl := match f with
  | .nx => s e
  | x => .ok x e
theorem seqK_n {s : Env' → Res Fl} : seqK s .nx e = s e := id rfl
theorem seqK_r {s : Env' → Res Fl} {x : Val} : seqK s (.rt x) e = .ok (.rt x) e := id rfl
theorem seq_e : dSeq s1 s2 e = (s1 e).bind (seqK s2) := by
  unfold dSeq seqK
  congr 1
theorem expr_e : dExpr d e = (d e).bh fun _ e' => .ok .nx e' := id rfl
theorem ret_e : dRet d e = (d e).bind retV := id rfl
theorem retV_f {p : PV} : retV (.fz p) e = .ok (.rt (.fz p)) e := id rfl
theorem retV_n {p : PV} : retV (.new p) e = .ok (.rt (.new p)) e := id rfl
theorem retV_b : retV (.bor i) e = match e[i]? with
    | some (.fz p) => .ok (.rt (.fz p)) e
    | some (.ow true p) => .ok (.rt (.new p)) (e.set i .no)
    | _ => .bad := id rfl
def ifK (s1 s2 : Env' → Res α) (b : Bool) (e : Env') : Res α := if b = true then s1 e else s2 e
theorem ifK_t {s1 s2 : Env' → Res α} : ifK s1 s2 true e = s1 e := id rfl
theorem ifK_f {s1 s2 : Env' → Res α} : ifK s1 s2 false e = s2 e := id rfl
theorem ifS_e : dIfS t s1 s2 e = (t e).bind (ifK s1 s2) := id rfl
theorem if_e : dIf t d1 d2 e = (t e).bind (ifK d1 d2) := id rfl
theorem set_e : dSet i d e = (d e).bind (store i) := id rfl
theorem store_f {p : PV} : store i (.fz p) e = .ok .nx (e.set i (.fz p)) := id rfl
theorem store_n {p : PV} : store i (.new p) e = .ok .nx (e.set i (.ow true p)) := id rfl
theorem store_b : store i (.bor j) e = match e[j]? with
  | some (.fz p) => .ok .nx (e.set i (.fz p))
  | some (.ow true p) => .ok .nx ((e.set j (.fz p)).set i (.fz p))
  | _ => .bad := id rfl
theorem var_e : dVar i e = match e[i]? with
  | some (.fz p) => .ok (.fz p) e
  | some (.ow _ _) => .ok (.bor i) e
  | _ => .bad := id rfl
theorem stl_e : stl d e = (d e).bh fun x e' => .ok x.stl e' := id rfl
theorem stl_f {p : PV} : (Val.fz p).stl = .fz p := id rfl
theorem stl_n {p : PV} : (Val.new p).stl = .fz p := id rfl
theorem stl_b : (Val.bor i).stl = .bor i := id rfl
theorem peek_f {p : PV} : peek (.fz p) e = some p := id rfl
theorem peek_n {p : PV} : peek (.new p) e = some p := id rfl
theorem peek_b : peek (.bor i) e = match e[i]? with
    | some (.ow _ p) => some p
    | some (.fz p) => some p
    | _ => none := id rfl
theorem frz_f {p : PV} : frz (.fz p) e = .ok p e := id rfl
theorem frz_n {p : PV} : frz (.new p) e = .ok p e := id rfl
theorem frz_b : frz (.bor i) e = match e[i]? with
    | some (.fz p) => .ok p e
    | some (.ow true p) => .ok p (e.set i (.fz p))
    | _ => .bad := id rfl
theorem bin_e {sem : PV → PV → Option Val} : dBin sem d1 d2 e = (stl d1 e).bh fun x e1 => (stl d2 e1).bh fun y e2 => op2 sem x y e2 := id rfl
theorem op2_d {sem : PV → PV → Option Val} {x y : Val} : op2 sem x y e = match peek x e, peek y e with
  | some p, some q => toVal (sem p q) e
  | _, _ => .bad := id rfl
theorem toVal_s {x : Val} : toVal (some x) e = .ok x e := id rfl
theorem asB_e : asB d e = (d e).bh fun x e1 => match x with
  | .fz (.bl b) => .ok b e1
  | _ => .bad := id rfl
theorem chain_e {sem sem' : PV → PV → Option Val} : dChain sem sem' d1 d2 d3 e = (stl d1 e).bh fun x e1 => (stl d2 e1).bh fun y e2 => (op2 sem x y e2).bh fun r e3 => match r with
  | .fz (.bl true) => (stl d3 e3).bh fun z e4 => op2 sem' y z e4
  | .fz (.bl false) => .ok (.fz (.bl false)) e3
  | _ => .bad := by
  unfold dChain
  congr 1
theorem un_e {sem : PV → Option Val} : dUn sem d e = (stl d e).bh fun x e1 => match peek x e1 with
  | some p => toVal (sem p) e1
  | none => .bad := by
  unfold dUn
  congr 1
theorem not_e : dNot d e = dUn (fun p => (truthPV p).map fun b => .fz (.bl (!b))) d e := id rfl
theorem notT_e : dNotT t e = (t e).bh fun b e1 => .ok (!b) e1 := id rfl
theorem andT_e : dAndT t1 t2 e = (t1 e).bind (ifK t2 (fun e1 => .ok false e1)) := id rfl
theorem orT_e : dOrT t1 t2 e = (t1 e).bind (ifK (fun e1 => .ok true e1) t2) := id rfl
theorem args_n : dArgs [] e = .ok [] e := id rfl
theorem args_c {ds : List (Env' → Res Val)} : dArgs (d :: ds) e = (stl d e).bh fun x e1 => (dArgs ds e1).bh fun xs e2 => .ok (x :: xs) e2 := id rfl
theorem frzs_n : frzs [] e = .ok [] e := id rfl
theorem frzs_c {x : Val} {xs : List Val} : frzs (x :: xs) e = (frz x e).bh fun p e1 => (frzs xs e1).bh fun ps e2 => .ok (p :: ps) e2 := id rfl
theorem lst_e {ds : List (Env' → Res Val)} : dLst ds e = (dArgs ds e).bh fun xs e1 => (frzs xs e1).bh fun ps e2 => if ps.length ≤ big then .ok (.new (.lst ps)) e2 else .bad := id rfl
theorem tup_e {ds : List (Env' → Res Val)} : dTup ds e = (dArgs ds e).bh fun xs e1 => (frzs xs e1).bh fun ps e2 => if ps.length ≤ big then .ok (.fz (.tup ps)) e2 else .bad := id rfl
theorem call_e {sem : List PV → Option Val} {ds : List (Env' → Res Val)} : dCall sem ds e = (dArgs ds e).bh fun xs e1 => opN sem xs e1 := id rfl
theorem peeks_n : peeks e [] = some [] := id rfl
theorem peeks_c {x : Val} {xs : List Val} : peeks e (x :: xs) = match peek x e, peeks e xs with
    | some p, some ps => some (p :: ps)
    | _, _ => none := id rfl
theorem opN_e {sem : List PV → Option Val} {xs : List Val} : opN sem xs e = match peeks e xs with
  | some ps => toVal (sem ps) e
  | none => .bad := id rfl
theorem sl_e {lo hi : Option (Env' → Res Val)} : dSl d lo hi e = (stl d e).bh fun x e1 => (partOf lo e1).bh fun l e2 => (partOf hi e2).bh fun h e3 => match peek x e3 with
  | some p => toVal (semSl p l h) e3
  | none => .bad := id rfl
theorem part_n : partOf none e = .ok none e := id rfl
theorem part_s : partOf (some d) e = (stl d e).bh fun x e1 => match x with
    | .fz (.int i) => .ok (some i) e1
    | _ => .bad := id rfl
theorem meth_e {T : String} {sem : PV → List PV → Option Val} {ds : List (Env' → Res Val)} : dMeth T sem d ds e = (stl d e).bh fun x e1 => if (peek x e1).map kd = some T then
    (dArgs ds e1).bh fun xs e2 => match peek x e2, peeks e2 xs with
      | some p, some ps => if kd p = T then toVal (sem p ps) e2 else .bad
      | _, _ => .bad
  else .bad := id rfl
theorem for_e : dFor di u s1 e = (di e).bh fun ps e1 => forL u s1 ps e1 := id rfl
theorem asgT_e : dAsgT d u e = (d e).bh fun x e1 => (frz x e1).bh fun p e2 => match u p e2 with
  | some e3 => .ok .nx e3
  | none => .bad := id rfl
theorem uNm_e {p : PV} : uNm i p e = some (e.set i (.fz p)) := id rfl
theorem uTup_e {n : Nat} {us : List PV → Env' → Option Env'} {ps : List PV} : uTup n us (.tup ps) e = if ps.length = n then us ps e else none := id rfl
theorem uCons_e {us : List PV → Env' → Option Env'} {p : PV} {ps : List PV} : uCons u us (p :: ps) e = (u p e).bind (us ps) := id rfl
theorem uNil_e : uNil [] e = some e := id rfl
theorem put_e : dPut i d1 d2 e = (d2 e).bh fun x e1 => (frz x e1).bh fun p e2 => if isOw i e2 = true then (stl d1 e2).bh fun y e3 => putS i p y e3 else .bad := id rfl
theorem putS_e {p : PV} {y : Val} : putS i p y e = match e[i]?, peek y e with
  | some (.ow b q), some k => (match semPut q k p with
    | some q' => .ok .nx (e.set i (.ow b q'))
    | none => .bad)
  | _, _ => .bad := id rfl
theorem isOw_e : isOw i e = match e[i]? with
  | some (.ow _ _) => true
  | _ => false := id rfl
theorem mut_e {T : String} {sem : PV → List PV → Option (PV × PV)} {ds : List (Env' → Res Val)} : dMut T sem i ds e = if kdAt i e = T then (dArgs ds e).bh fun xs e1 => (frzs xs e1).bh fun ps e2 => mutK T sem i ps e2 else .bad := id rfl
theorem kdAt_e : kdAt i e = match e[i]? with
  | some (.ow _ q) => kd q
  | _ => "" := id rfl
theorem mutK_e {T : String} {sem : PV → List PV → Option (PV × PV)} {ps : List PV} : mutK T sem i ps e = match e[i]? with
  | some (.ow b q) => if kd q = T then (match sem q ps with
      | some (q', r) => .ok (.fz r) (e.set i (.ow b q'))
      | none => .bad)
    else .bad
  | _ => .bad := by
  unfold mutK
  rfl
theorem items_e : dItems d e = (stl d e).bh fun x e1 => (frz x e1).bh fun p e2 => match itemsP p with
  | some ps => .ok ps e2
  | none => .bad := id rfl
theorem enum_e : dEnum d e = (dArgs [d] e).bh fun xs e1 => (frzs xs e1).bh fun ps e2 => match ps with
  | [.lst xs] => .ok (numL xs) e2
  | [.tup xs] => .ok (numL xs) e2
  | [.str z] => .ok (numL (chars z)) e2
  | [.ftp xs] => .ok (numL xs) e2
  | _ => .bad := id rfl
theorem rng1_e : dRng1 d e = (dArgs [d] e).bh fun xs e1 => match peeks e1 xs with
  | some [.int j] => if r62 j = true then .ok (rngP 0 j.toNat) e1 else .bad
  | _ => .bad := id rfl
theorem rng2_e : dRng2 d1 d2 e = (dArgs [d1, d2] e).bh fun xs e1 => match peeks e1 xs with
  | some [.int i, .int j] => if r62 i = true ∧ r62 j = true then .ok (rngP i (j - i).toNat) e1 else .bad
  | _ => .bad := id rfl
theorem lc_e {vs : List Nat} {dt : Option (Env' → Res Bool)} : dLc vs di u dt d e = (di e).bh fun ps e1 => (lcL vs u dt d ps [] e1).bh fun qs e2 => .ok (.new (.lst qs)) e2 := id rfl
theorem dc_e {vs : List Nat} {dt : Option (Env' → Res Bool)} : dDc vs di u dt d1 d2 e = (di e).bh fun ps e1 => (dcL vs u dt d1 d2 ps [] [] e1).bh fun qs e2 => .ok (.new (.dK qs.1 qs.2)) e2 := id rfl
theorem par_e {is : List Nat} {ds : List (Env' → Res Val)} : dPar is ds e = (parL false ds e).bh fun xs e1 => storeL is xs e1 := id rfl
theorem parL_n {b : Bool} : parL b [] e = .ok [] e := by cases b <;> rfl
theorem parL_f {ds : List (Env' → Res Val)} : parL false (d :: ds) e = (d e).bh fun x e1 => (unb x e1).bh fun y e2 => (parL (isNew y) ds e2).bh fun xs e3 => .ok (y :: xs) e3 := id rfl
theorem parL_t {ds : List (Env' → Res Val)} : parL true (d :: ds) e = match d (blkE [] e) with
    | .ok x e1 => (match x with
      | .bor _ => .bad
      | y => (parL true ds (outE [] e e1)).bh fun xs e3 => .ok (y :: xs) e3)
    | _ => .bad := id rfl
theorem unb_f {p : PV} : unb (.fz p) e = .ok (.fz p) e := id rfl
theorem unb_n {p : PV} : unb (.new p) e = .ok (.new p) e := id rfl
theorem unb_b : unb (.bor i) e = (frz (.bor i) e).bh fun p e' => .ok (.fz p) e' := id rfl
theorem isNew_f {p : PV} : isNew (.fz p) = false := id rfl
theorem isNew_n {p : PV} : isNew (.new p) = true := id rfl
theorem storeL_n : storeL [] [] e = .ok .nx e := id rfl
theorem storeL_f {is : List Nat} {xs : List Val} {p : PV} : storeL (i :: is) (.fz p :: xs) e = storeL is xs (e.set i (.fz p)) := id rfl
theorem storeL_w {is : List Nat} {xs : List Val} {p : PV} : storeL (i :: is) (.new p :: xs) e = storeL is xs (e.set i (.ow true p)) := id rfl
theorem fn_e {md : Md} {fn : List PV → FR} {dps : List PV} {ds : List (Env' → Res Val)} : dFn md fn dps ds e = (dArgs ds e).bh fun xs e1 => callK md fn (xs ++ dps.map Val.fz) e1 := id rfl
theorem mk_e {c : Nat} {md : Md} {fn : List PV → FR} {dps : List PV} {ds : List (Env' → Res Val)} : dMk c md fn dps ds e = (dArgs ds e).bh fun xs e1 => mkK c md fn (xs ++ dps.map Val.fz) e1 := id rfl
def frK (is : List Nat) (e : Env') (r : FR) : Res Val := match r with
  | .ok (.fz p) outs => (match putOuts is outs e with
    | some e3 => .ok (.fz p) e3
    | none => .bad)
  | .ok (.new p) outs => (match putOuts is outs e with
    | some e3 => .ok (.new p) e3
    | none => .bad)
  | _ => .bad
theorem callK_e {md : Md} {fn : List PV → FR} {xs : List Val} : callK md fn xs e = (prep md xs e).bh fun ps e2 => if (lentI md xs).Nodup then frK (lentI md xs) e2 (fn ps) else .bad := id rfl
theorem frK_f {is : List Nat} {p : PV} {outs : List PV} : frK is e (.ok (.fz p) outs) = match putOuts is outs e with
    | some e3 => .ok (.fz p) e3
    | none => .bad := id rfl
theorem frK_n {is : List Nat} {p : PV} {outs : List PV} : frK is e (.ok (.new p) outs) = match putOuts is outs e with
    | some e3 => .ok (.new p) e3
    | none => .bad := id rfl
def mkF (is : List Nat) (e : Env') (r : FR) : Res Val := match r with
  | .ok (.fz .non) (q :: outs) => (match putOuts is outs e with
    | some e3 => .ok (.new q) e3
    | none => .bad)
  | _ => .bad
theorem mkK_e {c : Nat} {md : Md} {fn : List PV → FR} {xs : List Val} : mkK c md fn xs e = (prep md xs e).bh fun ps e2 => if (lentI md xs).Nodup then mkF (lentI md xs) e2 (fn (.ins c [] :: ps)) else .bad := id rfl
theorem mkF_e {is : List Nat} {q : PV} {outs : List PV} : mkF is e (.ok (.fz .non) (q :: outs)) = match putOuts is outs e with
    | some e3 => .ok (.new q) e3
    | none => .bad := id rfl
theorem prep_f {ms : Md} {x : Val} {xs : List Val} : prep (false :: ms) (x :: xs) e = (frz x e).bh fun p e1 => (prep ms xs e1).bh fun ps e2 => .ok (p :: ps) e2 := id rfl
theorem prep_t {ms : Md} {xs : List Val} : prep (true :: ms) (.bor i :: xs) e = (prep ms xs e).bh fun ps e2 => match e2[i]? with
    | some (.ow _ p) => .ok (p :: ps) e2
    | _ => .bad := id rfl
theorem prep_n : prep [] [] e = .ok [] e := id rfl
theorem lentI_f {ms : Md} {x : Val} {xs : List Val} : lentI (false :: ms) (x :: xs) = lentI ms xs := id rfl
theorem lentI_t {ms : Md} {xs : List Val} : lentI (true :: ms) (.bor i :: xs) = i :: lentI ms xs := id rfl
theorem lentI_n : lentI [] [] = [] := id rfl
theorem putOuts_n : putOuts [] [] e = some e := id rfl
theorem putOuts_c {is : List Nat} {q : PV} {qs : List PV} : putOuts (i :: is) (q :: qs) e = match e[i]? with
    | some (.ow b _) => putOuts is qs (e.set i (.ow b q))
    | _ => none := id rfl
theorem isi_e {ans : PV → Option Bool} : dIsi ans d e = (stl d e).bh fun x e1 => match (peek x e1).bind ans with
  | some b => .ok (.fz (.bl b)) e1
  | none => .bad := by
  unfold dIsi
  congr 1
theorem fld_e {L : Nat → List Nat} {f : Nat} : dFldL L f d e = (stl d e).bh fun x e1 => match peek x e1 with
  | some (.ins c xs) => (match ((L c).idxOf? f).bind fun i => xs[i]? with
    | some p => .ok (.fz p) e1
    | none => .bad)
  | _ => .bad := id rfl
theorem fldS_e {L : Nat → List Nat} {f : Nat} : dFldSL L f i d e = (d e).bh fun x e1 => (frz x e1).bh fun p e2 => match e2[i]? with
  | some (.ow b (.ins c xs)) => if (L c)[xs.length]? = some f ∧ xs.length < 999 then .ok .nx (e2.set i (.ow b (.ins c (xs ++ [p])))) else .bad
  | _ => .bad := id rfl
theorem tru_e : dTru d e = (stl d e).bh fun x e1 => match (peek x e1).bind truthPV with
  | some b => .ok b e1
  | none => .bad := by
  unfold dTru
  congr 1
theorem bool_e {a : Bool} : dBool a d1 d2 e = (stl d1 e).bh fun x e1 => match (peek x e1).bind truthPV with
  | some b => if b = a then d2 e1 else .ok x e1
  | none => .bad := by
  unfold dBool
  congr 1
theorem aug_e {sem : Int → Int → Option Int} : dAug i sem d e = match e[i]? with
  | some (.fz (.int k)) => (stl d e).bh fun x e1 => (match x with
    | .fz (.int n) => (match sem k n with
      | some m => .ok .nx (e1.set i (.fz (.int m)))
      | none => .bad)
    | _ => .bad)
  | _ => .bad := id rfl
theorem sortLn_e : dSortLn d e = (d e).bh fun x e1 => match peek x e1 with
  | some p => (match semLn p with
    | some q => .ok (.new q) e1
    | none => .bad)
  | none => .bad := id rfl
/-- a call's end -/
def finF (md : Md) (r : Res Fl) : FR := match r with
  | .ok .nx e => (match outsAt 0 md e with
    | some outs => .ok (.fz .non) outs
    | none => .bad)
  | .ok (.rt (.fz p)) e => (match outsAt 0 md e with
    | some outs => .ok (.fz p) outs
    | none => .bad)
  | .ok (.rt (.new p)) e => (match outsAt 0 md e with
    | some outs => .ok (.new p) outs
    | none => .bad)
  | _ => .bad
theorem callFn_e {n : Nat} {md : Md} {d : Env' → Res Fl} {args : List PV} : callFn n md d args = finF md (d (entry n md args)) := id rfl
theorem finF_x {md : Md} : finF md (.ok .nx e) = match outsAt 0 md e with
    | some outs => .ok (.fz .non) outs
    | none => .bad := id rfl
theorem finF_f {md : Md} {p : PV} : finF md (.ok (.rt (.fz p)) e) = match outsAt 0 md e with
    | some outs => .ok (.fz p) outs
    | none => .bad := id rfl
theorem finF_n {md : Md} {p : PV} : finF md (.ok (.rt (.new p)) e) = match outsAt 0 md e with
    | some outs => .ok (.new p) outs
    | none => .bad := id rfl
end
end VL
set_option maxRecDepth 100000
set_option maxHeartbeats 2000000
namespace VL
open PySem PySem.Spec L2
open PyProof.Rows hiding St
section
variable {i j : Int} {p : PV} {xs ys : List PV} {x y : Str}
theorem add_i : semAdd (.int i) (.int j) = some (.fz (.int (i + j))) := id rfl
theorem add_s (h : x.length + y.length ≤ big) : semAdd (.str x) (.str y) = some (.fz (.str (x ++ y))) := if_pos h
theorem sub_i : semSub (.int i) (.int j) = some (.fz (.int (i - j))) := id rfl
theorem mul_i (h : CMulX i j) : semMul (.int i) (.int j) = some (.fz (.int (i * j))) := if_pos h
theorem div_i (h : CDivW i j) : semDiv (.int i) (.int j) = some (.fz (.int (i / j))) := if_pos h
theorem mod_i (h : 0 < j) : semMod (.int i) (.int j) = some (.fz (.int (i % j))) := if_pos h
theorem lt_i : semLt (.int i) (.int j) = some (.fz (.bl (decide (i < j)))) := id rfl
theorem gt_i : semGt (.int i) (.int j) = some (.fz (.bl (decide (j < i)))) := id rfl
theorem ge_i : semGe (.int i) (.int j) = some (.fz (.bl (decide (j ≤ i)))) := id rfl
theorem len_l : semLen [.lst xs] = some (.fz (.int xs.length)) := id rfl
theorem int_i : semInt [.int i] = some (.fz (.int i)) := id rfl
theorem abs_i : semAbs [.int i] = some (.fz (.int i.natAbs)) := by
  show some (Val.fz (PV.int (if i < 0 then -i else i))) = _
  congr 3
  split <;> omega
theorem list_l : semList [.lst xs] = some (.new (.lst xs)) := id rfl
theorem mod_pow : semPow (.int 10) (.int 18) = some (.fz (.int 1000000000000000000)) := by
  show (if CPow 10 18 then some (Val.fz (PV.int (10 ^ (18 : Int).toNat))) else none) = _
  rw [if_pos ⟨by decide, by decide, by decide⟩]
  rfl
theorem key_s : keyP (.str x) = some (.inr x) := id rfl
theorem ix_l : semIx (.lst xs) (.int i) = (atI xs i).map .fz := id rfl
theorem ix_k {ks : List Key} {p : PV} : semIx (.dK ks xs) p = (keyP p).bind fun k => (look ks xs k).map .fz := id rfl
theorem put_k {ks : List Key} {q v : PV} : semPut (.dK ks xs) q v = match keyP q with
    | some k => if ks.length < big then some (.dK (putP ks xs k v).1 (putP ks xs k v).2) else none
    | none => none := id rfl
theorem sl_r {ns : List Int} {lo hi : Option Int} : semSl (.scr ns) lo hi = some (.new (.lst ((cutL ns lo hi).map .int))) := id rfl
theorem tru_b {b : Bool} : truthPV (.bl b) = some b := id rfl
theorem big_v : big = 16777216 := id rfl
/-- small factors -/
theorem bits_le {i : Int} {n : Nat} (h : i.natAbs < 2 ^ n) : Builtin.Int.intBits i ≤ n := by
  unfold Builtin.Int.intBits
  split
  · omega
  · rename_i hi
    have h0 : i.natAbs ≠ 0 := fun z => hi (by have : i = 0 := by omega
                                              rw [this]; rfl)
    have := (Nat.log2_lt h0).mpr h
    omega
theorem cmul {i j : Int} (h1 : i.natAbs < 2 ^ 1000) (h2 : j.natAbs < 2 ^ 1000) : CMulX i j := by
  unfold CMulX
  have := bits_le h1
  have := bits_le h2
  omega
theorem cdiv {i j : Int} (h1 : 0 < j) (h2 : j.natAbs < 2 ^ 1000) : CDivW i j := by
  refine ⟨h1, ?_⟩
  have : j.natAbs ≠ 0 := by omega
  have := (Nat.log2_lt this).mpr h2
  omega
theorem small {i : Int} (h1 : -10000000000000000000000000000000000000000 < i) (h2 : i < 10000000000000000000000000000000000000000) : i.natAbs < 2 ^ 1000 := by
  have h : i.natAbs < 10000000000000000000000000000000000000000 := by omega
  have h2 : 10000000000000000000000000000000000000000 < 2 ^ 200 := by decide
  have : (2:Nat) ^ 200 ≤ 2 ^ 1000 := Nat.pow_le_pow_right (by omega) (by omega)
  omega
/-- an index that is there -/
theorem at_i {α : Type} {l : List α} {n : Nat} (h : n < l.length) : atI l (n : Int) = some l[n] := by
  unfold atI
  unfold ixN
  rw [if_pos (by omega), if_pos (by omega)]
  simp [h]
theorem at_z {α : Type} {l : List α} {i : Int} (h0 : 0 ≤ i) (h : i < l.length) : ∃ (h' : i.toNat < l.length), atI l i = some l[i.toNat] := by
  have h' : i.toNat < l.length := by omega
  refine ⟨h', ?_⟩
  have := at_i h'
  rwa [Int.toNat_of_nonneg h0] at this
end
end VL
set_option maxRecDepth 100000
set_option maxHeartbeats 2000000
namespace VL
open PySem PySem.Spec L2
open PyProof.Rows hiding St
/-- the data of these values: flat, of texts that are texts -/
def okD : PyData → Bool
  | .none => true
  | .bool _ => true
  | .int _ => true
  | .str x => PyData.strOk x
  | _ => false
theorem flat_lay : ∀ {ds : List PyData}, (∀ d ∈ ds, okD d = true) → PyData.canLayAll0 ds = true ∧ PyData.depthAll ds = 0
  | [], _ => ⟨rfl, rfl⟩
  | d :: ds, h => by
    obtain ⟨h1, h2⟩ := flat_lay fun x hx => h x (List.mem_cons_of_mem _ hx)
    have hd := h d (List.mem_cons_self ..)
    unfold PyData.canLayAll0 PyData.depthAll
    rw [h1, h2]
    cases d <;> simp_all [okD, PyData.canLay0, PyData.depth]
theorem shaped_tup {ds : List PyData} (h : ∀ d ∈ ds, okD d = true) : SeqAt.shaped (.tuple ds) = true := by
  obtain ⟨h1, h2⟩ := flat_lay h
  unfold SeqAt.shaped
  simp only [PyData.canLay0, PyData.depth, h1, h2]
  decide
theorem eqP_same {p : PV} {d : PyData} (h : toD p = some d) (hs : SeqAt.shaped d = true) : eqP p p = some true := by
  unfold eqP
  rw [h]
  dsimp only
  rw [if_pos ⟨hs, hs⟩, SeqAt.eqv_refl d (SeqAt.canLay_of_shaped hs)]
theorem ne_same {p : PV} {d : PyData} (h : toD p = some d) (hs : SeqAt.shaped d = true) : semNe p p = some (.fz (.bl false)) := by
  unfold semNe
  rw [eqP_same h hs]; rfl
theorem eq_same {p : PV} {d : PyData} (h : toD p = some d) (hs : SeqAt.shaped d = true) : semEq p p = some (.fz (.bl true)) := by
  unfold semEq
  rw [eqP_same h hs]; rfl
end VL
set_option maxRecDepth 100000
set_option maxHeartbeats 2000000
namespace VL
open PySem PySem.Spec L2
open PyProof.Rows hiding St
open TL (tl ext_tl tl_append len_tl tl_join join_eq joinL)
abbrev Wd := List Bool
def bc (b : Bool) : Nat := if b = true then 49 else 48
def bs (w : Wd) : Str := ⟨(w.map bc).toArray⟩
abbrev sB (w : Wd) : PV := .str (bs w)
abbrev lB (ws : List Wd) : PV := .lst (ws.map sB)
abbrev tW (ws : List Wd) : PV := .tup (ws.map sB)
theorem forL_inv {u : UG} {db : Env' → Res Fl} {ps : List PV} (I : Nat → Env' → Prop) (step : ∀ (i : Nat) (p : PV) (e : Env'), ps[i]? = some p → I i e → ∃ e1 e2, u p e = some e1 ∧ db e1 = .ok .nx e2 ∧ I (i + 1) e2) {e : Env'} (h0 : I 0 e) :
    ∃ e', forL u db ps e = .ok .nx e' ∧ I ps.length e' := by
  have key : ∀ (qs : List PV) (i : Nat) (e : Env'), i + qs.length = ps.length → ps.drop i = qs → I i e → ∃ e', forL u db qs e = .ok .nx e' ∧ I ps.length e' := by
    intro qs
    induction qs with
    | nil =>
      intro i e hl hd hI
      have : i = ps.length := by simpa using hl
      subst this
      exact ⟨e, rfl, hI⟩
    | cons q qs ih =>
      intro i e hl hd hI
      have hq : ps[i]? = some q := by rw [← List.head?_drop, hd]; rfl
      obtain ⟨e1, e2, h1, h2, h3⟩ := step i q e hq hI
      have hd' : ps.drop (i + 1) = qs := by rw [← List.tail_drop, hd]; rfl
      obtain ⟨e', h4, h5⟩ := ih (i + 1) e2 (by simp at hl; omega) hd' h3
      refine ⟨e', ?_, h5⟩
      unfold forL
      rw [h1]
      simp only [h2]
      exact h4
  exact key ps 0 e (by simp) rfl h0
theorem while_inv {dt : Env' → Res Bool} {db : Env' → Res Fl} (I : Nat → Env' → Prop) (Z : Env' → Prop)
    (step : ∀ (m : Nat) (e : Env'), I m e → (∃ e1, dt e = .ok false e1 ∧ Z e1) ∨ ∃ e1 e2 m', dt e = .ok true e1 ∧ db e1 = .ok .nx e2 ∧ m' < m ∧ I m' e2) :
    ∀ (n m : Nat) (e : Env'), m < n → I m e → ∃ e', dWhile dt db n e = .ok .nx e' ∧ Z e'
  | 0, m, e, h, _ => by omega
  | n + 1, m, e, h, hI => by
    rcases step m e hI with ⟨e1, h1, h2⟩ | ⟨e1, e2, m', h1, h2, h3, h4⟩
    · refine ⟨e1, ?_, h2⟩
      unfold dWhile
      rw [h1]
      rfl
    · obtain ⟨e', h5, h6⟩ := while_inv I Z step n m' e2 (by omega) h4
      refine ⟨e', ?_, h6⟩
      unfold dWhile
      rw [h1]
      show (db e1).bind _ = _
      rw [h2]
      exact h5
end VL
set_option maxRecDepth 100000
set_option maxHeartbeats 2000000
namespace VL
open PySem PySem.Spec L2
open PyProof.Rows hiding St
def outZ (vs : List Nat) : Nat → Env' → Env' → Env'
  | k, a :: e, b :: e2 => (if k ∈ vs then a else outS a b) :: outZ vs (k + 1) e e2
  | _, _, _ => []
theorem outZ_at (vs : List Nat) : ∀ (e e2 : Env') (k i : Nat), e2.length = e.length → (outZ vs k e e2)[i]? = if i < e.length then some (if k + i ∈ vs then e.getD i .no else outS (e.getD i .no) (e2.getD i .no)) else none
  | [], [], k, i, _ => by simp [outZ]
  | [], _ :: _, k, i, h => by simp at h
  | _ :: _, [], k, i, h => by simp at h
  | a :: e, b :: e2, k, 0, h => by simp [outZ]
  | a :: e, b :: e2, k, i + 1, h => by
    have := outZ_at vs e e2 (k + 1) i (by simpa using h)
    simp only [outZ, List.getElem?_cons_succ, this, List.length_cons, Nat.add_lt_add_iff_right, List.getD_cons_succ]
    rw [show k + 1 + i = k + (i + 1) by omega]
theorem outE_z {vs : List Nat} {e e2 : Env'} (h : e2.length = e.length) : outE vs e e2 = outZ vs 0 e e2 := by
  apply List.ext_getElem?
  intro i
  rw [outZ_at vs e e2 0 i h]
  unfold outE
  rw [List.getElem?_map, Nat.zero_add]
  by_cases hi : i < e.length
  · rw [List.getElem?_range hi, if_pos hi]; rfl
  · rw [List.getElem?_eq_none (by simpa using hi), if_neg hi]; rfl
theorem outZ_c {vs : List Nat} {k : Nat} {a b : Sl} {e e2 : Env'} : outZ vs k (a :: e) (b :: e2) = (if k ∈ vs then a else outS a b) :: outZ vs (k + 1) e e2 := id rfl
theorem outZ_n {vs : List Nat} {k : Nat} : outZ vs k [] [] = [] := id rfl
theorem outS_w {b c : Bool} {p q : PV} : outS (.ow b p) (.ow c q) = .ow b q := id rfl
theorem outS_f {s : Sl} {q : PV} : outS s (.fz q) = .fz q := by cases s <;> exact id rfl
theorem outS_o {s : Sl} : outS s .no = .no := by cases s <;> exact id rfl
theorem lend_w {b : Bool} {p : PV} : lendS (.ow b p) = .ow false p := id rfl
theorem lend_f {p : PV} : lendS (.fz p) = .fz p := id rfl
theorem lend_n : lendS .no = .no := id rfl
theorem blk_e {vs : List Nat} {e : Env'} : blkE vs e = wipeE (e.map lendS) vs := id rfl
theorem wipe_n {e : Env'} : wipeE e [] = e := id rfl
theorem wipe_c {e : Env'} {i : Nat} {is : List Nat} : wipeE e (i :: is) = wipeE (e.set i .no) is := id rfl
theorem free_e {vs : List Nat} {e : Env'} : freeS vs e = vs.all fun i => match e[i]? with
  | some (.ow _ _) => false
  | _ => true := id rfl
theorem dtO_n {e : Env'} : dtO none e = .ok true e := id rfl
theorem dtO_s {e : Env'} {dt : Env' → Res Bool} : dtO (some dt) e = dt e := id rfl
theorem entry_e {n : Nat} {md : Md} {args : List PV} : entry n md args = entryE md args ++ List.replicate (n - args.length) .no := id rfl
theorem entryE_t {ms : Md} {p : PV} {ps : List PV} : entryE (true :: ms) (p :: ps) = .ow false p :: entryE ms ps := id rfl
theorem entryE_f {ms : Md} {p : PV} {ps : List PV} : entryE (false :: ms) (p :: ps) = .fz p :: entryE ms ps := id rfl
theorem entryE_n : entryE [] [] = [] := id rfl
theorem repl_z : List.replicate 0 Sl.no = [] := id rfl
theorem outsAt_n {i : Nat} {e : Env'} : outsAt i [] e = some [] := id rfl
theorem outsAt_f {i : Nat} {ms : Md} {e : Env'} : outsAt i (false :: ms) e = outsAt (i + 1) ms e := id rfl
theorem outsAt_t {i : Nat} {ms : Md} {e : Env'} : outsAt i (true :: ms) e = match e[i]?, outsAt (i + 1) ms e with
    | some (.ow false q), some r => some (q :: r)
    | _, _ => none := id rfl
end VL
set_option maxRecDepth 100000
set_option maxHeartbeats 2000000
namespace VL
open PySem PySem.Spec L2
open PyProof.Rows hiding St
theorem EVc : type_of% @bind_k ∧ type_of% @bh_k ∧ type_of% @seqK_n ∧ type_of% @seqK_r ∧ type_of% @seq_e ∧ type_of% @expr_e ∧ type_of% @ret_e ∧ type_of% @retV_f ∧ type_of% @retV_n ∧ type_of% @retV_b ∧ type_of% @ifK_t ∧ type_of% @ifK_f ∧ type_of% @ifS_e ∧ type_of% @if_e ∧ type_of% @set_e ∧ type_of% @store_f ∧ type_of% @store_n ∧ type_of% @store_b ∧ type_of% @var_e ∧ type_of% @stl_e ∧ type_of% @stl_f ∧ type_of% @stl_n ∧ type_of% @stl_b ∧ type_of% @peek_f ∧ type_of% @peek_n ∧ type_of% @peek_b ∧ type_of% @frz_f ∧ type_of% @frz_n ∧ type_of% @frz_b ∧ type_of% @bin_e ∧ type_of% @op2_d ∧ type_of% @toVal_s ∧ type_of% @asB_e ∧ type_of% @chain_e ∧ type_of% @un_e ∧ type_of% @not_e ∧ type_of% @notT_e ∧ type_of% @andT_e ∧ type_of% @orT_e ∧ type_of% @args_n ∧ type_of% @args_c ∧ type_of% @frzs_n ∧ type_of% @frzs_c ∧ type_of% @lst_e ∧ type_of% @tup_e ∧ type_of% @call_e ∧ type_of% @peeks_n ∧ type_of% @peeks_c ∧ type_of% @opN_e ∧ type_of% @sl_e ∧ type_of% @part_n ∧ type_of% @part_s ∧ type_of% @meth_e ∧ type_of% @for_e ∧ type_of% @asgT_e ∧ type_of% @uNm_e ∧ type_of% @uTup_e ∧ type_of% @uCons_e ∧ type_of% @uNil_e ∧ type_of% @put_e ∧ type_of% @putS_e ∧ type_of% @isOw_e ∧ type_of% @mut_e ∧ type_of% @kdAt_e ∧ type_of% @mutK_e ∧ type_of% @items_e ∧ type_of% @enum_e ∧ type_of% @rng1_e ∧ type_of% @rng2_e ∧ type_of% @lc_e ∧ type_of% @dc_e ∧ type_of% @par_e ∧ type_of% @parL_n ∧ type_of% @parL_f ∧ type_of% @parL_t ∧ type_of% @unb_f ∧ type_of% @unb_n ∧ type_of% @unb_b ∧ type_of% @isNew_f ∧ type_of% @isNew_n ∧ type_of% @storeL_n ∧ type_of% @storeL_f ∧ type_of% @storeL_w ∧ type_of% @fn_e ∧ type_of% @mk_e ∧ type_of% @callK_e ∧ type_of% @frK_f ∧ type_of% @frK_n ∧ type_of% @mkK_e ∧ type_of% @mkF_e ∧ type_of% @prep_f ∧ type_of% @prep_t ∧ type_of% @prep_n ∧ type_of% @lentI_f ∧ type_of% @lentI_t ∧ type_of% @lentI_n ∧ type_of% @putOuts_n ∧ type_of% @putOuts_c ∧ type_of% @isi_e ∧ type_of% @fld_e ∧ type_of% @fldS_e ∧ type_of% @tru_e ∧ type_of% @bool_e ∧ type_of% @aug_e ∧ type_of% @sortLn_e ∧ type_of% @callFn_e ∧ type_of% @finF_x ∧ type_of% @finF_f ∧ type_of% @finF_n ∧ type_of% @outE_z ∧ type_of% @outZ_c ∧ type_of% @outZ_n ∧ type_of% @outS_w ∧ type_of% @outS_f ∧ type_of% @outS_o ∧ type_of% @lend_w ∧ type_of% @lend_f ∧ type_of% @lend_n ∧ type_of% @blk_e ∧ type_of% @wipe_n ∧ type_of% @wipe_c ∧ type_of% @free_e ∧ type_of% @dtO_n ∧ type_of% @dtO_s ∧ type_of% @entry_e ∧ type_of% @entryE_t ∧ type_of% @entryE_f ∧ type_of% @entryE_n ∧ type_of% @repl_z ∧ type_of% @outsAt_n ∧ type_of% @outsAt_f ∧ type_of% @outsAt_t ∧ type_of% @List.getElem?_cons_zero.{0} ∧ type_of% @List.getElem?_cons_succ.{0} ∧ type_of% @List.set_cons_zero.{0} ∧ type_of% @List.set_cons_succ.{0} ∧ type_of% @List.map_nil.{0,0} ∧ type_of% @List.map_cons.{0,0} ∧ type_of% @List.nil_append.{0} ∧ type_of% @List.cons_append.{0} ∧ type_of% @List.nodup_cons.{0} ∧ type_of% @List.nodup_nil.{0} ∧ type_of% @List.not_mem_nil.{0} ∧ type_of% @List.mem_cons.{0} ∧ type_of% @not_false_eq_true ∧ type_of% @and_self ∧ type_of% @and_true ∧ type_of% @true_and ∧ type_of% @or_false ∧ type_of% @false_or ∧ type_of% @if_true.{1} ∧ type_of% @Bool.false_eq_true ∧ type_of% @Option.bind_some.{0,0} ∧ type_of% @Option.map_some.{0,0} ∧ type_of% @List.length_cons.{0} ∧ type_of% @List.length_nil.{0} ∧ type_of% @Option.some.injEq.{0} ∧ type_of% @Option.map_none.{0,0} ∧ type_of% @Option.bind_none.{0,0} ∧ type_of% @Bool.not_true ∧ type_of% @Bool.not_false ∧ type_of% @decide_true ∧ type_of% @decide_false ∧ type_of% @Nat.zero_add ∧ type_of% @List.all_cons.{0} ∧ type_of% @List.all_nil.{0} ∧ type_of% @Bool.and_true ∧ type_of% @Bool.and_self ∧ type_of% @List.append_nil.{0} ∧ type_of% @List.map_append.{0,0} := ⟨@bind_k, @bh_k, @seqK_n, @seqK_r, @seq_e, @expr_e, @ret_e, @retV_f, @retV_n, @retV_b, @ifK_t, @ifK_f, @ifS_e, @if_e, @set_e, @store_f, @store_n, @store_b, @var_e, @stl_e, @stl_f, @stl_n, @stl_b, @peek_f, @peek_n, @peek_b, @frz_f, @frz_n, @frz_b, @bin_e, @op2_d, @toVal_s, @asB_e, @chain_e, @un_e, @not_e, @notT_e, @andT_e, @orT_e, @args_n, @args_c, @frzs_n, @frzs_c, @lst_e, @tup_e, @call_e, @peeks_n, @peeks_c, @opN_e, @sl_e, @part_n, @part_s, @meth_e, @for_e, @asgT_e, @uNm_e, @uTup_e, @uCons_e, @uNil_e, @put_e, @putS_e, @isOw_e, @mut_e, @kdAt_e, @mutK_e, @items_e, @enum_e, @rng1_e, @rng2_e, @lc_e, @dc_e, @par_e, @parL_n, @parL_f, @parL_t, @unb_f, @unb_n, @unb_b, @isNew_f, @isNew_n, @storeL_n, @storeL_f, @storeL_w, @fn_e, @mk_e, @callK_e, @frK_f, @frK_n, @mkK_e, @mkF_e, @prep_f, @prep_t, @prep_n, @lentI_f, @lentI_t, @lentI_n, @putOuts_n, @putOuts_c, @isi_e, @fld_e, @fldS_e, @tru_e, @bool_e, @aug_e, @sortLn_e, @callFn_e, @finF_x, @finF_f, @finF_n, @outE_z, @outZ_c, @outZ_n, @outS_w, @outS_f, @outS_o, @lend_w, @lend_f, @lend_n, @blk_e, @wipe_n, @wipe_c, @free_e, @dtO_n, @dtO_s, @entry_e, @entryE_t, @entryE_f, @entryE_n, @repl_z, @outsAt_n, @outsAt_f, @outsAt_t, @List.getElem?_cons_zero.{0}, @List.getElem?_cons_succ.{0}, @List.set_cons_zero.{0}, @List.set_cons_succ.{0}, @List.map_nil.{0,0}, @List.map_cons.{0,0}, @List.nil_append.{0}, @List.cons_append.{0}, @List.nodup_cons.{0}, @List.nodup_nil.{0}, @List.not_mem_nil.{0}, @List.mem_cons.{0}, @not_false_eq_true, @and_self, @and_true, @true_and, @or_false, @false_or, @if_true.{1}, @Bool.false_eq_true, @Option.bind_some.{0,0}, @Option.map_some.{0,0}, @List.length_cons.{0}, @List.length_nil.{0}, @Option.some.injEq.{0}, @Option.map_none.{0,0}, @Option.bind_none.{0,0}, @Bool.not_true, @Bool.not_false, @decide_true, @decide_false, @Nat.zero_add, @List.all_cons.{0}, @List.all_nil.{0}, @Bool.and_true, @Bool.and_self, @List.append_nil.{0}, @List.map_append.{0,0}⟩
end VL
set_option maxRecDepth 100000
set_option maxHeartbeats 2000000
namespace VL
def Apart (a b : Wd) : Prop := ¬ a <+: b ∧ ¬ b <+: a
theorem Apart.symm {a b : Wd} (h : Apart a b) : Apart b a := ⟨h.2, h.1⟩
structure Good (ws : List Wd) : Prop where
  pre : ws.Pairwise Apart
  ne : ∀ w ∈ ws, w ≠ []
  len : ∀ w ∈ ws, w.length + 1 ≤ ws.length
  kraft : (ws.map fun w => 2 ^ (25 - w.length)).sum = 33554432
theorem Good.start : Good [[false], [true]] := by
  refine ⟨?_, ?_, ?_, by decide⟩
  · refine List.Pairwise.cons (fun b hb => ?_) (List.pairwise_singleton ..)
    have : b = [true] := by simpa using hb
    subst this
    exact ⟨by decide, by decide⟩
  · intro w hw; rintro rfl; simp at hw
  · intro w hw
    simp at hw
    rcases hw with rfl | rfl <;> decide
theorem Good.nodup {ws : List Wd} (h : Good ws) : ws.Nodup := by
  refine List.Pairwise.imp ?_ h.pre
  rintro a b q rfl
  exact q.1 List.prefix_rfl
end VL
set_option maxRecDepth 100000
set_option maxHeartbeats 2000000
namespace VL
def pl (a b : Nat × Nat) : Bool := if a.1 = b.1 then decide (a.2 < b.2) else decide (a.1 < b.1)
def prs (ls : List Nat) : List (Nat × Nat) := ls.zipIdx
/-- lengths of a full code that was parted -/
structure GL (ls : List Nat) : Prop where
  pos : ∀ l ∈ ls, 1 ≤ l
  le : ∀ l ∈ ls, l ≤ 25
  kraft : (ls.map fun l => 2 ^ (25 - l)).sum = 33554432
theorem prs_fst (ls : List Nat) : (prs ls).map (·.1) = ls := by simp [prs]
section
variable {ls : List Nat}
theorem GL.sum (g : GL ls) : ((prs ls).map fun q => 2 ^ (25 - q.1)).sum = 33554432 := by
  rw [← g.kraft]
  conv => rhs; rw [← prs_fst ls]
  rw [List.map_map]
  rfl
end
end VL
set_option maxRecDepth 100000
set_option maxHeartbeats 2000000
namespace VL
open PySem PySem.Spec L2
open PyProof.Rows hiding St
end VL
set_option maxRecDepth 100000
set_option maxHeartbeats 2000000
namespace VL
open PySem PySem.Spec L2
open PyProof.Rows hiding St
theorem eqP_i (i j : Int) : eqP (.int i) (.int j) = some (decide (i = j)) := by
  unfold eqP
  simp only [toD]
  rw [if_pos ⟨by rfl, by rfl⟩]
  show some (i == j) = _
  congr 1
theorem eq_i (i j : Int) : semEq (.int i) (.int j) = some (.fz (.bl (decide (i = j)))) := by unfold semEq; rw [eqP_i]; rfl
theorem rng_at {k i : Nat} {p : PV} (h : (rngP 0 k)[i]? = some p) : p = .int (i : Nat) ∧ i < k := by
  unfold rngP at h
  rw [List.getElem?_map] at h
  by_cases hi : i < k
  · rw [List.getElem?_range hi] at h
    cases h
    exact ⟨by simp, hi⟩
  · rw [List.getElem?_eq_none (by simpa using hi)] at h; cases h
theorem outS_l {s : Sl} : outS s (lendS s) = s := by cases s <;> exact id rfl
theorem disp_n {ks : List Key} {vs : List PV} {e : Env'} : dDisp [] ks vs e = .ok (.new (.dK ks vs)) e := id rfl
theorem disp_c {dk dv : Env' → Res Val} {r : List ((Env' → Res Val) × (Env' → Res Val))} {ks : List Key} {vs : List PV} {e : Env'} : dDisp ((dk, dv) :: r) ks vs e = match subV dk e with
    | .ok kp e1 => (match keyP kp, subV dv e1 with
      | some k, .ok p e2 => dDisp r (putP ks vs k p).1 (putP ks vs k p).2 e2
      | _, _ => .bad)
    | _ => .bad := by
  (conv => lhs; unfold dDisp) <;> rfl
theorem subV_e {d : Env' → Res Val} {e : Env'} : subV d e = match d (blkE [] e) with
  | .ok x e1 => (match frz x e1 with
    | .ok p e2 => .ok p (outE [] e e2)
    | _ => .bad)
  | _ => .bad := by
  unfold subV
  rfl
end VL
set_option maxRecDepth 100000
set_option maxHeartbeats 2000000
namespace K35
open PySem PySem.Spec L2 VL
open PyProof.Rows hiding St
/-- the pen -/
def pen (cs : List Int) (o l : Int) : PV := .dK [.inr "cells", .inr "next", .inr "left"] [.lst (cs.map .int), .int o, .int l]
theorem look_c {a b c : PV} : look [(.inr "cells" : Key), .inr "next", .inr "left"] [a, b, c] (.inr "cells") = some a := by rfl
theorem look_o {a b c : PV} : look [(.inr "cells" : Key), .inr "next", .inr "left"] [a, b, c] (.inr "next") = some b := by rfl
theorem look_f {a b c : PV} : look [(.inr "cells" : Key), .inr "next", .inr "left"] [a, b, c] (.inr "left") = some c := by rfl
theorem put_o {a b c d : PV} : putP [(.inr "cells" : Key), .inr "next", .inr "left"] [a, b, c] (.inr "next") d = ([.inr "cells", .inr "next", .inr "left"], [a, d, c]) := by rfl
theorem put_f {a b c d : PV} : putP [(.inr "cells" : Key), .inr "next", .inr "left"] [a, b, c] (.inr "left") d = ([.inr "cells", .inr "next", .inr "left"], [a, b, d]) := by rfl
theorem draw_ok {cs : List Int} {o l m : Int} (hm : 0 < m) (hm2 : m < 1000000000000000000000000000000) (ho : 0 ≤ o) (ho2 : o < 1000000000000000000) : ∃ r o' l', F_law_draw [pen cs o l, .int m] = .ok (.fz (.int r)) [pen cs o' l'] ∧ 0 ≤ r ∧ r < m ∧ 0 ≤ o' ∧ o' ≤ o + 1 := by
  have hv : ∀ x : Int, CDivW x m := fun x => cdiv hm (small (by omega) (by omega))
  have md : ∀ x : Int, 0 ≤ x % m ∧ x % m < m := fun x => ⟨Int.emod_nonneg _ (by omega), Int.emod_lt_of_pos _ hm⟩
  have sm : ∀ {x y : Int}, -10000000000000000000000000000000000000000 < x → x < 10000000000000000000000000000000000000000 → -10000000000000000000000000000000000000000 < y → y < 10000000000000000000000000000000000000000 → CMulX x y := fun h1 h2 h3 h4 => cmul (small h1 h2) (small h3 h4)
  by_cases hl : 0 < l
  · have hd : decide (0 < l) = true := decide_eq_true hl
    refine ⟨l % m, o, l / m, ?_, (md l).1, (md l).2, ho, by omega⟩
    unfold F_law_draw d_law_draw pen
    simp only [EVc, reduceIte, reduceCtorEq, Nat.reduceAdd, Nat.reduceLT, Nat.reduceLeDiff, Nat.reduceEqDiff, Nat.reduceSub, kd, List.replicate, lB, tW, entry, entryE, List.replicate, outsAt, ix_k, key_s, look_c, look_o, look_f, put_o, put_f, gt_i, hd, mod_i hm, div_i (hv _), int_i, put_k, big_v]
  · have hd : decide (0 < l) = false := decide_eq_false hl
    by_cases hc : (((cs.map PV.int).length : Nat) : Int) = 0
    · have he : decide ((((cs.map PV.int).length : Nat) : Int) = 0) = true := decide_eq_true hc
      have q1 : CMulX 7 o := sm (by omega) (by omega) (by omega) (by omega)
      refine ⟨(7 * o + 3) % m, o + 1, l, ?_, (md _).1, (md _).2, by omega, by omega⟩
      unfold F_law_draw d_law_draw pen
      simp only [EVc, reduceIte, reduceCtorEq, Nat.reduceAdd, Nat.reduceLT, Nat.reduceLeDiff, Nat.reduceEqDiff, Nat.reduceSub, kd, List.replicate, lB, tW, entry, entryE, List.replicate, outsAt, ix_k, key_s, look_c, look_o, look_f, put_o, put_f, gt_i, hd, mod_i hm, div_i (hv _), int_i, put_k, big_v, add_i, len_l, eq_i, he, mul_i q1]
    · have he : decide ((((cs.map PV.int).length : Nat) : Int) = 0) = false := decide_eq_false hc
      have h0 : (0 : Int) < ((cs.map PV.int).length : Nat) := by omega
      obtain ⟨hx, hat⟩ := at_z (l := cs.map PV.int) (i := o % ((cs.map PV.int).length : Nat)) (Int.emod_nonneg _ (by omega)) (Int.emod_lt_of_pos _ h0)
      rw [List.getElem_map] at hat
      generalize cs[(o % ((cs.map PV.int).length : Nat)).toNat]'(by simpa using hx) = c at hat
      by_cases hb : o < ((cs.map PV.int).length : Nat) ∧ (1000000000000000000 : Int) ≤ (c.natAbs : Int)
      · have hb1 : decide (o < ((cs.map PV.int).length : Nat)) = true := decide_eq_true hb.1
        have hb2 : decide ((1000000000000000000 : Int) ≤ (c.natAbs : Int)) = true := decide_eq_true hb.2
        refine ⟨((c.natAbs : Int) - 1000000000000000000) % m, o + 1, ((c.natAbs : Int) - 1000000000000000000) / m, ?_, (md _).1, (md _).2, by omega, by omega⟩
        unfold F_law_draw d_law_draw pen
        simp only [EVc, reduceIte, reduceCtorEq, Nat.reduceAdd, Nat.reduceLT, Nat.reduceLeDiff, Nat.reduceEqDiff, Nat.reduceSub, kd, List.replicate, lB, tW, entry, entryE, List.replicate, outsAt, ix_k, key_s, look_c, look_o, look_f, put_o, put_f, gt_i, hd, mod_i hm, mod_i h0, div_i (hv _), int_i, put_k, big_v, add_i, sub_i, eq_i, he, len_l, ix_l, hat, lt_i, ge_i, abs_i, mod_pow, hb1, hb2]
      · have q2 : CMulX (c % 4294967197) 52711 := sm (by omega) (by omega) (by omega) (by omega)
        have q3 : CMulX 20353 o := sm (by omega) (by omega) (by omega) (by omega)
        have q4 : CMulX (20353 * o) o := sm (by omega) (by omega) (by omega) (by omega)
        have q5 : CMulX 1531 o := sm (by omega) (by omega) (by omega) (by omega)
        have q6 : CMulX 23 o := sm (by omega) (by omega) (by omega) (by omega)
        obtain ⟨x0, hx0⟩ : ∃ x0, x0 = c % 4294967197 * 52711 + 20353 * o * o := ⟨_, rfl⟩
        obtain ⟨x1, hx1⟩ : ∃ x1, x1 = (x0 + 1531 * o + 11) % 4294967189 := ⟨_, rfl⟩
        have b1 : 0 ≤ x1 ∧ x1 < 4294967189 := by rw [hx1]; exact ⟨Int.emod_nonneg _ (by omega), Int.emod_lt_of_pos _ (by omega)⟩
        have q7 : CMulX x1 x1 := sm (by omega) (by omega) (by omega) (by omega)
        have q8 : CMulX 68903 x1 := sm (by omega) (by omega) (by omega) (by omega)
        obtain ⟨x2, hx2⟩ : ∃ x2, x2 = (x1 * x1 + 68903 * x1 + 23 * o + 7) % 4294967161 := ⟨_, rfl⟩
        have b2 : 0 ≤ x2 ∧ x2 < 4294967161 := by rw [hx2]; exact ⟨Int.emod_nonneg _ (by omega), Int.emod_lt_of_pos _ (by omega)⟩
        have q9 : CMulX x2 (x2 + 57037) := sm (by omega) (by omega) (by omega) (by omega)
        have d64 : ∀ x : Int, CDivW x 64 := fun x => cdiv (by omega) (small (by omega) (by omega))
        have m1 : (0 : Int) < 4294967197 := by omega
        have m2 : (0 : Int) < 4294967189 := by omega
        have m3 : (0 : Int) < 4294967161 := by omega
        have m4 : (0 : Int) < 4294967143 := by omega
        refine ⟨(x2 * (x2 + 57037)) % 4294967143 / 64 % m, o + 1, l, ?_, (md _).1, (md _).2, by omega, by omega⟩
        by_cases hb1 : o < ((cs.map PV.int).length : Nat)
        · have hb2 : decide ((1000000000000000000 : Int) ≤ (c.natAbs : Int)) = false := decide_eq_false fun z => hb ⟨hb1, z⟩
          have hb1 : decide (o < ((cs.map PV.int).length : Nat)) = true := decide_eq_true hb1
          unfold F_law_draw d_law_draw pen
          simp only [EVc, reduceIte, reduceCtorEq, Nat.reduceAdd, Nat.reduceLT, Nat.reduceLeDiff, Nat.reduceEqDiff, Nat.reduceSub, kd, List.replicate, lB, tW, entry, entryE, List.replicate, outsAt, ix_k, key_s, look_c, look_o, look_f, put_o, put_f, gt_i, hd, mod_i hm, mod_i h0, div_i (hv _), int_i, put_k, big_v, add_i, sub_i, eq_i, he, len_l, ix_l, hat, lt_i, ge_i, abs_i, mod_pow, hb1, hb2, mul_i q2, mul_i q3, mul_i q4, mul_i q5, mul_i q6, mod_i m1, mod_i m2, mod_i m3, mod_i m4, ← hx0, ← hx1, mul_i q7, mul_i q8, ← hx2, mul_i q9, div_i (d64 _)]
        · have hb1 : decide (o < ((cs.map PV.int).length : Nat)) = false := decide_eq_false hb1
          unfold F_law_draw d_law_draw pen
          simp only [EVc, reduceIte, reduceCtorEq, Nat.reduceAdd, Nat.reduceLT, Nat.reduceLeDiff, Nat.reduceEqDiff, Nat.reduceSub, kd, List.replicate, lB, tW, entry, entryE, List.replicate, outsAt, ix_k, key_s, look_c, look_o, look_f, put_o, put_f, gt_i, hd, mod_i hm, mod_i h0, div_i (hv _), int_i, put_k, big_v, add_i, sub_i, eq_i, he, len_l, ix_l, hat, lt_i, ge_i, abs_i, mod_pow, hb1, mul_i q2, mul_i q3, mul_i q4, mul_i q5, mul_i q6, mod_i m1, mod_i m2, mod_i m3, mod_i m4, ← hx0, ← hx1, mul_i q7, mul_i q8, ← hx2, mul_i q9, div_i (d64 _)]
/-- a pen of at most n openings -/
def IsPen (n : Int) (p : PV) : Prop := ∃ cs o l, p = pen cs o l ∧ 0 ≤ o ∧ o ≤ n
theorem IsPen.mono {n m : Int} {p : PV} (h : IsPen n p) (l : n ≤ m) : IsPen m p := let ⟨cs, o, l', e, h0, h1⟩ := h; ⟨cs, o, l', e, h0, by omega⟩
theorem drawP {n m : Int} {p : PV} (h : IsPen n p) (hn : n < 1000000000000000000) (hm : 0 < m) (hm2 : m < 1000000000000000000000000000000) : ∃ r p', F_law_draw [p, .int m] = .ok (.fz (.int r)) [p'] ∧ 0 ≤ r ∧ r < m ∧ IsPen (n + 1) p' := by
  obtain ⟨cs, o, l, rfl, h0, h1⟩ := h
  obtain ⟨r, o', l', e, a, b, c, d⟩ := draw_ok (cs := cs) (l := l) hm hm2 h0 (by omega)
  exact ⟨r, _, e, a, b, cs, o', l', rfl, c, by omega⟩
theorem pick_ok {n : Int} {p : PV} {xs : List PV} (h : IsPen n p) (hn : n < 1000000000000000000) (hx : 0 < xs.length) (hl : xs.length < 16777216) : ∃ (i : Nat) (hi : i < xs.length) (p' : PV), F_law_pick [p, .lst xs] = .ok (.fz xs[i]) [p'] ∧ IsPen (n + 1) p' := by
  obtain ⟨r, p', e, h0, h1, hp⟩ := drawP (m := (xs.length : Nat)) h hn (by omega) (by omega)
  obtain ⟨hr, hat⟩ := at_z (l := xs) h0 h1
  refine ⟨r.toNat, hr, p', ?_, hp⟩
  unfold F_law_pick d_law_pick
  simp only [EVc, reduceIte, reduceCtorEq, Nat.reduceAdd, Nat.reduceLT, Nat.reduceLeDiff, Nat.reduceEqDiff, Nat.reduceSub, kd, List.replicate, lB, tW, len_l, e, ix_l, hat]
theorem pen_ok (ns : List Int) : ∃ p, F_law_pen_of [.scr ns] = .ok (.new p) [] ∧ IsPen 0 p := by
  refine ⟨pen (cutL ns none (some 63)) 0 0, ?_, _, _, _, rfl, by omega, by omega⟩
  have p1 : ∀ p : PV, putP ([] : List Key) [] (.inr "cells") p = ([.inr "cells"], [p]) := fun p => rfl
  have p2 : ∀ a p : PV, putP ([.inr "cells"] : List Key) [a] (.inr "next") p = ([.inr "cells", .inr "next"], [a, p]) := fun a p => rfl
  have p3 : ∀ a b p : PV, putP ([.inr "cells", .inr "next"] : List Key) [a, b] (.inr "left") p = ([.inr "cells", .inr "next", .inr "left"], [a, b, p]) := fun a b p => rfl
  unfold F_law_pen_of d_law_pen_of pen
  simp only [EVc, reduceIte, reduceCtorEq, Nat.reduceAdd, Nat.reduceLT, Nat.reduceLeDiff, Nat.reduceEqDiff, Nat.reduceSub, kd, List.replicate, lB, tW, disp_c, disp_n, subV_e, key_s, sl_r, list_l, p1, p2, p3]
end K35
set_option maxRecDepth 100000
set_option maxHeartbeats 4000000
namespace VL
open PySem PySem.Spec L2
open PyProof.Rows hiding St
end VL
namespace K35
open PySem PySem.Spec L2 VL
open PyProof.Rows hiding St
end K35
set_option maxRecDepth 100000
set_option maxHeartbeats 4000000
namespace K35
open PySem PySem.Spec L2 VL
open PyProof.Rows hiding St
end K35
set_option maxRecDepth 100000
set_option maxHeartbeats 4000000
namespace VL
open PySem PySem.Spec L2
open PyProof.Rows hiding St
section
variable {α β : Type} {e e' : Env'} {d : Env' → Res Val} {x : Exc'}
theorem bind_x {f : α → Env' → Res β} : (Res.err x e : Res α).bind f = .err x e := id rfl
theorem bh_x {f : α → Env' → Res β} {w : Wit f} : (Res.err x e : Res α).bh f w = .err x e := id rfl
theorem raise_e {c n : Nat} {ds : List (Env' → Res Val)} : dRaise c n ds e = (dArgs ds e).bh fun xs e1 => (frzs xs e1).bh fun ps e2 => if ps.length = n then .err ⟨c, ps⟩ e2 else .bad := id rfl
def fxK (is : List Nat) (e : Env') (r : FX) : Res Val := match r with
  | .ok (.fz p) outs => (match putOuts is outs e with
    | some e3 => .ok (.fz p) e3
    | none => .bad)
  | .ok (.new p) outs => (match putOuts is outs e with
    | some e3 => .ok (.new p) e3
    | none => .bad)
  | .err x => .err x (noS is e)
  | _ => .bad
theorem callKX_e {md : Md} {fn : List PV → FX} {xs : List Val} : callKX md fn xs e = (prep md xs e).bh fun ps e2 => if (lentI md xs).Nodup then fxK (lentI md xs) e2 (fn ps) else .bad := id rfl
theorem fxK_x {is : List Nat} : fxK is e (.err x) = .err x (noS is e) := id rfl
def mxK (is : List Nat) (e : Env') (r : FX) : Res Val := match r with
  | .ok (.fz .non) (q :: outs) => (match putOuts is outs e with
    | some e3 => .ok (.new q) e3
    | none => .bad)
  | .err x => .err x (noS is e)
  | _ => .bad
theorem mkKX_e {c : Nat} {md : Md} {fn : List PV → FX} {xs : List Val} : mkKX c md fn xs e = (prep md xs e).bh fun ps e2 => if (lentI md xs).Nodup then mxK (lentI md xs) e2 (fn (.ins c [] :: ps)) else .bad := id rfl
theorem mkX_e {c : Nat} {md : Md} {fn : List PV → FX} {dps : List PV} {ds : List (Env' → Res Val)} : dMkX c md fn dps ds e = (dArgs ds e).bh fun xs e1 => mkKX c md fn (xs ++ dps.map Val.fz) e1 := id rfl
theorem mxK_x {is : List Nat} : mxK is e (.err x) = .err x (noS is e) := id rfl
def frX : FR → FX
  | .ok x o => .ok x o
  | .bad => .bad
def finX (md : Md) (r : Res Fl) : FX := match r with
  | .err x _ => .err x
  | r => frX (finF md r)
theorem callFnX_e {n : Nat} {md : Md} {d : Env' → Res Fl} {args : List PV} : callFnX n md d args = finX md (d (entry n md args)) := by
  unfold callFnX
  rw [callFn_e]
  cases d (entry n md args) with
  | bad => rfl
  | err y e => rfl
  | ok f e =>
    show (match finF md (.ok f e) with | .ok x o => FX.ok x o | .bad => .bad) = frX (finF md (.ok f e))
    cases finF md (.ok f e) <;> rfl
theorem finX_x {md : Md} : finX md (.err x e) = .err x := id rfl
theorem finX_k {md : Md} {f : Fl} : finX md (.ok f e) = frX (finF md (.ok f e)) := id rfl
theorem frX_k {v : Val} {o : List PV} : frX (.ok v o) = .ok v o := id rfl
end
def whole (k : Int) : PV → Bool
  | .int i => decide (k ≤ i)
  | _ => false
end VL
namespace K35
open PySem PySem.Spec L2 VL
open PyProof.Rows hiding St
end K35
set_option maxRecDepth 100000
set_option maxHeartbeats 4000000
namespace VL
open PySem PySem.Spec L2
open PyProof.Rows hiding St
section
variable {e e1 e2 e3 : Env'} {c i : Nat} {fn : List PV → FR} {d d1 d2 : Env' → Res Val} {x y : Val} {p q : PV} {is : List Nat}
def ownK (neg : Bool) (c : Nat) (fn : List PV → FR) (x y : Val) (e2 : Env') : Res Val := if insAt c 0 x e2 = true ∧ (peek y e2).map (rightQ c) = some true then
    (callK [false, false] fn [x, y] e2).bind fun r e3 => match r with
      | .fz (.bl b) => .ok (.fz (.bl (if neg = true then !b else b))) e3
      | _ => .bad
  else .bad
theorem ownQ_e {neg : Bool} : dOwnQ neg c fn d1 d2 e = (stl d1 e).bh fun x e1 => (stl d2 e1).bh fun y e2 => ownK neg c fn x y e2 := id rfl
theorem ownK_ok {neg b : Bool} (h1 : insAt c 0 x e = true) (h2 : (peek y e).map (rightQ c) = some true) (h3 : callK [false, false] fn [x, y] e = .ok (.fz (.bl b)) e3) : ownK neg c fn x y e = .ok (.fz (.bl (if neg = true then !b else b))) e3 := by
  unfold ownK
  rw [if_pos ⟨h1, h2⟩, h3]
  rfl
end
end VL
namespace K35
open PySem PySem.Spec L2 VL
open PyProof.Rows hiding St
end K35
set_option maxRecDepth 100000
set_option maxHeartbeats 1000000
namespace K35
open PySem PySem.Spec L2 VL
open PyProof.Rows hiding St
theorem noS_0 {e : Env'} : noS [] e = e := by
  unfold noS
  refine List.ext_getElem (by simp) fun i h1 h2 => ?_
  simp
end K35
set_option maxRecDepth 100000
set_option maxHeartbeats 1000000
namespace RT
def sh (a b : Int) : Int := if b < 0 then -((Int.gcd a b : Nat) : Int) else ((Int.gcd a b : Nat) : Int)
def nm (a b : Int) : Int := a.fdiv (sh a b)
def dn (a b : Int) : Int := b.fdiv (sh a b)
theorem gpos {a b : Int} (hb : b ≠ 0) : 0 < Int.gcd a b := Nat.pos_of_ne_zero fun z => hb (Int.gcd_eq_zero_iff.mp z).2
theorem sh_ne {a b : Int} (hb : b ≠ 0) : sh a b ≠ 0 := by
  have := gpos (a := a) hb
  unfold sh
  split <;> omega
/-- what a fraction in lowest terms is -/
structure Fr (x y a b : Int) : Prop where
  eq : x * b = a * y
  pos : 0 < y
  co : Int.gcd x y = 1
theorem fdiv_of {s k : Int} (h : s ≠ 0) : (s * k).fdiv s = k := Int.mul_fdiv_cancel_left k h
theorem low {a b : Int} (hb : b ≠ 0) : ∃ x y : Int, a = sh a b * x ∧ b = sh a b * y ∧ nm a b = x ∧ dn a b = y ∧ 0 < y ∧ Int.gcd x y = 1 := by
  have g0 := gpos (a := a) hb
  have sn := sh_ne (a := a) hb
  obtain ⟨x, hx⟩ := Int.gcd_dvd_left a b
  obtain ⟨y, hy⟩ := Int.gcd_dvd_right a b
  have hg : Int.gcd x y = 1 := by
    have h1 : Int.gcd a b = Int.gcd (((Int.gcd a b : Nat) : Int) * x) (((Int.gcd a b : Nat) : Int) * y) := by rw [← hx, ← hy]
    rw [Int.gcd_mul_left, Int.natAbs_natCast] at h1
    have h2 : Int.gcd a b * 1 = Int.gcd a b * Int.gcd x y := by omega
    exact (Nat.eq_of_mul_eq_mul_left g0 h2).symm
  have key : ∀ s x y : Int, sh a b = s → a = s * x → b = s * y → nm a b = x ∧ dn a b = y := fun s x y hs ha hb' => by
    have h0 : s ≠ 0 := by rw [← hs]; exact sn
    unfold nm dn
    rw [hs]
    exact ⟨by rw [ha]; exact fdiv_of h0, by rw [hb']; exact fdiv_of h0⟩
  by_cases h : b < 0
  · have hs : sh a b = -((Int.gcd a b : Nat) : Int) := if_pos h
    have ha : a = -((Int.gcd a b : Nat) : Int) * -x := by rw [Int.neg_mul_neg]; exact hx
    have hb2 : b = -((Int.gcd a b : Nat) : Int) * -y := by rw [Int.neg_mul_neg]; exact hy
    obtain ⟨k1, k2⟩ := key _ _ _ hs ha hb2
    refine ⟨-x, -y, by rw [hs]; exact ha, by rw [hs]; exact hb2, k1, k2, ?_, by rw [Int.gcd_neg, Int.neg_gcd]; exact hg⟩
    have g1 : (0 : Int) < ((Int.gcd a b : Nat) : Int) := by omega
    have : y < 0 := Int.lt_of_not_ge fun z => by
      have := Int.mul_nonneg (Int.le_of_lt g1) z
      omega
    omega
  · have hs : sh a b = ((Int.gcd a b : Nat) : Int) := if_neg h
    obtain ⟨k1, k2⟩ := key _ _ _ hs hx hy
    refine ⟨x, y, by rw [hs]; exact hx, by rw [hs]; exact hy, k1, k2, ?_, hg⟩
    have g1 : (0 : Int) < ((Int.gcd a b : Nat) : Int) := by omega
    have : ¬ y ≤ 0 := fun z => by
      have := Int.mul_nonpos_of_nonneg_of_nonpos (Int.le_of_lt g1) z
      omega
    omega
theorem fr_of {a b : Int} (hb : b ≠ 0) : Fr (nm a b) (dn a b) a b := by
  obtain ⟨x, y, ha, hb2, h1, h2, h3, h4⟩ := low (a := a) hb
  rw [h1, h2]
  refine ⟨?_, h3, h4⟩
  generalize sh a b = s at *
  rw [ha, hb2]
  grind
theorem gauss {a b c : Int} (h : a ∣ b * c) (g : Int.gcd b a = 1) : a ∣ c := by
  have h1 : a.natAbs ∣ b.natAbs * c.natAbs := by rw [← Int.natAbs_mul]; exact Int.natAbs_dvd_natAbs.mpr h
  have h2 : Nat.Coprime a.natAbs b.natAbs := by
    have : Nat.gcd b.natAbs a.natAbs = 1 := g
    unfold Nat.Coprime
    rw [Nat.gcd_comm]; exact this
  exact Int.natAbs_dvd_natAbs.mp (Nat.Coprime.dvd_of_dvd_mul_left h2 h1)
theorem fr_uniq {x y a b x2 y2 c d : Int} (h : Fr x y a b) (h2 : Fr x2 y2 c d) (hb : b ≠ 0) (hd : d ≠ 0) (e : a * d = c * b) : x = x2 ∧ y = y2 := by
  obtain ⟨e1, p1, c1⟩ := h
  obtain ⟨e2, p2, c2⟩ := h2
  have k : x * y2 = x2 * y := by
    have h : (b * d) * (x * y2) = (b * d) * (x2 * y) := by grind
    exact Int.eq_of_mul_eq_mul_left (Int.mul_ne_zero hb hd) h
  have d1 : y ∣ y2 := by
    have : y ∣ x * y2 := ⟨x2, by rw [k]; exact Int.mul_comm _ _⟩
    exact gauss this c1
  have d2 : y2 ∣ y := by
    have : y2 ∣ x2 * y := ⟨x, by rw [← k]; exact Int.mul_comm _ _⟩
    exact gauss this c2
  have ey : y = y2 := Int.dvd_antisymm (Int.le_of_lt p1) (Int.le_of_lt p2) d1 d2
  refine ⟨?_, ey⟩
  rw [← ey] at k
  exact Int.eq_of_mul_eq_mul_right (by omega) k
theorem low_eq {a b c d : Int} (hb : b ≠ 0) (hd : d ≠ 0) (e : a * d = c * b) : nm a b = nm c d ∧ dn a b = dn c d := fr_uniq (fr_of hb) (fr_of hd) hb hd e
/-- bounds by bits -/
def B (k : Nat) (x : Int) : Prop := x.natAbs < 2 ^ k
theorem B.mono {k l : Nat} {x : Int} (h : B k x) (hl : k ≤ l) : B l x := Nat.lt_of_lt_of_le h (Nat.pow_le_pow_right (by omega) hl)
theorem B.mul {k l : Nat} {x y : Int} (h : B k x) (h2 : B l y) : B (k + l) (x * y) := by
  unfold B at *
  rw [Int.natAbs_mul, Nat.pow_add]
  exact Nat.mul_lt_mul'' h h2
theorem B.add {k : Nat} {x y : Int} (h : B k x) (h2 : B k y) : B (k + 1) (x + y) := by
  unfold B at *
  rw [Nat.pow_succ]
  omega
theorem B.sub {k : Nat} {x y : Int} (h : B k x) (h2 : B k y) : B (k + 1) (x - y) := by
  unfold B at *
  rw [Nat.pow_succ]
  omega
theorem B.neg {k : Nat} {x : Int} (h : B k x) : B k (-x) := by
  unfold B at *
  rw [Int.natAbs_neg]; exact h
theorem B.abs {k : Nat} {x y : Int} (h : B k x) (e : y.natAbs = x.natAbs) : B k y := by
  unfold B at *
  rw [e]; exact h
/-- the lowest terms are no greater -/
theorem le_nm {a b : Int} (hb : b ≠ 0) : (nm a b).natAbs ≤ a.natAbs ∧ (dn a b).natAbs ≤ b.natAbs ∧ 0 < dn a b ∧ (sh a b).natAbs ≤ b.natAbs := by
  obtain ⟨x, y, ha, hb2, h1, h2, h3, h4⟩ := low (a := a) hb
  have s0 := sh_ne (a := a) hb
  rw [h1, h2]
  generalize sh a b = s at *
  have q : 1 ≤ s.natAbs := by omega
  have ea : a.natAbs = s.natAbs * x.natAbs := by rw [ha, Int.natAbs_mul]
  have eb : b.natAbs = s.natAbs * y.natAbs := by rw [hb2, Int.natAbs_mul]
  have y1 : 1 ≤ y.natAbs := by omega
  refine ⟨?_, ?_, h3, ?_⟩
  · rw [ea]; exact Nat.le_mul_of_pos_left _ q
  · rw [eb]; exact Nat.le_mul_of_pos_left _ q
  · rw [eb]; exact Nat.le_mul_of_pos_right _ y1
theorem B.nm {k : Nat} {a b : Int} (hb : b ≠ 0) (h : B k a) : B k (nm a b) := Nat.lt_of_le_of_lt (le_nm hb).1 h
theorem B.dn {k : Nat} {a b : Int} (hb : b ≠ 0) (h : B k b) : B k (dn a b) := Nat.lt_of_le_of_lt (le_nm hb).2.1 h
/-- the law's own form -/
theorem law_form {a b : Int} (hb : b ≠ 0) : (if b < 0 then -1 else (1 : Int)) * a / ((Int.gcd a b : Nat) : Int) = nm a b ∧ (if b < 0 then -1 else (1 : Int)) * b / ((Int.gcd a b : Nat) : Int) = dn a b := by
  obtain ⟨x, y, ha, hb2, h1, h2, h3, h4⟩ := low (a := a) hb
  have g0 := gpos (a := a) hb
  have g1 : ((Int.gcd a b : Nat) : Int) ≠ 0 := by omega
  rw [h1, h2]
  unfold sh at ha hb2
  by_cases h : b < 0
  · rw [if_pos h] at ha hb2 ⊢
    generalize ((Int.gcd a b : Nat) : Int) = g at *
    have e1 : -1 * a = g * x := by rw [ha]; grind
    have e2 : -1 * b = g * y := by rw [hb2]; grind
    rw [e1, e2]
    exact ⟨Int.mul_ediv_cancel_left x g1, Int.mul_ediv_cancel_left y g1⟩
  · rw [if_neg h] at ha hb2 ⊢
    generalize ((Int.gcd a b : Nat) : Int) = g at *
    have e1 : 1 * a = g * x := by rw [Int.one_mul]; exact ha
    have e2 : 1 * b = g * y := by rw [Int.one_mul]; exact hb2
    rw [e1, e2]
    exact ⟨Int.mul_ediv_cancel_left x g1, Int.mul_ediv_cancel_left y g1⟩
/-- how many turns Euclid's way takes -/
def Eu : Nat → Nat → Nat → Prop
  | 0, _, b => b = 0
  | n + 1, a, b => b = 0 ∨ Eu n b (a % b)
theorem Eu.up : ∀ {n m a b : Nat}, n ≤ m → Eu n a b → Eu m a b
  | 0, 0, a, b, _, h => h
  | 0, m + 1, a, b, _, h => .inl h
  | n + 1, 0, a, b, hl, _ => by omega
  | n + 1, m + 1, a, b, hl, h => h.imp id fun z => Eu.up (by omega) z
theorem eu_ok : ∀ (k a b : Nat), b < 2 ^ k → Eu (2 * k + 1) a b
  | 0, a, b, h => .inl (by omega)
  | k + 1, a, b, h => by
    by_cases hb : b = 0
    · exact .inl hb
    · have hr : a % b < b := Nat.mod_lt _ (by omega)
      rw [Nat.pow_succ] at h
      by_cases hk : a % b < 2 ^ k
      · exact .inr (Eu.up (by omega) (eu_ok k b (a % b) hk))
      · refine .inr (.inr (Eu.up (Nat.le_refl _) (eu_ok k (a % b) (b % (a % b)) ?_)))
        have h1 : b % (a % b) = (b - a % b) % (a % b) := by
          rw [Nat.mod_eq_sub_mod (Nat.le_of_lt hr)]
        have h2 : (b - a % b) % (a % b) ≤ b - a % b := Nat.mod_le _ _
        omega
end RT
set_option maxRecDepth 100000
set_option maxHeartbeats 2000000
namespace K35
open PySem PySem.Spec L2 VL
open PyProof.Rows hiding St
def iN (n : Nat) : PV := .int (n : Nat)
theorem tru_n (n : Nat) : truthPV (iN n) = some (decide (n ≠ 0)) := by
  show some (((n : Nat) : Int) != 0) = _
  rw [show (((n : Nat) : Int) != 0) = decide (n ≠ 0) by rw [Bool.eq_iff_iff, bne_iff_ne, decide_eq_true_eq]; omega]
theorem mod_n {a b : Nat} (h : 0 < b) : semMod (iN a) (iN b) = some (.fz (iN (a % b))) := by
  show semMod (.int _) (.int _) = _
  rw [mod_i (by omega)]
  rfl
theorem int_n (a : Nat) : semInt [iN a] = some (.fz (iN a)) := rfl
theorem abs_n (a : Int) : semAbs [.int a] = some (.fz (iN a.natAbs)) := abs_i
theorem gt_0 (n : Nat) : semGt (iN n) (.int 0) = some (.fz (.bl (decide (0 < n)))) := by
  show some (Val.fz (.bl (decide ((0 : Int) < ((n : Nat) : Int))))) = _
  rw [show decide ((0 : Int) < ((n : Nat) : Int)) = decide (0 < n) by rw [decide_eq_decide]; omega]
theorem gcd_step {a b : Nat} : Nat.gcd b (a % b) = Nat.gcd a b := by
  rw [Nat.gcd_comm a b, Nat.gcd_rec b a, Nat.gcd_comm]
theorem while_d (a b : Nat) (k : Nat) (hb : b < 2 ^ k) (hk : k ≤ 1000) : dWhile (dTru (dVar 1)) (dPar [0, 1] [(dVar 1), (dBin semMod (dVar 0) (dVar 1))]) big [.fz (iN a), .fz (iN b)] = .ok .nx [.fz (iN (Nat.gcd a b)), .fz (iN 0)] := by
  obtain ⟨e', h1, h2⟩ := while_inv (dt := dTru (dVar 1)) (db := dPar [0, 1] [(dVar 1), (dBin semMod (dVar 0) (dVar 1))])
    (fun m e => ∃ x y, e = [.fz (iN x), .fz (iN y)] ∧ RT.Eu m x y ∧ Nat.gcd x y = Nat.gcd a b) (fun e => e = [.fz (iN (Nat.gcd a b)), .fz (iN 0)])
    (fun m e ⟨x, y, he, hE, hg⟩ => by
      subst he
      have ht := tru_n y
      by_cases hy : y = 0
      · left
        subst hy
        rw [Nat.gcd_zero_right] at hg
        rw [hg]
        refine ⟨_, ?_, rfl⟩
        rw [decide_eq_false (by omega)] at ht
        generalize iN (Nat.gcd a b) = X at *
        generalize iN 0 = Y at *
        simp only [EVc, reduceIte, reduceCtorEq, Nat.reduceAdd, Nat.reduceLT, Nat.reduceLeDiff, Nat.reduceEqDiff, Nat.reduceSub, kd, List.replicate, lB, tW, ht]
      · right
        cases m with
        | zero => exact absurd hE hy
        | succ m =>
          have hE := hE.resolve_left hy
          rw [decide_eq_true hy] at ht
          have hm := mod_n (a := x) (b := y) (by omega)
          refine ⟨[.fz (iN x), .fz (iN y)], [.fz (iN y), .fz (iN (x % y))], m, ?_, ?_, by omega, y, x % y, rfl, hE, by rw [gcd_step]; exact hg⟩
          · generalize iN x = X at *
            generalize iN y = Y at *
            simp only [EVc, reduceIte, reduceCtorEq, Nat.reduceAdd, Nat.reduceLT, Nat.reduceLeDiff, Nat.reduceEqDiff, Nat.reduceSub, kd, List.replicate, lB, tW, ht]
          · generalize iN (x % y) = Z at *
            generalize iN x = X at *
            generalize iN y = Y at *
            simp only [EVc, reduceIte, reduceCtorEq, Nat.reduceAdd, Nat.reduceLT, Nat.reduceLeDiff, Nat.reduceEqDiff, Nat.reduceSub, kd, List.replicate, lB, tW, hm])
    big (2 * k + 1) [.fz (iN a), .fz (iN b)] (by rw [big_v]; omega) ⟨a, b, rfl, RT.eu_ok k a b hb, rfl⟩
  rw [h1, h2]
theorem div_ok {a b : Int} (hB : RT.B 900 b) : F_divisor [.int a, .int b] = .ok (.fz (iN (Int.gcd a b))) [] := by
  have h := while_d a.natAbs b.natAbs 900 hB (by omega)
  have h1 := abs_n a
  have h2 := abs_n b
  have hg : Nat.gcd a.natAbs b.natAbs = Int.gcd a b := rfl
  rw [hg] at h
  generalize iN (Int.gcd a b) = G at *
  generalize iN a.natAbs = A at *
  generalize iN b.natAbs = Y at *
  generalize iN 0 = Z at *
  unfold F_divisor d_divisor
  rw [callFn_e]
  generalize dWhile (dTru (dVar 1)) (dPar [0, 1] [(dVar 1), (dBin semMod (dVar 0) (dVar 1))]) big = Wh at *
  simp only [EVc, reduceIte, reduceCtorEq, Nat.reduceAdd, Nat.reduceLT, Nat.reduceLeDiff, Nat.reduceEqDiff, Nat.reduceSub, kd, List.replicate, lB, tW, h1, h2, h]
theorem while_l {s0 s1 s4 : Sl} (a b : Nat) (k : Nat) (hb : b < 2 ^ k) (hk : k ≤ 1000) : dWhile (asB (dBin semGt (dVar 3) (fun e => .ok (.fz (.int 0)) e))) (dPar [2, 3] [(dVar 3), (dBin semMod (dCall semInt [(dVar 2)]) (dVar 3))]) big [s0, s1, .fz (iN a), .fz (iN b), s4] = .ok .nx [s0, s1, .fz (iN (Nat.gcd a b)), .fz (iN 0), s4] := by
  obtain ⟨e', h1, h2⟩ := while_inv (dt := (asB (dBin semGt (dVar 3) (fun e => .ok (.fz (.int 0)) e)))) (db := dPar [2, 3] [(dVar 3), (dBin semMod (dCall semInt [(dVar 2)]) (dVar 3))])
    (fun m e => ∃ x y, e = [s0, s1, .fz (iN x), .fz (iN y), s4] ∧ RT.Eu m x y ∧ Nat.gcd x y = Nat.gcd a b) (fun e => e = [s0, s1, .fz (iN (Nat.gcd a b)), .fz (iN 0), s4])
    (fun m e ⟨x, y, he, hE, hg⟩ => by
      subst he
      have ht := gt_0 y
      by_cases hy : y = 0
      · left
        subst hy
        rw [Nat.gcd_zero_right] at hg
        rw [hg]
        refine ⟨_, ?_, rfl⟩
        rw [decide_eq_false (by omega)] at ht
        generalize iN (Nat.gcd a b) = X at *
        generalize iN 0 = Y at *
        simp only [EVc, reduceIte, reduceCtorEq, Nat.reduceAdd, Nat.reduceLT, Nat.reduceLeDiff, Nat.reduceEqDiff, Nat.reduceSub, kd, List.replicate, lB, tW, ht]
      · right
        cases m with
        | zero => exact absurd hE hy
        | succ m =>
          have hE := hE.resolve_left hy
          rw [decide_eq_true (by omega)] at ht
          have hm := mod_n (a := x) (b := y) (by omega)
          have hi := int_n x
          refine ⟨[s0, s1, .fz (iN x), .fz (iN y), s4], [s0, s1, .fz (iN y), .fz (iN (x % y)), s4], m, ?_, ?_, by omega, y, x % y, rfl, hE, by rw [gcd_step]; exact hg⟩
          · generalize iN x = X at *
            generalize iN y = Y at *
            simp only [EVc, reduceIte, reduceCtorEq, Nat.reduceAdd, Nat.reduceLT, Nat.reduceLeDiff, Nat.reduceEqDiff, Nat.reduceSub, kd, List.replicate, lB, tW, ht]
          · generalize iN (x % y) = Z at *
            generalize iN x = X at *
            generalize iN y = Y at *
            simp only [EVc, reduceIte, reduceCtorEq, Nat.reduceAdd, Nat.reduceLT, Nat.reduceLeDiff, Nat.reduceEqDiff, Nat.reduceSub, kd, List.replicate, lB, tW, hi, hm])
    big (2 * k + 1) [s0, s1, .fz (iN a), .fz (iN b), s4] (by rw [big_v]; omega) ⟨a, b, rfl, RT.eu_ok k a b hb, rfl⟩
  rw [h1, h2]
theorem lt_1000 {k : Nat} {x : Int} (h : RT.B k x) (hk : k ≤ 1000) : x.natAbs < 2 ^ 1000 := h.mono hk
theorem neg_i1 : semNeg (.int 1) = some (.fz (.int (-1))) := by rfl
theorem low_ok {a b : Int} (hb : b ≠ 0) (hA : RT.B 900 a) (hB : RT.B 900 b) : F_law_lowest [.int a, .int b] = .ok (.fz (.tup [.int (RT.nm a b), .int (RT.dn a b)])) [] := by
  have h := while_l (s0 := .fz (.int a)) (s1 := .fz (.int b)) (s4 := .no) a.natAbs b.natAbs 900 hB (by omega)
  have h1 := abs_n a
  have h2 := abs_n b
  have hg : Nat.gcd a.natAbs b.natAbs = Int.gcd a b := rfl
  rw [hg] at h
  obtain ⟨l1, l2⟩ := RT.law_form (a := a) hb
  have g0 := RT.gpos (a := a) hb
  have hgb : Int.gcd a b < 2 ^ 1000 := by
    have := Int.gcd_le_natAbs_right a (by omega : b ≠ 0)
    exact Nat.lt_of_le_of_lt this (hB.mono (by omega))
  have hlt := lt_i (i := b) (j := 0)
  have m1 : semMul (.int (if b < 0 then -1 else (1 : Int))) (.int a) = some (.fz (.int ((if b < 0 then -1 else (1 : Int)) * a))) := mul_i (cmul (by split <;> decide) (lt_1000 hA (by omega)))
  have m2 : semMul (.int (if b < 0 then -1 else (1 : Int))) (.int b) = some (.fz (.int ((if b < 0 then -1 else (1 : Int)) * b))) := mul_i (cmul (by split <;> decide) (lt_1000 hB (by omega)))
  have d1 : semDiv (.int ((if b < 0 then -1 else (1 : Int)) * a)) (iN (Int.gcd a b)) = some (.fz (.int (RT.nm a b))) := by
    show semDiv (.int _) (.int _) = _
    rw [div_i (cdiv (by omega) (by rw [Int.natAbs_natCast]; exact hgb)), l1]
  have d2 : semDiv (.int ((if b < 0 then -1 else (1 : Int)) * b)) (iN (Int.gcd a b)) = some (.fz (.int (RT.dn a b))) := by
    show semDiv (.int _) (.int _) = _
    rw [div_i (cdiv (by omega) (by rw [Int.natAbs_natCast]; exact hgb)), l2]
  have hbig : (2 : Nat) ≤ big := by rw [big_v]; omega
  generalize iN (Int.gcd a b) = G at *
  generalize iN a.natAbs = A at *
  generalize iN b.natAbs = Y at *
  generalize iN 0 = Z at *
  unfold F_law_lowest d_law_lowest
  rw [callFn_e]
  generalize dWhile (asB (dBin semGt (dVar 3) (fun e => .ok (.fz (.int 0)) e))) (dPar [2, 3] [(dVar 3), (dBin semMod (dCall semInt [(dVar 2)]) (dVar 3))]) big = Wh at *
  by_cases hn : b < 0
  · rw [decide_eq_true hn] at hlt
    rw [if_pos hn] at m1 m2 d1 d2
    simp only [EVc, reduceIte, reduceCtorEq, Nat.reduceAdd, Nat.reduceLT, Nat.reduceLeDiff, Nat.reduceEqDiff, Nat.reduceSub, kd, List.replicate, lB, tW, h1, h2, h, hlt, neg_i1, m1, m2, d1, d2, hbig]
  · rw [decide_eq_false hn] at hlt
    rw [if_neg hn] at m1 m2 d1 d2
    simp only [EVc, reduceIte, reduceCtorEq, Nat.reduceAdd, Nat.reduceLT, Nat.reduceLeDiff, Nat.reduceEqDiff, Nat.reduceSub, kd, List.replicate, lB, tW, h1, h2, h, hlt, m1, m2, d1, d2, hbig]
end K35
set_option maxRecDepth 100000
set_option maxHeartbeats 2000000
namespace K35
open PySem PySem.Spec L2 VL
open PyProof.Rows hiding St
def rP (x y : Int) : PV := .ins 0 [.int x, .int y]
/-- a / b as a Ratio -/
def rQ (a b : Int) : PV := rP (RT.nm a b) (RT.dn a b)
theorem divN_i {i j : Int} (h : j ≠ 0) (hb : j.natAbs < 2 ^ 1000) : semDivN (.int i) (.int j) = some (.fz (.int (i.fdiv j))) := if_pos ⟨h, by
  rcases Nat.eq_zero_or_pos j.natAbs with z | z
  · omega
  · have := (Nat.log2_lt (by omega)).mpr hb
    omega⟩
theorem neg_ii (i : Int) : semNeg (.int i) = some (.fz (.int (-i))) := by rfl
theorem lay_0 : ([0, 1] : List Nat).idxOf? 0 = some 0 := by decide
theorem lay_1 : ([0, 1] : List Nat).idxOf? 1 = some 1 := by decide
theorem lay0_ : lay 0 = [0, 1] := rfl
theorem init_ok {a b : Int} (hb : b ≠ 0) (hB : RT.B 900 b) : F_Ratio___init__ [.ins 0 [], .int a, .int b] = .ok (.fz .non) [rQ a b] := by
  have h1 := div_ok (a := a) hB
  have e0 := eq_i b 0
  rw [decide_eq_false hb] at e0
  have hlt := lt_i (i := b) (j := 0)
  have s0 := RT.sh_ne (a := a) hb
  have s1 : (RT.sh a b).natAbs < 2 ^ 1000 := Nat.lt_of_le_of_lt (RT.le_nm hb).2.2.2 (hB.mono (by omega))
  have d1 := divN_i (i := a) s0 s1
  have d2 := divN_i (i := b) s0 s1
  have c0 : ((lay 0)[0]? = some 0) = True := by simp [lay0_]
  have c1 : ((lay 0)[1]? = some 1) = True := by simp [lay0_]
  have eg : iN (Int.gcd a b) = .int ((Int.gcd a b : Nat) : Int) := rfl
  rw [eg] at h1
  unfold rQ rP RT.nm RT.dn
  generalize hs : RT.sh a b = s at *
  unfold RT.sh at hs
  unfold F_Ratio___init__ d_Ratio___init__
  rw [callFnX_e]
  by_cases hn : b < 0
  · rw [decide_eq_true hn] at hlt
    rw [if_pos hn] at hs
    have hng := neg_ii ((Int.gcd a b : Nat) : Int)
    rw [hs] at hng
    simp only [EVc, reduceIte, reduceCtorEq, Nat.reduceAdd, Nat.reduceLT, Nat.reduceLeDiff, Nat.reduceEqDiff, Nat.reduceSub, kd, List.replicate, lB, tW, e0, h1, hlt, hng, d1, d2, fldS_e, c0, c1, finX_k, frX_k, if_true, List.length_nil, List.length_cons, List.nil_append, List.cons_append]
  · rw [decide_eq_false hn] at hlt
    rw [if_neg hn] at hs
    rw [hs] at h1
    simp only [EVc, reduceIte, reduceCtorEq, Nat.reduceAdd, Nat.reduceLT, Nat.reduceLeDiff, Nat.reduceEqDiff, Nat.reduceSub, kd, List.replicate, lB, tW, e0, h1, hlt, d1, d2, fldS_e, c0, c1, finX_k, frX_k, if_true, List.length_nil, List.length_cons, List.nil_append, List.cons_append]
theorem okX_k {fn : List PV → FX} {as : List PV} {x : Val} {o : List PV} (h : fn as = .ok x o) : okX fn as = .ok x o := by unfold okX; rw [h]
theorem init_k {a b : Int} (hb : b ≠ 0) (hB : RT.B 900 b) : okX F_Ratio___init__ [.ins 0 [], .int a, .int b] = .ok (.fz .non) [rQ a b] := okX_k (init_ok hb hB)
theorem init_0 {a : Int} : F_Ratio___init__ [.ins 0 [], .int a, .int 0] = .err ⟨1, []⟩ := by
  have e0 := eq_i 0 0
  rw [decide_eq_true rfl] at e0
  unfold F_Ratio___init__ d_Ratio___init__
  rw [callFnX_e]
  simp only [EVc, reduceIte, reduceCtorEq, Nat.reduceAdd, Nat.reduceLT, Nat.reduceLeDiff, Nat.reduceEqDiff, Nat.reduceSub, kd, List.replicate, lB, tW, e0, raise_e, bind_x, bh_x, finX_x, if_true, List.length_nil]
theorem nz_dn {a b : Int} (hb : b ≠ 0) : RT.dn a b ≠ 0 := by
  have := (RT.le_nm (a := a) hb).2.2.1
  omega
/-- a Ratio of parts that are a / b -/
theorem rQ_eq {x y a b : Int} (hy : y ≠ 0) (hb : b ≠ 0) (e : x * b = a * y) : rQ x y = rQ a b := by
  obtain ⟨h1, h2⟩ := RT.low_eq hy hb e
  unfold rQ
  rw [h1, h2]
theorem isO_r (x y : Int) : ansO 1 0 (rP x y) = some true := rfl
theorem isO_i (x : Int) : ansO 1 0 (.int x) = some false := rfl
theorem as_r (x y : Int) : F_as_ratio [rP x y] = .ok (.fz (rP x y)) [] := by
  have h := isO_r x y
  unfold F_as_ratio d_as_ratio
  rw [callFn_e]
  generalize rP x y = R at *
  simp only [EVc, reduceIte, reduceCtorEq, Nat.reduceAdd, Nat.reduceLT, Nat.reduceLeDiff, Nat.reduceEqDiff, Nat.reduceSub, kd, List.replicate, lB, tW, h, tru_b]
theorem as_i (n : Int) : F_as_ratio [.int n] = .ok (.new (rQ n 1)) [] := by
  have h := isO_i n
  have hi := init_k (a := n) (b := 1) (by omega) (by unfold RT.B; exact Nat.one_lt_two_pow (by omega))
  unfold F_as_ratio d_as_ratio
  rw [callFn_e]
  generalize rQ n 1 = R at *
  generalize okX F_Ratio___init__ = F at *
  simp only [EVc, reduceIte, reduceCtorEq, Nat.reduceAdd, Nat.reduceLT, Nat.reduceLeDiff, Nat.reduceEqDiff, Nat.reduceSub, kd, List.replicate, lB, tW, h, tru_b, mk_e, mkK_e, hi]
end K35
set_option maxRecDepth 100000
set_option maxHeartbeats 2000000
namespace K35
open PySem PySem.Spec L2 VL
open PyProof.Rows hiding St
structure Nb (a b : Int) : Prop where
  nz : b ≠ 0
  ba : RT.B 150 a
  bb : RT.B 150 b
theorem Nb.nm {a b : Int} (h : Nb a b) : RT.B 150 (RT.nm a b) := RT.B.nm h.nz h.ba
theorem Nb.dn {a b : Int} (h : Nb a b) : RT.B 150 (RT.dn a b) := RT.B.dn h.nz h.bb
theorem Z0n {k l : Nat} {x y : Int} (h : RT.B k x) (h2 : RT.B l y) (hk : k ≤ 1000) (hl : l ≤ 1000) : semMul (.int x) (.int y) = some (.fz (.int (x * y))) := mul_i (cmul (lt_1000 h hk) (lt_1000 h2 hl))
/-- what as_ratio tells of it -/
def AsR (q : PV) (c d : Int) : Prop := F_as_ratio [q] = .ok (.fz (rQ c d)) [] ∨ F_as_ratio [q] = .ok (.new (rQ c d)) []
theorem asR_r (c d : Int) : AsR (rQ c d) c d := .inl (as_r _ _)
theorem asR_i (n : Int) : AsR (.int n) n 1 := .inr (as_i n)
theorem nb_1 {n : Int} (h : RT.B 150 n) : Nb n 1 := ⟨by omega, h, by unfold RT.B; exact Nat.one_lt_two_pow (by omega)⟩
theorem low_ok' {a b : Int} (h : RT.B 900 a) (h2 : RT.B 900 b) (hb : b ≠ 0) : F_law_lowest [.int a, .int b] = .ok (.fz (.tup [.int (RT.nm a b), .int (RT.dn a b)])) [] := low_ok hb h h2
theorem eq_2 (x y : Int) : semEq (.tup [.int x, .int y]) (.tup [.int x, .int y]) = some (.fz (.bl true)) := eq_same (d := .tuple [.int x, .int y]) rfl (shaped_tup fun d hd => by
  simp only [List.mem_cons, List.not_mem_nil, or_false] at hd
  rcases hd with rfl | rfl <;> rfl)
theorem is_ok {p : PV} {a b : Int} (hp : p = rQ a b) (hb : b ≠ 0) (h : RT.B 900 a) (h2 : RT.B 900 b) : F_law_is [p, .int a, .int b] = .ok (.fz (.bl true)) [] := by
  subst hp
  have hl := low_ok' h h2 hb
  have hi := isO_r (RT.nm a b) (RT.dn a b)
  have he := eq_2 (RT.nm a b) (RT.dn a b)
  have hbig : (2 : Nat) ≤ big := by rw [big_v]; omega
  unfold rQ rP at *
  generalize RT.nm a b = x at *
  generalize RT.dn a b = y at *
  unfold F_law_is d_law_is
  rw [callFn_e]
  simp only [EVc, reduceIte, reduceCtorEq, Nat.reduceAdd, Nat.reduceLT, Nat.reduceLeDiff, Nat.reduceEqDiff, Nat.reduceSub, kd, List.replicate, lB, tW, hi, tru_b, lay0_, lay_0, lay_1, hl, he, hbig]
theorem neg_ok {a b : Int} (N : Nb a b) : F_Ratio___neg__ [rQ a b] = .ok (.new (rQ (-a) b)) [] := by
  have F := RT.fr_of (a := a) N.nz
  have e := F.eq
  have hi := init_k (a := -(RT.nm a b)) (b := RT.dn a b) (nz_dn N.nz) (N.dn.mono (by omega))
  rw [rQ_eq (a := -a) (b := b) (nz_dn N.nz) N.nz (by grind)] at hi
  have hn := neg_ii (RT.nm a b)
  generalize hR : rQ (-a) b = R at *
  unfold rQ rP
  generalize RT.nm a b = x at *
  generalize RT.dn a b = y at *
  unfold F_Ratio___neg__ d_Ratio___neg__
  rw [callFn_e]
  simp only [EVc, reduceIte, reduceCtorEq, Nat.reduceAdd, Nat.reduceLT, Nat.reduceLeDiff, Nat.reduceEqDiff, Nat.reduceSub, kd, List.replicate, lB, tW, lay0_, lay_0, lay_1, hn, mk_e, mkK_e, hi]
theorem abs_ok {a b : Int} (N : Nb a b) : F_Ratio___abs__ [rQ a b] = .ok (.new (rQ (a.natAbs : Nat) (b.natAbs : Nat))) [] := by
  have F := RT.fr_of (a := a) N.nz
  have e := F.eq
  have nb : ((b.natAbs : Nat) : Int) ≠ 0 := by have := N.nz; omega
  have hi := init_k (a := ((RT.nm a b).natAbs : Nat)) (b := RT.dn a b) (nz_dn N.nz) (N.dn.mono (by omega))
  have e2 : (((RT.nm a b).natAbs : Nat) : Int) * ((b.natAbs : Nat) : Int) = ((a.natAbs : Nat) : Int) * RT.dn a b := by
    have h := congrArg Int.natAbs e
    rw [Int.natAbs_mul, Int.natAbs_mul] at h
    have p := F.pos
    have h2 : ((RT.dn a b).natAbs : Int) = RT.dn a b := by omega
    rw [← h2, ← Int.natCast_mul, ← Int.natCast_mul, h]
  rw [rQ_eq (nz_dn N.nz) nb e2] at hi
  have hn := abs_n (RT.nm a b)
  generalize hR : rQ (a.natAbs : Nat) (b.natAbs : Nat) = R at *
  unfold rQ rP
  unfold iN at hn
  generalize ((RT.nm a b).natAbs : Int) = z at *
  generalize RT.nm a b = x at *
  generalize RT.dn a b = y at *
  unfold F_Ratio___abs__ d_Ratio___abs__
  rw [callFn_e]
  simp only [EVc, reduceIte, reduceCtorEq, Nat.reduceAdd, Nat.reduceLT, Nat.reduceLeDiff, Nat.reduceEqDiff, Nat.reduceSub, kd, List.replicate, lB, tW, lay0_, lay_0, lay_1, hn, mk_e, mkK_e, hi]
theorem add_ok {a b c d : Int} {q : PV} (N : Nb a b) (M : Nb c d) (hq : AsR q c d) : F_Ratio___add__ [rQ a b, q] = .ok (.new (rQ (a * d + c * b) (b * d))) [] := by
  have F := RT.fr_of (a := a) N.nz
  have G := RT.fr_of (a := c) M.nz
  have e := F.eq
  have e2 := G.eq
  have nz := Int.mul_ne_zero (nz_dn (a := a) N.nz) (nz_dn (a := c) M.nz)
  have hi := init_k (a := RT.nm a b * RT.dn c d + RT.nm c d * RT.dn a b) (b := RT.dn a b * RT.dn c d) nz ((N.dn.mul M.dn).mono (by omega))
  rw [rQ_eq (a := a * d + c * b) (b := b * d) nz (Int.mul_ne_zero N.nz M.nz) (by
    generalize RT.nm a b = x at *
    generalize RT.dn a b = y at *
    generalize RT.nm c d = x2 at *
    generalize RT.dn c d = y2 at *
    clear F G nz hi N M hq
    grind)] at hi
  have m1 := Z0n N.nm M.dn (by omega) (by omega)
  have m2 := Z0n M.nm N.dn (by omega) (by omega)
  have mD := Z0n N.dn M.dn (by omega) (by omega)
  generalize hR : rQ (a * d + c * b) (b * d) = R at *
  unfold AsR at hq
  unfold rQ rP at *
  generalize RT.nm a b = x at *
  generalize RT.dn a b = y at *
  generalize RT.nm c d = x2 at *
  generalize RT.dn c d = y2 at *
  unfold F_Ratio___add__ d_Ratio___add__
  rw [callFn_e]
  rcases hq with hq | hq <;> simp only [EVc, reduceIte, reduceCtorEq, Nat.reduceAdd, Nat.reduceLT, Nat.reduceLeDiff, Nat.reduceEqDiff, Nat.reduceSub, kd, List.replicate, lB, tW, hq, lay0_, lay_0, lay_1, m1, m2, add_i, mD, mk_e, mkK_e, hi]
theorem sub_ok {a b c d : Int} {q : PV} (N : Nb a b) (M : Nb c d) (hq : AsR q c d) : F_Ratio___sub__ [rQ a b, q] = .ok (.new (rQ (a * d - c * b) (b * d))) [] := by
  have F := RT.fr_of (a := a) N.nz
  have G := RT.fr_of (a := c) M.nz
  have e := F.eq
  have e2 := G.eq
  have nz := Int.mul_ne_zero (nz_dn (a := a) N.nz) (nz_dn (a := c) M.nz)
  have hi := init_k (a := RT.nm a b * RT.dn c d - RT.nm c d * RT.dn a b) (b := RT.dn a b * RT.dn c d) nz ((N.dn.mul M.dn).mono (by omega))
  rw [rQ_eq (a := a * d - c * b) (b := b * d) nz (Int.mul_ne_zero N.nz M.nz) (by
    generalize RT.nm a b = x at *
    generalize RT.dn a b = y at *
    generalize RT.nm c d = x2 at *
    generalize RT.dn c d = y2 at *
    clear F G nz hi N M hq
    grind)] at hi
  have m1 := Z0n N.nm M.dn (by omega) (by omega)
  have m2 := Z0n M.nm N.dn (by omega) (by omega)
  have mD := Z0n N.dn M.dn (by omega) (by omega)
  generalize hR : rQ (a * d - c * b) (b * d) = R at *
  unfold AsR at hq
  unfold rQ rP at *
  generalize RT.nm a b = x at *
  generalize RT.dn a b = y at *
  generalize RT.nm c d = x2 at *
  generalize RT.dn c d = y2 at *
  unfold F_Ratio___sub__ d_Ratio___sub__
  rw [callFn_e]
  rcases hq with hq | hq <;> simp only [EVc, reduceIte, reduceCtorEq, Nat.reduceAdd, Nat.reduceLT, Nat.reduceLeDiff, Nat.reduceEqDiff, Nat.reduceSub, kd, List.replicate, lB, tW, hq, lay0_, lay_0, lay_1, m1, m2, sub_i, mD, mk_e, mkK_e, hi]
theorem mul_ok {a b c d : Int} {q : PV} (N : Nb a b) (M : Nb c d) (hq : AsR q c d) : F_Ratio___mul__ [rQ a b, q] = .ok (.new (rQ (a * c) (b * d))) [] := by
  have F := RT.fr_of (a := a) N.nz
  have G := RT.fr_of (a := c) M.nz
  have e := F.eq
  have e2 := G.eq
  have nz := Int.mul_ne_zero (nz_dn (a := a) N.nz) (nz_dn (a := c) M.nz)
  have hi := init_k (a := RT.nm a b * RT.nm c d) (b := RT.dn a b * RT.dn c d) nz ((N.dn.mul M.dn).mono (by omega))
  rw [rQ_eq (a := a * c) (b := b * d) nz (Int.mul_ne_zero N.nz M.nz) (by
    generalize RT.nm a b = x at *
    generalize RT.dn a b = y at *
    generalize RT.nm c d = x2 at *
    generalize RT.dn c d = y2 at *
    clear F G nz hi N M hq
    grind)] at hi
  have m1 := Z0n N.nm M.nm (by omega) (by omega)
  have mD := Z0n N.dn M.dn (by omega) (by omega)
  generalize hR : rQ (a * c) (b * d) = R at *
  unfold AsR at hq
  unfold rQ rP at *
  generalize RT.nm a b = x at *
  generalize RT.dn a b = y at *
  generalize RT.nm c d = x2 at *
  generalize RT.dn c d = y2 at *
  unfold F_Ratio___mul__ d_Ratio___mul__
  rw [callFn_e]
  rcases hq with hq | hq <;> simp only [EVc, reduceIte, reduceCtorEq, Nat.reduceAdd, Nat.reduceLT, Nat.reduceLeDiff, Nat.reduceEqDiff, Nat.reduceSub, kd, List.replicate, lB, tW, hq, lay0_, lay_0, lay_1, m1, mD, mk_e, mkK_e, hi]
end K35
set_option maxRecDepth 100000
set_option maxHeartbeats 2000000
namespace K35
open PySem PySem.Spec L2 VL
open PyProof.Rows hiding St
section
variable {e : Env'}
theorem opS_e {c : Nat} {fl : List PV → FR} {da db : Env' → Res Val} : dOpS c fl da db e = (stl da e).bh fun x e1 => (stl db e1).bh fun y e2 => if insAt c 0 x e2 = true ∧ insAt c 0 y e2 = true then callK [false, false] fl [x, y] e2 else .bad := id rfl
theorem insR {a b : Int} : insAt 0 0 (.fz (rQ a b)) e = true := rfl
end
theorem radd_ok {a b n : Int} (N : Nb a b) (hn : RT.B 150 n) : F_Ratio___radd__ [rQ a b, .int n] = .ok (.new (rQ (n * b + a * 1) (1 * b))) [] := by
  have h := add_ok (nb_1 hn) N (asR_r a b)
  have ha := as_i n
  have i1 := fun e => @insR e n 1
  have i2 := fun e => @insR e a b
  generalize rQ (n * b + a * 1) (1 * b) = R at *
  generalize rQ n 1 = X at *
  generalize rQ a b = Y at *
  unfold F_Ratio___radd__ d_Ratio___radd__
  rw [callFn_e]
  simp only [EVc, reduceIte, reduceCtorEq, Nat.reduceAdd, Nat.reduceLT, Nat.reduceLeDiff, Nat.reduceEqDiff, Nat.reduceSub, kd, List.replicate, lB, tW, opS_e, ha, i1, i2, h, and_self, if_true]
theorem rsub_ok {a b n : Int} (N : Nb a b) (hn : RT.B 150 n) : F_Ratio___rsub__ [rQ a b, .int n] = .ok (.new (rQ (n * b - a * 1) (1 * b))) [] := by
  have h := sub_ok (nb_1 hn) N (asR_r a b)
  have ha := as_i n
  have i1 := fun e => @insR e n 1
  have i2 := fun e => @insR e a b
  generalize rQ (n * b - a * 1) (1 * b) = R at *
  generalize rQ n 1 = X at *
  generalize rQ a b = Y at *
  unfold F_Ratio___rsub__ d_Ratio___rsub__
  rw [callFn_e]
  simp only [EVc, reduceIte, reduceCtorEq, Nat.reduceAdd, Nat.reduceLT, Nat.reduceLeDiff, Nat.reduceEqDiff, Nat.reduceSub, kd, List.replicate, lB, tW, opS_e, ha, i1, i2, h, and_self, if_true]
theorem rmul_ok {a b n : Int} (N : Nb a b) (hn : RT.B 150 n) : F_Ratio___rmul__ [rQ a b, .int n] = .ok (.new (rQ (n * a) (1 * b))) [] := by
  have h := mul_ok (nb_1 hn) N (asR_r a b)
  have ha := as_i n
  have i1 := fun e => @insR e n 1
  have i2 := fun e => @insR e a b
  generalize rQ (n * a) (1 * b) = R at *
  generalize rQ n 1 = X at *
  generalize rQ a b = Y at *
  unfold F_Ratio___rmul__ d_Ratio___rmul__
  rw [callFn_e]
  simp only [EVc, reduceIte, reduceCtorEq, Nat.reduceAdd, Nat.reduceLT, Nat.reduceLeDiff, Nat.reduceEqDiff, Nat.reduceSub, kd, List.replicate, lB, tW, opS_e, ha, i1, i2, h, and_self, if_true]
theorem cross {a b c d : Int} (hb : b ≠ 0) (hd : d ≠ 0) : (RT.nm a b = RT.nm c d ∧ RT.dn a b = RT.dn c d) ↔ a * d = c * b := by
  constructor
  · rintro ⟨h1, h2⟩
    have F := RT.fr_of (a := a) hb
    have G := RT.fr_of (a := c) hd
    rw [← h1, ← h2] at G
    have e1 := F.eq
    have e2 := G.eq
    have p := F.pos
    generalize RT.nm a b = x at *
    generalize RT.dn a b = y at *
    have : y * (a * d) = y * (c * b) := by clear F G h1 h2; grind
    exact Int.eq_of_mul_eq_mul_left (by omega) this
  · exact fun h => RT.low_eq hb hd h
theorem eqR_ok {a b c d : Int} (hb : b ≠ 0) (hd : d ≠ 0) : F_Ratio___eq__ [rQ a b, rQ c d] = .ok (.fz (.bl (decide (a * d = c * b)))) [] := by
  have hc := cross (a := a) (c := c) hb hd
  have hi := isO_r (RT.nm c d) (RT.dn c d)
  have e1 := eq_i (RT.nm a b) (RT.nm c d)
  have e2 := eq_i (RT.dn a b) (RT.dn c d)
  unfold rQ rP at *
  generalize RT.nm a b = x at *
  generalize RT.dn a b = y at *
  generalize RT.nm c d = x2 at *
  generalize RT.dn c d = y2 at *
  unfold F_Ratio___eq__ d_Ratio___eq__
  rw [callFn_e]
  by_cases h1 : x = x2
  · rw [decide_eq_true h1] at e1
    by_cases h2 : y = y2
    · rw [decide_eq_true h2] at e2
      rw [decide_eq_true (hc.mp ⟨h1, h2⟩)]
      simp only [EVc, reduceIte, reduceCtorEq, Nat.reduceAdd, Nat.reduceLT, Nat.reduceLeDiff, Nat.reduceEqDiff, Nat.reduceSub, kd, List.replicate, lB, tW, hi, tru_b, lay0_, lay_0, lay_1, e1, e2]
    · rw [decide_eq_false h2] at e2
      rw [decide_eq_false fun z => h2 (hc.mpr z).2]
      simp only [EVc, reduceIte, reduceCtorEq, Nat.reduceAdd, Nat.reduceLT, Nat.reduceLeDiff, Nat.reduceEqDiff, Nat.reduceSub, kd, List.replicate, lB, tW, hi, tru_b, lay0_, lay_0, lay_1, e1, e2]
  · rw [decide_eq_false h1] at e1
    rw [decide_eq_false fun z => h1 (hc.mpr z).1]
    simp only [EVc, reduceIte, reduceCtorEq, Nat.reduceAdd, Nat.reduceLT, Nat.reduceLeDiff, Nat.reduceEqDiff, Nat.reduceSub, kd, List.replicate, lB, tW, hi, tru_b, lay0_, lay_0, lay_1, e1]
theorem eqI_ok {a b n : Int} : F_Ratio___eq__ [rQ a b, .int n] = .ok (.fz (.bl false)) [] := by
  have hi := isO_i n
  unfold rQ rP
  unfold F_Ratio___eq__ d_Ratio___eq__
  rw [callFn_e]
  simp only [EVc, reduceIte, reduceCtorEq, Nat.reduceAdd, Nat.reduceLT, Nat.reduceLeDiff, Nat.reduceEqDiff, Nat.reduceSub, kd, List.replicate, lB, tW, hi, tru_b]
theorem pos_iff {p x : Int} (hp : 0 < p) : 0 < p * x ↔ 0 < x := ⟨fun h => Int.lt_of_not_ge fun z => by
  have := Int.mul_nonpos_of_nonneg_of_nonpos (Int.le_of_lt hp) z
  omega, Int.mul_pos hp⟩
theorem sq_pos {x : Int} (h : x ≠ 0) : 0 < x * x := by
  rcases Int.lt_or_lt_of_ne h with z | z
  · exact Int.mul_pos_of_neg_of_neg z z
  · exact Int.mul_pos z z
theorem less_iff {a b c d : Int} (hb : b ≠ 0) (hd : d ≠ 0) : RT.nm a b * RT.dn c d < RT.nm c d * RT.dn a b ↔ a * b * d * d < c * d * b * b := by
  have F := RT.fr_of (a := a) hb
  have G := RT.fr_of (a := c) hd
  have e1 := F.eq
  have e2 := G.eq
  have p1 := Int.mul_pos F.pos G.pos
  have p2 := Int.mul_pos (sq_pos hb) (sq_pos hd)
  generalize RT.nm a b = x at *
  generalize RT.dn a b = y at *
  generalize RT.nm c d = x2 at *
  generalize RT.dn c d = y2 at *
  have key : (y * y2) * (c * d * b * b - a * b * d * d) = ((b * b) * (d * d)) * (x2 * y - x * y2) := by clear F G p1 p2; grind
  have q1 := pos_iff (x := c * d * b * b - a * b * d * d) p1
  have q2 := pos_iff (x := x2 * y - x * y2) p2
  rw [key] at q1
  have q3 := q2.symm.trans q1
  constructor
  · intro h
    have := q3.mp (by omega)
    omega
  · intro h
    have := q3.mpr (by omega)
    omega
theorem less_ok {a b c d : Int} {q : PV} (N : Nb a b) (M : Nb c d) (hq : AsR q c d) : F_Ratio_is_less [rQ a b, q] = .ok (.fz (.bl (decide (a * b * d * d < c * d * b * b)))) [] := by
  have hl := less_iff (a := a) (c := c) N.nz M.nz
  have m1 := Z0n N.nm M.dn (by omega) (by omega)
  have m2 := Z0n M.nm N.dn (by omega) (by omega)
  have l1 := lt_i (i := RT.nm a b * RT.dn c d) (j := RT.nm c d * RT.dn a b)
  rw [show decide (RT.nm a b * RT.dn c d < RT.nm c d * RT.dn a b) = decide (a * b * d * d < c * d * b * b) by rw [decide_eq_decide]; exact hl] at l1
  generalize decide (a * b * d * d < c * d * b * b) = t at *
  unfold AsR at hq
  unfold rQ rP at *
  clear hl
  generalize RT.nm a b = x at *
  generalize RT.dn a b = y at *
  generalize RT.nm c d = x2 at *
  generalize RT.dn c d = y2 at *
  unfold F_Ratio_is_less d_Ratio_is_less
  rw [callFn_e]
  rcases hq with hq | hq <;> simp only [EVc, reduceIte, reduceCtorEq, Nat.reduceAdd, Nat.reduceLT, Nat.reduceLeDiff, Nat.reduceEqDiff, Nat.reduceSub, kd, List.replicate, lB, tW, hq, lay0_, lay_0, lay_1, m1, m2, l1]
theorem nm_0 {c d : Int} (hd : d ≠ 0) : RT.nm c d = 0 ↔ c = 0 := by
  have G := RT.fr_of (a := c) hd
  have e := G.eq
  have p := G.pos
  constructor
  · intro h
    rw [h, Int.zero_mul] at e
    rcases Int.mul_eq_zero.mp e.symm with z | z
    · exact z
    · omega
  · intro h
    rw [h, Int.zero_mul] at e
    rw [h]
    rcases Int.mul_eq_zero.mp e with z | z
    · exact z
    · exact absurd z hd
theorem div_bad {a b d : Int} {q : PV} (hd : d ≠ 0) (hq : AsR q 0 d) : F_Ratio_divided [rQ a b, q] = .err ⟨1, []⟩ := by
  have h0 := (nm_0 (c := 0) hd).mpr rfl
  have e0 := eq_i (RT.nm 0 d) 0
  rw [decide_eq_true h0] at e0
  unfold AsR at hq
  unfold rQ rP at *
  generalize RT.nm 0 d = x2 at *
  generalize RT.dn 0 d = y2 at *
  unfold F_Ratio_divided d_Ratio_divided
  rw [callFnX_e]
  rcases hq with hq | hq <;> simp only [EVc, reduceIte, reduceCtorEq, Nat.reduceAdd, Nat.reduceLT, Nat.reduceLeDiff, Nat.reduceEqDiff, Nat.reduceSub, kd, List.replicate, lB, tW, hq, lay0_, lay_0, lay_1, e0, raise_e, bind_x, bh_x, finX_x, if_true, List.length_nil]
theorem divd_ok {a b c d : Int} {q : PV} (N : Nb a b) (M : Nb c d) (hc : c ≠ 0) (hq : AsR q c d) : F_Ratio_divided [rQ a b, q] = .ok (.new (rQ (a * d) (b * c))) [] := by
  have F := RT.fr_of (a := a) N.nz
  have G := RT.fr_of (a := c) M.nz
  have e := F.eq
  have e2 := G.eq
  have n0 : RT.nm c d ≠ 0 := fun z => hc ((nm_0 M.nz).mp z)
  have nz := Int.mul_ne_zero (nz_dn (a := a) N.nz) n0
  have hi := init_k (a := RT.nm a b * RT.dn c d) (b := RT.dn a b * RT.nm c d) nz ((N.dn.mul M.nm).mono (by omega))
  rw [rQ_eq (a := a * d) (b := b * c) nz (Int.mul_ne_zero N.nz hc) (by
    generalize RT.nm a b = x at *
    generalize RT.dn a b = y at *
    generalize RT.nm c d = x2 at *
    generalize RT.dn c d = y2 at *
    clear F G nz hi N M hq n0
    grind)] at hi
  have m1 := Z0n N.nm M.dn (by omega) (by omega)
  have m2 := Z0n N.dn M.nm (by omega) (by omega)
  have e0 := eq_i (RT.nm c d) 0
  rw [decide_eq_false n0] at e0
  generalize hR : rQ (a * d) (b * c) = R at *
  unfold AsR at hq
  unfold rQ rP at *
  generalize RT.nm a b = x at *
  generalize RT.dn a b = y at *
  generalize RT.nm c d = x2 at *
  generalize RT.dn c d = y2 at *
  unfold F_Ratio_divided d_Ratio_divided
  rw [callFnX_e]
  rcases hq with hq | hq <;> simp only [EVc, reduceIte, reduceCtorEq, Nat.reduceAdd, Nat.reduceLT, Nat.reduceLeDiff, Nat.reduceEqDiff, Nat.reduceSub, kd, List.replicate, lB, tW, hq, lay0_, lay_0, lay_1, e0, m1, m2, mk_e, mkK_e, hi, finX_k, frX_k]
end K35
set_option maxRecDepth 100000
set_option maxHeartbeats 2000000
namespace K35
open PySem PySem.Spec L2 VL
open PyProof.Rows hiding St
def p0 : Env' → Res Fl := (dIfS (dOrT (dNotT (dTru (dFn [false, false, false] F_law_is [] [(dVar 0), (dVar 2), (dVar 3)]))) (dNotT (dTru (dFn [false, false, false] F_law_is [] [(dOpS 0 F_Ratio___add__ (dVar 0) (dVar 1)), (dBin semAdd (dBin semMul (dVar 2) (dVar 5)) (dBin semMul (dVar 4) (dVar 3))), (dBin semMul (dVar 3) (dVar 5))])))) (dRet (fun e => .ok (.fz (.bl false)) e)) (fun e => .ok .nx e))
def p1 : Env' → Res Fl := (dIfS (dOrT (dNotT (dTru (dFn [false, false, false] F_law_is [] [(dOpS 0 F_Ratio___sub__ (dVar 0) (dVar 1)), (dBin semSub (dBin semMul (dVar 2) (dVar 5)) (dBin semMul (dVar 4) (dVar 3))), (dBin semMul (dVar 3) (dVar 5))]))) (dNotT (dTru (dFn [false, false, false] F_law_is [] [(dOpS 0 F_Ratio___mul__ (dVar 0) (dVar 1)), (dBin semMul (dVar 2) (dVar 4)), (dBin semMul (dVar 3) (dVar 5))])))) (dRet (fun e => .ok (.fz (.bl false)) e)) (fun e => .ok .nx e))
def p2 : Env' → Res Fl := (dIfS (dOrT (dNotT (dTru (dFn [false, false, false] F_law_is [] [(dNegO 0 F_Ratio___neg__ (dVar 0)), (dUn semNeg (dVar 2)), (dVar 3)]))) (dOrT (dNotT (dTru (dFn [false, false, false] F_law_is [] [(dCallU 0 F_Ratio___abs__ [(dVar 0)]), (dCall semAbs [(dVar 2)]), (dCall semAbs [(dVar 3)])]))) (asB (dBin semNe (dOwnQ false 0 F_Ratio___eq__ (dVar 0) (dVar 1)) (dBin semEq (dBin semMul (dVar 2) (dVar 5)) (dBin semMul (dVar 4) (dVar 3))))))) (dRet (fun e => .ok (.fz (.bl false)) e)) (fun e => .ok .nx e))
def p3 : Env' → Res Fl := (dSet 6 (dBin semLt (dBin semMul (dBin semMul (dBin semMul (dVar 2) (dVar 3)) (dVar 5)) (dVar 5)) (dBin semMul (dBin semMul (dBin semMul (dVar 4) (dVar 5)) (dVar 3)) (dVar 3))))
def p4 : Env' → Res Fl := (dIfS (dOrT (dAndT (asB (dBin semIsNot (dMt 0 [false, false] F_Ratio_is_less [] (dVar 0) [(dVar 1)]) (fun e => .ok (.fz (.bl true)) e))) (dTru (dVar 6))) (dAndT (asB (dBin semIsNot (dMt 0 [false, false] F_Ratio_is_less [] (dVar 0) [(dVar 1)]) (fun e => .ok (.fz (.bl false)) e))) (dNotT (dTru (dVar 6))))) (dRet (fun e => .ok (.fz (.bl false)) e)) (fun e => .ok .nx e))
def p5 : Env' → Res Fl := (dIfS (asB (dBin semEq (dVar 4) (fun e => .ok (.fz (.int 0)) e))) (dSeq (dSet 7 (dRefB eLay (cl_law_bad.map (ClE.d ansX (some 1))) (dMtX 0 [false, false] F_Ratio_divided [] (dVar 0) [(dVar 1)]))) (dRet (dBool true (dVar 7) (dRefB eLay (cl_law_bad.map (ClE.d ansX (some 1))) (dMtX 0 [false, false] F_Ratio_divided [] (dVar 0) [(fun e => .ok (.fz (.int 0)) e)]))))) (fun e => .ok .nx e))
def p6 : Env' → Res Fl := (dRet (dFn [false, false, false] F_law_is [] [(dMt 0 [false, false] (okX F_Ratio_divided) [] (dVar 0) [(dVar 1)]), (dBin semMul (dVar 2) (dVar 5)), (dBin semMul (dVar 3) (dVar 4))]))
theorem p_is : d_law_pair = (dSeq p0 (dSeq p1 (dSeq p2 (dSeq p3 (dSeq p4 (dSeq p5 p6)))))) := rfl
section
variable {e e1 : Env'}
theorem negO_e {c : Nat} {fn : List PV → FR} {da : Env' → Res Val} : dNegO c fn da e = (stl da e).bh fun x e1 => if insAt c 0 x e1 = true then callK [false] fn [x] e1 else .bad := id rfl
theorem callU_e {c : Nat} {fn : List PV → FR} {ds : List (Env' → Res Val)} : dCallU c fn ds e = (dArgs ds e).bh fun xs e1 => one1 c fn xs e1 := by rw [dCallU_e]; rfl
theorem one1_e {c : Nat} {fn : List PV → FR} {x : Val} : one1 c fn [x] e1 = if insAt c 0 x e1 = true then callK [false] fn [x] e1 else .bad := id rfl
theorem mt_e {c : Nat} {md : Md} {fn : List PV → FR} {dps : List PV} {da : Env' → Res Val} {ds : List (Env' → Res Val)} : dMt c md fn dps da ds e = (stl da e).bh fun x e1 => if insAt c 0 x e1 = true then (dArgs ds e1).bh fun xs e2 => callK md fn (x :: (xs ++ dps.map Val.fz)) e2 else .bad := id rfl
theorem mtX_e {c : Nat} {md : Md} {fn : List PV → FX} {dps : List PV} {da : Env' → Res Val} {ds : List (Env' → Res Val)} : dMtX c md fn dps da ds e = (stl da e).bh fun x e1 => if insAt c 0 x e1 = true then (dArgs ds e1).bh fun xs e2 => callKX md fn (x :: (xs ++ dps.map Val.fz)) e2 else .bad := id rfl
def refBK (L : Nat → List Nat) (cs : List ClD) : Res Val → Res Val
  | .ok _ e1 => .ok (.fz (.bl false)) e1
  | .err x e1 => metRunB L cs x e1
  | .bad => .bad
theorem refB_e {L : Nat → List Nat} {cs : List ClD} {d : Env' → Res Val} : dRefB L cs d e = refBK L cs (d e) := by
  unfold dRefB refBK
  cases d e <;> rfl
theorem refBK_x {L : Nat → List Nat} {cs : List ClD} {x : Exc'} : refBK L cs (.err x e1) = metRunB L cs x e1 := id rfl
theorem bad_1 : metRunB eLay (cl_law_bad.map (ClE.d ansX (some 1))) ⟨1, []⟩ e = .ok (.fz (.bl true)) e := by rfl
theorem isnot_bb (t u : Bool) : semIsNot (.bl t) (.bl u) = some (.fz (.bl (!decide (t = u)))) := by cases t <;> cases u <;> rfl
end
section
variable {a b c d : Int} {s6 s7 : Sl}
def GP (a b c d : Int) (s6 s7 : Sl) : Env' := [.fz (rQ a b), .fz (rQ c d), .fz (.int a), .fz (.int b), .fz (.int c), .fz (.int d), s6, s7]
theorem pp0 (N : Nb a b) (M : Nb c d) : p0 (GP a b c d s6 s7) = .ok .nx (GP a b c d s6 s7) := by
  have h1 := is_ok (p := rQ a b) rfl N.nz (N.ba.mono (by omega)) (N.bb.mono (by omega))
  have h2 := add_ok N M (asR_r c d)
  have h3 := is_ok (p := rQ (a * d + c * b) (b * d)) rfl (Int.mul_ne_zero N.nz M.nz) (((N.ba.mul M.bb).add (M.ba.mul N.bb)).mono (by omega)) ((N.bb.mul M.bb).mono (by omega))
  have m1 := Z0n N.ba M.bb (by omega) (by omega)
  have m2 := Z0n M.ba N.bb (by omega) (by omega)
  have m3 := Z0n N.bb M.bb (by omega) (by omega)
  have i1 := fun e => @insR e a b
  have i2 := fun e => @insR e c d
  unfold p0 GP
  generalize rQ (a * d + c * b) (b * d) = R at *
  generalize rQ a b = X at *
  generalize rQ c d = Y at *
  simp only [EVc, reduceIte, reduceCtorEq, Nat.reduceAdd, Nat.reduceLT, Nat.reduceLeDiff, Nat.reduceEqDiff, Nat.reduceSub, kd, List.replicate, lB, tW, opS_e, i1, i2, and_self, if_true, h1, h2, h3, m1, m2, m3, add_i, tru_b]
theorem pp1 (N : Nb a b) (M : Nb c d) : p1 (GP a b c d s6 s7) = .ok .nx (GP a b c d s6 s7) := by
  have h2 := sub_ok N M (asR_r c d)
  have h3 := is_ok (p := rQ (a * d - c * b) (b * d)) rfl (Int.mul_ne_zero N.nz M.nz) (((N.ba.mul M.bb).sub (M.ba.mul N.bb)).mono (by omega)) ((N.bb.mul M.bb).mono (by omega))
  have h4 := mul_ok N M (asR_r c d)
  have h5 := is_ok (p := rQ (a * c) (b * d)) rfl (Int.mul_ne_zero N.nz M.nz) ((N.ba.mul M.ba).mono (by omega)) ((N.bb.mul M.bb).mono (by omega))
  have m1 := Z0n N.ba M.bb (by omega) (by omega)
  have m2 := Z0n M.ba N.bb (by omega) (by omega)
  have m3 := Z0n N.bb M.bb (by omega) (by omega)
  have m4 := Z0n N.ba M.ba (by omega) (by omega)
  have i1 := fun e => @insR e a b
  have i2 := fun e => @insR e c d
  unfold p1 GP
  generalize rQ (a * d - c * b) (b * d) = R at *
  generalize rQ (a * c) (b * d) = R2 at *
  generalize rQ a b = X at *
  generalize rQ c d = Y at *
  simp only [EVc, reduceIte, reduceCtorEq, Nat.reduceAdd, Nat.reduceLT, Nat.reduceLeDiff, Nat.reduceEqDiff, Nat.reduceSub, kd, List.replicate, lB, tW, opS_e, i1, i2, and_self, if_true, h2, h3, h4, h5, m1, m2, m3, m4, sub_i, tru_b]
theorem eq_bb (t : Bool) : semNe (.bl t) (.bl t) = some (.fz (.bl false)) := by cases t <;> rfl
theorem pp2 (N : Nb a b) (M : Nb c d) : p2 (GP a b c d s6 s7) = .ok .nx (GP a b c d s6 s7) := by
  have nb : ((b.natAbs : Nat) : Int) ≠ 0 := by have := N.nz; omega
  have h1 := neg_ok N
  have h2 := is_ok (p := rQ (-a) b) rfl N.nz (N.ba.neg.mono (by omega)) (N.bb.mono (by omega))
  have h3 := abs_ok N
  have h4 := is_ok (p := rQ (a.natAbs : Nat) (b.natAbs : Nat)) rfl nb ((N.ba.abs (y := ((a.natAbs : Nat) : Int)) (Int.natAbs_natCast _)).mono (by omega)) ((N.bb.abs (y := ((b.natAbs : Nat) : Int)) (Int.natAbs_natCast _)).mono (by omega))
  have h5 := eqR_ok (a := a) (c := c) N.nz M.nz
  have m1 := Z0n N.ba M.bb (by omega) (by omega)
  have m2 := Z0n M.ba N.bb (by omega) (by omega)
  have e1 := eq_i (a * d) (c * b)
  have e2 := eq_bb (decide (a * d = c * b))
  have n1 := neg_ii a
  have a1 := abs_n a
  have a2 := abs_n b
  unfold iN at a1 a2
  have i1 := fun e => @insR e a b
  have i2 : rightQ 0 (rQ c d) = true := rfl
  unfold p2 GP
  generalize decide (a * d = c * b) = t at *
  generalize rQ (-a) b = R at *
  generalize rQ (a.natAbs : Nat) (b.natAbs : Nat) = R2 at *
  generalize rQ a b = X at *
  generalize rQ c d = Y at *
  have ik : ∀ e1, ownK false 0 F_Ratio___eq__ (.fz X) (.fz Y) e1 = .ok (.fz (.bl t)) e1 := fun e1 => by
    refine ownK_ok (neg := false) (i1 e1) (by show some (rightQ 0 Y) = _; rw [i2]) ?_
    simp only [EVc, reduceIte, reduceCtorEq, Nat.reduceAdd, Nat.reduceLT, Nat.reduceLeDiff, Nat.reduceEqDiff, Nat.reduceSub, kd, List.replicate, lB, tW, h5]
  simp only [EVc, reduceIte, reduceCtorEq, Nat.reduceAdd, Nat.reduceLT, Nat.reduceLeDiff, Nat.reduceEqDiff, Nat.reduceSub, kd, List.replicate, lB, tW, negO_e, callU_e, one1_e, ownQ_e, ik, i1, if_true, h1, h2, h3, h4, n1, a1, a2, m1, m2, e1, e2, tru_b]
theorem pp3 (N : Nb a b) (M : Nb c d) : p3 (GP a b c d s6 s7) = .ok .nx (GP a b c d (.fz (.bl (decide (a * b * d * d < c * d * b * b)))) s7) := by
  have m1 := Z0n N.ba N.bb (by omega) (by omega)
  have m2 := Z0n (N.ba.mul N.bb) M.bb (by omega) (by omega)
  have m3 := Z0n ((N.ba.mul N.bb).mul M.bb) M.bb (by omega) (by omega)
  have m4 := Z0n M.ba M.bb (by omega) (by omega)
  have m5 := Z0n (M.ba.mul M.bb) N.bb (by omega) (by omega)
  have m6 := Z0n ((M.ba.mul M.bb).mul N.bb) N.bb (by omega) (by omega)
  have l1 := lt_i (i := a * b * d * d) (j := c * d * b * b)
  unfold p3 GP
  generalize decide (a * b * d * d < c * d * b * b) = t at *
  generalize rQ a b = X at *
  generalize rQ c d = Y at *
  simp only [EVc, reduceIte, reduceCtorEq, Nat.reduceAdd, Nat.reduceLT, Nat.reduceLeDiff, Nat.reduceEqDiff, Nat.reduceSub, kd, List.replicate, lB, tW, m1, m2, m3, m4, m5, m6, l1]
theorem pp4 (N : Nb a b) (M : Nb c d) : p4 (GP a b c d (.fz (.bl (decide (a * b * d * d < c * d * b * b)))) s7) = .ok .nx (GP a b c d (.fz (.bl (decide (a * b * d * d < c * d * b * b)))) s7) := by
  have h := less_ok N M (asR_r c d)
  have i1 := fun e => @insR e a b
  unfold p4 GP
  generalize decide (a * b * d * d < c * d * b * b) = t at *
  have q1 := isnot_bb t true
  have q2 := isnot_bb t false
  generalize rQ a b = X at *
  generalize rQ c d = Y at *
  cases t
  · rw [show decide (false = true) = false from rfl] at q1
    rw [show decide (false = false) = true from rfl] at q2
    simp only [EVc, reduceIte, reduceCtorEq, Nat.reduceAdd, Nat.reduceLT, Nat.reduceLeDiff, Nat.reduceEqDiff, Nat.reduceSub, kd, List.replicate, lB, tW, mt_e, i1, if_true, h, q1, q2, tru_b]
  · rw [show decide (true = true) = true from rfl] at q1
    rw [show decide (true = false) = false from rfl] at q2
    simp only [EVc, reduceIte, reduceCtorEq, Nat.reduceAdd, Nat.reduceLT, Nat.reduceLeDiff, Nat.reduceEqDiff, Nat.reduceSub, kd, List.replicate, lB, tW, mt_e, i1, if_true, h, q1, q2, tru_b]
theorem pair_ok (N : Nb a b) (M : Nb c d) : F_law_pair [rQ a b, rQ c d, .int a, .int b, .int c, .int d] = .ok (.fz (.bl true)) [] := by
  have he : F_law_pair [rQ a b, rQ c d, .int a, .int b, .int c, .int d] = finF [false, false, false, false, false, false] (d_law_pair (GP a b c d .no .no)) := rfl
  rw [he, p_is, seq_e, pp0 N M, bind_k, seqK_n, seq_e, pp1 N M, bind_k, seqK_n, seq_e, pp2 N M, bind_k, seqK_n, seq_e, pp3 N M, bind_k, seqK_n, seq_e, pp4 N M, bind_k, seqK_n]
  generalize decide (a * b * d * d < c * d * b * b) = t
  have e0 := eq_i c 0
  have i1 := fun e => @insR e a b
  by_cases hc : c = 0
  · subst hc
    rw [decide_eq_true rfl] at e0
    have h1 := div_bad (a := a) (b := b) (d := d) M.nz (asR_r 0 d)
    have h2 := div_bad (a := a) (b := b) (d := 1) (by omega) (asR_i 0)
    have hm := fun e => @bad_1 e
    unfold p5 GP
    generalize rQ a b = X at *
    generalize rQ 0 d = Y at *
    simp only [EVc, reduceIte, reduceCtorEq, Nat.reduceAdd, Nat.reduceLT, Nat.reduceLeDiff, Nat.reduceEqDiff, Nat.reduceSub, kd, List.replicate, lB, tW, e0, refB_e, mtX_e, i1, if_true, callKX_e, h1, h2, fxK_x, noS_0, refBK_x, hm, tru_b]
  · rw [decide_eq_false hc] at e0
    have h1 := okX_k (divd_ok N M hc (asR_r c d))
    have h3 := is_ok (p := rQ (a * d) (b * c)) rfl (Int.mul_ne_zero N.nz hc) ((N.ba.mul M.bb).mono (by omega)) ((N.bb.mul M.ba).mono (by omega))
    have m1 := Z0n N.ba M.bb (by omega) (by omega)
    have m2 := Z0n N.bb M.ba (by omega) (by omega)
    unfold p5 p6 GP
    generalize rQ (a * d) (b * c) = R at *
    generalize rQ a b = X at *
    generalize rQ c d = Y at *
    simp only [EVc, reduceIte, reduceCtorEq, Nat.reduceAdd, Nat.reduceLT, Nat.reduceLeDiff, Nat.reduceEqDiff, Nat.reduceSub, kd, List.replicate, lB, tW, e0, mt_e, i1, if_true, h1, h3, m1, m2]
end
end K35
set_option maxRecDepth 100000
set_option maxHeartbeats 2000000
namespace VL
open PySem PySem.Spec L2
open PyProof.Rows hiding St
theorem lcG {α : Type} {vs : List Nat} {u : UG} {dt : Option (Env' → Res Bool)} {d : Env' → Res Val} {e : Env'} (xs : List α) (g : α → PV) (B : α → Env') (t : α → Bool) (f : α → PV) (hf : freeS vs e = true) (hl : xs.length ≤ 1000000)
    (h : ∀ x ∈ xs, u (g x) (blkE vs e) = some (B x) ∧ dtO dt (B x) = .ok (t x) (B x) ∧ outE vs e (B x) = e ∧ (t x = true → ∃ y, d (B x) = .ok y (B x) ∧ frz y (B x) = .ok (f x) (B x))) : lcL vs u dt d (xs.map g) [] e = .ok ((xs.filter t).map f) e := by
  have key : ∀ (ys : List α) (acc : List PV), (∀ x ∈ ys, x ∈ xs) → acc.length + ys.length ≤ 1000000 → lcL vs u dt d (ys.map g) acc e = .ok (acc ++ (ys.filter t).map f) e := by
    intro ys
    induction ys with
    | nil => intro acc _ _; simp [lcL]
    | cons y ys ih =>
      intro acc hm hn
      obtain ⟨h1, h2, h3, h4⟩ := h y (hm y (List.mem_cons_self ..))
      simp only [List.length_cons] at hn
      rw [List.map_cons]
      unfold lcL
      rw [if_pos hf, h1]
      simp only [h2]
      cases ht : t y with
      | false =>
        dsimp only
        rw [h3, ih acc (fun x hx => hm x (List.mem_cons_of_mem _ hx)) (by omega), List.filter_cons, ht]
        rfl
      | true =>
        obtain ⟨z, h5, h6⟩ := h4 ht
        have hb : acc.length < big := by rw [big_v]; omega
        simp only [h5, h6, hb, if_true]
        rw [h3, ih (acc ++ [f y]) (fun x hx => hm x (List.mem_cons_of_mem _ hx)) (by rw [List.length_append, List.length_singleton]; omega), List.filter_cons, ht, if_pos rfl, List.map_cons, List.append_assoc]
        rfl
  have := key xs [] (fun _ h => h) (by simpa using hl)
  simpa using this
theorem okX_k {fn : List PV → FX} {as : List PV} {x : Val} {o : List PV} (h : fn as = .ok x o) : okX fn as = .ok x o := by unfold okX; rw [h]
end VL
set_option maxRecDepth 100000
set_option maxHeartbeats 2000000
namespace K35
open PySem PySem.Spec L2 VL
open PyProof.Rows hiding St
def w0 : Env' → Res Fl := (dSet 4 (dLst [(dOpO 0 F_Ratio___add__ F_Ratio___radd__ (dVar 0) (dVar 3)), (dOpO 0 F_Ratio___add__ F_Ratio___radd__ (dVar 3) (dVar 0)), (dOpO 0 F_Ratio___sub__ F_Ratio___rsub__ (dVar 0) (dVar 3)), (dOpO 0 F_Ratio___sub__ F_Ratio___rsub__ (dVar 3) (dVar 0)), (dOpO 0 F_Ratio___mul__ F_Ratio___rmul__ (dVar 0) (dVar 3)), (dOpO 0 F_Ratio___mul__ F_Ratio___rmul__ (dVar 3) (dVar 0))]))
def w1 : Env' → Res Fl := (dSet 5 (dLst [(dTup [(dBin semAdd (dVar 1) (dBin semMul (dVar 3) (dVar 2))), (dVar 2)]), (dTup [(dBin semAdd (dVar 1) (dBin semMul (dVar 3) (dVar 2))), (dVar 2)]), (dTup [(dBin semSub (dVar 1) (dBin semMul (dVar 3) (dVar 2))), (dVar 2)]), (dTup [(dBin semSub (dBin semMul (dVar 3) (dVar 2)) (dVar 1)), (dVar 2)]), (dTup [(dBin semMul (dVar 1) (dVar 3)), (dVar 2)]), (dTup [(dBin semMul (dVar 1) (dVar 3)), (dVar 2)])]))
def w2 : Env' → Res Fl := (dIfS (dOrT (dNotT (dTru (dCall semAll [(dLc [6] (dRng1 (fun e => .ok (.fz (.int 6)) e)) (uNm 6) none (dFn [false, false, false] F_law_is [] [(dBin semIx (dVar 4) (dVar 6)), (dBin semIx (dBin semIx (dVar 5) (dVar 6)) (fun e => .ok (.fz (.int 0)) e)), (dBin semIx (dBin semIx (dVar 5) (dVar 6)) (fun e => .ok (.fz (.int 1)) e))]))]))) (asB (dOwnQ false 0 F_Ratio___eq__ (dVar 0) (dVar 3)))) (dRet (fun e => .ok (.fz (.bl false)) e)) (fun e => .ok .nx e))
def w3 : Env' → Res Fl := (dSet 7 (dBin semLt (dBin semMul (dVar 1) (dVar 2)) (dBin semMul (dBin semMul (dVar 3) (dVar 2)) (dVar 2))))
def w4 : Env' → Res Fl := (dIfS (dOrT (dAndT (asB (dBin semIsNot (dMt 0 [false, false] F_Ratio_is_less [] (dVar 0) [(dVar 3)]) (fun e => .ok (.fz (.bl true)) e))) (dTru (dVar 7))) (dAndT (asB (dBin semIsNot (dMt 0 [false, false] F_Ratio_is_less [] (dVar 0) [(dVar 3)]) (fun e => .ok (.fz (.bl false)) e))) (dNotT (dTru (dVar 7))))) (dRet (fun e => .ok (.fz (.bl false)) e)) (fun e => .ok .nx e))
def w5 : Env' → Res Fl := (dRet (dIf (asB (dBin semEq (dVar 3) (fun e => .ok (.fz (.int 0)) e))) (dRefB eLay (cl_law_bad.map (ClE.d ansX (some 1))) (dMtX 0 [false, false] F_Ratio_divided [] (dVar 0) [(dVar 3)])) (dFn [false, false, false] F_law_is [] [(dMt 0 [false, false] (okX F_Ratio_divided) [] (dVar 0) [(dVar 3)]), (dVar 1), (dBin semMul (dVar 2) (dVar 3))])))
theorem w_is : d_law_whole = (dSeq w0 (dSeq w1 (dSeq w2 (dSeq w3 (dSeq w4 w5))))) := rfl
section
variable {e : Env'}
theorem opO_e {c : Nat} {fl fr : List PV → FR} {da db : Env' → Res Val} : dOpO c fl fr da db e = (stl da e).bh fun x e1 => (stl db e1).bh fun y e2 => if insAt c 0 x e2 = true ∧ (isIntV y = true ∨ insAt c 0 y e2 = true) then callK [false, false] fl [x, y] e2 else if isIntV x = true ∧ insAt c 0 y e2 = true then callK [false, false] fr [y, x] e2 else .bad := id rfl
theorem insI {n : Int} : insAt 0 0 (.fz (.int n)) e = false := rfl
theorem isInt_i {n : Int} : isIntV (.fz (.int n)) = true := rfl
end
theorem rng_iN (m : Nat) : rngP 0 m = (List.range m).map iN := by
  unfold rngP
  refine List.map_congr_left fun i _ => ?_
  show PV.int (0 + ((i : Nat) : Int)) = PV.int ((i : Nat) : Int)
  rw [Int.zero_add]
theorem all_t {α : Type} : ∀ l : List α, semAll [.lst (l.map fun _ => PV.bl true)] = some (.fz (.bl true)) := fun l => by
  have h : ∀ l : List α, boolsP (l.map fun _ => PV.bl true) = some (l.map fun _ => true) := fun l => by
    induction l with
    | nil => rfl
    | cons a l ih => simp only [List.map_cons, boolsP, ih, Option.map_some]
  show (boolsP (l.map fun _ => PV.bl true)).map _ = _
  rw [h, Option.map_some]
  have : ((l.map fun _ => true).all id) = true := by
    rw [List.all_eq_true]
    intro x hx
    obtain ⟨_, _, rfl⟩ := List.mem_map.mp hx
    rfl
  rw [this]
section
variable {a b n : Int} {s4 s5 s6 s7 : Sl}
def GW (a b n : Int) (s4 s5 s6 s7 : Sl) : Env' := [.fz (rQ a b), .fz (.int a), .fz (.int b), .fz (.int n), s4, s5, s6, s7]
def toldL (a b n : Int) : List PV := [rQ (a + n * b) b, rQ (a + n * b) b, rQ (a - n * b) b, rQ (n * b - a) b, rQ (a * n) b, rQ (a * n) b]
def dueL (a b n : Int) : List (Int × Int) := [(a + n * b, b), (a + n * b, b), (a - n * b, b), (n * b - a, b), (a * n, b), (a * n, b)]
def tup2 (x : Int × Int) : PV := .tup [.int x.1, .int x.2]
theorem ww0 (N : Nb a b) (hn : RT.B 150 n) : w0 (GW a b n s4 s5 s6 s7) = .ok .nx (GW a b n (.ow true (.lst (toldL a b n))) s5 s6 s7) := by
  have h1 := add_ok N (nb_1 hn) (asR_i n)
  have h2 := radd_ok N hn
  have h3 := sub_ok N (nb_1 hn) (asR_i n)
  have h4 := rsub_ok N hn
  have h5 := mul_ok N (nb_1 hn) (asR_i n)
  have h6 := rmul_ok N hn
  rw [Int.mul_one, Int.mul_one] at h1 h3
  rw [Int.mul_one, Int.one_mul, Int.add_comm (n * b) a] at h2
  rw [Int.mul_one, Int.one_mul] at h4
  rw [Int.mul_one] at h5
  rw [Int.one_mul, Int.mul_comm n a] at h6
  have i1 := fun e => @insR e a b
  have i2 := fun e => @insI e n
  have i3 := @isInt_i n
  have hb : (6 : Nat) ≤ big := by rw [big_v]; omega
  unfold w0 GW toldL
  generalize rQ (a + n * b) b = R1 at *
  generalize rQ (a - n * b) b = R2 at *
  generalize rQ (n * b - a) b = R3 at *
  generalize rQ (a * n) b = R4 at *
  generalize rQ a b = X at *
  simp only [EVc, reduceIte, reduceCtorEq, Nat.reduceAdd, Nat.reduceLT, Nat.reduceLeDiff, Nat.reduceEqDiff, Nat.reduceSub, kd, List.replicate, lB, tW, opO_e, i1, i2, i3, h1, h2, h3, h4, h5, h6, hb, and_self, and_true, true_and, false_and, true_or, if_true, if_false, Bool.false_eq_true, List.length_cons, List.length_nil]
theorem ww1 (N : Nb a b) (hn : RT.B 150 n) : w1 (GW a b n s4 s5 s6 s7) = .ok .nx (GW a b n s4 (.ow true (.lst ((dueL a b n).map tup2))) s6 s7) := by
  have m1 := Z0n hn N.bb (by omega) (by omega)
  have m2 := Z0n N.ba hn (by omega) (by omega)
  have hb : (6 : Nat) ≤ big := by rw [big_v]; omega
  have hb2 : (2 : Nat) ≤ big := by rw [big_v]; omega
  unfold w1 GW dueL
  simp only [List.map_cons, List.map_nil, tup2]
  generalize rQ a b = X at *
  simp only [EVc, reduceIte, reduceCtorEq, Nat.reduceAdd, Nat.reduceLT, Nat.reduceLeDiff, Nat.reduceEqDiff, Nat.reduceSub, kd, List.replicate, lB, tW, m1, m2, add_i, sub_i, hb, hb2, if_true, List.length_cons, List.length_nil]
theorem told_i (N : Nb a b) (hn : RT.B 150 n) : ∀ i, i < 6 → ∃ p x, (toldL a b n)[i]? = some p ∧ (dueL a b n)[i]? = some x ∧ F_law_is [p, .int x.1, .int x.2] = .ok (.fz (.bl true)) [] := fun i hi => by
  have b1 : RT.B 900 (a + n * b) := ((N.ba.mono (by omega : 150 ≤ 300)).add (hn.mul N.bb)).mono (by omega)
  have b2 : RT.B 900 (a - n * b) := ((N.ba.mono (by omega : 150 ≤ 300)).sub (hn.mul N.bb)).mono (by omega)
  have b3 : RT.B 900 (n * b - a) := ((hn.mul N.bb).sub (N.ba.mono (by omega : 150 ≤ 300))).mono (by omega)
  have b4 : RT.B 900 (a * n) := (N.ba.mul hn).mono (by omega)
  have bb := N.bb.mono (by omega : 150 ≤ 900)
  have : i = 0 ∨ i = 1 ∨ i = 2 ∨ i = 3 ∨ i = 4 ∨ i = 5 := by omega
  rcases this with rfl | rfl | rfl | rfl | rfl | rfl
  · exact ⟨_, _, rfl, rfl, is_ok rfl N.nz b1 bb⟩
  · exact ⟨_, _, rfl, rfl, is_ok rfl N.nz b1 bb⟩
  · exact ⟨_, _, rfl, rfl, is_ok rfl N.nz b2 bb⟩
  · exact ⟨_, _, rfl, rfl, is_ok rfl N.nz b3 bb⟩
  · exact ⟨_, _, rfl, rfl, is_ok rfl N.nz b4 bb⟩
  · exact ⟨_, _, rfl, rfl, is_ok rfl N.nz b4 bb⟩
theorem ix_at {xs : List PV} {i : Nat} {p : PV} (h : xs[i]? = some p) : semIx (.lst xs) (iN i) = some (.fz p) := by
  obtain ⟨hi, rfl⟩ := List.getElem?_eq_some_iff.mp h
  show semIx (.lst xs) (.int (i : Nat)) = _
  rw [ix_l, at_i hi]
  rfl
theorem ww2 (N : Nb a b) (hn : RT.B 150 n) : w2 (GW a b n (.ow true (.lst (toldL a b n))) (.ow true (.lst ((dueL a b n).map tup2))) .no s7) = .ok .nx (GW a b n (.ow true (.lst (toldL a b n))) (.ow true (.lst ((dueL a b n).map tup2))) .no s7) := by
  have c1 := lcG (vs := [6]) (u := uNm 6) (dt := none) (d := (dFn [false, false, false] F_law_is [] [(dBin semIx (dVar 4) (dVar 6)), (dBin semIx (dBin semIx (dVar 5) (dVar 6)) (fun e => .ok (.fz (.int 0)) e)), (dBin semIx (dBin semIx (dVar 5) (dVar 6)) (fun e => .ok (.fz (.int 1)) e))])) (e := GW a b n (.ow true (.lst (toldL a b n))) (.ow true (.lst ((dueL a b n).map tup2))) .no s7) (List.range 6) iN
    (fun i => GW a b n (.ow false (.lst (toldL a b n))) (.ow false (.lst ((dueL a b n).map tup2))) (.fz (iN i)) (lendS s7)) (fun _ => true) (fun _ => PV.bl true) rfl (by rw [List.length_range]; omega)
    (fun i hi => by
      obtain ⟨p, x, h1, h2, h3⟩ := told_i N hn i (List.mem_range.mp hi)
      have q1 := ix_at h1
      have q2 := ix_at (xs := (dueL a b n).map tup2) (i := i) (p := tup2 x) (by rw [List.getElem?_map, h2]; rfl)
      have q3 : semIx (tup2 x) (.int 0) = some (.fz (.int x.1)) := rfl
      have q4 : semIx (tup2 x) (.int 1) = some (.fz (.int x.2)) := rfl
      unfold GW
      generalize tup2 x = T at *
      generalize (dueL a b n).map tup2 = D at *
      generalize toldL a b n = L at *
      generalize iN i = I at *
      generalize rQ a b = X at *
      exact ⟨rfl, rfl, by simp only [EVc, reduceIte, reduceCtorEq, Nat.reduceAdd, Nat.reduceLT, Nat.reduceLeDiff, Nat.reduceEqDiff, Nat.reduceSub, kd, List.replicate, lB, tW, outS_l], fun _ => ⟨.fz (.bl true), by simp only [EVc, reduceIte, reduceCtorEq, Nat.reduceAdd, Nat.reduceLT, Nat.reduceLeDiff, Nat.reduceEqDiff, Nat.reduceSub, kd, List.replicate, lB, tW, q1, q2, q3, q4, h3], rfl⟩⟩)
  rw [List.filter_eq_self.mpr fun _ _ => rfl, ← rng_iN] at c1
  have ha := all_t (List.range 6)
  have hr6 : r62 6 = true := by decide
  have ht6 : (6 : Int).toNat = 6 := rfl
  have h5 := @eqI_ok a b n
  have i1 := fun e => @insR e a b
  unfold w2 GW at *
  generalize (List.range 6).map (fun _ => PV.bl true) = BL at *
  generalize (dueL a b n).map tup2 = D at *
  generalize toldL a b n = L at *
  generalize rQ a b = X at *
  have ik : ∀ e1, ownK false 0 F_Ratio___eq__ (.fz X) (.fz (.int n)) e1 = .ok (.fz (.bl false)) e1 := fun e1 => by
    refine ownK_ok (neg := false) (i1 e1) rfl ?_
    simp only [EVc, reduceIte, reduceCtorEq, Nat.reduceAdd, Nat.reduceLT, Nat.reduceLeDiff, Nat.reduceEqDiff, Nat.reduceSub, kd, List.replicate, lB, tW, h5]
  simp only [EVc, reduceIte, reduceCtorEq, Nat.reduceAdd, Nat.reduceLT, Nat.reduceLeDiff, Nat.reduceEqDiff, Nat.reduceSub, kd, List.replicate, lB, tW, hr6, ht6, c1, ha, tru_b, ownQ_e, ik]
theorem ww3 (N : Nb a b) (hn : RT.B 150 n) : w3 (GW a b n s4 s5 s6 s7) = .ok .nx (GW a b n s4 s5 s6 (.fz (.bl (decide (a * b < n * b * b))))) := by
  have m1 := Z0n N.ba N.bb (by omega) (by omega)
  have m2 := Z0n hn N.bb (by omega) (by omega)
  have m3 := Z0n (hn.mul N.bb) N.bb (by omega) (by omega)
  have l1 := lt_i (i := a * b) (j := n * b * b)
  unfold w3 GW
  generalize decide (a * b < n * b * b) = t at *
  generalize rQ a b = X at *
  simp only [EVc, reduceIte, reduceCtorEq, Nat.reduceAdd, Nat.reduceLT, Nat.reduceLeDiff, Nat.reduceEqDiff, Nat.reduceSub, kd, List.replicate, lB, tW, m1, m2, m3, l1]
theorem ww4 (N : Nb a b) (hn : RT.B 150 n) : w4 (GW a b n s4 s5 s6 (.fz (.bl (decide (a * b < n * b * b))))) = .ok .nx (GW a b n s4 s5 s6 (.fz (.bl (decide (a * b < n * b * b))))) := by
  have h := less_ok N (nb_1 hn) (asR_i n)
  rw [show decide (a * b * 1 * 1 < n * 1 * b * b) = decide (a * b < n * b * b) by rw [Int.mul_one, Int.mul_one, Int.mul_one]] at h
  have i1 := fun e => @insR e a b
  unfold w4 GW
  generalize decide (a * b < n * b * b) = t at *
  have q1 := isnot_bb t true
  have q2 := isnot_bb t false
  generalize rQ a b = X at *
  cases t
  · rw [show decide (false = true) = false from rfl] at q1
    rw [show decide (false = false) = true from rfl] at q2
    simp only [EVc, reduceIte, reduceCtorEq, Nat.reduceAdd, Nat.reduceLT, Nat.reduceLeDiff, Nat.reduceEqDiff, Nat.reduceSub, kd, List.replicate, lB, tW, mt_e, i1, if_true, h, q1, q2, tru_b]
  · rw [show decide (true = true) = true from rfl] at q1
    rw [show decide (true = false) = false from rfl] at q2
    simp only [EVc, reduceIte, reduceCtorEq, Nat.reduceAdd, Nat.reduceLT, Nat.reduceLeDiff, Nat.reduceEqDiff, Nat.reduceSub, kd, List.replicate, lB, tW, mt_e, i1, if_true, h, q1, q2, tru_b]
theorem whole_ok (N : Nb a b) (hn : RT.B 150 n) : F_law_whole [rQ a b, .int a, .int b, .int n] = .ok (.fz (.bl true)) [] := by
  have he : F_law_whole [rQ a b, .int a, .int b, .int n] = finF [false, false, false, false] (d_law_whole (GW a b n .no .no .no .no)) := rfl
  rw [he, w_is, seq_e, ww0 N hn, bind_k, seqK_n, seq_e, ww1 N hn, bind_k, seqK_n, seq_e, ww2 N hn, bind_k, seqK_n, seq_e, ww3 N hn, bind_k, seqK_n, seq_e, ww4 N hn, bind_k, seqK_n]
  have e0 := eq_i n 0
  have i1 := fun e => @insR e a b
  unfold w5 GW
  generalize decide (a * b < n * b * b) = t
  generalize toldL a b n = L at *
  generalize (dueL a b n).map tup2 = D at *
  by_cases hc : n = 0
  · subst hc
    rw [decide_eq_true rfl] at e0
    have h2 := div_bad (a := a) (b := b) (d := 1) (by omega) (asR_i 0)
    have hm := fun e => @bad_1 e
    generalize rQ a b = X at *
    simp only [EVc, reduceIte, reduceCtorEq, Nat.reduceAdd, Nat.reduceLT, Nat.reduceLeDiff, Nat.reduceEqDiff, Nat.reduceSub, kd, List.replicate, lB, tW, e0, refB_e, mtX_e, i1, if_true, callKX_e, h2, fxK_x, noS_0, refBK_x, hm, tru_b]
  · rw [decide_eq_false hc] at e0
    have h1 := okX_k (divd_ok N (nb_1 hn) hc (asR_i n))
    rw [Int.mul_one] at h1
    have h3 := is_ok (p := rQ a (b * n)) rfl (Int.mul_ne_zero N.nz hc) (N.ba.mono (by omega)) ((N.bb.mul hn).mono (by omega))
    have m2 := Z0n N.bb hn (by omega) (by omega)
    generalize rQ a (b * n) = R at *
    generalize rQ a b = X at *
    simp only [EVc, reduceIte, reduceCtorEq, Nat.reduceAdd, Nat.reduceLT, Nat.reduceLeDiff, Nat.reduceEqDiff, Nat.reduceSub, kd, List.replicate, lB, tW, e0, mt_e, i1, if_true, h1, h3, m2]
end
end K35
set_option maxRecDepth 100000
set_option maxHeartbeats 2000000
namespace K35
open PySem PySem.Spec L2 VL
open PyProof.Rows hiding St
theorem ok_of (s : String) : PyData.strOk (Str.ofString s) = true := by
  rw [Str.ofString_eq_toList]
  unfold PyData.strOk
  rw [Array.all_eq_true]
  intro i hi
  have hi' : i < s.toList.length := by simpa using hi
  have h : (s.toList.map Char.toNat).toArray[i] = (s.toList[i]).toNat := by simp
  show decide ((s.toList.map Char.toNat).toArray[i] < 0x110000) = true
  rw [h]
  apply decide_eq_true
  have hv := (s.toList[i]).valid
  generalize s.toList[i] = c at *
  have : c.toNat = c.val.toNat := rfl
  rcases hv with h1 | ⟨_, h1⟩
  · rw [this]
    have : c.val.toNat < 0xd800 := h1
    omega
  · rw [this]
    exact h1
theorem ok_app {x y : Str} (hx : PyData.strOk x = true) (hy : PyData.strOk y = true) : PyData.strOk (x ++ y) = true := by
  unfold PyData.strOk at *
  show (x.cps ++ y.cps).all _ = true
  rw [Array.all_append, hx, hy]
  rfl
theorem app_e (x : Str) : Str.empty ++ x = x := by
  show (⟨#[] ++ x.cps⟩ : Str) = x
  rw [Array.empty_append]
theorem len_app (x y : Str) : (x ++ y).length = x.length + y.length := by
  show (x.cps ++ y.cps).size = _
  rw [Array.size_append]; rfl
def sl : Str := "/"
def txt (x y : Int) : Str := if y = 1 then (Str.ofString (toString x)) else ((Str.ofString (toString x) ++ sl) ++ Str.ofString (toString y))
theorem txt_ok (x y : Int) : PyData.strOk (txt x y) = true := by
  unfold txt
  split
  · exact ok_of _
  · exact ok_app (ok_app (ok_of _) (by decide +kernel)) (ok_of _)
theorem log_b {k : Nat} {x : Int} (h : RT.B k x) (hk : k ≤ 1000) (h0 : 0 < k) : x.natAbs.log2 < 1920 := by
  rcases Nat.eq_zero_or_pos x.natAbs with z | z
  · rw [z]; decide
  · have := (Nat.log2_lt (by omega)).mpr (h.mono hk : x.natAbs < 2 ^ 1000)
    omega
theorem fmt_i {x : Int} (h : x.natAbs.log2 < 1920) {e : Env'} : fmtK (.fz (.int x)) e = .ok (.fz (.str (toString x))) e := if_pos h
theorem fmt_e {d : Env' → Res Val} {e : Env'} : dFmt d e = (d e).bh fun x e1 => fmtK x e1 := id rfl
theorem str_i {x : Int} (h : x.natAbs.log2 < 1920) : semStr [.int x] = some (.fz (.str (Str.ofString (toString x)))) := if_pos h
theorem join_n {acc : Str} {e : Env'} : joinL [] acc e = .ok (.fz (.str acc)) e := id rfl
theorem join_c {d : Env' → Res Val} {ds : List (Env' → Res Val)} {acc : Str} {e : Env'} : joinL (d :: ds) acc e = (d e).bh fun x e1 => match x with
    | .fz (.str y) => if (acc ++ y).length ≤ sizeLine then joinL ds (acc ++ y) e1 else .bad
    | _ => .bad := id rfl
theorem str_ok {a b : Int} (N : Nb a b) : F_Ratio___str__ [rQ a b] = .ok (.fz (.str (txt (RT.nm a b) (RT.dn a b)))) [] := by
  have l1 := log_b N.nm (by omega) (by omega)
  have l2 := log_b N.dn (by omega) (by omega)
  unfold rQ rP txt
  generalize RT.nm a b = x at *
  generalize RT.dn a b = y at *
  have e1 := eq_i y 1
  have s1 := str_i l1
  have t1 := int_text_len_1921 l1
  have t2 := int_text_len_1921 l2
  unfold F_Ratio___str__ d_Ratio___str__
  rw [callFn_e]
  by_cases h : y = 1
  · rw [decide_eq_true h] at e1
    rw [if_pos h]
    simp only [EVc, reduceIte, reduceCtorEq, Nat.reduceAdd, Nat.reduceLT, Nat.reduceLeDiff, Nat.reduceEqDiff, Nat.reduceSub, kd, List.replicate, lB, tW, lay0_, lay_0, lay_1, e1, s1]
  · rw [decide_eq_false h] at e1
    rw [if_neg h]
    have f1 := fun e => @fmt_i x l1 e
    have f2 := fun e => @fmt_i y l2 e
    have c1 : (Str.empty ++ Str.ofString (toString x)).length ≤ sizeLine := by rw [app_e, sizeLine_eq]; omega
    have hs : sl.length = 1 := by decide +kernel
    have c2 : (Str.ofString (toString x) ++ sl).length ≤ sizeLine := by rw [len_app, sizeLine_eq]; omega
    have c3 : ((Str.ofString (toString x) ++ sl) ++ Str.ofString (toString y)).length ≤ sizeLine := by rw [len_app, len_app, sizeLine_eq]; omega
    have hj : dJoin [(dFmt (dFldL lay 0 (dVar 0))), (fun e => .ok (.fz (.str "/")) e), (dFmt (dFldL lay 1 (dVar 0)))] [.fz (.ins 0 [.int x, .int y])] = .ok (.fz (.str ((Str.ofString (toString x) ++ sl) ++ Str.ofString (toString y)))) [.fz (.ins 0 [.int x, .int y])] := by
      show joinL [(dFmt (dFldL lay 0 (dVar 0))), (fun e => .ok (.fz (.str sl)) e), (dFmt (dFldL lay 1 (dVar 0)))] Str.empty _ = _
      have c1' := c1
      rw [app_e] at c1'
      have g1 : dFmt (dFldL lay 0 (dVar 0)) [.fz (.ins 0 [.int x, .int y])] = .ok (.fz (.str (Str.ofString (toString x)))) [.fz (.ins 0 [.int x, .int y])] := by
        simp only [EVc, reduceIte, reduceCtorEq, Nat.reduceAdd, Nat.reduceLT, Nat.reduceLeDiff, Nat.reduceEqDiff, Nat.reduceSub, kd, List.replicate, lB, tW, fmt_e, lay0_, lay_0, f1]
      have g2 : dFmt (dFldL lay 1 (dVar 0)) [.fz (.ins 0 [.int x, .int y])] = .ok (.fz (.str (Str.ofString (toString y)))) [.fz (.ins 0 [.int x, .int y])] := by
        simp only [EVc, reduceIte, reduceCtorEq, Nat.reduceAdd, Nat.reduceLT, Nat.reduceLeDiff, Nat.reduceEqDiff, Nat.reduceSub, kd, List.replicate, lB, tW, fmt_e, lay0_, lay_1, f2]
      rw [join_c, g1, bh_k]
      show (if (Str.empty ++ Str.ofString (toString x)).length ≤ sizeLine then _ else _) = _
      rw [if_pos c1, app_e, join_c, bh_k]
      show (if (Str.ofString (toString x) ++ sl).length ≤ sizeLine then _ else _) = _
      rw [if_pos c2, join_c, g2, bh_k]
      show (if ((Str.ofString (toString x) ++ sl) ++ Str.ofString (toString y)).length ≤ sizeLine then _ else _) = _
      rw [if_pos c3, join_n]
    generalize dJoin [(dFmt (dFldL lay 0 (dVar 0))), (fun e => .ok (.fz (.str "/")) e), (dFmt (dFldL lay 1 (dVar 0)))] = J at *
    simp only [EVc, reduceIte, reduceCtorEq, Nat.reduceAdd, Nat.reduceLT, Nat.reduceLeDiff, Nat.reduceEqDiff, Nat.reduceSub, kd, List.replicate, lB, tW, lay0_, lay_0, lay_1, e1, hj]
end K35
set_option maxRecDepth 100000
set_option maxHeartbeats 2000000
namespace K35
open PySem PySem.Spec L2 VL
open PyProof.Rows hiding St
theorem pw37 : semPow (.int 10) (.int 37) = some (.fz (.int 10000000000000000000000000000000000000)) := by kernel_rfl
theorem pw20 : semPow (.int 10) (.int 20) = some (.fz (.int 100000000000000000000)) := by kernel_rfl
theorem num_of {n : Int} {p : PV} (hp : IsPen n p) (hn : n < 800000) : ∃ (x : Int) (p' : PV), F_law_number_of [p] = .ok (.fz (.int x)) [p'] ∧ RT.B 150 x ∧ IsPen (n + 5) p' := by
  obtain ⟨r1, p1, e1, a1, b1, hp1⟩ := drawP (m := 7) hp (by omega) (by omega) (by omega)
  obtain ⟨r2, p2, e2, a2, b2, hp2⟩ := drawP (m := 1000) hp1 (by omega) (by omega) (by omega)
  obtain ⟨r3, p3, e3, a3, b3, hp3⟩ := drawP (m := 50) hp2 (by omega) (by omega) (by omega)
  obtain ⟨i, hi, p4, e4, hp4⟩ := pick_ok (xs := [.int r1, .int (r2 * 10000000000000000000000000000000000000 + 1), .int 0, .int (r3 * 100000000000000000000)]) hp3 (by omega) (by simp) (by simp)
  obtain ⟨r5, p5, e5, a5, b5, hp5⟩ := drawP (m := 2) hp4 (by omega) (by omega) (by omega)
  obtain ⟨x, hx, hb⟩ : ∃ x : Int, ([.int r1, .int (r2 * 10000000000000000000000000000000000000 + 1), .int 0, .int (r3 * 100000000000000000000)] : List PV)[i] = .int x ∧ RT.B 150 x := by
    have : i = 0 ∨ i = 1 ∨ i = 2 ∨ i = 3 := by simp only [List.length_cons, List.length_nil] at hi; omega
    unfold RT.B
    rcases this with rfl | rfl | rfl | rfl
    · exact ⟨_, rfl, by omega⟩
    · exact ⟨_, rfl, by omega⟩
    · exact ⟨_, rfl, by omega⟩
    · exact ⟨_, rfl, by omega⟩
  rw [hx] at e4
  have m1 : semMul (.int r2) (.int 10000000000000000000000000000000000000) = some (.fz (.int (r2 * 10000000000000000000000000000000000000))) := mul_i (cmul (small (by omega) (by omega)) (small (by omega) (by omega)))
  have m2 : semMul (.int r3) (.int 100000000000000000000) = some (.fz (.int (r3 * 100000000000000000000))) := mul_i (cmul (small (by omega) (by omega)) (small (by omega) (by omega)))
  have hp5 : IsPen (n + 5) p5 := by rw [show n + 5 = n + 1 + 1 + 1 + 1 + 1 by omega]; exact hp5
  have hb4 : (4 : Nat) ≤ big := by rw [big_v]; omega
  have e0 := eq_i r5 0
  have q1 := pw37
  have q2 := pw20
  generalize (10000000000000000000000000000000000000 : Int) = P37 at *
  generalize (100000000000000000000 : Int) = P20 at *
  by_cases h : r5 = 0
  · refine ⟨-x, p5, ?_, hb.neg, hp5⟩
    rw [decide_eq_true h] at e0
    have hng := neg_ii x
    unfold F_law_number_of d_law_number_of
    rw [callFn_e]
    simp only [EVc, reduceIte, reduceCtorEq, Nat.reduceAdd, Nat.reduceLT, Nat.reduceLeDiff, Nat.reduceEqDiff, Nat.reduceSub, kd, List.replicate, lB, tW, e1, e2, e3, e4, e5, e0, q1, q2, m1, m2, add_i, hb4, hng, if_true, List.length_cons, List.length_nil]
  · refine ⟨x, p5, ?_, hb, hp5⟩
    rw [decide_eq_false h] at e0
    unfold F_law_number_of d_law_number_of
    rw [callFn_e]
    simp only [EVc, reduceIte, reduceCtorEq, Nat.reduceAdd, Nat.reduceLT, Nat.reduceLeDiff, Nat.reduceEqDiff, Nat.reduceSub, kd, List.replicate, lB, tW, e1, e2, e3, e4, e5, e0, q1, q2, m1, m2, add_i, hb4, if_true, List.length_cons, List.length_nil]
def t0 : Env' → Res Fl := (dPar [3, 4, 5] [(dFn [true] F_law_number_of [] [(dVar 1)]), (dFn [true] F_law_number_of [] [(dVar 1)]), (dFn [true] F_law_number_of [] [(dVar 1)])])
def t1 : Env' → Res Fl := (dPar [6, 7] [(dBin semAdd (fun e => .ok (.fz (.int 1)) e) (dFn [true, false] F_law_draw [] [(dVar 1), (fun e => .ok (.fz (.int 12)) e)])), (dBin semSub (dUn semNeg (fun e => .ok (.fz (.int 1)) e)) (dBin semMul (dFn [true, false] F_law_draw [] [(dVar 1), (fun e => .ok (.fz (.int 9)) e)]) (dBin semPow (fun e => .ok (.fz (.int 10)) e) (fun e => .ok (.fz (.int 20)) e))))])
def t2 : Env' → Res Fl := (dPar [8, 9] [(dMk 0 [false, false] (okX F_Ratio___init__) [] [(dVar 3), (dVar 6)]), (dMk 0 [false, false] (okX F_Ratio___init__) [] [(dVar 4), (dVar 7)])])
def t3 : Env' → Res Fl := (dIfS (dOrT (dNotT (dTru (dFn [false, false, false, false, false, false] F_law_pair [] [(dVar 8), (dVar 9), (dVar 3), (dVar 6), (dVar 4), (dVar 7)]))) (dNotT (dTru (dFn [false, false, false, false, false, false] F_law_pair [] [(dVar 9), (dVar 8), (dVar 4), (dVar 7), (dVar 3), (dVar 6)])))) (dRet (fun e => .ok (.fz (.bl false)) e)) (fun e => .ok .nx e))
def t4 : Env' → Res Fl := (dIfS (dOrT (dNotT (dTru (dFn [false, false, false, false] F_law_whole [] [(dVar 8), (dVar 3), (dVar 6), (dVar 5)]))) (dNotT (dTru (dFn [false, false, false, false] F_law_whole [] [(dVar 9), (dVar 4), (dVar 7), (dVar 5)])))) (dRet (fun e => .ok (.fz (.bl false)) e)) (fun e => .ok .nx e))
def t5 : Env' → Res Fl := (dAsgT (dFn [false, false] F_law_lowest [] [(dVar 3), (dVar 6)]) (uTup 2 (uCons (uNm 10) (uCons (uNm 11) uNil))))
def t6 : Env' → Res Fl := (dIfS (asB (dBin semNe (dStrO 0 F_Ratio___str__ [(dVar 8)]) (dIf (asB (dBin semEq (dVar 11) (fun e => .ok (.fz (.int 1)) e))) (dCall semStr [(dVar 10)]) (dBin semAdd (dBin semAdd (dCall semStr [(dVar 10)]) (fun e => .ok (.fz (.str "/")) e)) (dCall semStr [(dVar 11)]))))) (dRet (fun e => .ok (.fz (.bl false)) e)) (fun e => .ok .nx e))
def t7 : Env' → Res Fl := (dIfS (dOrT (dNotT (dTru (dFn [false, false, false] F_law_is [] [(dMk 0 [false, false] (okX F_Ratio___init__) [.int 1] [(dVar 5)]), (dVar 5), (fun e => .ok (.fz (.int 1)) e)]))) (dNotT (dTru (dRefB eLay (cl_law_bad.map (ClE.d ansX (some 1))) (dMkX 0 [false, false] F_Ratio___init__ [] [(dVar 3), (fun e => .ok (.fz (.int 0)) e)]))))) (dRet (fun e => .ok (.fz (.bl false)) e)) (fun e => .ok .nx e))
def tB : Env' → Res Fl := (dSeq t0 (dSeq t1 (dSeq t2 (dSeq t3 (dSeq t4 (dSeq t5 (dSeq t6 t7)))))))
def l2 : Env' → Res Fl := (dRet (dBool true (dFn [false, false, false] F_law_is [] [(dMk 0 [false, false] (okX F_Ratio___init__) [] [(fun e => .ok (.fz (.int 0)) e), (dUn semNeg (fun e => .ok (.fz (.int 7)) e))]), (fun e => .ok (.fz (.int 0)) e), (fun e => .ok (.fz (.int 1)) e)]) (dBool true (dOwnQ true 0 F_Ratio___eq__ (dMk 0 [false, false] (okX F_Ratio___init__) [.int 1] [(fun e => .ok (.fz (.int 2)) e)]) (fun e => .ok (.fz (.int 2)) e)) (dNot (dOwnQ false 0 F_Ratio___eq__ (dMk 0 [false, false] (okX F_Ratio___init__) [.int 1] [(fun e => .ok (.fz (.int 2)) e)]) (fun e => .ok (.fz (.int 2)) e))))))
theorem law_is : d_law = (dSeq (dSet 1 (dFn [false] F_law_pen_of [] [(dVar 0)])) (dSeq (dFor (dRng1 (fun e => .ok (.fz (.int 6)) e)) (uNm 2) tB) l2)) := rfl
end K35
set_option maxRecDepth 100000
set_option maxHeartbeats 2000000
namespace K35
open PySem PySem.Spec L2 VL
open PyProof.Rows hiding St
def GL (s0 s1 s2 s3 s4 s5 s6 s7 s8 s9 s10 s11 : Sl) : Env' := [s0, s1, s2, s3, s4, s5, s6, s7, s8, s9, s10, s11]
section
variable {s0 s1 s2 s3 s4 s5 s6 s7 s8 s9 s10 s11 : Sl} {a b c d m n : Int} {p : PV}
theorem tt0 (hp : IsPen n p) (hn : n < 700000) : ∃ (a c m : Int) (p' : PV), t0 (GL s0 (.ow true p) s2 s3 s4 s5 s6 s7 s8 s9 s10 s11) = .ok .nx (GL s0 (.ow true p') s2 (.fz (.int a)) (.fz (.int c)) (.fz (.int m)) s6 s7 s8 s9 s10 s11) ∧ RT.B 150 a ∧ RT.B 150 c ∧ RT.B 150 m ∧ IsPen (n + 15) p' := by
  obtain ⟨a, p1, e1, h1, hp1⟩ := num_of hp (by omega)
  obtain ⟨c, p2, e2, h2, hp2⟩ := num_of hp1 (by omega)
  obtain ⟨m, p3, e3, h3, hp3⟩ := num_of hp2 (by omega)
  refine ⟨a, c, m, p3, ?_, h1, h2, h3, by rw [show n + 15 = n + 5 + 5 + 5 by omega]; exact hp3⟩
  unfold t0 GL
  simp only [EVc, reduceIte, reduceCtorEq, Nat.reduceAdd, Nat.reduceLT, Nat.reduceLeDiff, Nat.reduceEqDiff, Nat.reduceSub, kd, List.replicate, lB, tW, e1, e2, e3]
theorem tt1 (hp : IsPen n p) (hn : n < 800000) : ∃ (b d : Int) (p' : PV), t1 (GL s0 (.ow true p) s2 s3 s4 s5 s6 s7 s8 s9 s10 s11) = .ok .nx (GL s0 (.ow true p') s2 s3 s4 s5 (.fz (.int b)) (.fz (.int d)) s8 s9 s10 s11) ∧ b ≠ 0 ∧ d ≠ 0 ∧ RT.B 150 b ∧ RT.B 150 d ∧ IsPen (n + 2) p' := by
  obtain ⟨r1, p1, e1, a1, b1, hp1⟩ := drawP (m := 12) hp (by omega) (by omega) (by omega)
  obtain ⟨r2, p2, e2, a2, b2, hp2⟩ := drawP (m := 9) hp1 (by omega) (by omega) (by omega)
  have q2 := pw20
  have m2 : semMul (.int r2) (.int 100000000000000000000) = some (.fz (.int (r2 * 100000000000000000000))) := mul_i (cmul (small (by omega) (by omega)) (small (by omega) (by omega)))
  have n1 := neg_i1
  refine ⟨1 + r1, -1 - r2 * 100000000000000000000, p2, ?_, by omega, by omega, by unfold RT.B; omega, by unfold RT.B; omega, by rw [show n + 2 = n + 1 + 1 by omega]; exact hp2⟩
  generalize (100000000000000000000 : Int) = P20 at *
  unfold t1 GL
  simp only [EVc, reduceIte, reduceCtorEq, Nat.reduceAdd, Nat.reduceLT, Nat.reduceLeDiff, Nat.reduceEqDiff, Nat.reduceSub, kd, List.replicate, lB, tW, e1, e2, q2, m2, n1, add_i, sub_i]
theorem tt2 (N : Nb a b) (M : Nb c d) : t2 (GL s0 s1 s2 (.fz (.int a)) (.fz (.int c)) s5 (.fz (.int b)) (.fz (.int d)) s8 s9 s10 s11) = .ok .nx (GL s0 s1 s2 (.fz (.int a)) (.fz (.int c)) s5 (.fz (.int b)) (.fz (.int d)) (.ow true (rQ a b)) (.ow true (rQ c d)) s10 s11) := by
  have h1 := init_k (a := a) N.nz (N.bb.mono (by omega))
  have h2 := init_k (a := c) M.nz (M.bb.mono (by omega))
  unfold t2 GL
  generalize rQ a b = X at *
  generalize rQ c d = Y at *
  simp only [EVc, reduceIte, reduceCtorEq, Nat.reduceAdd, Nat.reduceLT, Nat.reduceLeDiff, Nat.reduceEqDiff, Nat.reduceSub, kd, List.replicate, lB, tW, outS_l, mk_e, mkK_e, h1, h2]
theorem tt3 (N : Nb a b) (M : Nb c d) : t3 (GL s0 s1 s2 (.fz (.int a)) (.fz (.int c)) s5 (.fz (.int b)) (.fz (.int d)) (.ow true (rQ a b)) (.ow true (rQ c d)) s10 s11) = .ok .nx (GL s0 s1 s2 (.fz (.int a)) (.fz (.int c)) s5 (.fz (.int b)) (.fz (.int d)) (.fz (rQ a b)) (.fz (rQ c d)) s10 s11) := by
  have h1 := pair_ok N M
  have h2 := pair_ok M N
  unfold t3 GL
  generalize rQ a b = X at *
  generalize rQ c d = Y at *
  simp only [EVc, reduceIte, reduceCtorEq, Nat.reduceAdd, Nat.reduceLT, Nat.reduceLeDiff, Nat.reduceEqDiff, Nat.reduceSub, kd, List.replicate, lB, tW, h1, h2, tru_b]
theorem tt4 (N : Nb a b) (M : Nb c d) (hm : RT.B 150 m) : t4 (GL s0 s1 s2 (.fz (.int a)) (.fz (.int c)) (.fz (.int m)) (.fz (.int b)) (.fz (.int d)) (.fz (rQ a b)) (.fz (rQ c d)) s10 s11) = .ok .nx (GL s0 s1 s2 (.fz (.int a)) (.fz (.int c)) (.fz (.int m)) (.fz (.int b)) (.fz (.int d)) (.fz (rQ a b)) (.fz (rQ c d)) s10 s11) := by
  have h1 := whole_ok N hm
  have h2 := whole_ok M hm
  unfold t4 GL
  generalize rQ a b = X at *
  generalize rQ c d = Y at *
  simp only [EVc, reduceIte, reduceCtorEq, Nat.reduceAdd, Nat.reduceLT, Nat.reduceLeDiff, Nat.reduceEqDiff, Nat.reduceSub, kd, List.replicate, lB, tW, h1, h2, tru_b]
theorem tt5 (N : Nb a b) : t5 (GL s0 s1 s2 (.fz (.int a)) s4 s5 (.fz (.int b)) s7 s8 s9 s10 s11) = .ok .nx (GL s0 s1 s2 (.fz (.int a)) s4 s5 (.fz (.int b)) s7 s8 s9 (.fz (.int (RT.nm a b))) (.fz (.int (RT.dn a b)))) := by
  have h1 := low_ok' (N.ba.mono (by omega)) (N.bb.mono (by omega)) N.nz
  unfold t5 GL
  generalize RT.nm a b = X at *
  generalize RT.dn a b = Y at *
  simp only [EVc, reduceIte, reduceCtorEq, Nat.reduceAdd, Nat.reduceLT, Nat.reduceLeDiff, Nat.reduceEqDiff, Nat.reduceSub, kd, List.replicate, lB, tW, h1, if_true, List.length_cons, List.length_nil]
theorem strO_e {e : Env'} {c : Nat} {fn : List PV → FR} {ds : List (Env' → Res Val)} : dStrO c fn ds e = (dArgs ds e).bh fun xs e1 => one1S c fn xs e1 := id rfl
theorem one1S_e {e : Env'} {c : Nat} {fn : List PV → FR} {xs : List Val} : one1S c fn xs e = (one1 c fn xs e).bh fun x e1 => txtK x e1 := id rfl
theorem txtK_e {e : Env'} {t : Str} : txtK (.fz (.str t)) e = .ok (.fz (.str t)) e := id rfl
theorem ne_txt {x : Str} (h : PyData.strOk x = true) : semNe (.str x) (.str x) = some (.fz (.bl false)) := ne_same (d := .str x) rfl (by
  have e1 : (PyData.str x).canLay0 = PyData.strOk x := rfl
  have e2 : (PyData.str x).depth = 0 := rfl
  unfold SeqAt.shaped
  rw [e1, h, Bool.true_and, decide_eq_true_eq, e2]
  omega)
theorem tt6 (N : Nb a b) : t6 (GL s0 s1 s2 s3 s4 s5 s6 s7 (.fz (rQ a b)) s9 (.fz (.int (RT.nm a b))) (.fz (.int (RT.dn a b)))) = .ok .nx (GL s0 s1 s2 s3 s4 s5 s6 s7 (.fz (rQ a b)) s9 (.fz (.int (RT.nm a b))) (.fz (.int (RT.dn a b)))) := by
  have h1 := str_ok N
  have l1 := log_b N.nm (by omega) (by omega)
  have l2 := log_b N.dn (by omega) (by omega)
  have ht := ne_txt (txt_ok (RT.nm a b) (RT.dn a b))
  have i1 := fun e => @insR e a b
  unfold t6 GL
  generalize hX : rQ a b = X at *
  clear hX
  generalize RT.nm a b = x at *
  generalize RT.dn a b = y at *
  have e1 := eq_i y 1
  have s1 := str_i l1
  have s2 := str_i l2
  have t1 := int_text_len_1921 l1
  have t2 := int_text_len_1921 l2
  unfold txt at *
  by_cases h : y = 1
  · rw [decide_eq_true h] at e1
    rw [if_pos h] at h1 ht
    generalize Str.ofString (toString x) = S1 at *
    generalize Str.ofString (toString y) = S2 at *
    simp only [EVc, reduceIte, reduceCtorEq, Nat.reduceAdd, Nat.reduceLT, Nat.reduceLeDiff, Nat.reduceEqDiff, Nat.reduceSub, kd, List.replicate, lB, tW, strO_e, one1S_e, one1_e, i1, if_true, h1, txtK_e, e1, s1, ht]
  · rw [decide_eq_false h] at e1
    rw [if_neg h] at h1 ht
    have hs : sl.length = 1 := by decide +kernel
    have ad1 : semAdd (.str (Str.ofString (toString x))) (.str "/") = some (.fz (.str (Str.ofString (toString x) ++ sl))) := add_s (by show _ + sl.length ≤ _; rw [hs, big_v]; omega)
    have ad2 : semAdd (.str (Str.ofString (toString x) ++ sl)) (.str (Str.ofString (toString y))) = some (.fz (.str ((Str.ofString (toString x) ++ sl) ++ Str.ofString (toString y)))) := add_s (by rw [len_app, hs, big_v]; omega)
    generalize (Str.ofString (toString x) ++ sl) ++ Str.ofString (toString y) = S4 at *
    generalize Str.ofString (toString x) ++ sl = S3 at *
    generalize Str.ofString (toString x) = S1 at *
    generalize Str.ofString (toString y) = S2 at *
    simp only [EVc, reduceIte, reduceCtorEq, Nat.reduceAdd, Nat.reduceLT, Nat.reduceLeDiff, Nat.reduceEqDiff, Nat.reduceSub, kd, List.replicate, lB, tW, strO_e, one1S_e, one1_e, i1, if_true, h1, txtK_e, e1, s1, s2, ad1, ad2, ht]
theorem tt7 (hm : RT.B 150 m) : t7 (GL s0 s1 s2 (.fz (.int a)) s4 (.fz (.int m)) s6 s7 s8 s9 s10 s11) = .ok .nx (GL s0 s1 s2 (.fz (.int a)) s4 (.fz (.int m)) s6 s7 s8 s9 s10 s11) := by
  have N := nb_1 hm
  have h1 := init_k (a := m) N.nz (N.bb.mono (by omega))
  have h2 := is_ok (p := rQ m 1) rfl N.nz (N.ba.mono (by omega)) (N.bb.mono (by omega))
  have h3 := @init_0 a
  have hb := fun e => @bad_1 e
  unfold t7 GL
  generalize rQ m 1 = X at *
  simp only [EVc, reduceIte, reduceCtorEq, Nat.reduceAdd, Nat.reduceLT, Nat.reduceLeDiff, Nat.reduceEqDiff, Nat.reduceSub, kd, List.replicate, lB, tW, mk_e, mkK_e, h1, h2, refB_e, mkX_e, mkKX_e, h3, mxK_x, noS_0, refBK_x, hb, tru_b]
theorem seq_trL {f1 f2 : Env' → Res Fl} {e e' : Env'} {r : Res Fl} (h : f1 e = .ok .nx e') (h2 : f2 e' = r) : dSeq f1 f2 e = r := by
  rw [seq_e, h, bind_k, seqK_n, h2]
theorem turn (hp : IsPen n p) (hn : n < 700000) : ∃ (p' : PV) (u3 u4 u5 u6 u7 u8 u9 u10 u11 : Sl), tB (GL s0 (.ow true p) s2 s3 s4 s5 s6 s7 s8 s9 s10 s11) = .ok .nx (GL s0 (.ow true p') s2 u3 u4 u5 u6 u7 u8 u9 u10 u11) ∧ IsPen (n + 17) p' := by
  obtain ⟨a, c, m, p1, h0, ba, bc, bm, hp1⟩ := tt0 (s0 := s0) (s2 := s2) (s3 := s3) (s4 := s4) (s5 := s5) (s6 := s6) (s7 := s7) (s8 := s8) (s9 := s9) (s10 := s10) (s11 := s11) hp hn
  obtain ⟨b, d, p2, h1, nb, nd, bb, bd, hp2⟩ := tt1 (s0 := s0) (s2 := s2) (s3 := .fz (.int a)) (s4 := .fz (.int c)) (s5 := .fz (.int m)) (s6 := s6) (s7 := s7) (s8 := s8) (s9 := s9) (s10 := s10) (s11 := s11) hp1 (by omega)
  have N : Nb a b := ⟨nb, ba, bb⟩
  have M : Nb c d := ⟨nd, bc, bd⟩
  refine ⟨p2, _, _, _, _, _, _, _, _, _, seq_trL h0 (seq_trL h1 (seq_trL (tt2 N M) (seq_trL (tt3 N M) (seq_trL (tt4 N M bm) (seq_trL (tt5 N) (seq_trL (tt6 N) (tt7 bm))))))), by rw [show n + 17 = n + 15 + 2 by omega]; exact hp2⟩
theorem l2_ok : l2 (GL s0 s1 s2 s3 s4 s5 s6 s7 s8 s9 s10 s11) = .ok (.rt (.fz (.bl true))) (GL s0 s1 s2 s3 s4 s5 s6 s7 s8 s9 s10 s11) := by
  have b7 : RT.B 900 (-7) := Nat.lt_of_lt_of_le (show Int.natAbs (-7) < 2 ^ 3 by decide) (Nat.pow_le_pow_right (by omega) (by omega))
  have b0 : RT.B 900 0 := Nat.lt_of_lt_of_le (show Int.natAbs 0 < 2 ^ 3 by decide) (Nat.pow_le_pow_right (by omega) (by omega))
  have b1 : RT.B 900 1 := Nat.lt_of_lt_of_le (show Int.natAbs 1 < 2 ^ 3 by decide) (Nat.pow_le_pow_right (by omega) (by omega))
  have h1 := init_k (a := 0) (b := -7) (by omega) b7
  rw [rQ_eq (x := 0) (y := -7) (a := 0) (b := 1) (by omega) (by omega) (by omega)] at h1
  have h2 := is_ok (p := rQ 0 1) rfl (by omega) b0 b1
  have h3 := init_k (a := 2) (b := 1) (by omega) b1
  have h4 := @eqI_ok 2 1 2
  have n7 : semNeg (.int 7) = some (.fz (.int (-7))) := by rfl
  have i1 := fun e => @insR e 2 1
  have r2 : rightQ 0 (.int 2) = true := rfl
  unfold l2 GL
  generalize rQ 0 1 = X at *
  generalize rQ 2 1 = Y at *
  have k1 : ∀ e1, ownK true 0 F_Ratio___eq__ (.fz Y) (.fz (.int 2)) e1 = .ok (.fz (.bl true)) e1 := fun e1 => by
    refine ownK_ok (neg := true) (b := false) (i1 e1) rfl ?_
    simp only [EVc, reduceIte, reduceCtorEq, Nat.reduceAdd, Nat.reduceLT, Nat.reduceLeDiff, Nat.reduceEqDiff, Nat.reduceSub, kd, List.replicate, lB, tW, h4]
  have k2 : ∀ e1, ownK false 0 F_Ratio___eq__ (.fz Y) (.fz (.int 2)) e1 = .ok (.fz (.bl false)) e1 := fun e1 => by
    refine ownK_ok (neg := false) (b := false) (i1 e1) rfl ?_
    simp only [EVc, reduceIte, reduceCtorEq, Nat.reduceAdd, Nat.reduceLT, Nat.reduceLeDiff, Nat.reduceEqDiff, Nat.reduceSub, kd, List.replicate, lB, tW, h4]
  simp only [EVc, reduceIte, reduceCtorEq, Nat.reduceAdd, Nat.reduceLT, Nat.reduceLeDiff, Nat.reduceEqDiff, Nat.reduceSub, kd, List.replicate, lB, tW, mk_e, mkK_e, n7, h1, h2, h3, ownQ_e, k1, k2, tru_b]
end
theorem pure_law (ns : List Int) (hl : ns.length ≤ 63) : F_law [.scr ns] = .ok (.fz (.bl true)) [] := by
  obtain ⟨p, e1, hp⟩ := pen_ok ns
  have h0 : dSet 1 (dFn [false] F_law_pen_of [] [(dVar 0)]) (GL (.fz (.scr ns)) .no .no .no .no .no .no .no .no .no .no .no) = .ok .nx (GL (.fz (.scr ns)) (.ow true p) .no .no .no .no .no .no .no .no .no .no) := by
    unfold GL
    simp only [EVc, reduceIte, reduceCtorEq, Nat.reduceAdd, Nat.reduceLT, Nat.reduceLeDiff, Nat.reduceEqDiff, Nat.reduceSub, kd, List.replicate, lB, tW, e1]
  obtain ⟨e', h1, _, p', u2, u3, u4, u5, u6, u7, u8, u9, u10, u11, hp', rfl⟩ := forL_inv (u := uNm 2) (db := tB) (ps := rngP 0 6)
    (fun i e => i ≤ 6 ∧ ∃ (p' : PV) (u2 u3 u4 u5 u6 u7 u8 u9 u10 u11 : Sl), IsPen (17 * (i : Int)) p' ∧ e = GL (.fz (.scr ns)) (.ow true p') u2 u3 u4 u5 u6 u7 u8 u9 u10 u11)
    (fun i q e hq ⟨hi6, p', u2, u3, u4, u5, u6, u7, u8, u9, u10, u11, hp', he⟩ => by
      subst he
      obtain ⟨rfl, hi⟩ := rng_at hq
      obtain ⟨p2, v3, v4, v5, v6, v7, v8, v9, v10, v11, h, hp2⟩ := turn (s0 := .fz (.scr ns)) (s2 := .fz (.int (i : Nat))) (s3 := u3) (s4 := u4) (s5 := u5) (s6 := u6) (s7 := u7) (s8 := u8) (s9 := u9) (s10 := u10) (s11 := u11) hp' (by omega)
      exact ⟨GL (.fz (.scr ns)) (.ow true p') (.fz (.int (i : Nat))) u3 u4 u5 u6 u7 u8 u9 u10 u11, _, rfl, h, by omega, p2, _, v3, v4, v5, v6, v7, v8, v9, v10, v11, by rw [show 17 * ((i + 1 : Nat) : Int) = 17 * (i : Int) + 17 by omega]; exact hp2, rfl⟩)
    (e := GL (.fz (.scr ns)) (.ow true p) .no .no .no .no .no .no .no .no .no .no) ⟨by omega, p, .no, .no, .no, .no, .no, .no, .no, .no, .no, .no, hp, rfl⟩
  have hr6 : r62 6 = true := by decide
  have ht6 : (6 : Int).toNat = 6 := rfl
  have hfor : dFor (dRng1 (fun e => .ok (.fz (.int 6)) e)) (uNm 2) tB (GL (.fz (.scr ns)) (.ow true p) .no .no .no .no .no .no .no .no .no .no) = .ok .nx (GL (.fz (.scr ns)) (.ow true p') u2 u3 u4 u5 u6 u7 u8 u9 u10 u11) := by
    generalize tB = B at *
    unfold GL at *
    simp only [EVc, reduceIte, reduceCtorEq, Nat.reduceAdd, Nat.reduceLT, Nat.reduceLeDiff, Nat.reduceEqDiff, Nat.reduceSub, kd, List.replicate, lB, tW, hr6, ht6, h1]
  have all : d_law (GL (.fz (.scr ns)) .no .no .no .no .no .no .no .no .no .no .no) = .ok (.rt (.fz (.bl true))) (GL (.fz (.scr ns)) (.ow true p') u2 u3 u4 u5 u6 u7 u8 u9 u10 u11) := by
    rw [law_is]
    exact seq_trL h0 (seq_trL hfor l2_ok)
  unfold F_law
  rw [callFn_e]
  show finF [false] (d_law (GL (.fz (.scr ns)) .no .no .no .no .no .no .no .no .no .no .no)) = _
  rw [all]
  rfl
end K35
open PySem PySem.W PyProof.Rows
theorem PySem.Challenge.cw_leastjoined_k35_ratios_holds : PySem.Challenge.rw_leastjoined_k35_ratios.Holds := by
  exact HK35_holds fun ns hl _ => K35.pure_law ns hl
