import PyProof.Rows.All
import HandS.ForMost
import HandS.ForExc
import HandS.CallSlots
import HandS.IsInst
import HandS.DictComp
import HandS.Wide
import HandS.TupAny
import HandS.TupLe
import HandS.TupMul
import HandS.TupLen
import HandS.Conv
import HandS.Sort
import HandS.SortOrd
import HandS.SortInts
import HandS.Deep
import KE.GoesMore
import HandS.Zip
import HandS.Iter
import HandS.Comp
import HandS.Style
import HandS.WordsExc
import HandS.Words
import HandS.Ends
import HandS.EndBits
import PySem.Challenge.RW_shavenets_k96_known_stones
set_option Elab.async false
set_option linter.all false
set_option maxRecDepth 100000
set_option maxHeartbeats 4000000
/-! values, logical heaps, and how HandS's abstract heap bears them -/
namespace DP
open PySem PySem.Spec PyProof.Rows L2

/-- a value: tuples as a whole, lists and dicts by their address -/
inductive PV where
  | non | bl (b : Bool) | int (i : Int) | str (x : Str) | tup (xs : List PV) | ref (a : Addr) | ty (n : String)
  /-- a list that is only read (the script) -/
  | rol (xs : List PV)

mutual
def PV.beq : PV → PV → Bool
  | .non, .non => true
  | .bl a, .bl b => decide (a = b)
  | .int a, .int b => decide (a = b)
  | .str a, .str b => decide (a = b)
  | .tup a, .tup b => PV.beqL a b
  | .ref a, .ref b => decide (a = b)
  | .ty a, .ty b => decide (a = b)
  | .rol a, .rol b => PV.beqL a b
  | _, _ => false
def PV.beqL : List PV → List PV → Bool
  | [], [] => true
  | x :: xs, y :: ys => PV.beq x y && PV.beqL xs ys
  | _, _ => false
end
mutual
theorem PV.beq_refl : ∀ x : PV, PV.beq x x = true
  | .non => rfl
  | .bl _ => decide_eq_true rfl
  | .int _ => decide_eq_true rfl
  | .str _ => decide_eq_true rfl
  | .tup a => by unfold PV.beq; exact PV.beqL_refl a
  | .ref _ => decide_eq_true rfl
  | .ty _ => decide_eq_true rfl
  | .rol a => by unfold PV.beq; exact PV.beqL_refl a
theorem PV.beqL_refl : ∀ x : List PV, PV.beqL x x = true
  | [] => rfl
  | x :: xs => by unfold PV.beqL; rw [PV.beq_refl x, PV.beqL_refl xs]; rfl
end
mutual
theorem PV.beq_eq : ∀ {x y : PV}, PV.beq x y = true → x = y
  | .non, y, h => by cases y <;> first | rfl | cases h
  | .bl a, y, h => by cases y <;> first | (rw [of_decide_eq_true h]) | cases h
  | .int a, y, h => by cases y <;> first | (rw [of_decide_eq_true h]) | cases h
  | .str a, y, h => by cases y <;> first | (rw [of_decide_eq_true h]) | cases h
  | .tup a, y, h => by cases y <;> first | (unfold PV.beq at h; rw [PV.beqL_eq h]) | cases h
  | .ref a, y, h => by cases y <;> first | (rw [of_decide_eq_true h]) | cases h
  | .ty a, y, h => by cases y <;> first | (rw [of_decide_eq_true h]) | cases h
  | .rol a, y, h => by cases y <;> first | (unfold PV.beq at h; rw [PV.beqL_eq h]) | cases h
theorem PV.beqL_eq : ∀ {x y : List PV}, PV.beqL x y = true → x = y
  | [], [], _ => rfl
  | [], _ :: _, h => by cases h
  | _ :: _, [], h => by cases h
  | x :: xs, y :: ys, h => by
    unfold PV.beqL at h
    have h2 := Bool.and_eq_true_iff.mp h
    rw [PV.beq_eq h2.1, PV.beqL_eq h2.2]
end
instance : DecidableEq PV := fun x y => decidable_of_iff (PV.beq x y = true) ⟨PV.beq_eq, fun e => e ▸ PV.beq_refl x⟩

/-- a list known to the object, or of the written part -/
def Rdo (K : PySem.W.Frag) (H : Hp) (a : Addr) (vs : List V) : Prop :=
  (∃ od, H a = some (.frz od (.lst vs))) ∨ ∃ (o : Obj) (its : Array Value) (n : Nat), K.lookup a = some o ∧ o.cls = .type "list" ∧ o.dict = none ∧ o.data = .seq its n ∧ its.size ≤ sizeLine ∧ Vals vs its.toList
theorem Rdo.sq {K : PySem.W.Frag} {H : Hp} {a : Addr} {vs : List V} (h : Rdo K H a vs) : SqL K H a vs := by
  rcases h with ⟨od, h⟩ | h
  · exact .inl (.inr ⟨od, h⟩)
  · exact .inr h
mutual
inductive Rep (K : PySem.W.Frag) (H : Hp) : PV → V → Prop
  | non : Rep K H .non .non
  | bl (b : Bool) : Rep K H (.bl b) (.bl b)
  | int (i : Int) : Rep K H (.int i) (.int i)
  | str (x : Str) : Rep K H (.str x) (.str x)
  | tup {xs : List PV} {a : Addr} {vs : List V} : H a = some (.tup vs) → RepL K H xs vs → Rep K H (.tup xs) (.ref a)
  | ref (a : Addr) : Rep K H (.ref a) (.ref a)
  | ty (n : String) : Rep K H (.ty n) (.ty n)
  | rol {xs : List PV} {a : Addr} {vs : List V} : Rdo K H a vs → RepL K H xs vs → Rep K H (.rol xs) (.ref a)
inductive RepL (K : PySem.W.Frag) (H : Hp) : List PV → List V → Prop
  | nil : RepL K H [] []
  | cons {x : PV} {v : V} {xs : List PV} {vs : List V} : Rep K H x v → RepL K H xs vs → RepL K H (x :: xs) (v :: vs)
end

/-- the tuples stay, and the lists known to the object -/
structure ExtT (H H' : Hp) : Prop where
  tup : ∀ b xs, H b = some (.tup xs) → H' b = some (.tup xs)
  frz : ∀ b o xs, H b = some (.frz o (.lst xs)) → H' b = some (.frz o (.lst xs))
theorem ExtT.refl (H : Hp) : ExtT H H := ⟨fun _ _ h => h, fun _ _ _ h => h⟩
theorem ExtT.trans {H H1 H2 : Hp} (a : ExtT H H1) (b : ExtT H1 H2) : ExtT H H2 := ⟨fun c xs h => b.tup c xs (a.tup c xs h), fun c o xs h => b.frz c o xs (a.frz c o xs h)⟩
theorem ExtT.new {H : Hp} {p : Addr} {o : HO} (h : H p = none) : ExtT H (upd H p o) :=
  ⟨fun b xs e => by rw [upd_ne (ne_of_none e h)]; exact e, fun b _ xs e => by rw [upd_ne (ne_of_none e h)]; exact e⟩
/-- what may change: no tuple, no list known to the object -/
def Soft : HO → Prop
  | .tup _ => False
  | .frz _ (.lst _) => False
  | _ => True
theorem ExtT.put {H : Hp} {p : Addr} {o u : HO} (h : H p = some u) (hu : Soft u) : ExtT H (upd H p o) := by
  refine ⟨fun b xs e => ?_, fun b od xs e => ?_⟩
  · have : b ≠ p := by
      intro z; subst z; rw [h] at e; rw [Option.some.inj e] at hu; exact hu
    rw [upd_ne this]; exact e
  · have : b ≠ p := by
      intro z; subst z; rw [h] at e; rw [Option.some.inj e] at hu; exact hu
    rw [upd_ne this]; exact e
theorem Rdo.ext {K : PySem.W.Frag} {H H' : Hp} {a : Addr} {vs : List V} (x : ExtT H H') (h : Rdo K H a vs) : Rdo K H' a vs := by
  rcases h with ⟨od, h⟩ | h
  · exact .inl ⟨od, x.frz _ _ _ h⟩
  · exact .inr h

mutual
theorem Rep.ext {K : PySem.W.Frag} {H H' : Hp} (x : ExtT H H') : ∀ {p : PV} {v : V}, Rep K H p v → Rep K H' p v
  | _, _, .non => .non
  | _, _, .bl b => .bl b
  | _, _, .int i => .int i
  | _, _, .str s => .str s
  | _, _, .tup h r => .tup (x.tup _ _ h) (RepL.ext x r)
  | _, _, .ref a => .ref a
  | _, _, .ty n => .ty n
  | _, _, .rol h r => .rol (h.ext x) (RepL.ext x r)
theorem RepL.ext {K : PySem.W.Frag} {H H' : Hp} (x : ExtT H H') : ∀ {p : List PV} {v : List V}, RepL K H p v → RepL K H' p v
  | _, _, .nil => .nil
  | _, _, .cons h r => .cons (Rep.ext x h) (RepL.ext x r)
end
section
variable {K : PySem.W.Frag} {H : Hp}
theorem RepL.length : ∀ {p : List PV} {v : List V}, RepL K H p v → p.length = v.length
  | _, _, .nil => rfl
  | _, _, .cons _ r => congrArg (· + 1) (RepL.length r)
theorem RepL.get : ∀ {p : List PV} {v : List V} {i : Nat} {x : PV}, RepL K H p v → p[i]? = some x → ∃ u, v[i]? = some u ∧ Rep K H x u
  | _, _, _, _, .nil, e => by simp at e
  | _, _, 0, _, .cons r _, e => by simp at e; subst e; exact ⟨_, rfl, r⟩
  | _, _, i + 1, x, .cons _ t, e => by
    obtain ⟨u, h1, h2⟩ := RepL.get (i := i) (x := x) t (by simpa using e)
    exact ⟨u, by simpa using h1, h2⟩
theorem RepL.get' {p : List PV} {v : List V} {i : Nat} {u : V} (r : RepL K H p v) (e : v[i]? = some u) : ∃ x, p[i]? = some x ∧ Rep K H x u := by
  have hi : i < v.length := (List.getElem?_eq_some_iff.mp e).1
  have hp : i < p.length := by rw [r.length]; exact hi
  obtain ⟨u', h1, h2⟩ := r.get (List.getElem?_eq_getElem hp)
  rw [e] at h1; cases h1
  exact ⟨_, List.getElem?_eq_getElem hp, h2⟩
theorem RepL.append : ∀ {p q : List PV} {v w : List V}, RepL K H p v → RepL K H q w → RepL K H (p ++ q) (v ++ w)
  | _, _, _, _, .nil, s => s
  | _, _, _, _, .cons r t, s => .cons r (RepL.append t s)
theorem RepL.take : ∀ {p : List PV} {v : List V} (n : Nat), RepL K H p v → RepL K H (p.take n) (v.take n)
  | _, _, 0, _ => .nil
  | _, _, _ + 1, .nil => .nil
  | _, _, n + 1, .cons r t => .cons r (RepL.take n t)
theorem RepL.drop : ∀ {p : List PV} {v : List V} (n : Nat), RepL K H p v → RepL K H (p.drop n) (v.drop n)
  | _, _, 0, r => r
  | _, _, _ + 1, .nil => .nil
  | _, _, n + 1, .cons _ t => RepL.drop n t
theorem RepL.set {x : PV} {u : V} (r : Rep K H x u) : ∀ {p : List PV} {v : List V} (i : Nat), RepL K H p v → RepL K H (p.set i x) (v.set i u)
  | _, _, _, .nil => .nil
  | _, _, 0, .cons _ t => .cons r t
  | _, _, i + 1, .cons q t => .cons q (RepL.set r i t)
theorem RepL.dropLast {p : List PV} {v : List V} (r : RepL K H p v) : RepL K H p.dropLast v.dropLast := by
  rw [List.dropLast_eq_take, List.dropLast_eq_take, r.length]; exact r.take _
theorem RepL.eraseIdx : ∀ {p : List PV} {v : List V} (i : Nat), RepL K H p v → RepL K H (p.eraseIdx i) (v.eraseIdx i)
  | _, _, _, .nil => .nil
  | _, _, 0, .cons _ t => t
  | _, _, i + 1, .cons r t => .cons r (RepL.eraseIdx i t)
theorem RepL.flat : ∀ (n : Nat) {p : List PV} {v : List V}, RepL K H p v → RepL K H (List.replicate n p).flatten (List.replicate n v).flatten
  | 0, _, _, _ => .nil
  | n + 1, _, _, r => by
    rw [List.replicate_succ, List.replicate_succ, List.flatten_cons, List.flatten_cons]
    exact r.append (RepL.flat n r)
theorem RepL.reverse {p : List PV} {v : List V} (h : RepL K H p v) : RepL K H p.reverse v.reverse := by
  induction p generalizing v with
  | nil => cases h; exact .nil
  | cons x xs ih =>
    cases h with
    | cons r t => rw [List.reverse_cons, List.reverse_cons]; exact (ih t).append (.cons r .nil)
theorem RepL.map {α : Type} (f : α → PV) (g : α → V) (h : ∀ x, Rep K H (f x) (g x)) : ∀ xs : List α, RepL K H (xs.map f) (xs.map g)
  | [] => .nil
  | x :: xs => .cons (h x) (RepL.map f g h xs)
theorem RepL.ints (ns : List Int) : RepL K H (ns.map .int) (ns.map V.int) := RepL.map _ _ (fun n => .int n) ns
theorem RepL.ints_inv : ∀ {ns : List Int} {vs : List V}, RepL K H (ns.map .int) vs → vs = ns.map V.int
  | [], _, h => by cases h; rfl
  | n :: ns, _, h => by
    cases h with
    | cons r t => cases r; rw [RepL.ints_inv t]; rfl
theorem RepL.bls_inv : ∀ {ns : List Bool} {vs : List V}, RepL K H (ns.map .bl) vs → vs = ns.map V.bl
  | [], _, h => by cases h; rfl
  | n :: ns, _, h => by
    cases h with
    | cons r t => cases r; rw [RepL.bls_inv t]; rfl
end

/-! ### logical heaps -/
inductive LO where
  | lst (xs : List PV)
  | dct (kvs : List (PV × PV))
  /-- a dict while a loop walks it -/
  | fdct (kvs : List (PV × PV))
  /-- a dict that a comprehension makes: its keys ints or texts -/
  | kdct (kvs : List (PV × PV))
abbrev LHp := Addr → Option LO
def lupd (L : LHp) (a : Addr) (o : LO) : LHp := fun b => if b = a then some o else L b
theorem lupd_same {L : LHp} {a : Addr} {o : LO} : lupd L a o a = some o := by unfold lupd; rw [if_pos rfl]
theorem lupd_ne {L : LHp} {a b : Addr} {o : LO} (h : b ≠ a) : lupd L a o b = L b := by unfold lupd; rw [if_neg h]

def keyP : Key → PV
  | .inl i => .int i
  | .inr x => .str x
def keyT (k : List Key) : PV := .tup (k.map keyP)
theorem keyP_inj : ∀ {a b : Key}, keyP a = keyP b → a = b
  | .inl _, .inl _, h => by injection h with e; rw [e]
  | .inr _, .inr _, h => by injection h with e; rw [e]
  | .inl _, .inr _, h => by cases h
  | .inr _, .inl _, h => by cases h
theorem map_inj {α β : Type} {f : α → β} (hf : ∀ a b, f a = f b → a = b) : ∀ {xs ys : List α}, xs.map f = ys.map f → xs = ys
  | [], [], _ => rfl
  | [], _ :: _, h => by simp at h
  | _ :: _, [], h => by simp at h
  | x :: xs, y :: ys, h => by
    simp only [List.map_cons, List.cons.injEq] at h
    rw [hf _ _ h.1, map_inj hf h.2]
theorem keyT_inj {a b : List Key} (h : keyT a = keyT b) : a = b := by
  unfold keyT at h
  injection h with e
  exact map_inj (fun _ _ => keyP_inj) e
def RepD {κ : Type} (kp : κ → PV) (K : PySem.W.Frag) (H : Hp) (kvs : List (PV × PV)) (ks : List (κ × V)) : Prop := Paired (fun (p : PV × PV) (q : κ × V) => p.1 = kp q.1 ∧ Rep K H p.2 q.2) kvs ks
theorem RepD.ext {κ : Type} {kp : κ → PV} {K : PySem.W.Frag} {H H' : Hp} (x : ExtT H H') {kvs : List (PV × PV)} {ks : List (κ × V)} (r : RepD kp K H kvs ks) : RepD kp K H' kvs ks :=
  Paired.mapP r fun _ _ z => ⟨z.1, z.2.ext x⟩

def DctIn (K : PySem.W.Frag) (H : Hp) (g : HO → HO) (a : Addr) (kvs : List (PV × PV)) : Prop :=
  (∃ ks, H a = some (g (.dK ks)) ∧ RepD keyP K H kvs ks) ∨ ∃ ks, H a = some (g (.dT ks)) ∧ RepD keyT K H kvs ks
def RelO (K : PySem.W.Frag) (H : Hp) (a : Addr) : LO → Prop
  | .lst xs => ∃ vs, H a = some (.lst vs) ∧ RepL K H xs vs
  | .dct kvs => DctIn K H id a kvs
  | .fdct kvs => ∃ od, DctIn K H (HO.frz od) a kvs
  | .kdct kvs => ∃ ks, H a = some (.dK ks) ∧ RepD keyP K H kvs ks
def RelHp (K : PySem.W.Frag) (H : Hp) (L : LHp) : Prop := ∀ a o, L a = some o → RelO K H a o

section
variable {K : PySem.W.Frag} {H H' : Hp} {L : LHp} {a p : Addr} {o : LO} {u ho : HO}
theorem DctIn.stay {g : HO → HO} {kvs : List (PV × PV)} (x : ExtT H H') (e : H' a = H a) (h : DctIn K H g a kvs) : DctIn K H' g a kvs := by
  rcases h with ⟨ks, h1, h2⟩ | ⟨ks, h1, h2⟩
  · exact .inl ⟨ks, e.trans h1, h2.ext x⟩
  · exact .inr ⟨ks, e.trans h1, h2.ext x⟩
theorem RelO.stay (x : ExtT H H') (e : H' a = H a) (h : RelO K H a o) : RelO K H' a o := by
  cases o with
  | lst xs => obtain ⟨vs, h1, h2⟩ := h; exact ⟨vs, e.trans h1, h2.ext x⟩
  | dct kvs => exact DctIn.stay x e h
  | fdct kvs => obtain ⟨od, h⟩ := h; exact ⟨od, DctIn.stay x e h⟩
  | kdct kvs => obtain ⟨ks, h1, h2⟩ := h; exact ⟨ks, e.trans h1, h2.ext x⟩
theorem RelO.there (h : RelO K H a o) : ∃ u, H a = some u ∧ Soft u := by
  cases o with
  | lst xs => obtain ⟨vs, h1, h2⟩ := h; exact ⟨_, h1, trivial⟩
  | dct kvs =>
    rcases h with ⟨ks, h1, h2⟩ | ⟨ks, h1, h2⟩
    · exact ⟨_, h1, trivial⟩
    · exact ⟨_, h1, trivial⟩
  | fdct kvs =>
    obtain ⟨od, h⟩ := h
    rcases h with ⟨ks, h1, h2⟩ | ⟨ks, h1, h2⟩
    · exact ⟨_, h1, trivial⟩
    · exact ⟨_, h1, trivial⟩
  | kdct kvs => obtain ⟨ks, h1, h2⟩ := h; exact ⟨_, h1, trivial⟩
theorem RelHp.free (h : RelHp K H L) (n : H p = none) : L p = none := by
  cases e : L p with
  | none => rfl
  | some o =>
    obtain ⟨u, h1, _⟩ := (h p o e).there
    rw [n] at h1; cases h1
/-- another object is changed, or laid -/
theorem RelHp.upd_any (h : RelHp K H L) (x : ExtT H (upd H p ho)) (r : RelO K (upd H p ho) p o) : RelHp K (upd H p ho) (lupd L p o) := fun b u e => by
  by_cases hb : b = p
  · subst hb; rw [lupd_same] at e; cases e; exact r
  · rw [lupd_ne hb] at e
    exact (h b u e).stay x (upd_ne hb)
theorem RelHp.new (h : RelHp K H L) (n : H p = none) (r : RelO K (upd H p ho) p o) : RelHp K (upd H p ho) (lupd L p o) := h.upd_any (.new n) r
/-- a new object that the logical heap does not tell -/
theorem RelHp.grow (h : RelHp K H L) (n : H p = none) : RelHp K (upd H p ho) L := fun b u e => by
  obtain ⟨w, h1, _⟩ := (h b u e).there
  exact (h b u e).stay (.new n) (upd_ne (ne_of_none h1 n))
theorem RelHp.lst (h : RelHp K H L) {xs : List PV} (e : L a = some (.lst xs)) : ∃ vs, H a = some (.lst vs) ∧ RepL K H xs vs := h a _ e
theorem RelHp.put_lst (h : RelHp K H L) {xs ys : List PV} {ws : List V} (e : L a = some (.lst xs)) (r : RepL K H ys ws) : RelHp K (upd H a (.lst ws)) (lupd L a (.lst ys)) ∧ ExtT H (upd H a (.lst ws)) := by
  obtain ⟨vs, h1, h2⟩ := h.lst e
  have x : ExtT H (upd H a (.lst ws)) := .put h1 trivial
  exact ⟨h.upd_any x ⟨ws, upd_same, r.ext x⟩, x⟩
theorem RelHp.new_lst (h : RelHp K H L) {ys : List PV} {ws : List V} (n : H p = none) (r : RepL K H ys ws) : RelHp K (upd H p (.lst ws)) (lupd L p (.lst ys)) :=
  h.new n ⟨ws, upd_same, r.ext (.new n)⟩
theorem Rep.new_tup {ys : List PV} {ws : List V} (n : H p = none) (r : RepL K H ys ws) : Rep K (upd H p (.tup ws)) (.tup ys) (.ref p) := .tup upd_same (r.ext (.new n))
end
end DP

set_option Elab.async false
set_option linter.all false
set_option maxRecDepth 100000
set_option maxHeartbeats 4000000
/-! operators, comparisons, subscripts by values -/
namespace DP
open PySem PySem.Spec PyProof.Rows L2

abbrev St := L2.St
abbrev LSt := List (Option PV)
abbrev K1 := PV → LHp → Prop
def RelSt (K : PySem.W.Frag) (H : Hp) (ls : LSt) (σ : St) : Prop := ls.length = σ.length ∧ ∀ (i : Nat) (x : PV), ls[i]? = some (some x) → ∃ v, σ[i]? = some (some v) ∧ Rep K H x v
theorem RelSt.ext {K : PySem.W.Frag} {H H' : Hp} {ls : LSt} {σ : St} (x : ExtT H H') (r : RelSt K H ls σ) : RelSt K H' ls σ :=
  ⟨r.1, fun i y e => let ⟨v, h1, h2⟩ := r.2 i y e; ⟨v, h1, h2.ext x⟩⟩
theorem RelSt.set {K : PySem.W.Frag} {H : Hp} {ls : LSt} {σ : St} {p : PV} {v : V} (r : RelSt K H ls σ) (i : Nat) (q : Rep K H p v) : RelSt K H (ls.set i (some p)) (σ.set i (some v)) := by
  refine ⟨by rw [List.length_set, List.length_set]; exact r.1, fun j y e => ?_⟩
  by_cases hj : i = j
  · subst hj
    by_cases hl : i < ls.length
    · rw [List.getElem?_set_self hl] at e
      cases e
      exact ⟨v, List.getElem?_set_self (by rw [← r.1]; exact hl), q⟩
    · rw [List.getElem?_eq_none (by rw [List.length_set]; omega)] at e; cases e
  · rw [List.getElem?_set_ne hj] at e
    obtain ⟨u, h1, h2⟩ := r.2 j y e
    exact ⟨u, by rw [List.getElem?_set_ne hj]; exact h1, h2⟩
/-- forgetting slots -/
theorem RelSt.weak {K : PySem.W.Frag} {H : Hp} {ls ls' : LSt} {σ σ' : St} (r : RelSt K H ls σ) (h1 : ls'.length = σ'.length) (h2 : ∀ (i : Nat) x, ls'[i]? = some (some x) → ls[i]? = some (some x) ∧ σ'[i]? = σ[i]?) : RelSt K H ls' σ' :=
  ⟨h1, fun i x e => let ⟨a, b⟩ := h2 i x e; let ⟨v, c, d⟩ := r.2 i x a; ⟨v, b.trans c, d⟩⟩

/-- what follows, carried down -/
def After (K : PySem.W.Frag) (H : Hp) (Q0 : K1) (Q : VK) : Prop := ∀ pv L' v H', Q0 pv L' → ExtT H H' → RelHp K H' L' → Rep K H' pv v → Q v H'
theorem After.ext {K : PySem.W.Frag} {H H' : Hp} {Q0 : K1} {Q : VK} (a : After K H Q0 Q) (x : ExtT H H') : After K H' Q0 Q := fun pv L' v H2 q e r p => a pv L' v H2 q (x.trans e) r p

abbrev LR2 := PV → PV → LHp → K1 → Prop
def up2 (K : PySem.W.Frag) (r : LR2) : R2 := fun x y H Q => ∃ px py L Q0, Rep K H px x ∧ Rep K H py y ∧ RelHp K H L ∧ r px py L Q0 ∧ After K H Q0 Q
abbrev LRC := List PV → LHp → K1 → Prop
def upC (K : PySem.W.Frag) (r : LRC) : List V → Hp → VK → Prop := fun xs H Q => ∃ ps L Q0, RepL K H ps xs ∧ RelHp K H L ∧ r ps L Q0 ∧ After K H Q0 Q
abbrev LRM := PV → List PV → LHp → K1 → Prop
def upM (K : PySem.W.Frag) (r : LRM) : V → List V → Hp → VK → Prop := fun x xs H Q => ∃ p ps L Q0, Rep K H p x ∧ RepL K H ps xs ∧ RelHp K H L ∧ r p ps L Q0 ∧ After K H Q0 Q

section
variable {X : Cx}
theorem OpR.imp {f : Value → Value → Sem Value} {r r' : R2} (h : OpR X f r) (i : ∀ x y H Q, r' x y H Q → r x y H Q) : OpR X f r' :=
  fun pins s σ H x y v u Q I rx ry q => h pins s σ H x y v u Q I rx ry (i _ _ _ _ q)
theorem IxR.imp {r r' : R2} (h : IxR X r) (i : ∀ x y H Q, r' x y H Q → r x y H Q) : IxR X r' :=
  fun a b pins s σ H x y v u Q I rx ry q => h a b pins s σ H x y v u Q I rx ry (i _ _ _ _ q)
theorem CallR.imp {f : Value} {r r' : List V → Hp → VK → Prop} (h : CallR X f r) (i : ∀ xs H Q, r' xs H Q → r xs H Q) : CallR X f r' :=
  fun pins s σ H xs us Q I rx q => h pins s σ H xs us Q I rx (i _ _ _ q)
theorem MtR.imp {id : String} {r r' : V → List V → Hp → VK → Prop} (h : MtR X id r) (i : ∀ x xs H Q, r' x xs H Q → r x xs H Q) : MtR X id r' :=
  fun pins s σ H x xs v us Q I rx rs q => h pins s σ H x xs v us Q I rx rs (i _ _ _ _ q)
theorem SlR.imp {r r' : V → Option Int → Option Int → Hp → VK → Prop} (h : SlR X r) (i : ∀ x lo hi H Q, r' x lo hi H Q → r x lo hi H Q) : SlR X r' := by
  intro pins s σ H x v vl vu lo hi sl Q I rx hs pl pu q
  exact h pins s σ H x v vl vu lo hi sl Q I rx hs pl pu (i _ _ _ _ _ q)
end

/-! ### arithmetic -/
def intW2 (C : Int → Int → Prop) (g : Int → Int → PV) : LR2 := fun x y L Q => match x, y with
  | .int i, .int j => C i j ∧ Q (g i j) L
  | _, _ => False
theorem intW2_inv {C : Int → Int → Prop} {g : Int → Int → PV} {x y : PV} {L : LHp} {Q : K1} (h : intW2 C g x y L Q) : ∃ i j, x = .int i ∧ y = .int j ∧ C i j ∧ Q (g i j) L := by
  cases x <;> cases y <;> first | exact ⟨_, _, rfl, rfl, h.1, h.2⟩ | exact h.elim
inductive BOp where
  | add | sub | mul | fdiv | mod | pow | shl | shr | band
  deriving DecidableEq
def BOp.op : BOp → Operator
  | .add => .Add | .sub => .Sub | .mul => .Mult | .fdiv => .FloorDiv | .mod => .Mod | .pow => .Pow | .shl => .LShift | .shr => .RShift | .band => .BitAnd
/-- the length within the line -/
abbrev LenOk (n : Nat) : Prop := n ≤ 16777216
def addW : LR2 := fun x y L Q => match x, y with
  | .int i, .int j => Q (.int (i + j)) L
  | .tup xs, .tup ys => LenOk (xs.length + ys.length) ∧ Q (.tup (xs ++ ys)) L
  | .str a, .str b => LenOk (a.length + b.length) ∧ Q (.str (a ++ b)) L
  | .ref a, .ref b => ∃ xs ys, L a = some (.lst xs) ∧ L b = some (.lst ys) ∧ LenOk (xs.length + ys.length) ∧ ∀ p, L p = none → Q (.ref p) (lupd L p (.lst (xs ++ ys)))
  | _, _ => False
def mulW : LR2 := fun x y L Q => match x, y with
  | .int i, .int j => CMulW i j ∧ Q (.int (i * j)) L
  | .ref a, .int k => ∃ xs, L a = some (.lst xs) ∧ -(2 ^ 63) ≤ k ∧ k < 2 ^ 63 ∧ LenOk (xs.length * k.toNat) ∧ ∀ p, L p = none → Q (.ref p) (lupd L p (.lst (List.replicate k.toNat xs).flatten))
  | .tup xs, .int k => xs ≠ [] ∧ 2 ≤ k ∧ k ≤ 1000 ∧ xs.length ≤ 1000 ∧ Q (.tup (List.replicate k.toNat xs).flatten) L
  | _, _ => False
def binW : BOp → LR2
  | .add => addW
  | .sub => intW2 (fun _ _ => True) fun i j => .int (i - j)
  | .mul => mulW
  | .fdiv => intW2 CDiv fun i j => .int (i / j)
  | .mod => intW2 (fun _ j => 0 < j) fun i j => .int (i % j)
  | .pow => intW2 CPow fun i j => .int (i ^ j.toNat)
  | .shl => intW2 CPow fun i j => .int (i * 2 ^ j.toNat)
  | .shr => intW2 (fun _ j => 0 ≤ j) fun i j => .int (i / 2 ^ j.toNat)
  | .band => intW2 (fun _ _ => True) fun i j => .int (Builtin.bitAnd i j)
theorem lenOk {n : Nat} (h : LenOk n) : n ≤ sizeLine := by rw [sizeLine_eq]; exact h
theorem lenOk' {n : Nat} (h : n ≤ sizeLine) : LenOk n := by rw [sizeLine_eq] at h; exact h

section
variable {X : Cx}
theorem Rep.int_inv {K : PySem.W.Frag} {H : Hp} {i : Int} {v : V} (r : Rep K H (.int i) v) : v = .int i := by cases r; rfl
theorem Rep.str_inv {K : PySem.W.Frag} {H : Hp} {i : Str} {v : V} (r : Rep K H (.str i) v) : v = .str i := by cases r; rfl
theorem Rep.bl_inv {K : PySem.W.Frag} {H : Hp} {i : Bool} {v : V} (r : Rep K H (.bl i) v) : v = .bl i := by cases r; rfl
theorem Rep.non_inv {K : PySem.W.Frag} {H : Hp} {v : V} (r : Rep K H .non v) : v = .non := by cases r; rfl
theorem Rep.ref_inv {K : PySem.W.Frag} {H : Hp} {a : Addr} {v : V} (r : Rep K H (.ref a) v) : v = .ref a := by cases r; rfl
theorem Rep.ty_inv {K : PySem.W.Frag} {H : Hp} {a : String} {v : V} (r : Rep K H (.ty a) v) : v = .ty a := by cases r; rfl
theorem Rep.tup_inv {K : PySem.W.Frag} {H : Hp} {xs : List PV} {v : V} (r : Rep K H (.tup xs) v) : ∃ a vs, v = .ref a ∧ H a = some (.tup vs) ∧ RepL K H xs vs := by cases r with | tup h r => exact ⟨_, _, rfl, h, r⟩
theorem Rep.rol_inv {K : PySem.W.Frag} {H : Hp} {xs : List PV} {v : V} (r : Rep K H (.rol xs) v) : ∃ a vs, v = .ref a ∧ Rdo K H a vs ∧ RepL K H xs vs := by cases r with | rol h r => exact ⟨_, _, rfl, h, r⟩
theorem sqT_of {K : PySem.W.Frag} {H : Hp} {a : Addr} {vs : List V} (h : H a = some (.tup vs)) : SqT K H a vs := .inl (.inl h)
theorem sqL_of {K : PySem.W.Frag} {H : Hp} {a : Addr} {vs : List V} (h : H a = some (.lst vs)) : SqL K H a vs := .inl (.inl h)

theorem int_up {f : Value → Value → Sem Value} {C : Int → Int → Prop} {g : Int → Int → Int} (h : OpR X f (rI C fun i j => .int (g i j))) : OpR X f (up2 X.K (intW2 C fun i j => .int (g i j))) :=
  OpR.imp h fun x y H Q ⟨px, py, L, Q0, rx, ry, rh, w, af⟩ => by
    obtain ⟨i, j, rfl, rfl, c, q⟩ := intW2_inv w
    exact ⟨i, j, rx.int_inv, ry.int_inv, c, af _ _ _ _ q (.refl _) rh (.int _)⟩
theorem int_up0 {f : Value → Value → Sem Value} {g : Int → Int → Int} (h : OpR X f (rI0 fun i j => .int (g i j))) : OpR X f (up2 X.K (intW2 (fun _ _ => True) fun i j => .int (g i j))) :=
  OpR.imp h fun x y H Q ⟨px, py, L, Q0, rx, ry, rh, w, af⟩ => by
    obtain ⟨i, j, rfl, rfl, c, q⟩ := intW2_inv w
    exact ⟨i, j, rx.int_inv, ry.int_inv, af _ _ _ _ q (.refl _) rh (.int _)⟩
theorem nil_of_rep {K : PySem.W.Frag} {H : Hp} {xs : List PV} (r : RepL K H xs []) : xs = [] := by cases r; rfl
theorem add_up : OpR X (binaryOp .Add) (up2 X.K addW) := by
  refine OpR.imp (OpR.or op_add (OpR.or op_add_str (OpR.or op_catA op_cat))) fun x y H Q ⟨px, py, L, Q0, rx, ry, rh, w, af⟩ => ?_
  cases px with
  | int i =>
    cases py with
    | int j => exact .inl ⟨i, j, rx.int_inv, ry.int_inv, af _ _ _ _ w (.refl _) rh (.int _)⟩
    | _ => exact w.elim
  | str i =>
    cases py with
    | str j => exact .inr (.inl ⟨i, j, rx.str_inv, ry.str_inv, lenOk w.1, af _ _ _ _ w.2 (.refl _) rh (.str _)⟩)
    | _ => exact w.elim
  | tup xs =>
    cases py with
    | tup ys =>
      obtain ⟨a, vs, rfl, ha, ra⟩ := rx.tup_inv
      obtain ⟨b, ws, rfl, hb, rb⟩ := ry.tup_inv
      have w : LenOk (xs.length + ys.length) ∧ Q0 (.tup (xs ++ ys)) L := w
      refine .inr (.inr (.inl ⟨a, b, vs, ws, rfl, rfl, sqT_of ha, sqT_of hb, by rw [← ra.length, ← rb.length]; exact lenOk w.1, fun e => ?_, fun _ e => ?_, fun _ _ p hp => ?_⟩))
      · subst e
        rw [nil_of_rep ra, List.nil_append] at w
        exact af _ _ _ _ w.2 (.refl _) rh (.tup hb rb)
      · subst e
        rw [nil_of_rep rb, List.append_nil] at w
        exact af _ _ _ _ w.2 (.refl _) rh (.tup ha ra)
      · exact af _ _ _ _ w.2 (.new hp) (rh.grow hp) (Rep.new_tup hp (ra.append rb))
    | _ => exact w.elim
  | ref a =>
    cases py with
    | ref b =>
      obtain ⟨xs, ys, e1, e2, hl, q⟩ := w
      obtain ⟨vs, ha, ra⟩ := rh.lst e1
      obtain ⟨ws, hb, rb⟩ := rh.lst e2
      refine .inr (.inr (.inr ⟨a, b, vs, ws, rx.ref_inv, ry.ref_inv, ha, hb, by rw [← ra.length, ← rb.length]; exact lenOk hl, fun p hp => ?_⟩))
      exact af _ _ _ _ (q p (rh.free hp)) (.new hp) (rh.new_lst hp (ra.append rb)) (.ref p)
    | _ => exact w.elim
  | _ => exact w.elim
theorem mul_up : OpR X (binaryOp .Mult) (up2 X.K mulW) := by
  refine OpR.imp (OpR.or op_mulW (OpR.or op_rep op_repT)) fun x y H Q ⟨px, py, L, Q0, rx, ry, rh, w, af⟩ => ?_
  cases px with
  | int i =>
    cases py with
    | int j => exact .inl ⟨i, j, rx.int_inv, ry.int_inv, w.1, af _ _ _ _ w.2 (.refl _) rh (.int _)⟩
    | _ => exact w.elim
  | tup xs =>
    cases py with
    | int k =>
      obtain ⟨a, vs, rfl, ha, ra⟩ := rx.tup_inv
      obtain ⟨h0, h1, h2, h3, q⟩ := w
      refine .inr (.inr ⟨a, k, vs, rfl, ry.int_inv, sqT_of ha, fun e => h0 (by subst e; exact nil_of_rep ra), h1, h2, by rw [← ra.length]; exact h3, fun p hp => ?_⟩)
      exact af _ _ _ _ q (.new hp) (rh.grow hp) (Rep.new_tup hp (RepL.flat _ ra))
    | _ => exact w.elim
  | ref a =>
    cases py with
    | int k =>
      obtain ⟨xs, e1, h1, h2, hl, q⟩ := w
      obtain ⟨vs, ha, ra⟩ := rh.lst e1
      refine .inr (.inl ⟨a, k, vs, rx.ref_inv, ry.int_inv, ha, h1, h2, by rw [← ra.length]; exact lenOk hl, fun p hp => ?_⟩)
      exact af _ _ _ _ (q p (rh.free hp)) (.new hp) (rh.new_lst hp (RepL.flat _ ra)) (.ref p)
    | _ => exact w.elim
  | _ => exact w.elim
theorem bin_up : ∀ op : BOp, OpR X (binaryOp op.op) (up2 X.K (binW op))
  | .add => add_up
  | .sub => int_up0 op_sub
  | .mul => mul_up
  | .fdiv => int_up op_fdiv
  | .mod => int_up op_mod
  | .pow => int_up op_pow
  | .shl => int_up op_shl
  | .shr => int_up op_shr
  | .band => int_up0 op_and
theorem neg_up : UnR X (unaryOp .USub) (fun x H Q => ∃ p L Q0, Rep X.K H p x ∧ RelHp X.K H L ∧ (match p with | .int i => Q0 (.int (-i)) L | _ => False) ∧ After X.K H Q0 Q) := by
  intro pins s σ H x v Q I rx ⟨p, L, Q0, rp, rh, w, af⟩
  cases p with
  | int i => exact un_neg pins s σ H x v Q I rx ⟨i, rp.int_inv, af _ _ _ _ w (.refl _) rh (.int _)⟩
  | _ => exact w.elim
end
end DP

set_option Elab.async false
set_option linter.all false
set_option maxRecDepth 100000
set_option maxHeartbeats 4000000
/-! comparisons -/
namespace DP
open PySem PySem.Spec PyProof.Rows L2

/-! ### values as data -/
mutual
/-- ints, texts, None, tuples of such -/
def plain : PV → Bool
  | .int _ => true
  | .non => true
  | .str x => PyData.canLay0 (.str x)
  | .tup xs => plainL xs
  | _ => false
def plainL : List PV → Bool
  | [] => true
  | x :: xs => plain x && plainL xs
end
mutual
def pdep : PV → Nat
  | .tup xs => pdepL xs + 1
  | _ => 0
def pdepL : List PV → Nat
  | [] => 0
  | x :: xs => max (pdep x) (pdepL xs)
end
mutual
def pd : PV → PyData
  | .int i => .int i
  | .bl b => .bool b
  | .str x => .str x
  | .tup xs => .tuple (pdL xs)
  | .rol xs => .list (pdL xs)
  | _ => .none
def pdL : List PV → List PyData
  | [] => []
  | x :: xs => pd x :: pdL xs
end
mutual
theorem eqv_plain : ∀ {x y : PV}, plain x = true → plain y = true → PyData.eqv (pd x) (pd y) = decide (x = y)
  | .int i, y, _, hy => by
    cases y with
    | int j => show (i == j) = _; rw [Bool.eq_iff_iff]; simp
    | _ => first | (cases hy; done) | (simp [pd, PyData.eqv])
  | .non, y, _, hy => by cases y <;> first | (cases hy; done) | (simp [pd, PyData.eqv])
  | .str x, y, _, hy => by
    cases y with
    | str j => show (x == j) = _; rw [Bool.eq_iff_iff]; simp
    | _ => first | (cases hy; done) | (simp [pd, PyData.eqv])
  | .tup xs, y, hx, hy => by
    cases y with
    | tup ys =>
      have h := eqvL_plain (x := xs) (y := ys) (by simpa [plain] using hx) (by simpa [plain] using hy)
      show PyData.eqvAll (pdL xs) (pdL ys) = _
      rw [h, Bool.eq_iff_iff]; simp
    | _ => first | (cases hy; done) | (simp [pd, PyData.eqv])
  | .bl _, _, hx, _ => by cases hx
  | .ref _, _, hx, _ => by cases hx
  | .ty _, _, hx, _ => by cases hx
  | .rol _, _, hx, _ => by cases hx
theorem eqvL_plain : ∀ {x y : List PV}, plainL x = true → plainL y = true → PyData.eqvAll (pdL x) (pdL y) = decide (x = y)
  | [], [], _, _ => by simp [pdL, PyData.eqvAll]
  | [], _ :: _, _, _ => by simp [pdL, PyData.eqvAll]
  | _ :: _, [], _, _ => by simp [pdL, PyData.eqvAll]
  | x :: xs, y :: ys, hx, hy => by
    have hx2 : plain x = true ∧ plainL xs = true := by simpa [plainL] using hx
    have hy2 : plain y = true ∧ plainL ys = true := by simpa [plainL] using hy
    have h1 := eqv_plain hx2.1 hy2.1
    have h2 := eqvL_plain hx2.2 hy2.2
    show (PyData.eqv (pd x) (pd y) && PyData.eqvAll (pdL xs) (pdL ys)) = _
    rw [h1, h2, Bool.eq_iff_iff]; simp
end
mutual
theorem lay_plain : ∀ {x : PV}, plain x = true → (pd x).canLay0 = true
  | .int i, _ => rfl
  | .non, _ => rfl
  | .str x, h => h
  | .tup xs, h => by
    show PyData.canLayAll0 (pdL xs) = true
    exact layL_plain (by simpa [plain] using h)
  | .bl _, hx => by cases hx
  | .ref _, hx => by cases hx
  | .ty _, hx => by cases hx
  | .rol _, hx => by cases hx
theorem layL_plain : ∀ {x : List PV}, plainL x = true → PyData.canLayAll0 (pdL x) = true
  | [], _ => rfl
  | x :: xs, h => by
    have h2 : plain x = true ∧ plainL xs = true := by simpa [plainL] using h
    show (PyData.canLay0 (pd x) && PyData.canLayAll0 (pdL xs)) = true
    rw [lay_plain h2.1, layL_plain h2.2]; rfl
end
mutual
theorem dep_plain : ∀ {x : PV}, plain x = true → (pd x).depth = pdep x
  | .int i, _ => rfl
  | .non, _ => rfl
  | .str x, h => rfl
  | .tup xs, h => by
    show PyData.depthAll (pdL xs) + 1 = _
    rw [depL_plain (by simpa [plain] using h)]; rfl
  | .bl _, hx => by cases hx
  | .ref _, hx => by cases hx
  | .ty _, hx => by cases hx
  | .rol _, hx => by cases hx
theorem depL_plain : ∀ {x : List PV}, plainL x = true → PyData.depthAll (pdL x) = pdepL x
  | [], _ => rfl
  | x :: xs, h => by
    have h2 : plain x = true ∧ plainL xs = true := by simpa [plainL] using h
    show max (PyData.depth (pd x)) (PyData.depthAll (pdL xs)) = _
    rw [dep_plain h2.1, depL_plain h2.2]; rfl
end
def small (x : PV) : Bool := plain x && decide (pdep x ≤ 60)
theorem small_iff {x : PV} : small x = true ↔ plain x = true ∧ pdep x ≤ 60 := by simp [small]
theorem shaped_small {x : PV} (h : small x = true) : SeqAt.shaped (pd x) = true := by
  obtain ⟨h1, h2⟩ := small_iff.mp h
  unfold SeqAt.shaped
  rw [lay_plain h1, dep_plain h1, decide_eq_true (by omega)]; rfl

mutual
/-- data with lists: as the logical heap tells them -/
inductive DataOf (L : LHp) : PV → PyData → Prop
  | non : DataOf L .non .none
  | bl (b : Bool) : DataOf L (.bl b) (.bool b)
  | int (i : Int) : DataOf L (.int i) (.int i)
  | str (x : Str) : DataOf L (.str x) (.str x)
  | tup {xs : List PV} {ds : List PyData} : DataAll L xs ds → DataOf L (.tup xs) (.tuple ds)
  | rol {xs : List PV} {ds : List PyData} : DataAll L xs ds → DataOf L (.rol xs) (.list ds)
  | lst {a : Addr} {xs : List PV} {ds : List PyData} : L a = some (.lst xs) → DataAll L xs ds → DataOf L (.ref a) (.list ds)
inductive DataAll (L : LHp) : List PV → List PyData → Prop
  | nil : DataAll L [] []
  | cons {x : PV} {d : PyData} {xs : List PV} {ds : List PyData} : DataOf L x d → DataAll L xs ds → DataAll L (x :: xs) (d :: ds)
end
mutual
theorem DataOf.plain {L : LHp} : ∀ {x : PV}, DP.plain x = true → DataOf L x (pd x)
  | .int i, _ => .int i
  | .non, _ => .non
  | .str x, h => .str x
  | .tup xs, h => .tup (DataAll.plain (by simpa [DP.plain] using h))
  | .bl _, hx => by cases hx
  | .ref _, hx => by cases hx
  | .ty _, hx => by cases hx
  | .rol _, hx => by cases hx
theorem DataAll.plain {L : LHp} : ∀ {x : List PV}, DP.plainL x = true → DataAll L x (pdL x)
  | [], _ => .nil
  | x :: xs, h => by
    have h2 : DP.plain x = true ∧ DP.plainL xs = true := by simpa [DP.plainL] using h
    exact .cons (DataOf.plain h2.1) (DataAll.plain h2.2)
end
mutual
theorem DataOf.dp {K : PySem.W.Frag} {H : Hp} {L : LHp} (rh : RelHp K H L) : ∀ {x : PV} {d : PyData} {v : V}, DataOf L x d → Rep K H x v → Dp K H v d
  | _, _, _, .non, r => by cases r; exact .non
  | _, _, _, .bl b, r => by cases r; exact .bl b
  | _, _, _, .int i, r => by cases r; exact .int i
  | _, _, _, .str x, r => by cases r; exact .str x
  | _, _, _, .tup h, r => by
    obtain ⟨a, vs, rfl, h1, h2⟩ := r.tup_inv
    exact .tup (sqT_of h1) (DataAll.dp rh h h2)
  | _, _, _, .rol h, r => by
    obtain ⟨a, vs, rfl, h1, h2⟩ := r.rol_inv
    exact .lst h1.sq (DataAll.dp rh h h2)
  | _, _, _, .lst e h, r => by
    cases r.ref_inv
    obtain ⟨vs, h1, h2⟩ := rh.lst e
    exact .lst (sqL_of h1) (DataAll.dp rh h h2)
theorem DataAll.dp {K : PySem.W.Frag} {H : Hp} {L : LHp} (rh : RelHp K H L) : ∀ {x : List PV} {d : List PyData} {v : List V}, DataAll L x d → RepL K H x v → DpAll K H v d
  | _, _, _, .nil, r => by cases r; exact .nil
  | _, _, _, .cons h t, r => by
    cases r with
    | cons r1 r2 => exact .cons (DataOf.dp rh h r1) (DataAll.dp rh t r2)
end

/-! ### == and != -/
def xnot (neg b : Bool) : Bool := if neg then !b else b
def eqW (neg : Bool) : LR2 := fun x y L Q => match x, y with
  | .int i, .int j => Q (.bl (xnot neg (decide (i = j)))) L
  | .bl a, .bl b => Q (.bl (xnot neg (decide (a = b)))) L
  | _, _ => (small x = true ∧ small y = true ∧ Q (.bl (xnot neg (decide (x = y)))) L) ∨
      ∃ d e, DataOf L x d ∧ DataOf L y e ∧ SeqAt.shaped d = true ∧ SeqAt.shaped e = true ∧ Q (.bl (xnot neg (PyData.eqv d e))) L
theorem eqW_data {neg : Bool} {x y : PV} {L : LHp} {Q : K1} (h : eqW neg x y L Q) : ∃ d e, DataOf L x d ∧ DataOf L y e ∧ SeqAt.shaped d = true ∧ SeqAt.shaped e = true ∧ Q (.bl (xnot neg (PyData.eqv d e))) L := by
  have gen : ((small x = true ∧ small y = true ∧ Q (.bl (xnot neg (decide (x = y)))) L) ∨
      ∃ d e, DataOf L x d ∧ DataOf L y e ∧ SeqAt.shaped d = true ∧ SeqAt.shaped e = true ∧ Q (.bl (xnot neg (PyData.eqv d e))) L) → ∃ d e, DataOf L x d ∧ DataOf L y e ∧ SeqAt.shaped d = true ∧ SeqAt.shaped e = true ∧ Q (.bl (xnot neg (PyData.eqv d e))) L := by
    rintro (⟨h1, h2, q⟩ | h)
    · refine ⟨pd x, pd y, .plain (small_iff.mp h1).1, .plain (small_iff.mp h2).1, shaped_small h1, shaped_small h2, ?_⟩
      rw [eqv_plain (small_iff.mp h1).1 (small_iff.mp h2).1]; exact q
    · exact h
  cases x with
  | int i =>
    cases y with
    | int j =>
      refine ⟨.int i, .int j, .int i, .int j, rfl, rfl, ?_⟩
      have e : PyData.eqv (.int i) (.int j) = decide (i = j) := by show (i == j) = _; rw [Bool.eq_iff_iff]; simp
      rw [e]; exact h
    | _ => exact gen h
  | bl a =>
    cases y with
    | bl b =>
      refine ⟨.bool a, .bool b, .bl a, .bl b, rfl, rfl, ?_⟩
      have e : PyData.eqv (.bool a) (.bool b) = decide (a = b) := by show (a == b) = _; rw [Bool.eq_iff_iff]; simp
      rw [e]; exact h
    | _ => exact gen h
  | _ => exact gen h
section
variable {X : Cx}
theorem eq_up (hu : X.A.units + 64 < cLine) : OpR X (compareOp .Eq) (up2 X.K (eqW false)) := by
  refine OpR.imp (op_eqD hu) fun x y H Q ⟨px, py, L, Q0, rx, ry, rh, w, af⟩ => ?_
  obtain ⟨d, e, h1, h2, s1, s2, q⟩ := eqW_data w
  exact ⟨d, e, h1.dp rh rx, h2.dp rh ry, s1, s2, af _ _ _ _ q (.refl _) rh (.bl _)⟩
theorem ne_up (hu : X.A.units + 64 < cLine) : OpR X (compareOp .NotEq) (up2 X.K (eqW true)) := by
  refine OpR.imp (op_neD hu) fun x y H Q ⟨px, py, L, Q0, rx, ry, rh, w, af⟩ => ?_
  obtain ⟨d, e, h1, h2, s1, s2, q⟩ := eqW_data w
  exact ⟨d, e, h1.dp rh rx, h2.dp rh ry, s1, s2, af _ _ _ _ q (.refl _) rh (.bl _)⟩
end

/-! ### < and its like, of ints, texts and tuples of such -/
/-- as Python does it: the first pair that differs is asked by the operator itself -/
inductive QOp where
  | lt | le | gt | ge
  deriving DecidableEq
def QOp.op : QOp → CmpOp
  | .lt => .Lt | .le => .LtE | .gt => .Gt | .ge => .GtE
def QOp.int : QOp → Int → Int → Bool
  | .lt, i, j => decide (i < j)
  | .le, i, j => decide (i ≤ j)
  | .gt, i, j => decide (j < i)
  | .ge, i, j => decide (j ≤ i)
def QOp.len : QOp → Nat → Nat → Bool
  | .lt, i, j => decide (i < j)
  | .le, i, j => decide (i ≤ j)
  | .gt, i, j => decide (j < i)
  | .ge, i, j => decide (j ≤ i)
theorem QOp.len_succ (o : QOp) (i j : Nat) : o.len (i + 1) (j + 1) = o.len i j := by cases o <;> simp [QOp.len]
mutual
/-- what may be compared -/
def cb : PV → PV → Bool
  | .int _, .int _ => true
  | .tup xs, .tup ys => cbL xs ys
  | _, _ => false
def cbL : List PV → List PV → Bool
  | x :: xs, y :: ys => cb x y && cbL xs ys
  | _, _ => true
end
mutual
def qB (o : QOp) : PV → PV → Bool
  | .int i, .int j => o.int i j
  | .tup xs, .tup ys => qBL o xs ys
  | _, _ => false
def qBL (o : QOp) : List PV → List PV → Bool
  | [], ys => o.len 0 ys.length
  | _ :: xs, [] => o.len (xs.length + 1) 0
  | x :: xs, y :: ys => if x = y then qBL o xs ys else qB o x y
end
def ordW (o : QOp) : LR2 := fun x y L Q => match x, y with
  | .int i, .int j => Q (.bl (o.int i j)) L
  | _, _ => small x = true ∧ small y = true ∧ cb x y = true ∧ Q (.bl (qB o x y)) L
theorem ordW_inv {o : QOp} {x y : PV} {L : LHp} {Q : K1} (h : ordW o x y L Q) : small x = true ∧ small y = true ∧ cb x y = true ∧ Q (.bl (qB o x y)) L := by
  cases x with
  | int i =>
    cases y with
    | int j => exact ⟨rfl, rfl, by unfold cb; rfl, by unfold qB; exact h⟩
    | _ => exact h
  | _ => exact h
theorem lexAt_shift {e r : Nat → Bool} {z : Bool} : ∀ (n i : Nat), Ob.lexAt e r z (i + 1) n = Ob.lexAt (fun j => e (j + 1)) (fun j => r (j + 1)) z i n
  | 0, _ => rfl
  | n + 1, i => by rw [Ob.lexAt_succ, Ob.lexAt_succ, lexAt_shift n (i + 1)]
theorem lexAt_q (o : QOp) : ∀ (xs ys : List PV), Ob.lexAt (fun j => decide (xs.getD j .non = ys.getD j .non)) (fun j => qB o (xs.getD j .non) (ys.getD j .non)) (o.len xs.length ys.length) 0 (min xs.length ys.length) = qBL o xs ys
  | [], ys => by simp [Ob.lexAt_zero, qBL]
  | x :: xs, [] => by simp [Ob.lexAt_zero, qBL]
  | x :: xs, y :: ys => by
    have e1 : min (x :: xs).length (y :: ys).length = min xs.length ys.length + 1 := by simp only [List.length_cons]; omega
    rw [e1, Ob.lexAt_succ, lexAt_shift, List.length_cons, List.length_cons, o.len_succ]
    have ih := lexAt_q o xs ys
    simp only [List.getD_cons_succ, List.getD_cons_zero, decide_eq_true_eq] at ih ⊢
    rw [ih]
    conv => rhs; unfold qBL
theorem cbL_get : ∀ {xs ys : List PV} {j : Nat} {x y : PV}, cbL xs ys = true → xs[j]? = some x → ys[j]? = some y → cb x y = true
  | [], _, _, _, _, _, h1, _ => by simp at h1
  | _ :: _, [], _, _, _, _, _, h2 => by simp at h2
  | a :: xs, b :: ys, 0, x, y, h, h1, h2 => by
    simp at h1 h2; subst h1; subst h2
    have h' : cb a b = true ∧ cbL xs ys = true := by simpa [cbL] using h
    exact h'.1
  | a :: xs, b :: ys, j + 1, x, y, h, h1, h2 => by
    have h' : cb a b = true ∧ cbL xs ys = true := by simpa [cbL] using h
    exact cbL_get (j := j) h'.2 (by simpa using h1) (by simpa using h2)
theorem plainL_get : ∀ {xs : List PV} {j : Nat} {x : PV}, plainL xs = true → xs[j]? = some x → plain x = true
  | [], _, _, _, h1 => by simp at h1
  | a :: xs, 0, x, h, h1 => by
    simp at h1; subst h1
    have h' : plain a = true ∧ plainL xs = true := by simpa [plainL] using h
    exact h'.1
  | a :: xs, j + 1, x, h, h1 => by
    have h' : plain a = true ∧ plainL xs = true := by simpa [plainL] using h
    exact plainL_get (j := j) h'.2 (by simpa using h1)
theorem pdepL_get : ∀ {xs : List PV} {j : Nat} {x : PV}, xs[j]? = some x → pdep x ≤ pdepL xs
  | [], _, _, h1 => by simp at h1
  | a :: xs, 0, x, h1 => by
    simp at h1; subst h1
    show _ ≤ max (pdep a) (pdepL xs)
    omega
  | a :: xs, j + 1, x, h1 => by
    have := pdepL_get (xs := xs) (j := j) (x := x) (by simpa using h1)
    show _ ≤ max (pdep a) (pdepL xs)
    omega
theorem rc_tup (o : QOp) {A : Around} {s : Shared} {l b : Addr} {items items2 : Array Value} {e r : Nat → Bool} (hl : IsTup s.heap l items) (hb : IsTup s.heap b items2) (hu : A.units < cLine)
    (he : ∀ j (h1 : j < items.size) (h2 : j < items2.size), SeqAt.EqAt A.in1 s items[j] items2[j] (e j))
    (hr : ∀ j (h1 : j < items.size) (h2 : j < items2.size), e j = false → Ob.RcOp o.op A.in1 s items[j] items2[j] (r j)) :
    Ob.RcOp o.op A s (.ref l) (.ref b) (Ob.lexAt e r (o.len items.size items2.size) 0 (min items.size items2.size)) := by
  cases o with
  | lt => exact Ob.RcOp.tuples_lt hl hb hu he hr
  | le => exact Ob.RcOp.tuples_le hl hb hu he hr
  | gt => exact Ob.RcOp.tuples_gt hl hb hu he hr
  | ge => exact Ob.RcOp.tuples_ge hl hb hu he hr
theorem rc_int (o : QOp) {A : Around} {s : Shared} (a b : Int) (t u : Tok) : Ob.RcOp o.op A s (.int a t) (.int b u) (o.int a b) := by
  cases o with
  | lt => exact Ob.RcOp.lt_int a b t u
  | le => exact Ob.RcOp.le_int a b t u
  | gt => exact Ob.RcOp.gt_int a b t u
  | ge => exact Ob.RcOp.ge_int a b t u
theorem rc_at {X : Cx} {pins : List (Addr × Obj)} {σ : St} {H : Hp} {s : Shared} (I : Inv X pins σ H s) (o : QOp) (n : Nat) : ∀ (x y : PV) (A : Around) (vx vy : V) (v u : Value),
    pdep x ≤ n → plain x = true → plain y = true → cb x y = true → pdep y ≤ n → Rep X.K H x vx → Rep X.K H y vy → RelV vx v → RelV vy u → A.units + n + 1 < cLine → Ob.RcOp o.op A s v u (qB o x y) := by
  induction n with
  | zero =>
    intro x y A vx vy v u d1 p1 p2 c d2 r1 r2 w1 w2 hu
    cases x with
    | int i =>
      cases y with
      | int j =>
        obtain rfl := r1.int_inv
        obtain rfl := r2.int_inv
        obtain ⟨t, rfl⟩ := w1
        obtain ⟨t', rfl⟩ := w2
        unfold qB
        exact rc_int o i j t t'
      | _ => unfold cb at c; cases c
    | tup xs => exact absurd d1 (by show ¬ (pdepL xs + 1 ≤ 0); omega)
    | _ => unfold cb at c; cases c
  | succ n ih =>
    intro x y A vx vy v u d1 p1 p2 c d2 r1 r2 w1 w2 hu
    cases x with
    | int i =>
      cases y with
      | int j =>
        obtain rfl := r1.int_inv
        obtain rfl := r2.int_inv
        obtain ⟨t, rfl⟩ := w1
        obtain ⟨t', rfl⟩ := w2
        unfold qB
        exact rc_int o i j t t'
      | _ => unfold cb at c; cases c
    | tup xs =>
      cases y with
      | tup ys =>
        obtain ⟨a, vs, rfl, ha, ra⟩ := r1.tup_inv
        obtain ⟨b, ws, rfl, hb, rb⟩ := r2.tup_inv
        obtain rfl : v = .ref a := w1
        obtain rfl : u = .ref b := w2
        obtain ⟨its, rv, p, _⟩ := I.tuple (sqT_of ha)
        obtain ⟨its2, rv2, p', _⟩ := I.tuple (sqT_of hb)
        have hc : cbL xs ys = true := by unfold cb at c; exact c
        have hp1 : plainL xs = true := by unfold plain at p1; exact p1
        have hp2 : plainL ys = true := by unfold plain at p2; exact p2
        have hd1 : pdepL xs ≤ n := by have : pdepL xs + 1 ≤ n + 1 := d1; omega
        have hd2 : pdepL ys ≤ n := by have : pdepL ys + 1 ≤ n + 1 := d2; omega
        have l1 : its.toArray.size = xs.length := by rw [List.size_toArray, ← rv.length, ra.length]
        have l2 : its2.toArray.size = ys.length := by rw [List.size_toArray, ← rv2.length, rb.length]
        have at1 : ∀ (j : Nat) (h1 : j < its.toArray.size), ∃ (q : PV) (w : V), xs[j]? = some q ∧ xs.getD j .non = q ∧ Rep X.K H q w ∧ RelV w its.toArray[j] := fun j h1 => by
          obtain ⟨q, hq⟩ : ∃ q, xs[j]? = some q := ⟨_, List.getElem?_eq_getElem (by omega)⟩
          obtain ⟨w, hw, rw'⟩ := ra.get hq
          obtain ⟨z, hz, rz⟩ := rv.get hw
          refine ⟨q, w, hq, by rw [List.getD_eq_getElem?_getD, hq]; rfl, rw', ?_⟩
          have : its.toArray[j] = z := by
            have h2 : j < its.length := by simpa using h1
            rw [List.getElem?_eq_getElem h2] at hz
            simpa using Option.some.inj hz
          rw [this]; exact rz
        have at2 : ∀ (j : Nat) (h1 : j < its2.toArray.size), ∃ (q : PV) (w : V), ys[j]? = some q ∧ ys.getD j .non = q ∧ Rep X.K H q w ∧ RelV w its2.toArray[j] := fun j h1 => by
          obtain ⟨q, hq⟩ : ∃ q, ys[j]? = some q := ⟨_, List.getElem?_eq_getElem (by omega)⟩
          obtain ⟨w, hw, rw'⟩ := rb.get hq
          obtain ⟨z, hz, rz⟩ := rv2.get hw
          refine ⟨q, w, hq, by rw [List.getD_eq_getElem?_getD, hq]; rfl, rw', ?_⟩
          have : its2.toArray[j] = z := by
            have h2 : j < its2.length := by simpa using h1
            rw [List.getElem?_eq_getElem h2] at hz
            simpa using Option.some.inj hz
          rw [this]; exact rz
        have R := rc_tup o (A := A) (s := s) (e := fun j => decide (xs.getD j .non = ys.getD j .non)) (r := fun j => qB o (xs.getD j .non) (ys.getD j .non)) p p' (by omega) (fun j h1 h2 => by
          obtain ⟨q, w, e1, e2, rq, rw1⟩ := at1 j h1
          obtain ⟨q', w', e1', e2', rq', rw1'⟩ := at2 j h2
          rw [e2, e2', ← eqv_plain (plainL_get hp1 e1) (plainL_get hp2 e1')]
          have rh0 : RelHp X.K H (fun _ => none) := fun a o e => by cases e
          obtain ⟨as, r1⟩ := Dp.reads I (pd q) w _ ((DataOf.plain (L := fun _ => none) (plainL_get hp1 e1)).dp rh0 rq) rw1
          obtain ⟨bs, r2⟩ := Dp.reads I (pd q') w' _ ((DataOf.plain (L := fun _ => none) (plainL_get hp2 e1')).dp rh0 rq') rw1'
          refine SeqAt.eqAt_reads _ _ A.in1 s _ _ as bs r1 r2 (lay_plain (plainL_get hp1 e1)) (lay_plain (plainL_get hp2 e1')) ?_
          rw [dep_plain (plainL_get hp1 e1), dep_plain (plainL_get hp2 e1')]
          have := pdepL_get e1
          show A.units + 1 + _ < cLine
          omega) (fun j h1 h2 _ => by
          obtain ⟨q, w, e1, e2, rq, rw1⟩ := at1 j h1
          obtain ⟨q', w', e1', e2', rq', rw1'⟩ := at2 j h2
          rw [e2, e2']
          have := pdepL_get e1
          have := pdepL_get e1'
          exact ih q q' A.in1 w w' _ _ (by omega) (plainL_get hp1 e1) (plainL_get hp2 e1') (cbL_get hc e1 e1') (by omega) rq rq' rw1 rw1' (by show A.units + 1 + n + 1 < cLine; omega))
        rw [l1, l2, lexAt_q] at R
        unfold qB
        exact R
      | _ => unfold cb at c; cases c
    | _ => unfold cb at c; cases c
section
variable {X : Cx}
theorem ord_up (o : QOp) (hu : X.A.units + 64 < cLine) : OpR X (compareOp o.op) (up2 X.K (ordW o)) := by
  intro pins s σ H x y v u Q I rx ry ⟨px, py, L, Q0, r1, r2, rh, w, af⟩
  obtain ⟨s1, s2, c, q⟩ := ordW_inv w
  have R := rc_at I o 60 px py X.A x y v u (small_iff.mp s1).2 (small_iff.mp s1).1 (small_iff.mp s2).1 c (small_iff.mp s2).2 r1 r2 rx ry (by omega)
  have z : wpAny (model X.prog X.w) X.A (richCompare o.op v u) (EP X pins σ Q) X.xe s := R X.prog X.w X.xe (EP X pins σ Q) ⟨.bl _, H, I, rfl, af _ _ _ _ q (.refl _) rh (.bl _)⟩
  cases o <;> exact z
end
end DP

set_option Elab.async false
set_option linter.all false
set_option maxRecDepth 100000
set_option maxHeartbeats 4000000
/-! dicts, membership, subscripts -/
namespace DP
open PySem PySem.Spec PyProof.Rows L2

/-! ### dicts -/
def toKey : PV → Option Key
  | .int i => some (.inl i)
  | .str x => some (.inr x)
  | _ => none
def toKeys : List PV → Option (List Key)
  | [] => some []
  | x :: xs => match toKey x, toKeys xs with
    | some k, some ks => some (k :: ks)
    | _, _ => none
def toKeyT : PV → Option (List Key)
  | .tup xs => toKeys xs
  | _ => none
theorem toKey_eq {x : PV} {k : Key} (h : toKey x = some k) : x = keyP k := by
  cases x <;> first | (cases h; rfl) | cases h
theorem toKeys_eq : ∀ {x : List PV} {k : List Key}, toKeys x = some k → x = k.map keyP
  | [], _, h => by cases h; rfl
  | x :: xs, k, h => by
    unfold toKeys at h
    cases e1 : toKey x with
    | none => rw [e1] at h; cases h
    | some a =>
      cases e2 : toKeys xs with
      | none => rw [e1, e2] at h; cases h
      | some as =>
        rw [e1, e2] at h; cases h
        rw [toKey_eq e1, toKeys_eq e2]; rfl
theorem toKeyT_eq {x : PV} {k : List Key} (h : toKeyT x = some k) : x = keyT k := by
  cases x <;> first | (rw [toKeys_eq (show toKeys _ = some k from h)]; rfl) | cases h
theorem toKey_keyP (k : Key) : toKey (keyP k) = some k := by cases k <;> rfl
theorem toKeyT_keyT (k : List Key) : toKeyT (keyT k) = some k := by
  show toKeys (k.map keyP) = some k
  induction k with
  | nil => rfl
  | cons a r ih => show (match toKey (keyP a), toKeys (r.map keyP) with | some k, some ks => some (k :: ks) | _, _ => none) = _; rw [toKey_keyP, ih]
/-- the key fits the keys that are there -/
def KeyFit (kvs : List (PV × PV)) (k : PV) : Prop :=
  (∃ c, toKey k = some c ∧ ∀ p ∈ kvs, (toKey p.1).isSome = true) ∨ ∃ c, toKeyT k = some c ∧ ∀ p ∈ kvs, (toKeyT p.1).isSome = true
def dlook (kvs : List (PV × PV)) (k : PV) : Option PV := (kvs.find? fun p => decide (p.1 = k)).map (·.2)
def dput (kvs : List (PV × PV)) (k v : PV) : List (PV × PV) :=
  if (kvs.any fun p => decide (p.1 = k)) = true then kvs.map (fun p => if p.1 = k then (p.1, v) else p) else kvs ++ [(k, v)]
section
variable {κ : Type} [DecidableEq κ] {kp : κ → PV} {K : PySem.W.Frag} {H : Hp} {kvs : List (PV × PV)} {ks : List (κ × V)}
theorem RepD.look (hi : ∀ a b, kp a = kp b → a = b) (k : κ) : ∀ {kvs : List (PV × PV)} {ks : List (κ × V)}, RepD kp K H kvs ks →
    (match dlook kvs (kp k), valV ks k with | some x, some v => Rep K H x v | none, none => True | _, _ => False)
  | _, _, .nil => trivial
  | p :: r, q :: t, .cons ⟨e, rp⟩ rest => by
    by_cases h : q.1 = k
    · have e1 : dlook (p :: r) (kp k) = some p.2 := by simp [dlook, List.find?_cons, e, h]
      rw [e1, valV_pos h]; exact rp
    · have e1 : dlook (p :: r) (kp k) = dlook r (kp k) := by
        have : ¬ p.1 = kp k := fun z => h (hi _ _ (e.symm.trans z))
        simp [dlook, List.find?_cons, this]
      rw [e1, valV_neg h]; exact RepD.look hi k rest
theorem RepD.any (hi : ∀ a b, kp a = kp b → a = b) (k : κ) : ∀ {kvs : List (PV × PV)} {ks : List (κ × V)}, RepD kp K H kvs ks →
    (kvs.any fun p => decide (p.1 = kp k)) = ks.any fun q => decide (q.1 = k)
  | _, _, .nil => rfl
  | p :: r, q :: t, .cons ⟨e, rp⟩ rest => by
    rw [List.any_cons, List.any_cons, RepD.any hi k rest]
    congr 1
    rw [Bool.eq_iff_iff, decide_eq_true_iff, decide_eq_true_iff, e]
    exact ⟨fun z => hi _ _ z, fun z => by rw [z]⟩
theorem RepD.put (hi : ∀ a b, kp a = kp b → a = b) (k : κ) {x : PV} {v : V} (rx : Rep K H x v) (r : RepD kp K H kvs ks) : RepD kp K H (dput kvs (kp k) x) (putK ks k v) := by
  unfold dput putK
  rw [r.any hi k]
  by_cases h : (ks.any fun q => decide (q.1 = k)) = true
  · rw [if_pos h, if_pos h]
    clear h
    induction r with
    | nil => exact .nil
    | cons h t ih =>
      rename_i p q _ _
      refine .cons ?_ ih
      obtain ⟨e, rp⟩ := h
      dsimp only
      by_cases hq : q.1 = k
      · rw [if_pos hq, if_pos (by rw [e, hq])]; exact ⟨e, rx⟩
      · rw [if_neg hq, if_neg (fun z => hq (hi _ _ (e.symm.trans z)))]; exact ⟨e, rp⟩
  · rw [if_neg h, if_neg h]
    clear h
    induction r with
    | nil => exact .cons ⟨rfl, rx⟩ .nil
    | cons h t ih => exact .cons h ih
end
theorem RepD.toK {K : PySem.W.Frag} {H : Hp} : ∀ {kvs : List (PV × PV)} {ks : List (List Key × V)}, RepD keyT K H kvs ks → (∀ p ∈ kvs, (toKey p.1).isSome = true) → kvs = [] ∧ ks = []
  | _, _, .nil, _ => ⟨rfl, rfl⟩
  | p :: _, q :: _, .cons ⟨e, _⟩ _, h => by
    have := h p List.mem_cons_self
    rw [e] at this; cases this
theorem RepD.toT {K : PySem.W.Frag} {H : Hp} : ∀ {kvs : List (PV × PV)} {ks : List (Key × V)}, RepD keyP K H kvs ks → (∀ p ∈ kvs, (toKeyT p.1).isSome = true) → kvs = [] ∧ ks = []
  | _, _, .nil, _ => ⟨rfl, rfl⟩
  | p :: _, q :: _, .cons ⟨e, _⟩ _, h => by
    have := h p List.mem_cons_self
    rw [e] at this
    cases hq : q.1 with
    | inl i => rw [hq] at this; cases this
    | inr i => rw [hq] at this; cases this

section
variable {X : Cx} {pins : List (Addr × Obj)} {σ : St} {H : Hp} {L : LHp} {s : Shared} {a : Addr} {kvs : List (PV × PV)}
/-- the empty dict is of both kinds -/
theorem conv_kt (I : Inv X pins σ H s) (e : H a = some (.dK [])) : Inv X pins σ (upd H a (.dT [])) s := by
  obtain ⟨z, hd, vs, rel, dd⟩ := dk_of I.hok e
  cases rel
  obtain ⟨o, es, ep, h1, h2, h3, h4, h5, _⟩ := dd
  have he : es.toList = [] := by
    have q : PySem.Pairs (mixKind X.prog X.w) es.toList [] := h5
    cases hh : es.toList with
    | nil => rfl
    | cons x r => rw [hh] at q; cases q
  have := I.write (x := a) (e := a) (t' := s.toks) (o := .dT []) (h' := s.heap) (by rw [e]; trivial) (.inl rfl) (fun _ _ _ q => q) ⟨o, h1⟩
    ⟨Nat.zero_le _, hd, [], .nil, o, es, ep, h1, h2, h3, by rw [he]; rfl, List.nodup_nil⟩
  exact this
theorem conv_tk (I : Inv X pins σ H s) (e : H a = some (.dT [])) : Inv X pins σ (upd H a (.dK [])) s := by
  obtain ⟨z, hd, xs, rel, o, es, ep, h1, h2, h3, h4, _⟩ := (show ObjOk X.prog X.w H s.heap a (.dT []) from I.hok a _ e)
  cases rel
  have h4' : es.toList = [] := h4
  have : es = #[] := by
    apply Array.ext'
    rw [h4']
  subst this
  exact I.write (x := a) (e := a) (t' := s.toks) (o := .dK []) (h' := s.heap) (by rw [e]; trivial) (.inl rfl) (fun _ _ _ q => q) ⟨o, h1⟩
    ⟨Nat.zero_le _, hd, [], .nil, o, #[], ep, h1, h2, h3, fun en hen => by simp at hen, .nil, List.nodup_nil⟩

/-- as a dict of one kind -/
theorem dct_K (I : Inv X pins σ H s) (rh : RelHp X.K H L) (e : L a = some (.dct kvs)) (hk : ∀ p ∈ kvs, (toKey p.1).isSome = true) :
    ∃ H' ks, Inv X pins σ H' s ∧ ExtT H H' ∧ RelHp X.K H' L ∧ H' a = some (.dK ks) ∧ RepD keyP X.K H' kvs ks := by
  rcases rh a _ e with ⟨ks, h1, h2⟩ | ⟨ks, h1, h2⟩
  · exact ⟨H, ks, I, .refl _, rh, h1, h2⟩
  · obtain ⟨rfl, rfl⟩ := h2.toK hk
    have h1 : H a = some (.dT []) := h1
    refine ⟨upd H a (.dK []), [], conv_tk I h1, .put h1 trivial, fun b u eb => ?_, upd_same, .nil⟩
    by_cases hb : b = a
    · subst hb; rw [e] at eb; cases eb
      exact .inl ⟨[], upd_same, .nil⟩
    · exact (rh b u eb).stay (.put h1 trivial) (upd_ne hb)
theorem dct_T (I : Inv X pins σ H s) (rh : RelHp X.K H L) (e : L a = some (.dct kvs)) (hk : ∀ p ∈ kvs, (toKeyT p.1).isSome = true) :
    ∃ H' ks, Inv X pins σ H' s ∧ ExtT H H' ∧ RelHp X.K H' L ∧ H' a = some (.dT ks) ∧ RepD keyT X.K H' kvs ks := by
  rcases rh a _ e with ⟨ks, h1, h2⟩ | ⟨ks, h1, h2⟩
  · obtain ⟨rfl, rfl⟩ := h2.toT hk
    have h1 : H a = some (.dK []) := h1
    refine ⟨upd H a (.dT []), [], conv_kt I h1, .put h1 trivial, fun b u eb => ?_, upd_same, .nil⟩
    by_cases hb : b = a
    · subst hb; rw [e] at eb; cases eb
      exact .inr ⟨[], upd_same, .nil⟩
    · exact (rh b u eb).stay (.put h1 trivial) (upd_ne hb)
  · exact ⟨H, ks, I, .refl _, rh, h1, h2⟩
theorem repT_key {K : PySem.W.Frag} {H : Hp} {ks : List Key} {v : V} (r : Rep K H (keyT ks) v) : ∃ b, v = .ref b ∧ H b = some (.tup (ks.map kV)) := by
  obtain ⟨b, vs, rfl, h1, h2⟩ := r.tup_inv
  refine ⟨b, rfl, ?_⟩
  have : vs = ks.map kV := by
    clear h1 r
    induction ks generalizing vs with
    | nil => cases h2; rfl
    | cons k r ih =>
      cases h2 with
      | cons r1 r2 =>
        rw [ih _ r2]
        cases k with
        | inl i => rw [r1.int_inv]; rfl
        | inr i => rw [r1.str_inv]; rfl
  rw [h1, this]
theorem repK_key {K : PySem.W.Frag} {H : Hp} {k : Key} {v : V} (r : Rep K H (keyP k) v) : v = kV k := by
  cases k with
  | inl i => rw [r.int_inv]; rfl
  | inr i => rw [r.str_inv]; rfl
/-- what a dict holds at a key: HandS's own word for it -/
theorem dct_get {k : PV} {y : V} (I : Inv X pins σ H s) (rh : RelHp X.K H L) (e : L a = some (.dct kvs)) (f : KeyFit kvs k) (rk : Rep X.K H k y) :
    ∃ H' o, Inv X pins σ H' s ∧ ExtT H H' ∧ RelHp X.K H' L ∧ DGet H' a y o ∧ (match dlook kvs k, o with | some x, some v => Rep X.K H' x v | none, none => True | _, _ => False) := by
  rcases f with ⟨c, hc, hk⟩ | ⟨c, hc, hk⟩
  · obtain ⟨H', ks, I', x, rh', h1, h2⟩ := dct_K I rh e hk
    have ek := toKey_eq hc
    subst ek
    rw [repK_key rk]
    exact ⟨H', _, I', x, rh', .k h1, h2.look (fun _ _ => keyP_inj) c⟩
  · obtain ⟨H', ks, I', x, rh', h1, h2⟩ := dct_T I rh e hk
    have ek := toKeyT_eq hc
    subst ek
    obtain ⟨b, rfl, hb⟩ := repT_key (rk.ext x)
    exact ⟨H', _, I', x, rh', .t h1 hb, h2.look (fun _ _ => keyT_inj) c⟩
/-- and a store -/
theorem dct_put {k x : PV} {y v : V} (I : Inv X pins σ H s) (rh : RelHp X.K H L) (e : L a = some (.dct kvs)) (f : KeyFit kvs k) (hl : kvs.length < 16777216) (rk : Rep X.K H k y) (rx : Rep X.K H x v) :
    ∃ H' H2, Inv X pins σ H' s ∧ ExtT H H2 ∧ DPut H' a y v H2 ∧ RelHp X.K H2 (lupd L a (.dct (dput kvs k x))) := by
  have hz : ∀ n, n = kvs.length → n < sizeLine := fun n e => by rw [sizeLine_eq, e]; exact hl
  rcases f with ⟨c, hc, hk⟩ | ⟨c, hc, hk⟩
  · obtain ⟨H', ks, I', xt, rh', h1, h2⟩ := dct_K I rh e hk
    have ek := toKey_eq hc
    subst ek
    rw [repK_key rk]
    have x2 : ExtT H' (upd H' a (.dK (putK ks c v))) := .put h1 trivial
    refine ⟨H', _, I', xt.trans x2, .k h1 (hz _ (Paired.length h2).symm), rh'.upd_any x2 (.inl ⟨_, upd_same, ?_⟩)⟩
    exact (RepD.put (fun _ _ => keyP_inj) c (rx.ext xt) h2).ext x2
  · obtain ⟨H', ks, I', xt, rh', h1, h2⟩ := dct_T I rh e hk
    have ek := toKeyT_eq hc
    subst ek
    obtain ⟨b, rfl, hb⟩ := repT_key (rk.ext xt)
    have x2 : ExtT H' (upd H' a (.dT (putK ks c v))) := .put h1 trivial
    refine ⟨H', _, I', xt.trans x2, .t h1 hb (hz _ (Paired.length h2).symm), rh'.upd_any x2 (.inr ⟨_, upd_same, ?_⟩)⟩
    exact (RepD.put (fun _ _ => keyT_inj) c (rx.ext xt) h2).ext x2
end

/-! ### in, not in -/
def memW (neg : Bool) (x : PV) (xs : List PV) (L : LHp) (Q : K1) : Prop :=
  (small x = true ∧ small (.tup xs) = true ∧ Q (.bl (xnot neg (decide (x ∈ xs)))) L) ∨
  ∃ d ds, DataOf L x d ∧ DataAll L xs ds ∧ SeqAt.shaped d = true ∧ SeqAt.shaped (.tuple ds) = true ∧ Q (.bl (xnot neg (ds.any fun z => PyData.eqv z d))) L
def inW (neg : Bool) : LR2 := fun x c L Q => match c with
  | .tup xs => memW neg x xs L Q
  | .rol xs => memW neg x xs L Q
  | .ref a => (∃ xs, L a = some (.lst xs) ∧ memW neg x xs L Q) ∨ ∃ kvs, L a = some (.dct kvs) ∧ KeyFit kvs x ∧ Q (.bl (xnot neg (dlook kvs x).isSome)) L
  | _ => False
theorem any_plain {x : PV} (hx : plain x = true) : ∀ {xs : List PV}, plainL xs = true → ((pdL xs).any fun z => PyData.eqv z (pd x)) = decide (x ∈ xs)
  | [], _ => by simp [pdL]
  | y :: ys, h => by
    have h2 : plain y = true ∧ plainL ys = true := by simpa [plainL] using h
    show (PyData.eqv (pd y) (pd x) || (pdL ys).any _) = _
    rw [any_plain hx h2.2, eqv_plain h2.1 hx, Bool.eq_iff_iff, Bool.or_eq_true_iff, decide_eq_true_iff, decide_eq_true_iff, decide_eq_true_iff, List.mem_cons]
    exact ⟨fun z => z.imp Eq.symm id, fun z => z.imp Eq.symm id⟩
theorem memW_data {neg : Bool} {x : PV} {xs : List PV} {L : LHp} {Q : K1} (h : memW neg x xs L Q) : ∃ d ds, DataOf L x d ∧ DataAll L xs ds ∧ SeqAt.shaped d = true ∧ SeqAt.shaped (.tuple ds) = true ∧ Q (.bl (xnot neg (ds.any fun z => PyData.eqv z d))) L := by
  rcases h with ⟨h1, h2, q⟩ | h
  · have p2 : plainL xs = true := by have := (small_iff.mp h2).1; unfold plain at this; exact this
    refine ⟨pd x, pdL xs, .plain (small_iff.mp h1).1, .plain p2, shaped_small h1, shaped_small h2, ?_⟩
    rw [any_plain (small_iff.mp h1).1 p2]; exact q
  · exact h
theorem room_sh {A : Around} {d : PyData} {m : Nat} (h : SeqAt.shaped d = true) (hu : A.units + 65 < cLine) : A.units + 1 + min m d.depth < cLine := by
  have := SeqAt.depth_of_shaped h
  omega
section
variable {X : Cx}
theorem memT_up {neg : Bool} {op : CmpOp} (hop : (neg = false ∧ op = .In) ∨ (neg = true ∧ op = .NotIn)) (hu : X.A.units + 65 < cLine) {pins : List (Addr × Obj)} {s : Shared} {σ : St} {H : Hp} {L : LHp} {x : PV} {xs : List PV} {vx : V} {v u : Value} {a : Addr} {vs : List V} {Q : K1} {R : VK}
    (I : Inv X pins σ H s) (rh : RelHp X.K H L) (rx : Rep X.K H x vx) (wx : RelV vx v) (ha : SqT X.K H a vs ∨ SqL X.K H a vs) (ra : RepL X.K H xs vs) (wu : u = .ref a) (h : memW neg x xs L Q) (af : After X.K H Q R) :
    wpAny (model X.prog X.w) X.A (compareOp op v u) (EP X pins σ R) X.xe s := by
  subst wu
  obtain ⟨d, ds, h1, h2, s1, s2, q⟩ := memW_data h
  obtain ⟨as, r1⟩ := Dp.reads I d vx v (h1.dp rh rx) wx
  have fin : ∀ b : Bool, b = xnot neg (ds.any fun z => PyData.eqv z d) → EP X pins σ R (.bool b) s := fun b e => ⟨.bl b, H, I, rfl, by rw [e]; exact af _ _ _ _ q (.refl _) rh (.bl _)⟩
  have c2 : PyData.canLayAll0 ds = true := SeqAt.canLay_of_shaped (d := .tuple ds) s2
  rcases ha with ha | ha
  · obtain ⟨bs, r2⟩ := Dp.reads I (.tuple ds) (.ref a) (.ref a) (.tup ha (h2.dp rh ra)) rfl
    rcases hop with ⟨rfl, rfl⟩ | ⟨rfl, rfl⟩
    · exact SeqAt.in_tuple_reads r2 r1 c2 (SeqAt.canLay_of_shaped s1) (room_sh s1 hu) (fin _ rfl)
    · exact SeqAt.notIn_tuple_reads r2 r1 c2 (SeqAt.canLay_of_shaped s1) (room_sh s1 hu) (fin _ rfl)
  · obtain ⟨bs, r2⟩ := Dp.reads I (.list ds) (.ref a) (.ref a) (.lst ha (h2.dp rh ra)) rfl
    rcases hop with ⟨rfl, rfl⟩ | ⟨rfl, rfl⟩
    · exact SeqAt.in_list_reads r2 r1 c2 (SeqAt.canLay_of_shaped s1) (room_sh s1 hu) (fin _ rfl)
    · exact SeqAt.notIn_list_reads r2 r1 c2 (SeqAt.canLay_of_shaped s1) (room_sh s1 hu) (fin _ rfl)
theorem look_some {K : PySem.W.Frag} {H : Hp} {p : Option PV} {o : Option V} (h : match p, o with | some x, some v => Rep K H x v | none, none => True | _, _ => False) : p.isSome = o.isSome := by
  cases p <;> cases o <;> first | rfl | exact h.elim
theorem in_any {neg : Bool} {op : CmpOp} (hop : (neg = false ∧ op = .In) ∨ (neg = true ∧ op = .NotIn)) (hu : X.A.units + 65 < cLine) : OpR X (compareOp op) (up2 X.K (inW neg)) := by
  intro pins s σ H x y v u Q I rx ry ⟨px, py, L, Q0, r1, r2, rh, w, af⟩
  cases py with
  | tup xs =>
    obtain ⟨a, vs, rfl, h1, h2⟩ := r2.tup_inv
    exact memT_up hop hu I rh r1 rx (.inl (sqT_of h1)) h2 ry w af
  | rol xs =>
    obtain ⟨a, vs, rfl, h1, h2⟩ := r2.rol_inv
    exact memT_up hop hu I rh r1 rx (.inr h1.sq) h2 ry w af
  | ref a =>
    obtain rfl := r2.ref_inv
    rcases w with ⟨xs, e, w⟩ | ⟨kvs, e, f, q⟩
    · obtain ⟨vs, h1, h2⟩ := rh.lst e
      exact memT_up hop hu I rh r1 rx (.inr (sqL_of h1)) h2 ry w af
    · obtain rfl : u = .ref a := ry
      obtain ⟨H', o, I', xt, rh', g, m⟩ := dct_get I rh e f r1
      rw [look_some m] at q
      rcases hop with ⟨rfl, rfl⟩ | ⟨rfl, rfl⟩
      · exact d_in (by omega) I' g rx fun s3 I3 => ⟨.bl o.isSome, H', I3, rfl, af _ _ _ _ q xt rh' (.bl _)⟩
      · exact d_notIn (by omega) I' g rx fun s3 I3 => ⟨.bl (!o.isSome), H', I3, rfl, af _ _ _ _ q xt rh' (.bl _)⟩
  | _ => exact w.elim

/-! ### is None -/
def isN : PV → Bool
  | .non => true
  | _ => false
def isNW (neg : Bool) : LR2 := fun x c L Q => c = .non ∧ Q (.bl (xnot neg (isN x))) L
theorem isN_rep {K : PySem.W.Frag} {H : Hp} {x : PV} {v : V} (r : Rep K H x v) : decide (v = .non) = isN x := by
  cases r <;> simp [isN]
theorem is_up : OpR X (compareOp .Is) (up2 X.K (isNW false)) := OpR.imp op_isN fun x y H Q ⟨px, py, L, Q0, rx, ry, rh, w, af⟩ => by
  obtain ⟨rfl, q⟩ := w
  exact ⟨ry.non_inv, by rw [isN_rep rx]; exact af _ _ _ _ q (.refl _) rh (.bl _)⟩
theorem isNot_up : OpR X (compareOp .IsNot) (up2 X.K (isNW true)) := OpR.imp op_notN fun x y H Q ⟨px, py, L, Q0, rx, ry, rh, w, af⟩ => by
  obtain ⟨rfl, q⟩ := w
  exact ⟨ry.non_inv, by rw [isN_rep rx]; exact af _ _ _ _ q (.refl _) rh (.bl _)⟩
end
end DP

set_option Elab.async false
set_option linter.all false
set_option maxRecDepth 100000
set_option maxHeartbeats 4000000
/-! subscripts, slices, stores -/
namespace DP
open PySem PySem.Spec PyProof.Rows L2

def ixW : LR2 := fun x y L Q => match x with
  | .tup xs => ∃ i v, y = .int i ∧ atI xs i = some v ∧ Q v L
  | .rol xs => ∃ i v, y = .int i ∧ atI xs i = some v ∧ Q v L
  | .ref a => (∃ xs i v, L a = some (.lst xs) ∧ y = .int i ∧ atI xs i = some v ∧ Q v L) ∨ ∃ kvs v, L a = some (.dct kvs) ∧ KeyFit kvs y ∧ dlook kvs y = some v ∧ Q v L
  | _ => False
theorem RepL.atI {K : PySem.W.Frag} {H : Hp} {xs : List PV} {vs : List V} {i : Int} {x : PV} (r : RepL K H xs vs) (h : L2.atI xs i = some x) : ∃ v, L2.atI vs i = some v ∧ Rep K H x v := by
  unfold L2.atI at h ⊢
  rw [← r.length]
  cases e : ixN xs.length i with
  | none => rw [e] at h; cases h
  | some j =>
    rw [e] at h
    obtain ⟨v, h1, h2⟩ := r.get (show xs[j]? = some x from h)
    exact ⟨v, h1, h2⟩
section
variable {X : Cx} {pins : List (Addr × Obj)} {σ : St} {H : Hp} {L : LHp} {s : Shared}
/-- a list's item -/
theorem item_l {a : Addr} {vs : List V} {i : Int} {v : V} {u : Value} {Q : Value → Shared → Prop} (I : Inv X pins σ H s) (hq : SqL X.K H a vs) (he : L2.atI vs i = some v) (ru : RelV (.int i) u)
    (fin : ∀ w, RelV v w → Q w s) : wpAny (model X.prog X.w) X.A (getItem (.ref a) u) Q X.xe s ∧ s.TypeIs (.ref a) "list" := by
  obtain ⟨t, rfl⟩ := ru
  obtain ⟨its, r, pl, hz⟩ := I.list hq
  obtain ⟨j, h1, h2, h3, h4, h5⟩ := atI_get he
  obtain ⟨w, ew, rw'⟩ := r.get h2
  have hl := r.length
  have hn := line63
  refine ⟨?_, pl.isList.typeIs⟩
  by_cases h0 : 0 ≤ i
  · have hj : i.toNat = j := by
      rw [seqIndex_of h0 h5] at h1
      exact Option.some.inj h1
    exact wpAny_getItem_list pl.isList h0 (by omega) (by rw [hj]; simpa using ew) (fin w rw')
  · have hj : (i + (its.toArray.size : Int)).toNat = j := by
      rw [seqIndex_neg (by omega) h4] at h1
      rw [List.size_toArray, ← hl]
      exact Option.some.inj h1
    exact wpAny_getItem_list_neg pl.isList (by omega) (by rw [List.size_toArray] <;> omega) (by omega) (by rw [hj]; simpa using ew) (fin w rw')
theorem item_t {a : Addr} {vs : List V} {i : Int} {v : V} {u : Value} {Q : Value → Shared → Prop} (I : Inv X pins σ H s) (hq : SqT X.K H a vs) (he : L2.atI vs i = some v) (ru : RelV (.int i) u)
    (fin : ∀ w, RelV v w → Q w s) : wpAny (model X.prog X.w) X.A (getItem (.ref a) u) Q X.xe s ∧ s.TypeIs (.ref a) "tuple" := by
  obtain ⟨t, rfl⟩ := ru
  obtain ⟨its, r, pl, hz⟩ := I.tuple hq
  obtain ⟨j, h1, h2, h3, h4, h5⟩ := atI_get he
  obtain ⟨w, ew, rw'⟩ := r.get h2
  have hl := r.length
  have hn := line63
  exact ⟨PyProof.Rows.getItem_tuple pl (by omega) (by omega) (by rw [List.size_toArray, ← hl]; exact h1) (by simpa using ew) (fin w rw'), pl.typeIs⟩
theorem look_get {K : PySem.W.Frag} {H : Hp} {p : PV} {o : Option V} (h : match some p, o with | some x, some v => Rep K H x v | none, none => True | _, _ => False) : ∃ v, o = some v ∧ Rep K H p v := by
  cases o with
  | none => exact h.elim
  | some v => exact ⟨v, rfl, h⟩
theorem item_any (hu : X.A.units + 65 < cLine) {x y : V} {v u : Value} {Q : VK} (I : Inv X pins σ H s) (rx : RelV x v) (ry : RelV y u) (h : up2 X.K ixW x y H Q) :
    wpAny (model X.prog X.w) X.A (getItem v u) (EP X pins σ Q) X.xe s ∧ ∃ T id, s.TypeIs v T ∧ typeLookup (.type T) "__getitem__" = pure (some (.builtin id)) := by
  obtain ⟨px, py, L, Q0, r1, r2, rh, w, af⟩ := h
  cases px with
  | tup xs =>
    obtain ⟨i, z, rfl, e, q⟩ := w
    obtain ⟨a, vs, rfl, h1, h2⟩ := r1.tup_inv
    obtain rfl := r2.int_inv
    obtain rfl : v = .ref a := rx
    obtain ⟨vz, e2, rz⟩ := h2.atI e
    obtain ⟨g, t⟩ := item_t (Q := EP X pins σ Q) I (sqT_of h1) e2 ry fun w rw' => ⟨vz, H, I, rw', af _ _ _ _ q (.refl _) rh rz⟩
    exact ⟨g, "tuple", _, t, slot_tuple_getitem.lookup⟩
  | rol xs =>
    obtain ⟨i, z, rfl, e, q⟩ := w
    obtain ⟨a, vs, rfl, h1, h2⟩ := r1.rol_inv
    obtain rfl := r2.int_inv
    obtain rfl : v = .ref a := rx
    obtain ⟨vz, e2, rz⟩ := h2.atI e
    obtain ⟨g, t⟩ := item_l (Q := EP X pins σ Q) I h1.sq e2 ry fun w rw' => ⟨vz, H, I, rw', af _ _ _ _ q (.refl _) rh rz⟩
    exact ⟨g, "list", _, t, slot_list_getitem.lookup⟩
  | ref a =>
    obtain rfl := r1.ref_inv
    obtain rfl : v = .ref a := rx
    rcases w with ⟨xs, i, z, el, rfl, e, q⟩ | ⟨kvs, z, e, f, l, q⟩
    · obtain rfl := r2.int_inv
      obtain ⟨vs, h1, h2⟩ := rh.lst el
      obtain ⟨vz, e2, rz⟩ := h2.atI e
      obtain ⟨g, t⟩ := item_l (Q := EP X pins σ Q) I (sqL_of h1) e2 ry fun w rw' => ⟨vz, H, I, rw', af _ _ _ _ q (.refl _) rh rz⟩
      exact ⟨g, "list", _, t, slot_list_getitem.lookup⟩
    · obtain ⟨H', o, I', xt, rh', g, m⟩ := dct_get I rh e f r2
      rw [l] at m
      obtain ⟨vz, rfl, rz⟩ := look_get m
      exact ⟨d_getItem (by omega) I' g ry fun w' s3 I3 rw' => ⟨vz, H', I3, rw', af _ _ _ _ q xt rh' rz⟩, "dict", _, dict_typeIs I' g, PySem.F.slot_dict_getitem.lookup⟩
  | _ => exact w.elim
theorem get_any (hu : X.A.units + 65 < cLine) : PGet X (up2 X.K ixW) := fun pins s σ H o i ov iv Q I ro ri h => (item_any hu I ro ri h).1
theorem ix_any (hu : X.A.units + 65 < cLine) : IxR X (up2 X.K ixW) := fun value slice pins s σ H x y v u Q I rx ry h hs => by
  obtain ⟨g, T, id, t, sl⟩ := item_any hu I rx ry h
  exact tail_any t sl g hs
end

/-! ### stores -/
def setW (o i v : PV) (L : LHp) (Q : LHp → Prop) : Prop := match o with
  | .ref a => (∃ xs k j, L a = some (.lst xs) ∧ i = .int k ∧ ixN xs.length k = some j ∧ Q (lupd L a (.lst (xs.set j v)))) ∨
      ∃ kvs, L a = some (.dct kvs) ∧ KeyFit kvs i ∧ kvs.length < 16777216 ∧ Q (lupd L a (.dct (dput kvs i v)))
  | _ => False
def upS (K : PySem.W.Frag) (r : PV → PV → PV → LHp → (LHp → Prop) → Prop) : TSet := fun o i v H Q => ∃ po pi pv L Q0, Rep K H po o ∧ Rep K H pi i ∧ Rep K H pv v ∧ RelHp K H L ∧ r po pi pv L Q0 ∧
  ∀ L' H', Q0 L' → ExtT H H' → RelHp K H' L' → Q H'
section
variable {X : Cx}
theorem set_any (hu : X.A.units + 65 < cLine) : PSet X (upS X.K setW) := by
  intro pins s σ H o i v ov iv u Q I ro ri rv ⟨po, pi, pv, L, Q0, r1, r2, r3, rh, w, af⟩
  cases po with
  | ref a =>
    obtain rfl := r1.ref_inv
    rcases w with ⟨xs, k, j, el, rfl, e, q⟩ | ⟨kvs, e, f, hl, q⟩
    · obtain rfl := r2.int_inv
      obtain ⟨vs, h1, h2⟩ := rh.lst el
      obtain ⟨rh', xt⟩ := rh.put_lst el (RepL.set r3 j h2)
      exact set_list pins s σ H _ _ v ov iv u Q I ro ri rv ⟨a, vs, k, j, rfl, rfl, h1, by rw [← h2.length]; exact e, af _ _ q xt rh'⟩
    · obtain rfl : ov = .ref a := ro
      obtain ⟨H', H2, I', xt, g, rh'⟩ := dct_put I rh e f hl r2 r3
      exact d_setItem (by omega) I' g ri rv fun s' I3 => ⟨H2, I3, af _ _ q xt rh'⟩
  | _ => exact w.elim
end

/-! ### slices -/
def optI : Option PV → Option (Option Int)
  | none => some none
  | some (.int i) => some (some i)
  | _ => none
def cutP (xs : List PV) (lo hi : Option Int) : List PV := (xs.drop (HT.sIx xs.length 0 lo)).take (HT.sIx xs.length xs.length hi - HT.sIx xs.length 0 lo)
def slW (x : PV) (lo hi : Option Int) (L : LHp) (Q : K1) : Prop := match x with
  | .tup xs => Q (.tup (cutP xs lo hi)) L
  | .ref a => ∃ xs, L a = some (.lst xs) ∧ ∀ p, L p = none → Q (.ref p) (lupd L p (.lst (cutP xs lo hi)))
  | _ => False
def upSl (K : PySem.W.Frag) : V → Option Int → Option Int → Hp → VK → Prop := fun x lo hi H Q => ∃ px L Q0, Rep K H px x ∧ RelHp K H L ∧ slW px lo hi L Q0 ∧ After K H Q0 Q
theorem RepL.cut {K : PySem.W.Frag} {H : Hp} {xs : List PV} {vs : List V} {lo hi : Option Int} (r : RepL K H xs vs) : RepL K H (cutP xs lo hi) (cutV vs lo hi) := by
  unfold cutP cutV
  rw [r.length]
  exact (r.drop _).take _
theorem cut_whole {xs : List PV} {lo hi : Option Int} (h : HT.sIx xs.length 0 lo = 0 ∧ HT.sIx xs.length xs.length hi = xs.length) : cutP xs lo hi = xs := by
  unfold cutP
  rw [h.1, h.2, List.drop_zero, Nat.sub_zero, List.take_length]
theorem sl_any {X : Cx} : SlR X (upSl X.K) := by
  refine SlR.imp (SlR.or sl_tupA sl_list) fun x lo hi H Q ⟨px, L, Q0, rx, rh, w, af⟩ => ?_
  cases px with
  | tup xs =>
    obtain ⟨a, vs, rfl, h1, h2⟩ := rx.tup_inv
    refine .inl ⟨a, vs, rfl, sqT_of h1, fun hw => ?_, fun _ p hp => ?_⟩
    · rw [← h2.length] at hw
      have w : Q0 (.tup (cutP xs lo hi)) L := w
      rw [cut_whole hw] at w
      exact af _ _ _ _ w (.refl _) rh (.tup h1 h2)
    · exact af _ _ _ _ w (.new hp) (rh.grow hp) (Rep.new_tup hp h2.cut)
  | ref a =>
    obtain rfl := rx.ref_inv
    obtain ⟨xs, e, q⟩ := w
    obtain ⟨vs, h1, h2⟩ := rh.lst e
    exact .inr ⟨a, vs, rfl, sqL_of h1, fun p hp => af _ _ _ _ (q p (rh.free hp)) (.new hp) (rh.new_lst hp h2.cut) (.ref p)⟩
  | _ => exact w.elim
end DP

set_option Elab.async false
set_option linter.all false
set_option maxRecDepth 100000
set_option maxHeartbeats 4000000
/-! what may be collected; sorted -/
namespace DP
open PySem PySem.Spec PyProof.Rows L2

/-- the items of a list, a tuple, a dict -/
def itW (p : PV) (L : LHp) (Q : List PV → Prop) : Prop := match p with
  | .tup xs => Q xs
  | .rol xs => Q xs
  | .ref a => (∃ xs, L a = some (.lst xs) ∧ Q xs) ∨ ∃ kvs, L a = some (.dct kvs) ∧ Q (kvs.map (·.1))
  | _ => False

theorem collect_tup {prog : Program} {w : World} {A : Around} {E : Value → Shared → Prop} {s : Shared} {l : Addr} {vs : List Value} {Q : List Value → Shared → Prop} (hl : IsTup s.heap l vs.toArray)
    (h : Q vs { s with heap := (s.heap.push (seqObj "list" #[] 0)).update s.heap.objs.size (Obj.mapSeq (· ++ vs.toArray)) }) (hsz : vs.length ≤ sizeLine) :
    wpAny (model prog w) A (collect (.ref l)) Q E s := by
  obtain ⟨o, ho, hc, n, hd⟩ := id hl
  unfold collect
  refine wpAny_bind (wpAny_runValue (codeAny_builtin entry_proto_collect' ?_))
  show wpAny _ _ (do again (.builtin "list.__iadd__" ⟨[← newList [], .ref l], []⟩)) _ _ s
  refine wpAny_bind (wpAny_newList (wpAny_pure ⟨Code.quiet_builtin _ (by decide +kernel), codeAny_builtin entry_list_iadd' ?_⟩))
  show wpAny _ _ (Builtin.List.listExtendWith (.ref s.heap.objs.size) (.ref l) (.ref s.heap.objs.size)) _ _ { s with heap := s.heap.push (seqObj "list" #[] 0) }
  unfold Builtin.List.listExtendWith
  have ho' : (s.heap.push (seqObj "list" #[] 0)).get? l = some o := Heap.get?_push_of_some _ ho
  refine wpAny_bind (wpAny_typeOf (T := "tuple") ⟨o, ho', hc⟩ ?_)
  have ht : (Value.type "tuple" == Value.type "tuple") = true := by rfl
  rw [if_pos (by rw [ht]; simp)]
  refine wpAny_bind (listItems_at ho' hd ?_)
  refine wpAny_bind (listItems_at (xs := #[]) (n := 0) (Heap.get?_push_size _ rfl) rfl ?_)
  rw [if_neg (by simp)]
  refine wpAny_bind (listUpdate_at (xs := #[]) (n := 0) (Heap.get?_push_size _ rfl) rfl ?_ (Nat.zero_le _) (by show (#[] ++ vs.toArray).size ≤ sizeLine + 1; simp only [Array.size_append, List.size_toArray, List.length_nil]; omega))
  refine wpAny_pure ?_
  show wpAny (model prog w) A (do
      let o ← load s.heap.objs.size
      match o.data with
      | .seq xs _ => pure xs.toList
      | _ => unsupported "internal:collect") Q E { s with heap := (s.heap.push (seqObj "list" #[] 0)).update s.heap.objs.size (Obj.mapSeq (· ++ vs.toArray)) }
  refine wpAny_bind (wpAny_load (get?_update_seq (Heap.get?_push_size _ rfl) _) ?_)
  show wpAny _ _ (pure ((#[] : Array Value) ++ vs.toArray).toList) Q E _
  rw [show ((#[] : Array Value) ++ vs.toArray).toList = vs by simp]
  exact wpAny_pure h
theorem keep_ext {s : Shared} {vs : List Value} : ∀ b o, s.heap.get? b = some o → ((s.heap.push (seqObj "list" #[] 0)).update s.heap.objs.size (Obj.mapSeq (· ++ vs.toArray))).get? b = some o := fun b o q => by
  rw [Heap.get?_update_ne _ _ _ _ (Nat.ne_of_lt (Heap.lt_size q))]
  exact Heap.get?_push_of_some _ q
theorem vals_at : ∀ {xs : List V} {us : List Value}, xs.length = us.length → (∀ (j : Nat) (x : V) (u : Value), xs[j]? = some x → us[j]? = some u → RelV x u) → Vals xs us
  | [], [], _, _ => .nil
  | [], _ :: _, h, _ => by simp at h
  | _ :: _, [], h, _ => by simp at h
  | x :: xs, u :: us, h, g => .cons (g 0 x u rfl rfl) (vals_at (by simpa using h) fun j y v e1 e2 => g (j + 1) y v (by simpa using e1) (by simpa using e2))
theorem keyV {k : Key} {v : Value} (h : keyIs k v = true) : RelV (kV k) v := by
  rcases keyIs_shape h with ⟨i, t, rfl, rfl⟩ | ⟨x, t, rfl, rfl⟩
  · exact ⟨t, rfl⟩
  · exact ⟨t, rfl⟩
theorem RepD.keysK {K : PySem.W.Frag} {H : Hp} : ∀ {kvs : List (PV × PV)} {ks : List (Key × V)}, RepD keyP K H kvs ks → RepL K H (kvs.map (·.1)) (ks.map fun q => kV q.1)
  | _, _, .nil => .nil
  | p :: _, q :: _, .cons ⟨e, _⟩ t => by
    rw [List.map_cons, List.map_cons, e]
    refine .cons ?_ (RepD.keysK t)
    cases q.1 with
    | inl i => exact .int i
    | inr i => exact .str i
theorem repKeys {K : PySem.W.Frag} {H : Hp} : ∀ ks : List Key, RepL K H (ks.map keyP) (ks.map kV)
  | [] => .nil
  | .inl i :: r => .cons (.int i) (repKeys r)
  | .inr i :: r => .cons (.str i) (repKeys r)

section
variable {X : Cx} {pins : List (Addr × Obj)} {σ : St} {H : Hp} {L : LHp} {s : Shared}
theorem coll {p : PV} {v : V} {u : Value} {P : List PV → Prop} {A : Around} {R : List Value → Shared → Prop} {E : Value → Shared → Prop} (I : Inv X pins σ H s) (rh : RelHp X.K H L) (rp : Rep X.K H p v) (ru : RelV v u) (hA : A.handled = none)
    (h : itW p L P) (fin : ∀ xs h' tk acc vs, P xs → (∀ b o, s.heap.get? b = some o → h'.get? b = some o) → RepL X.K H xs vs → Vals vs acc → acc.length ≤ sizeLine → R acc { s with heap := h', toks := tk }) :
    wpAny (model X.prog X.w) A (collect u) R E s := by
  cases p with
  | tup xs =>
    obtain ⟨a, vs, rfl, h1, h2⟩ := rp.tup_inv
    obtain rfl : u = .ref a := ru
    obtain ⟨its, rv, pl, hz⟩ := I.tuple (sqT_of h1)
    have hz' : its.length ≤ sizeLine := by rw [← rv.length]; exact hz
    exact collect_tup pl (fin xs _ s.toks its vs h keep_ext h2 rv hz') hz'
  | rol xs =>
    obtain ⟨a, vs, rfl, h1, h2⟩ := rp.rol_inv
    obtain rfl : u = .ref a := ru
    obtain ⟨its, rv, pl, hz⟩ := I.list h1.sq
    have hz' : its.length ≤ sizeLine := by rw [← rv.length]; exact hz
    exact collect_list pl.isList (fin xs _ s.toks its vs h keep_ext h2 rv hz') hz'
  | ref a =>
    obtain rfl := rp.ref_inv
    obtain rfl : u = .ref a := ru
    rcases h with ⟨xs, e, h⟩ | ⟨kvs, e, h⟩
    · obtain ⟨vs, h1, h2⟩ := rh.lst e
      obtain ⟨its, rv, pl, hz⟩ := I.list (sqL_of h1)
      have hz' : its.length ≤ sizeLine := by rw [← rv.length]; exact hz
      exact collect_list pl.isList (fin xs _ s.toks its vs h keep_ext h2 rv hz') hz'
    · rcases rh a _ e with ⟨ks, h1, h2⟩ | ⟨ks, h1, h2⟩
      · have h1 : H a = some (.dK ks) := h1
        obtain ⟨z, lo, vs, rel, dd⟩ := dk_of I.hok h1
        obtain ⟨ep, hat⟩ := dd.dictAt
        have hl : ks.length = vs.length := Paired.length rel
        refine PySem.W.kdu_collect (A := A) (PySem.W.kdl_dict (knd := mixKind X.prog X.w) (kvs := vs) (ep := ep) lo) hA hat (by rw [← hl]; exact z) fun h' tk acc hk hacc => ?_
        have hal : acc.toList.length = ks.length := by rw [Array.length_toList, hacc.1, hl]
        refine fin _ h' tk acc.toList _ h hk h2.keysK (vals_at (by rw [List.length_map, hal]) fun j x u e1 e2 => ?_) (by rw [hal]; exact z)
        obtain ⟨k, y, e3, e4⟩ := hacc.2 j u (by rw [← Array.getElem?_toList]; exact e2)
        rw [List.getElem?_map] at e1
        cases eq : ks[j]? with
        | none => rw [eq] at e1; cases e1
        | some q =>
          rw [eq] at e1
          cases e1
          have hk1 : (ks.map (·.1))[j]? = (vs.map (·.1))[j]? := by rw [rel.keys]
          rw [List.getElem?_map, List.getElem?_map, eq, e3] at hk1
          have hk2 : q.1 = k := Option.some.inj hk1
          show RelV (kV q.1) u
          rw [hk2]
          exact keyV e4
      · have h1 : H a = some (.dT ks) := h1
        obtain ⟨z, hs, xs, pr, o, es, ep, ho, hx, hdt, he, hn⟩ := (show ObjOk X.prog X.w H s.heap a (.dT ks) from I.hok a _ h1)
        have l1 : es.size = xs.length := size_of_entries he
        have l2 : ks.length = xs.length := Paired.length pr
        refine PySem.W.kdu_collect (A := A) (kdl_raw hs hx hdt) hA ho (by rw [l1, ← l2]; exact z) fun h' tk acc hk hacc => ?_
        have hal : acc.toList.length = ks.length := by rw [Array.length_toList, hacc.1, l1, l2]
        have hr : ∀ {kvs : List (PV × PV)} {ks : List (List Key × V)} {xs : List (List Key × Addr × Value)}, RepD keyT X.K H kvs ks →
            Paired (fun (p : List Key × V) (q : List Key × Addr × Value) => p.1 = q.1 ∧ H q.2.1 = some (.tup (p.1.map kV)) ∧ RelV p.2 q.2.2) ks xs → RepL X.K H (kvs.map (·.1)) (xs.map fun q => V.ref q.2.1) := by
          intro kvs ks xs r1 r2
          induction r2 generalizing kvs with
          | nil => cases r1; exact .nil
          | cons h t ih =>
            cases r1 with
            | cons h' t' =>
              refine .cons ?_ (ih t')
              dsimp only
              rw [h'.1]
              exact .tup h.2.1 (repKeys _)
        refine fin _ h' tk acc.toList _ h hk (hr h2 pr) (vals_at (by rw [List.length_map, hal, l2]) fun j x u e1 e2 => ?_) (by rw [hal]; exact z)
        obtain ⟨en, hen, hv⟩ := hacc.2 j u (by rw [← Array.getElem?_toList]; exact e2)
        have qe := entry_at he j
        rw [hen] at qe
        rw [List.getElem?_map] at e1
        cases hb : xs[j]? with
        | none => rw [hb] at e1; cases e1
        | some b =>
          rw [hb] at qe e1
          cases e1
          have e2 : en = entryOfKey (tupleKind (mixKind X.prog X.w)) b := Option.some.inj qe
          rw [hv, e2]
          rfl
  | _ => exact h.elim
end

/-! ### an order of all values, by codes -/
mutual
def code : PV → List Int
  | .int i => [1, i]
  | .tup xs => 2 :: (codeL xs ++ [0])
  | _ => [3]
def codeL : List PV → List Int
  | [] => []
  | x :: xs => code x ++ codeL xs
end
def ltC (x y : PV) : Bool := HT.lexLt (code x) (code y)
theorem swo_lexI : SrtO.Swo HT.lexLt := by
  refine ⟨fun x => ?_, fun x => ?_⟩
  · induction x with
    | nil => intro y _; cases y <;> first | rfl | (rename_i h; cases h)
    | cons a r ih =>
      intro y h
      cases y with
      | nil => cases h
      | cons b t =>
        rw [HT.lexLt_cons] at h ⊢
        by_cases e : a = b
        · subst e
          rw [if_pos rfl] at h ⊢
          exact ih t h
        · rw [if_neg e] at h
          rw [if_neg (Ne.symm e)]
          have := of_decide_eq_true h
          exact decide_eq_false (by omega)
  · induction x with
    | nil =>
      intro y z h1 h2
      cases z with
      | nil => rfl
      | cons c u => exact HT.lexLt_cons_nil c u
    | cons a r ih =>
      intro y z h1 h2
      cases y with
      | nil => cases h1
      | cons b t =>
        cases z with
        | nil => cases h2
        | cons c u =>
          rw [HT.lexLt_cons] at h1 h2 ⊢
          by_cases e1 : b = a
          · subst e1
            rw [if_pos rfl] at h1
            by_cases e2 : c = b
            · subst e2
              rw [if_pos rfl] at h2 ⊢
              exact ih t u h1 h2
            · rw [if_neg e2] at h2 ⊢
              exact h2
          · rw [if_neg e1] at h1
            have q1 := of_decide_eq_false h1
            by_cases e2 : c = b
            · subst e2
              rw [if_neg e1]
              exact h1
            · rw [if_neg e2] at h2
              have q2 := of_decide_eq_false h2
              rw [if_neg (by omega)]
              exact decide_eq_false (by omega)
theorem swo_ltC : SrtO.Swo ltC := ⟨fun x y => swo_lexI.asym _ _, fun x y z => swo_lexI.tr _ _ _⟩
mutual
theorem code_lt : ∀ (x y : PV) (r s : List Int), cb x y = true → HT.lexLt (code x ++ r) (code y ++ s) = if x = y then HT.lexLt r s else qB .lt x y
  | .int i, y, r, s, h => by
    cases y with
    | int j =>
      show HT.lexLt (1 :: i :: r) (1 :: j :: s) = _
      rw [HT.lexLt_cons, if_pos rfl, HT.lexLt_cons]
      by_cases e : i = j
      · rw [if_pos e, if_pos (by rw [e])]
      · rw [if_neg e, if_neg (by intro z; injection z with z; exact e z)]; unfold qB; rfl
    | _ => cases h
  | .tup xs, y, r, s, h => by
    cases y with
    | tup ys =>
      have hc : cbL xs ys = true := by unfold cb at h; exact h
      have ih := codeL_lt xs ys r s hc
      show HT.lexLt (2 :: ((codeL xs ++ [0]) ++ r)) (2 :: ((codeL ys ++ [0]) ++ s)) = _
      rw [HT.lexLt_cons, if_pos rfl, List.append_assoc, List.append_assoc]
      show HT.lexLt (codeL xs ++ 0 :: r) (codeL ys ++ 0 :: s) = _
      rw [ih]
      by_cases e : xs = ys
      · rw [if_pos e, if_pos (by rw [e])]
      · rw [if_neg e, if_neg (by intro z; injection z with z; exact e z)]; unfold qB; rfl
    | _ => cases h
  | .non, _, _, _, h => by cases h
  | .bl _, _, _, _, h => by cases h
  | .str _, _, _, _, h => by cases h
  | .ref _, _, _, _, h => by cases h
  | .ty _, _, _, _, h => by cases h
  | .rol _, _, _, _, h => by cases h
theorem codeL_lt : ∀ (xs ys : List PV) (r s : List Int), cbL xs ys = true → HT.lexLt (codeL xs ++ 0 :: r) (codeL ys ++ 0 :: s) = if xs = ys then HT.lexLt r s else qBL .lt xs ys
  | [], [], r, s, _ => by
    rw [if_pos rfl]
    show HT.lexLt (0 :: r) (0 :: s) = _
    rw [HT.lexLt_cons, if_pos rfl]
  | [], y :: ys, r, s, _ => by
    rw [if_neg (by simp)]
    have e : ∃ c t, codeL (y :: ys) ++ 0 :: s = c :: t ∧ 0 < c := by
      show ∃ c t, (code y ++ codeL ys) ++ 0 :: s = c :: t ∧ 0 < c
      cases y <;> exact ⟨_, _, rfl, by decide⟩
    obtain ⟨c, t, e1, e2⟩ := e
    rw [e1]
    show HT.lexLt (0 :: r) (c :: t) = _
    rw [HT.lexLt_cons, if_neg (by omega)]
    unfold qBL
    show decide (0 < c) = decide (0 < ys.length + 1)
    rw [decide_eq_true e2, decide_eq_true (by omega)]
  | x :: xs, [], r, s, _ => by
    rw [if_neg (by simp)]
    have e : ∃ c t, codeL (x :: xs) ++ 0 :: r = c :: t ∧ 0 < c := by
      show ∃ c t, (code x ++ codeL xs) ++ 0 :: r = c :: t ∧ 0 < c
      cases x <;> exact ⟨_, _, rfl, by decide⟩
    obtain ⟨c, t, e1, e2⟩ := e
    rw [e1]
    show HT.lexLt (c :: t) (0 :: s) = _
    rw [HT.lexLt_cons, if_neg (by omega)]
    unfold qBL
    show decide (c < 0) = decide (xs.length + 1 < 0)
    rw [decide_eq_false (by omega), decide_eq_false (by omega)]
  | x :: xs, y :: ys, r, s, h => by
    have h' : cb x y = true ∧ cbL xs ys = true := by simpa [cbL] using h
    show HT.lexLt ((code x ++ codeL xs) ++ 0 :: r) ((code y ++ codeL ys) ++ 0 :: s) = _
    rw [List.append_assoc, List.append_assoc, code_lt x y _ _ h'.1]
    by_cases e : x = y
    · subst e
      rw [if_pos rfl, codeL_lt xs ys r s h'.2]
      by_cases e2 : xs = ys
      · rw [if_pos e2, if_pos (by rw [e2])]
      · rw [if_neg e2, if_neg (by intro z; injection z with _ z; exact e2 z)]
        conv => rhs; unfold qBL
        rw [if_pos rfl]
    · rw [if_neg e, if_neg (by intro z; injection z with z _; exact e z)]
      conv => rhs; unfold qBL
      rw [if_neg e]
end
theorem qB_refl {x : PV} (h : cb x x = true) : qB .lt x x = ltC x x := by
  have h1 := code_lt x x [] [] h
  rw [if_pos rfl, List.append_nil] at h1
  have h2 : ltC x x = false := h1.trans HT.lexLt_nil_nil
  rw [h2]
  cases x with
  | int i => unfold qB; exact decide_eq_false (by omega)
  | tup xs =>
    unfold qB
    clear h h1 h2
    induction xs with
    | nil => unfold qBL; rfl
    | cons a r ih => unfold qBL; rw [if_pos rfl]; exact ih
  | _ => cases h
theorem qB_code {x y : PV} (h : cb x y = true) : qB .lt x y = ltC x y := by
  by_cases e : x = y
  · subst e; exact qB_refl h
  · have := code_lt x y [] [] h
    rw [if_neg e, List.append_nil, List.append_nil] at this
    exact this.symm
def insP (x : PV) : List PV → List PV
  | [] => [x]
  | y :: ys => if ltC y x = true then y :: insP x ys else x :: y :: ys
/-- sorted, equal ones in their order -/
def sortP : List PV → List PV
  | [] => []
  | x :: xs => insP x (sortP xs)
end DP

set_option Elab.async false
set_option linter.all false
set_option maxRecDepth 100000
set_option maxHeartbeats 4000000
/-! sorted -/
namespace DP
open PySem PySem.Spec PyProof.Rows L2

/-! ### the sorted list is one -/
open SrtO in
theorem insP_perm (x : PV) : ∀ ys : List PV, (insP x ys).Perm (x :: ys)
  | [] => .refl _
  | y :: ys => by
    unfold insP
    by_cases h : ltC y x = true
    · rw [if_pos h]
      exact ((insP_perm x ys).cons y).trans (.swap x y ys)
    · rw [if_neg h]
theorem sortP_perm : ∀ xs : List PV, (sortP xs).Perm xs
  | [] => .refl _
  | x :: xs => (insP_perm x _).trans ((sortP_perm xs).cons x)
theorem insP_srtd {x : PV} : ∀ {ys : List PV}, SrtO.Srtd ltC ys → SrtO.Srtd ltC (insP x ys)
  | [], _ => List.pairwise_singleton _ _
  | y :: ys, h => by
    unfold insP
    have h' := List.pairwise_cons.mp h
    by_cases c : ltC y x = true
    · rw [if_pos c]
      refine List.pairwise_cons.mpr ⟨fun z hz => ?_, insP_srtd h'.2⟩
      rcases List.mem_cons.mp ((insP_perm x ys).mem_iff.mp hz) with e | hz
      · rw [e]; exact swo_ltC.asym _ _ c
      · exact h'.1 z hz
    · rw [if_neg c]
      have c' : ltC y x = false := by simpa using c
      refine List.pairwise_cons.mpr ⟨fun z hz => ?_, h⟩
      rcases List.mem_cons.mp hz with e | hz
      · rw [e]; exact c'
      · exact swo_ltC.tr x y z c' (h'.1 z hz)
theorem sortP_srtd : ∀ xs : List PV, SrtO.Srtd ltC (sortP xs)
  | [] => List.Pairwise.nil
  | x :: xs => insP_srtd (sortP_srtd xs)
theorem insP_stb {x : PV} : ∀ ys : List PV, SrtO.Srtd ltC ys → SrtO.Stb ltC (insP x ys) (x :: ys)
  | [], _ => .refl _
  | y :: ys, h => by
    unfold insP
    have h' := List.pairwise_cons.mp h
    by_cases c : ltC y x = true
    · rw [if_pos c]
      refine ⟨((insP_perm x ys).cons y).trans (.swap x y ys), fun z => ?_⟩
      have ih := (insP_stb (x := x) ys h'.2).cls z
      have nz : ¬ (SrtO.eqv ltC z y = true ∧ SrtO.eqv ltC z x = true) := fun ⟨a, b⟩ => by
        obtain ⟨a1, a2⟩ := SrtO.eqv_iff.mp a
        obtain ⟨b1, b2⟩ := SrtO.eqv_iff.mp b
        have := swo_ltC.tr x z y b1 a2
        rw [c] at this; cases this
      by_cases q : SrtO.eqv ltC z y = true
      · have qx : ¬ SrtO.eqv ltC z x = true := fun e => nz ⟨q, e⟩
        rw [List.filter_cons_of_pos q, ih, List.filter_cons_of_neg qx, List.filter_cons_of_neg qx, List.filter_cons_of_pos q]
      · rw [List.filter_cons_of_neg q, ih]
        by_cases qx : SrtO.eqv ltC z x = true
        · rw [List.filter_cons_of_pos qx, List.filter_cons_of_pos qx, List.filter_cons_of_neg q]
        · rw [List.filter_cons_of_neg qx, List.filter_cons_of_neg qx, List.filter_cons_of_neg q]
    · rw [if_neg c]
      exact .refl _
theorem sortP_stb : ∀ xs : List PV, SrtO.Stb ltC (sortP xs) xs
  | [] => .refl _
  | x :: xs => by
    have a := insP_stb (x := x) _ (sortP_srtd xs)
    have b := sortP_stb xs
    refine ⟨a.perm.trans (b.perm.cons x), fun z => ?_⟩
    show (insP x (sortP xs)).filter _ = _
    rw [a.cls z]
    by_cases q : SrtO.eqv ltC z x = true
    · rw [List.filter_cons_of_pos q, List.filter_cons_of_pos q, b.cls z]
    · rw [List.filter_cons_of_neg q, List.filter_cons_of_neg q, b.cls z]

/-! ### back from the model's values -/
mutual
theorem Rep.inj {K : PySem.W.Frag} {H : Hp} : ∀ {p q : PV} {v : V}, plain p = true → plain q = true → Rep K H p v → Rep K H q v → p = q
  | .int i, q, v, _, hq, r1, r2 => by cases r1; cases r2 <;> first | rfl | cases hq
  | .non, q, v, _, hq, r1, r2 => by cases r1; cases r2 <;> first | rfl | cases hq
  | .str i, q, v, _, hq, r1, r2 => by cases r1; cases r2 <;> first | rfl | cases hq
  | .tup xs, q, v, hp, hq, r1, r2 => by
    obtain ⟨a, vs, rfl, h1, h2⟩ := r1.tup_inv
    cases q with
    | tup ys =>
      obtain ⟨b, ws, e, h3, h4⟩ := r2.tup_inv
      cases e
      rw [h1] at h3
      cases h3
      rw [RepL.inj (by unfold plain at hp; exact hp) (by unfold plain at hq; exact hq) h2 h4]
    | int i => cases r2
    | str i => cases r2
    | non => cases r2
    | _ => cases hq
  | .bl _, _, _, hp, _, _, _ => by cases hp
  | .ref _, _, _, hp, _, _, _ => by cases hp
  | .ty _, _, _, hp, _, _, _ => by cases hp
  | .rol _, _, _, hp, _, _, _ => by cases hp
theorem RepL.inj {K : PySem.W.Frag} {H : Hp} : ∀ {p q : List PV} {v : List V}, plainL p = true → plainL q = true → RepL K H p v → RepL K H q v → p = q
  | [], q, v, _, _, r1, r2 => by cases r1; cases r2; rfl
  | x :: xs, q, v, hp, hq, r1, r2 => by
    cases r1 with
    | cons a1 t1 =>
      cases r2 with
      | cons a2 t2 =>
        have hp2 : plain x = true ∧ plainL xs = true := by simpa [plainL] using hp
        have hq2 := by simpa [plainL] using hq
        rw [Rep.inj hp2.1 hq2.1 a1 a2, RepL.inj hp2.2 hq2.2 t1 t2]
end
theorem relV_inj {v w : V} {u : Value} (h1 : RelV v u) (h2 : RelV w u) : v = w := by
  have e : ∀ {v : V}, RelV v u → absV u = some v := fun {v} h => by
    cases v with
    | non => rw [show u = Value.none from h]; rfl
    | bl b => rw [show u = Value.bool b from h]; rfl
    | int i => obtain ⟨t, e⟩ := (show ∃ t, u = Value.int i t from h); rw [e]; rfl
    | str i => obtain ⟨t, e⟩ := (show ∃ t, u = Value.str i t from h); rw [e]; rfl
    | byt i => obtain ⟨t, e⟩ := (show ∃ t, u = Value.bytes i t from h); rw [e]; rfl
    | flt i => obtain ⟨t, e⟩ := (show ∃ t, u = Value.float i t from h); rw [e]; rfl
    | ref i => rw [show u = Value.ref i from h]; rfl
    | ty i => rw [show u = Value.type i from h]; rfl
  have a := e h1
  rw [e h2] at a
  exact (Option.some.inj a).symm
def Told (K : PySem.W.Frag) (H : Hp) (u : Value) (p : PV) : Prop := ∃ v, plain p = true ∧ Rep K H p v ∧ RelV v u
theorem Told.inj {K : PySem.W.Frag} {H : Hp} {u : Value} {p q : PV} (h1 : Told K H u p) (h2 : Told K H u q) : p = q := by
  obtain ⟨v, a1, a2, a3⟩ := h1
  obtain ⟨w, b1, b2, b3⟩ := h2
  rw [relV_inj a3 b3] at a2
  exact Rep.inj a1 b1 a2 b2
open Classical in
noncomputable def pvOf (K : PySem.W.Frag) (H : Hp) (u : Value) : PV := if h : ∃ p, Told K H u p then h.choose else .non
theorem pvOf_eq {K : PySem.W.Frag} {H : Hp} {u : Value} {p : PV} (h : Told K H u p) : pvOf K H u = p := by
  have hx : ∃ p, Told K H u p := ⟨p, h⟩
  unfold pvOf
  rw [dif_pos hx]
  exact hx.choose_spec.inj h
theorem told_all {K : PySem.W.Frag} {H : Hp} : ∀ {xs : List PV} {vs : List V} {us : List Value}, plainL xs = true → RepL K H xs vs → Vals vs us → (∀ u ∈ us, ∃ p ∈ xs, Told K H u p) ∧ us.map (pvOf K H) = xs
  | [], _, _, _, r, w => by cases r; cases w; exact ⟨fun u hu => by simp at hu, rfl⟩
  | x :: xs, _, _, hp, r, w => by
    cases r with
    | cons r1 r2 =>
      cases w with
      | cons w1 w2 =>
        have hp2 : plain x = true ∧ plainL xs = true := by simpa [plainL] using hp
        obtain ⟨h1, h2⟩ := told_all hp2.2 r2 w2
        have t1 : Told K H _ x := ⟨_, hp2.1, r1, w1⟩
        refine ⟨fun u hu => ?_, by rw [List.map_cons, h2, pvOf_eq t1]⟩
        rcases List.mem_cons.mp hu with e | hu
        · subst e; exact ⟨x, List.mem_cons_self, t1⟩
        · obtain ⟨p, m, t⟩ := h1 u hu; exact ⟨p, List.mem_cons_of_mem _ m, t⟩
theorem rep_all {K : PySem.W.Frag} {H : Hp} : ∀ {us : List Value}, (∀ u ∈ us, ∃ p, Told K H u p) → ∃ vs, RepL K H (us.map (pvOf K H)) vs ∧ Vals vs us
  | [], _ => ⟨[], .nil, .nil⟩
  | u :: us, h => by
    obtain ⟨vs, h1, h2⟩ := rep_all (us := us) fun w hw => h w (List.mem_cons_of_mem _ hw)
    obtain ⟨p, t⟩ := h u List.mem_cons_self
    have e := pvOf_eq t
    obtain ⟨v, a1, a2, a3⟩ := t
    exact ⟨v :: vs, by rw [List.map_cons, e]; exact .cons a2 h1, .cons a3 h2⟩

/-! ### what may be sorted -/
structure SortOk (xs : List PV) : Prop where
  small : ∀ x ∈ xs, small x = true
  cmp : ∀ x ∈ xs, ∀ y ∈ xs, cb x y = true
  kind : (∀ x ∈ xs, ∃ i, x = .int i) ∨ (∀ x ∈ xs, ∃ i r, x = .tup (.int i :: r)) ∨ ∀ x ∈ xs, ∃ t r, x = .tup (.tup t :: r)
theorem plainL_of : ∀ {xs : List PV}, (∀ x ∈ xs, DP.small x = true) → plainL xs = true
  | [], _ => rfl
  | x :: xs, h => by
    show (plain x && plainL xs) = true
    rw [(small_iff.mp (h x List.mem_cons_self)).1, plainL_of fun y hy => h y (List.mem_cons_of_mem _ hy)]; rfl
section
variable {X : Cx} {pins : List (Addr × Obj)} {σ : St} {H : Hp} {s : Shared}
/-- two tuples by the sort's own order -/
theorem kat_pv (I : Inv X pins σ H s) {A : Around} {b fin : Bool} {Q : Bool → Shared → Prop} (hA : A.units + 63 < cLine) : ∀ (xs ys : List PV) (vs ws : List V) (us ts : List Value) (i : Nat),
    plainL xs = true → plainL ys = true → pdepL xs ≤ 60 → pdepL ys ≤ 60 → cbL xs ys = true → RepL X.K H xs vs → RepL X.K H ys ws → Vals vs us → Vals ws ts → fin = decide (xs.length < ys.length) →
    (b = true → i = 0 → ∀ x ∈ xs.head?, ∃ k, x = PV.int k) → Q (qBL .lt xs ys) s → PySem.W.KatLex X.prog X.w A b fin Q (us.zip ts) i s
  | [], ys, _, _, _, _, i, _, _, _, _, _, r1, r2, w1, w2, hf, _, q => by
    cases r1; cases w1
    refine PySem.W.kat_nil ?_
    rw [hf]
    unfold qBL at q
    exact q
  | x :: xs, [], _, _, _, _, i, _, _, _, _, _, r1, r2, w1, w2, hf, _, q => by
    cases r2; cases w2
    cases r1; cases w1
    refine PySem.W.kat_nil ?_
    rw [hf]
    unfold qBL at q
    have e : QOp.lt.len (xs.length + 1) 0 = decide ((x :: xs).length < ([] : List PV).length) := by simp [QOp.len]
    rw [e] at q
    exact q
  | x :: xs, y :: ys, _, _, _, _, i, p1, p2, d1, d2, c, r1, r2, w1, w2, hf, hb, q => by
    have p1' : plain x = true ∧ plainL xs = true := by simpa [plainL] using p1
    have p2' : plain y = true ∧ plainL ys = true := by simpa [plainL] using p2
    have c' : cb x y = true ∧ cbL xs ys = true := by simpa [cbL] using c
    have d1' : pdep x ≤ 60 ∧ pdepL xs ≤ 60 := by have : max (pdep x) (pdepL xs) ≤ 60 := d1; omega
    have d2' : pdep y ≤ 60 ∧ pdepL ys ≤ 60 := by have : max (pdep y) (pdepL ys) ≤ 60 := d2; omega
    cases r1 with
    | cons a1 t1 =>
    cases r2 with
    | cons a2 t2 =>
    cases w1 with
    | cons b1 u1 =>
    cases w2 with
    | cons b2 u2 =>
    rename_i vx vs' vy ws' ux us' uy us''
    show PySem.W.KatLex X.prog X.w A b fin Q ((ux, uy) :: us'.zip us'') i s
    have rh0 : RelHp X.K H (fun _ => none) := fun a o e => by cases e
    obtain ⟨as, g1⟩ := Dp.reads I (pd x) vx _ ((DataOf.plain (L := fun _ => none) p1'.1).dp rh0 a1) b1
    obtain ⟨bs, g2⟩ := Dp.reads I (pd y) vy _ ((DataOf.plain (L := fun _ => none) p2'.1).dp rh0 a2) b2
    have E1 : SeqAt.EqAt A s ux uy (decide (x = y)) := by
      rw [← eqv_plain p1'.1 p2'.1]
      refine SeqAt.eqAt_reads _ _ A s _ _ as bs g1 g2 (lay_plain p1'.1) (lay_plain p2'.1) ?_
      rw [dep_plain p1'.1]
      omega
    refine PySem.W.kat_cons (E1 X.prog X.w _ _ ?_)
    refine PySem.W.kat_go (fun e => ?_) (fun e => ?_)
    · have e' : x = y := of_decide_eq_true e
      refine PySem.W.kat_yes (kat_pv I hA xs ys _ _ _ _ (i + 1) p1'.2 p2'.2 d1'.2 d2'.2 c'.2 t1 t2 u1 u2 (by rw [hf]; simp) (fun _ z => by omega) ?_)
      unfold qBL at q
      rw [if_pos e'] at q
      exact q
    · have e' : ¬ x = y := of_decide_eq_false e
      refine PySem.W.kat_no ?_
      unfold qBL at q
      rw [if_neg e'] at q
      by_cases hbi : (b && i == 0) = true
      · have hbi' : b = true ∧ i = 0 := by simpa using hbi
        obtain ⟨k, rfl⟩ := hb hbi'.1 hbi'.2 x rfl
        cases y with
        | int j =>
          obtain rfl := a1.int_inv
          obtain rfl := a2.int_inv
          obtain ⟨t, rfl⟩ := b1
          obtain ⟨t', rfl⟩ := b2
          rw [hbi]
          unfold qB at q
          exact oneLt_int q
        | _ => exact absurd c'.1 (by unfold cb; simp)
      · have hbi' : (b && i == 0) = false := by simpa using hbi
        rw [hbi']
        have R := rc_at I .lt 60 x y A vx vy _ _ d1'.1 p1'.1 p2'.1 c'.1 d2'.1 a1 a2 b1 b2 (by omega)
        exact PySem.W.kat_one _ _ (R X.prog X.w _ (PySem.W.BoolBack Q) q)
theorem tups_firsts (I : Inv X pins σ H s) {P : PV → Prop} : ∀ {xs : List PV} {vs : List V} {us : List Value}, (∀ x ∈ xs, ∃ f r, x = .tup (f :: r) ∧ P f) → RepL X.K H xs vs → Vals vs us →
    ∃ fs, PySem.W.KatTups s.heap us fs ∧ fs.length = us.length ∧ ∀ f ∈ fs, ∃ p v, P p ∧ Rep X.K H p v ∧ RelV v f
  | [], _, _, _, r, w => by cases r; cases w; exact ⟨[], PySem.W.KatTups.nil, rfl, fun f hf => by simp at hf⟩
  | x :: xs, _, _, h, r, w => by
    cases r with
    | cons r1 r2 =>
    cases w with
    | cons w1 w2 =>
    obtain ⟨fs, h1, h2, h3⟩ := tups_firsts I (fun y hy => h y (List.mem_cons_of_mem _ hy)) r2 w2
    obtain ⟨f, r, rfl, hP⟩ := h x List.mem_cons_self
    obtain ⟨a, ws, rfl, ha, ra⟩ := r1.tup_inv
    rename_i ux us'
    obtain rfl : ux = Value.ref a := w1
    cases ra with
    | cons q1 q2 =>
    rename_i vf vr
    obtain ⟨its, rv, ⟨o, ho, hc, n, hd⟩, _⟩ := I.tuple (sqT_of ha)
    cases rv with
    | cons m1 m2 =>
    rename_i uf ur
    refine ⟨uf :: fs, PySem.W.KatTups.cons ho hc hd (by simp) h1, by rw [List.length_cons, List.length_cons, h2], fun g hg => ?_⟩
    rcases List.mem_cons.mp hg with e | hg
    · subst e; exact ⟨f, vf, hP, q1, m1⟩
    · exact h3 g hg
theorem SortableO.congr {prog : Program} {w : World} {A : Around} {s : Shared} {a : Addr} {us : List Value} {l l' : Value → Value → Bool} (h : SrtO.SortableO prog w A s a us l) (e : ∀ u ∈ us, ∀ v ∈ us, l u v = l' u v) : SrtO.SortableO prog w A s a us l' := fun h' k => by
  obtain ⟨κ, h1, h2⟩ := h h' k
  refine ⟨κ, h1, fun p q hp hq => wpAny_mono (h2 p q hp hq) (fun r s' hr => ⟨hr.1, hr.2.trans ?_⟩) fun _ _ x => x⟩
  exact e _ hp _ hq
theorem tup_sortable {A : Around} (hA : A.units + 63 < cLine) {a : Addr} {xs : List PV} {vs : List V} {us : List Value} {P : PV → Prop} {T : String} (ok : SortOk xs) (r : RepL X.K H xs vs) (w : Vals vs us) (h2 : 2 ≤ us.length) {s1 : Shared}
    (kd : ∀ x ∈ xs, ∃ f r, x = .tup (f :: r) ∧ P f) (hT : ∀ (s' : Shared) f p v, Inv X pins σ H s' → P p → Rep X.K H p v → RelV v f → PySem.W.Looks (model X.prog X.w) s'.heap (typeOf f) (.type T)) (hT2 : (Value.type T == Value.type T) = true)
    (hb : (Value.type T != Value.type "tuple") = true → ∀ f, P f → ∃ k, f = .int k)
    (inv : ∀ h' : Heap, (∀ b o, b ≠ a → s1.heap.get? b = some o → h'.get? b = some o) → Inv X pins σ H { s1 with heap := h' }) :
    SrtO.SortableO X.prog X.w A s1 a us fun v u => ltC (pvOf X.K H v) (pvOf X.K H u) := by
  intro h' keep
  have I' := inv h' keep
  have pl := plainL_of ok.small
  obtain ⟨t1, t2⟩ := told_all pl r w
  obtain ⟨fs, f1, f2, f3⟩ := tups_firsts I' kd r w
  refine ⟨_, fun Q E hq => PySem.W.kat_kind (s := { s1 with heap := h' }) (T := .type T) f1 (by omega) (fun f hf => ?_) hT2 hq, fun p q hp hq => ?_⟩
  · obtain ⟨p, v, hp, rp, rv⟩ := f3 f hf
    exact hT _ f p v I' hp rp rv
  · obtain ⟨x, mx, vx, px, rx, wx⟩ := t1 _ hp
    obtain ⟨y, my, vy, py, ry, wy⟩ := t1 _ hq
    obtain ⟨fx, r', rfl, hPx⟩ := kd x mx
    obtain ⟨fy, r'', rfl, hPy⟩ := kd y my
    have e : SrtO.lt2 (fun v u => ltC (pvOf X.K H v) (pvOf X.K H u)) p q = qB .lt (.tup (fx :: r')) (.tup (fy :: r'')) := by
      show ltC (pvOf X.K H p.1) (pvOf X.K H q.1) = _
      rw [pvOf_eq ⟨vx, px, rx, wx⟩, pvOf_eq ⟨vy, py, ry, wy⟩, qB_code (ok.cmp _ mx _ my)]
    rw [e]
    obtain ⟨a1, ws, rfl, ha, ra⟩ := rx.tup_inv
    obtain ⟨a2, ws', rfl, ha', ra'⟩ := ry.tup_inv
    have ex : p.1 = .ref a1 := wx
    have ey : q.1 = .ref a2 := wy
    rw [ex, ey]
    obtain ⟨its, rv, ⟨o, ho, hc, n, hd⟩, _⟩ := I'.tuple (sqT_of ha)
    obtain ⟨its', rv', ⟨o', ho', hc', n', hd'⟩, _⟩ := I'.tuple (sqT_of ha')
    have sx := small_iff.mp (ok.small _ mx)
    have sy := small_iff.mp (ok.small _ my)
    refine PySem.W.kat_lt ho hd ho' hd' ?_
    have dx : pdepL (fx :: r') ≤ 60 := by have : pdepL (fx :: r') + 1 ≤ 60 := sx.2; omega
    have dy : pdepL (fy :: r'') ≤ 60 := by have : pdepL (fy :: r'') + 1 ≤ 60 := sy.2; omega
    have cc : cbL (fx :: r') (fy :: r'') = true := by have := ok.cmp _ mx _ my; unfold cb at this; exact this
    refine kat_pv I' hA (fx :: r') (fy :: r'') ws ws' its its' 0 (by have := sx.1; unfold plain at this; exact this) (by have := sy.1; unfold plain at this; exact this) dx dy cc ra ra' rv rv' ?_ (fun hb' _ x hx => ?_) ⟨rfl, by unfold qB; rfl⟩
    · rw [List.size_toArray, List.size_toArray, ← rv.length, ← rv'.length, ra.length, ra'.length]
    · cases hx
      exact hb hb' _ hPx
theorem sortable {A : Around} (hA : A.units + 63 < cLine) {a : Addr} {xs : List PV} {vs : List V} {us : List Value} (ok : SortOk xs) (r : RepL X.K H xs vs) (w : Vals vs us) (h2 : 2 ≤ us.length) {s1 : Shared}
    (inv : ∀ h' : Heap, (∀ b o, b ≠ a → s1.heap.get? b = some o → h'.get? b = some o) → Inv X pins σ H { s1 with heap := h' }) :
    SrtO.SortableO X.prog X.w A s1 a us fun v u => ltC (pvOf X.K H v) (pvOf X.K H u) := by
  have pl := plainL_of ok.small
  obtain ⟨t1, t2⟩ := told_all pl r w
  rcases ok.kind with kd | kd | kd
  · -- ints
    have hI : IntsAre us (us.map SrtO.iv) := SrtO.ints_iv fun u hu => by
      obtain ⟨p, m, v, _, rp, rv⟩ := t1 u hu
      obtain ⟨i, rfl⟩ := kd p m
      obtain rfl := rp.int_inv
      obtain ⟨t, rfl⟩ := rv
      exact ⟨i, t, rfl⟩
    refine SortableO.congr (SrtO.ints_sortable hI h2) fun u hu v hv => ?_
    obtain ⟨p, m, vp, p1, rp, rv⟩ := t1 u hu
    obtain ⟨q, m', vq, q1, rq, rv'⟩ := t1 v hv
    obtain ⟨i, rfl⟩ := kd p m
    obtain ⟨j, rfl⟩ := kd q m'
    rw [pvOf_eq ⟨vp, p1, rp, rv⟩, pvOf_eq ⟨vq, q1, rq, rv'⟩, ← qB_code (ok.cmp _ m _ m')]
    obtain rfl := rp.int_inv
    obtain rfl := rq.int_inv
    obtain ⟨t, rfl⟩ := rv
    obtain ⟨t', rfl⟩ := rv'
    unfold qB
    rfl
  · refine tup_sortable (T := "int") (P := fun f => ∃ i, f = .int i) hA ok r w h2 (fun x hx => ?_) (fun s' f p v I' hp rp rv => ?_) rfl (fun _ f hf => hf) inv
    · obtain ⟨i, r, e⟩ := kd x hx
      exact ⟨_, r, e, i, rfl⟩
    · obtain ⟨i, rfl⟩ := hp
      obtain rfl := rp.int_inv
      obtain ⟨t, rfl⟩ := rv
      exact PySem.W.Looks.now
  · refine tup_sortable (T := "tuple") (P := fun f => ∃ i, f = .tup i) hA ok r w h2 (fun x hx => ?_) (fun s' f p v I' hp rp rv => ?_) rfl (fun z => ?_) inv
    · obtain ⟨i, r, e⟩ := kd x hx
      exact ⟨_, r, e, i, rfl⟩
    · obtain ⟨i, rfl⟩ := hp
      obtain ⟨b, ws, rfl, hb, rb⟩ := rp.tup_inv
      obtain rfl : f = .ref b := rv
      obtain ⟨its, rv, ⟨o, ho, hc, n, hd⟩, _⟩ := I'.tuple (sqT_of hb)
      have z : PySem.W.Looks (model X.prog X.w) s'.heap (typeOf (.ref b)) o.cls := (PySem.W.Looks.ld ho).andThen .now
      rw [hc] at z
      exact z
    · have : (Value.type "tuple" != Value.type "tuple") = false := by first | rfl | decide | simp
      rw [this] at z; cases z
end

/-- sorted(x) -/
def sortedW : LRC := fun ps L Q => ∃ p, ps = [p] ∧ itW p L fun xs => (SortOk xs ∨ xs.length < 2) ∧ plainL xs = true ∧ ∀ q, L q = none → Q (.ref q) (lupd L q (.lst (sortP xs)))
theorem sorted_up {X : Cx} (hc : X.calm = true) (hu : X.A.units + 70 < cLine) : CallR X (.builtin "sorted") (upC X.K sortedW) := by
  intro pins s σ H vs us Q I r ⟨ps, L, Q0, rp, rh, w, af⟩
  obtain ⟨p, ep, w⟩ := w
  subst ep
  cases rp with
  | cons rp rn =>
  cases rn
  obtain ⟨u, rfl, ru⟩ := vals1 r
  refine Calls.call_function_entry PyProof.Rows.kind_sorted PyProof.Rows.plain_sorted PyProof.Rows.entry_sorted (PyProof.Rows.args_sorted1 _) ?_
  unfold Builtin.«sorted»
  refine wpAny_bind (m := checkCount "sorted" 1 1 _) (wpAny_pure ?_)
  refine wpAny_bind (coll I rh rp ru (I.ok.hd hc) w fun xs h' tk acc ws ⟨ok, pl, q⟩ hk rx rv hz => ?_)
  have I1 : Inv X pins σ H { s with heap := h', toks := tk } := I.kept hk
  refine wpAny_bind (wpAny_newList ?_ hz)
  have hoL : (h'.push (seqObj "list" acc.toArray 0)).get? h'.objs.size = some (seqObj "list" acc.toArray 0) := Heap.get?_push_size _ rfl
  show wpAny _ _ _ _ _ { s with heap := h'.push (seqObj "list" acc.toArray 0), toks := tk }
  have hlen : acc.length = xs.length := by rw [← rv.length, ← rx.length]
  refine wpAny_bind (wpAny_holding (wpAny_call_entry PyProof.Rows.slot_list_sort ⟨_, hoL, rfl⟩ PyProof.Rows.entry_list_sort
    (SrtO.list_sort_ord (s := { s with heap := h'.push (seqObj "list" acc.toArray 0), toks := tk }) (ltv := fun v u => ltC (pvOf X.K H v) (pvOf X.K H u)) ⟨fun x y => swo_ltC.asym _ _, fun x y z => swo_ltC.tr _ _ _⟩ hoL hz (fun h2 => ?_) fun out g1 g2 => ⟨_, rfl, ?_⟩) (PyProof.Rows.args_list_sort _)))
  · rcases ok with ok | ok
    · refine sortable (pins := pins) (σ := σ) (by show X.A.units + 1 + 1 + 63 < cLine; omega) ok rx rv h2 fun h2' keep => ?_
      exact I.kept (h' := h2') (t' := tk) fun b o e => keep b o (Nat.ne_of_lt (Heap.lt_size (hk b o e))) (Heap.get?_push_of_some _ (hk b o e))
    · omega
  · obtain ⟨e', he'⟩ := PyProof.Rows.sortedHeap_at (vs := acc) (out := out.toArray) hoL
    obtain ⟨t1, t2⟩ := told_all pl rx rv
    have m1 : SrtO.Srtd ltC (out.map (pvOf X.K H)) := SrtO.srtd_map g1
    have m2 : SrtO.Stb ltC (out.map (pvOf X.K H)) xs := by
      have := SrtO.Stb.map swo_ltC (pvOf X.K H) g2
      rw [t2] at this
      exact this
    have e : out.map (pvOf X.K H) = sortP xs := SrtO.stb_uniq swo_ltC m1 (sortP_srtd xs) ⟨m2.perm.trans (sortP_perm xs).symm, fun z => (m2.cls z).trans ((sortP_stb xs).cls z).symm⟩
    obtain ⟨vo, ro, wo⟩ := rep_all (K := X.K) (H := H) (us := out) fun u hu => by
      obtain ⟨p, _, t⟩ := t1 u (g2.perm.mem_iff.mp hu)
      exact ⟨p, t⟩
    rw [e] at ro
    have hl : vo.length ≤ sizeLine := by
      rw [← ro.length, (sortP_perm xs).length_eq, ← hlen]; exact hz
    refine wpAny_pure ⟨_, rfl, .ref h'.objs.size, upd H h'.objs.size (.lst vo), I1.laid (t' := tk) (fun b u e => ?_) (Nat.le_refl _) ⟨hl, out, e', wo, by simpa using he'⟩, rfl, ?_⟩
    · have hb : b < h'.objs.size := Heap.lt_size e
      rw [PyProof.Rows.sortedHeap_old (Nat.ne_of_lt hb) (by rw [PyProof.Rows.size_push']; exact Nat.lt_succ_of_lt hb)]
      exact Heap.get?_push_of_some _ e
    · have hn : H h'.objs.size = none := I1.hok.fresh (Nat.le_refl _)
      exact af _ _ _ _ (q _ (rh.free hn)) (.new hn) (rh.new_lst hn ro) (.ref _)
end DP

set_option Elab.async false
set_option linter.all false
set_option maxRecDepth 100000
set_option maxHeartbeats 4000000
/-! built-in functions and methods by values -/
namespace DP
open PySem PySem.Spec PyProof.Rows L2

def lenW : LRC := fun ps L Q => match ps with
  | [.tup xs] => Q (.int xs.length) L
  | [.rol xs] => Q (.int xs.length) L
  | [.str x] => x.length ≤ 16777216 ∧ Q (.int x.length) L
  | [.ref a] => (∃ xs, L a = some (.lst xs) ∧ Q (.int xs.length) L) ∨ ∃ kvs, L a = some (.dct kvs) ∧ Q (.int kvs.length) L
  | _ => False
/-- all bools -/
def bools : List PV → Option (List Bool)
  | [] => some []
  | .bl b :: r => (bools r).map (b :: ·)
  | _ => none
theorem bools_eq : ∀ {xs : List PV} {bs : List Bool}, bools xs = some bs → xs = bs.map .bl
  | [], _, h => by cases h; rfl
  | .bl b :: r, bs, h => by
    unfold bools at h
    cases e : bools r with
    | none => rw [e] at h; cases h
    | some cs => rw [e] at h; cases h; rw [bools_eq e]; rfl
  | .non :: _, _, h => by cases h
  | .int _ :: _, _, h => by cases h
  | .str _ :: _, _, h => by cases h
  | .tup _ :: _, _, h => by cases h
  | .ref _ :: _, _, h => by cases h
  | .ty _ :: _, _, h => by cases h
  | .rol _ :: _, _, h => by cases h
def intsOf : List PV → Option (List Int)
  | [] => some []
  | .int b :: r => (intsOf r).map (b :: ·)
  | _ => none
theorem intsOf_eq : ∀ {xs : List PV} {bs : List Int}, intsOf xs = some bs → xs = bs.map .int
  | [], _, h => by cases h; rfl
  | .int b :: r, bs, h => by
    unfold intsOf at h
    cases e : intsOf r with
    | none => rw [e] at h; cases h
    | some cs => rw [e] at h; cases h; rw [intsOf_eq e]; rfl
  | .non :: _, _, h => by cases h
  | .bl _ :: _, _, h => by cases h
  | .str _ :: _, _, h => by cases h
  | .tup _ :: _, _, h => by cases h
  | .ref _ :: _, _, h => by cases h
  | .ty _ :: _, _, h => by cases h
  | .rol _ :: _, _, h => by cases h
theorem intsOf_map : ∀ ns : List Int, intsOf (ns.map .int) = some ns
  | [] => rfl
  | n :: ns => by show (intsOf (ns.map .int)).map (n :: ·) = _; rw [intsOf_map ns]; rfl
theorem bools_map : ∀ ns : List Bool, bools (ns.map .bl) = some ns
  | [] => rfl
  | n :: ns => by show (bools (ns.map .bl)).map (n :: ·) = _; rw [bools_map ns]; rfl
def allW : LRC := fun ps L Q => ∃ a xs bs, ps = [.ref a] ∧ L a = some (.lst xs) ∧ bools xs = some bs ∧ Q (.bl (bs.all id)) L
def anyW : LRC := fun ps L Q => ∃ a xs bs, ps = [.ref a] ∧ L a = some (.lst xs) ∧ bools xs = some bs ∧ Q (.bl (bs.any id)) L
/-- a list or a tuple of ints -/
def intsIn (p : PV) (L : LHp) (Q : List Int → Prop) : Prop := match p with
  | .tup xs => ∃ ns, intsOf xs = some ns ∧ Q ns
  | .ref a => ∃ xs ns, L a = some (.lst xs) ∧ intsOf xs = some ns ∧ Q ns
  | _ => False
def sumW : LRC := fun ps L Q => ∃ p, ps = [p] ∧ intsIn p L fun ns => Q (.int ns.sum) L
def leastI : List Int → Int
  | [] => 0
  | [a] => a
  | a :: r => if leastI r < a then leastI r else a
def mostI : List Int → Int
  | [] => 0
  | [a] => a
  | a :: r => if a < mostI r then mostI r else a
def maxW : LRC := fun ps L Q => match ps with
  | [.int i, .int j] => Q (.int (if j > i then j else i)) L
  | [.ref a] => ∃ xs ns, L a = some (.lst xs) ∧ intsOf xs = some ns ∧ ns ≠ [] ∧ Q (.int (mostI ns)) L
  | _ => False
def minW : LRC := fun ps L Q => match ps with
  | [.int i, .int j] => Q (.int (if j < i then j else i)) L
  | [.ref a] => ∃ xs ns, L a = some (.lst xs) ∧ intsOf xs = some ns ∧ ns ≠ [] ∧ Q (.int (leastI ns)) L
  | _ => False
def intW : LRC := fun ps L Q => match ps with
  | [.int i] => Q (.int i) L
  | [.bl b] => Q (.int (if b then 1 else 0)) L
  | _ => False
def absW : LRC := fun ps L Q => match ps with
  | [.int i] => Q (.int (if i < 0 then -i else i)) L
  | _ => False
def tupleW : LRC := fun ps L Q => match ps with
  | [.tup xs] => Q (.tup xs) L
  | [.ref a] => ∃ xs, L a = some (.lst xs) ∧ Q (.tup xs) L
  | _ => False
def listW : LRC := fun ps L Q => match ps with
  | [.tup xs] => ∀ p, L p = none → Q (.ref p) (lupd L p (.lst xs))
  | [.ref a] => ∃ xs, L a = some (.lst xs) ∧ ∀ p, L p = none → Q (.ref p) (lupd L p (.lst xs))
  | _ => False
/-- a value's type -/
def tyP (p : PV) (L : LHp) : Option String := match p with
  | .non => some "NoneType"
  | .bl _ => some "bool"
  | .int _ => some "int"
  | .str _ => some "str"
  | .tup _ => some "tuple"
  | .rol _ => none
  | .ref a => match L a with
    | some (.lst _) => some "list"
    | some (.dct _) => some "dict"
    | _ => none
  | .ty _ => none
def isiB (T n : String) : Bool := T == n || (T == "bool" && n == "int")
def isiTs : List String := ["NoneType", "bool", "int", "str", "tuple", "list", "dict"]
def isiW : LRC := fun ps L Q => match ps with
  | [x, .ty n] => ∃ T, tyP x L = some T ∧ n ∈ isiTs ∧ Q (.bl (isiB T n)) L
  | _ => False
theorem kit_tab : ∀ T ∈ isiTs, ∀ n ∈ isiTs, kitB T n = some (isiB T n) := by decide +kernel

theorem leastI_mem : ∀ {ns : List Int}, ns ≠ [] → leastI ns ∈ ns ∧ ∀ y ∈ ns, leastI ns ≤ y
  | [], h => absurd rfl h
  | [a], _ => ⟨List.mem_singleton.mpr rfl, fun y hy => by rw [List.mem_singleton.mp hy]; exact Int.le_refl _⟩
  | a :: b :: r, _ => by
    obtain ⟨h1, h2⟩ := leastI_mem (ns := b :: r) (by simp)
    show (if leastI (b :: r) < a then leastI (b :: r) else a) ∈ _ ∧ ∀ y ∈ _, (if leastI (b :: r) < a then leastI (b :: r) else a) ≤ y
    by_cases c : leastI (b :: r) < a
    · rw [if_pos c]
      refine ⟨List.mem_cons_of_mem _ h1, fun y hy => ?_⟩
      rcases List.mem_cons.mp hy with e | hy
      · omega
      · exact h2 y hy
    · rw [if_neg c]
      refine ⟨List.mem_cons_self, fun y hy => ?_⟩
      rcases List.mem_cons.mp hy with e | hy
      · omega
      · have := h2 y hy; omega
theorem mostI_mem : ∀ {ns : List Int}, ns ≠ [] → mostI ns ∈ ns ∧ ∀ y ∈ ns, y ≤ mostI ns
  | [], h => absurd rfl h
  | [a], _ => ⟨List.mem_singleton.mpr rfl, fun y hy => by rw [List.mem_singleton.mp hy]; exact Int.le_refl _⟩
  | a :: b :: r, _ => by
    obtain ⟨h1, h2⟩ := mostI_mem (ns := b :: r) (by simp)
    show (if a < mostI (b :: r) then mostI (b :: r) else a) ∈ _ ∧ ∀ y ∈ _, y ≤ (if a < mostI (b :: r) then mostI (b :: r) else a)
    by_cases c : a < mostI (b :: r)
    · rw [if_pos c]
      refine ⟨List.mem_cons_of_mem _ h1, fun y hy => ?_⟩
      rcases List.mem_cons.mp hy with e | hy
      · omega
      · exact h2 y hy
    · rw [if_neg c]
      refine ⟨List.mem_cons_self, fun y hy => ?_⟩
      rcases List.mem_cons.mp hy with e | hy
      · omega
      · have := h2 y hy; omega

section
variable {X : Cx}
theorem RepL.one {K : PySem.W.Frag} {H : Hp} {p : PV} {vs : List V} (r : RepL K H [p] vs) : ∃ v, vs = [v] ∧ Rep K H p v := by
  cases r with | cons a t => cases t; exact ⟨_, rfl, a⟩
theorem RepL.two {K : PySem.W.Frag} {H : Hp} {p q : PV} {vs : List V} (r : RepL K H [p, q] vs) : ∃ v w, vs = [v, w] ∧ Rep K H p v ∧ Rep K H q w := by
  cases r with | cons a t => cases t with | cons b t => cases t; exact ⟨_, _, rfl, a, b⟩
theorem len_up : CallR X (.builtin "len") (upC X.K lenW) := by
  refine CallR.imp (CallR.or call_len_seq (CallR.or call_len_str (CallR.or call_lenD call_len_dT))) fun vs H Q ⟨ps, L, Q0, rp, rh, w, af⟩ => ?_
  match ps, rp, w with
  | [.tup xs], rp, w =>
    obtain ⟨v, rfl, r⟩ := rp.one
    obtain ⟨a, ws, rfl, h1, h2⟩ := r.tup_inv
    exact .inl ⟨a, ws, rfl, .inr (sqT_of h1), by rw [← h2.length]; exact af _ _ _ _ w (.refl _) rh (.int _)⟩
  | [.rol xs], rp, w =>
    obtain ⟨v, rfl, r⟩ := rp.one
    obtain ⟨a, ws, rfl, h1, h2⟩ := r.rol_inv
    exact .inl ⟨a, ws, rfl, .inl h1.sq, by rw [← h2.length]; exact af _ _ _ _ w (.refl _) rh (.int _)⟩
  | [.str x], rp, w =>
    obtain ⟨v, rfl, r⟩ := rp.one
    obtain rfl := r.str_inv
    exact .inr (.inl ⟨x, rfl, lenOk w.1, af _ _ _ _ w.2 (.refl _) rh (.int _)⟩)
  | [.ref a], rp, w =>
    obtain ⟨v, rfl, r⟩ := rp.one
    obtain rfl := r.ref_inv
    rcases w with ⟨xs, e, q⟩ | ⟨kvs, e, q⟩
    · obtain ⟨ws, h1, h2⟩ := rh.lst e
      exact .inl ⟨a, ws, rfl, .inl (sqL_of h1), by rw [← h2.length]; exact af _ _ _ _ q (.refl _) rh (.int _)⟩
    · rcases rh a _ e with ⟨ks, h1, h2⟩ | ⟨ks, h1, h2⟩
      · exact .inr (.inr (.inl ⟨a, ks, rfl, h1, by rw [← Paired.length h2]; exact af _ _ _ _ q (.refl _) rh (.int _)⟩))
      · exact .inr (.inr (.inr ⟨a, ks, rfl, h1, by rw [← Paired.length h2]; exact af _ _ _ _ q (.refl _) rh (.int _)⟩))
theorem bools_of {K : PySem.W.Frag} {H : Hp} {L : LHp} {a : Addr} {xs : List PV} {bs : List Bool} (rh : RelHp K H L) (e : L a = some (.lst xs)) (b : bools xs = some bs) : SqL K H a (bs.map V.bl) := by
  obtain ⟨ws, h1, h2⟩ := rh.lst e
  rw [bools_eq b] at h2
  rw [← h2.bls_inv]
  exact sqL_of h1
theorem all_up (hc : X.calm = true) : CallR X (.builtin "all") (upC X.K allW) := CallR.imp (cr_all hc) fun vs H Q ⟨ps, L, Q0, rp, rh, w, af⟩ => by
  obtain ⟨a, xs, bs, rfl, e, b, q⟩ := w
  obtain ⟨v, rfl, r⟩ := rp.one
  obtain rfl := r.ref_inv
  exact ⟨a, bs, rfl, bools_of rh e b, af _ _ _ _ q (.refl _) rh (.bl _)⟩
theorem any_up (hc : X.calm = true) : CallR X (.builtin "any") (upC X.K anyW) := CallR.imp (cr_any hc) fun vs H Q ⟨ps, L, Q0, rp, rh, w, af⟩ => by
  obtain ⟨a, xs, bs, rfl, e, b, q⟩ := w
  obtain ⟨v, rfl, r⟩ := rp.one
  obtain rfl := r.ref_inv
  exact ⟨a, bs, rfl, bools_of rh e b, af _ _ _ _ q (.refl _) rh (.bl _)⟩
theorem sum_tup {prog : Program} {w : World} {A : Around} {E : Value → Shared → Prop} {s : Shared} {l : Addr} {its : List Value} {ns : List Int} {Q : Value → Shared → Prop} (hh : A.handled = none) (hl : IsTup s.heap l its.toArray) (hi : IntsAre its ns)
    (h : ∀ h' tk t', (∀ b o, s.heap.get? b = some o → h'.get? b = some o) → Q (.int ns.sum t') { s with heap := h', toks := tk }) : wpAny (model prog w) A (call (.builtin "sum") [.ref l]) Q E s := by
  obtain ⟨xs, e⟩ := hi.allInts.items
  have hn : numsOf (intItems xs).toList = ns := by rw [← e]; exact hi.numsOf
  rw [nums_intItems] at hn
  rw [e] at hl
  have hlt : l < s.heap.objs.size := hl.lt
  refine call_sum_walkG (wpAny_pyIter_tuple (show s.heap.IsTuple l (intItems xs) from hl) ?_)
  refine ⟨s.heap.objs.size, _, _, _, _, _, numAt xs, rfl, Walks.tuple (A := A.in1) hh s.heap.objs.size l (Nat.ne_of_lt hlt) (intItems xs), ⟨⟨_, Heap.get?_push_size _ rfl, rfl, rfl⟩, ?_⟩, fun b hb => ?_, fun _ _ => intItems_at, fun h' tk t' hk => ?_⟩
  · obtain ⟨o, ho, r⟩ := hl
    exact ⟨o, Heap.get?_push_of_some _ ho, r⟩
  · have : b = s.heap.objs.size ∨ b = l := by simpa using hb
    rcases this with e | e
    · rw [e]; show _ < (s.heap.push _).objs.size; rw [Heap.size_push]; exact Nat.lt_succ_self _
    · rw [e]; show _ < (s.heap.push _).objs.size; rw [Heap.size_push]; exact Nat.lt_succ_of_lt hlt
  · have := h h' tk t' fun b o q => hk b o (by simp; exact Nat.ne_of_lt (Heap.lt_size q)) (Heap.get?_push_of_some _ q)
    have e1 : preSum (numAt xs) (intItems xs).size = ns.sum := by
      rw [show (intItems xs).size = xs.size by simp [intItems], preSum_eq, List.take_of_length_le (by simp), hn]
    rw [e1]
    exact this
theorem sum_up (hc : X.calm = true) : CallR X (.builtin "sum") (upC X.K sumW) := by
  intro pins s σ H vs us Q I r ⟨ps, L, Q0, rp, rh, w, af⟩
  obtain ⟨p, rfl, w⟩ := w
  obtain ⟨v, rfl, rv⟩ := rp.one
  cases p with
  | tup xs =>
    obtain ⟨ns, e, q⟩ := w
    obtain ⟨a, ws, rfl, h1, h2⟩ := rv.tup_inv
    rw [intsOf_eq e] at h2
    obtain rfl := h2.ints_inv
    obtain ⟨its, rw', hl, _⟩ := I.tuple (sqT_of h1)
    rw [Vals.ref1 r]
    exact sum_tup (I.ok.hd hc) hl rw'.ints fun h' tk t' hk => ⟨.int _, H, I.kept hk, ⟨_, rfl⟩, af _ _ _ _ q (.refl _) rh (.int _)⟩
  | ref a =>
    obtain ⟨xs, ns, e1, e, q⟩ := w
    obtain rfl := rv.ref_inv
    obtain ⟨ws, h1, h2⟩ := rh.lst e1
    rw [intsOf_eq e] at h2
    obtain rfl := h2.ints_inv
    exact cr_sum hc pins s σ H _ us Q I r ⟨a, ns, rfl, sqL_of h1, af _ _ _ _ q (.refl _) rh (.int _)⟩
  | _ => exact w.elim
theorem mm_uniq {ns : List Int} {m : Int} (h : ns ≠ []) (h1 : m ∈ ns) (h2 : ∀ y ∈ ns, m ≤ y) : m = leastI ns := by
  obtain ⟨a, b⟩ := leastI_mem h
  have := h2 _ a
  have := b _ h1
  omega
theorem mm_uniq' {ns : List Int} {m : Int} (h : ns ≠ []) (h1 : m ∈ ns) (h2 : ∀ y ∈ ns, y ≤ m) : m = mostI ns := by
  obtain ⟨a, b⟩ := mostI_mem h
  have := h2 _ a
  have := b _ h1
  omega
theorem max_up (hc : X.calm = true) : CallR X (.builtin "max") (upC X.K maxW) := by
  refine CallR.imp (CallR.or (call_max2 hc) (cr_max hc)) fun vs H Q ⟨ps, L, Q0, rp, rh, w, af⟩ => ?_
  match ps, rp, w with
  | [.int i, .int j], rp, w =>
    obtain ⟨v, v', rfl, r1, r2⟩ := rp.two
    obtain rfl := r1.int_inv
    obtain rfl := r2.int_inv
    exact .inl ⟨i, j, rfl, af _ _ _ _ w (.refl _) rh (.int _)⟩
  | [.ref a], rp, w =>
    obtain ⟨v, rfl, r⟩ := rp.one
    obtain rfl := r.ref_inv
    obtain ⟨xs, ns, e1, e, hn, q⟩ := w
    obtain ⟨ws, h1, h2⟩ := rh.lst e1
    rw [intsOf_eq e] at h2
    obtain rfl := h2.ints_inv
    refine .inr ⟨a, ns, rfl, sqL_of h1, List.length_pos_iff.mpr hn, fun m m1 m2 => ?_⟩
    rw [mm_uniq' hn m1 m2]
    exact af _ _ _ _ q (.refl _) rh (.int _)
theorem min_up (hc : X.calm = true) : CallR X (.builtin "min") (upC X.K minW) := by
  refine CallR.imp (CallR.or (call_min2 hc) (cr_min hc)) fun vs H Q ⟨ps, L, Q0, rp, rh, w, af⟩ => ?_
  match ps, rp, w with
  | [.int i, .int j], rp, w =>
    obtain ⟨v, v', rfl, r1, r2⟩ := rp.two
    obtain rfl := r1.int_inv
    obtain rfl := r2.int_inv
    exact .inl ⟨i, j, rfl, af _ _ _ _ w (.refl _) rh (.int _)⟩
  | [.ref a], rp, w =>
    obtain ⟨v, rfl, r⟩ := rp.one
    obtain rfl := r.ref_inv
    obtain ⟨xs, ns, e1, e, hn, q⟩ := w
    obtain ⟨ws, h1, h2⟩ := rh.lst e1
    rw [intsOf_eq e] at h2
    obtain rfl := h2.ints_inv
    refine .inr ⟨a, ns, rfl, sqL_of h1, List.length_pos_iff.mpr hn, fun m m1 m2 => ?_⟩
    rw [mm_uniq hn m1 m2]
    exact af _ _ _ _ q (.refl _) rh (.int _)
theorem int_fn_up : CallR X (.type "int") (upC X.K intW) := by
  refine CallR.imp call_int1 fun vs H Q ⟨ps, L, Q0, rp, rh, w, af⟩ => ?_
  match ps, rp, w with
  | [.int i], rp, w =>
    obtain ⟨v, rfl, r⟩ := rp.one
    obtain rfl := r.int_inv
    exact .inl ⟨i, rfl, af _ _ _ _ w (.refl _) rh (.int _)⟩
  | [.bl i], rp, w =>
    obtain ⟨v, rfl, r⟩ := rp.one
    obtain rfl := r.bl_inv
    exact .inr ⟨i, rfl, af _ _ _ _ w (.refl _) rh (.int _)⟩
theorem abs_up : CallR X (.builtin "abs") (upC X.K absW) := by
  refine CallR.imp call_abs fun vs H Q ⟨ps, L, Q0, rp, rh, w, af⟩ => ?_
  match ps, rp, w with
  | [.int i], rp, w =>
    obtain ⟨v, rfl, r⟩ := rp.one
    obtain rfl := r.int_inv
    exact ⟨i, rfl, af _ _ _ _ w (.refl _) rh (.int _)⟩
theorem tuple_up : CallR X (.type "tuple") (upC X.K tupleW) := by
  refine CallR.imp call_tuple_of fun vs H Q ⟨ps, L, Q0, rp, rh, w, af⟩ => ?_
  match ps, rp, w with
  | [.tup xs], rp, w =>
    obtain ⟨v, rfl, r⟩ := rp.one
    obtain ⟨a, ws, rfl, h1, h2⟩ := r.tup_inv
    exact ⟨a, ws, rfl, .inr ⟨sqT_of h1, af _ _ _ _ w (.refl _) rh (.tup h1 h2)⟩⟩
  | [.ref a], rp, w =>
    obtain ⟨v, rfl, r⟩ := rp.one
    obtain rfl := r.ref_inv
    obtain ⟨xs, e, q⟩ := w
    obtain ⟨ws, h1, h2⟩ := rh.lst e
    exact ⟨a, ws, rfl, .inl ⟨sqL_of h1, fun l hl => af _ _ _ _ q (.new hl) (rh.grow hl) (Rep.new_tup hl h2)⟩⟩
theorem list_up : CallR X (.type "list") (upC X.K listW) := by
  refine CallR.imp call_list_of fun vs H Q ⟨ps, L, Q0, rp, rh, w, af⟩ => ?_
  match ps, rp, w with
  | [.tup xs], rp, w =>
    obtain ⟨v, rfl, r⟩ := rp.one
    obtain ⟨a, ws, rfl, h1, h2⟩ := r.tup_inv
    exact ⟨a, ws, rfl, .inr (sqT_of h1), fun l hl => af _ _ _ _ (w l (rh.free hl)) (.new hl) (rh.new_lst hl h2) (.ref l)⟩
  | [.ref a], rp, w =>
    obtain ⟨v, rfl, r⟩ := rp.one
    obtain rfl := r.ref_inv
    obtain ⟨xs, e, q⟩ := w
    obtain ⟨ws, h1, h2⟩ := rh.lst e
    exact ⟨a, ws, rfl, .inl (sqL_of h1), fun l hl => af _ _ _ _ (q l (rh.free hl)) (.new hl) (rh.new_lst hl h2) (.ref l)⟩
theorem tyP_tyx {K : PySem.W.Frag} {H : Hp} {L : LHp} {p : PV} {v : V} {T : String} (rh : RelHp K H L) (r : Rep K H p v) (h : tyP p L = some T) : TyX K H v (.type T) ∧ T ∈ isiTs := by
  cases p with
  | non => obtain rfl := r.non_inv; cases h; exact ⟨.base .non, by decide⟩
  | bl b => obtain rfl := r.bl_inv; cases h; exact ⟨.base (.bl b), by decide⟩
  | int b => obtain rfl := r.int_inv; cases h; exact ⟨.base (.int b), by decide⟩
  | str b => obtain rfl := r.str_inv; cases h; exact ⟨.base (.str b), by decide⟩
  | tup xs =>
    obtain ⟨a, ws, rfl, h1, h2⟩ := r.tup_inv
    cases h
    exact ⟨.base (.tup h1), by decide⟩
  | ref a =>
    obtain rfl := r.ref_inv
    have h : (match L a with | some (.lst _) => some "list" | some (.dct _) => some "dict" | _ => none) = some T := h
    cases e : L a with
    | none => rw [e] at h; cases h
    | some o =>
      cases o with
      | lst xs =>
        rw [e] at h; cases h
        obtain ⟨ws, h1, h2⟩ := rh.lst e
        exact ⟨.base (.lst h1), by decide⟩
      | dct kvs =>
        rw [e] at h; cases h
        rcases rh a _ e with ⟨ks, h1, h2⟩ | ⟨ks, h1, h2⟩
        · exact ⟨.base (.dK h1), by decide⟩
        · exact ⟨.base (.dT h1), by decide⟩
      | fdct kvs => rw [e] at h; cases h
      | kdct kvs => rw [e] at h; cases h
  | ty n => cases h
  | rol xs => cases h
theorem isi_up : CallR X (.builtin "isinstance") (upC X.K isiW) := by
  refine CallR.imp call_isi fun vs H Q ⟨ps, L, Q0, rp, rh, w, af⟩ => ?_
  match ps, rp, w with
  | [x, .ty n], rp, w =>
    obtain ⟨v, v', rfl, r1, r2⟩ := rp.two
    obtain rfl := r2.ty_inv
    obtain ⟨T, e, hn, q⟩ := w
    obtain ⟨t1, t2⟩ := tyP_tyx rh r1 e
    exact ⟨v, .ty n, .type T, .type n, isiB T n, rfl, .ty n, t1, kit_ty (kit_tab T t2 n hn), af _ _ _ _ q (.refl _) rh (.bl _)⟩

/-! ### methods -/
def appendW : LRM := fun p ps L Q => ∃ a xs y, p = .ref a ∧ ps = [y] ∧ L a = some (.lst xs) ∧ xs.length < 16777216 ∧ Q .non (lupd L a (.lst (xs ++ [y])))
def popW : LRM := fun p ps L Q => ∃ a xs y, p = .ref a ∧ ps = [] ∧ L a = some (.lst xs) ∧ xs[xs.length - 1]? = some y ∧ Q y (lupd L a (.lst xs.dropLast))
def popAtW : LRM := fun p ps L Q => ∃ a xs i k y, p = .ref a ∧ ps = [.int i] ∧ L a = some (.lst xs) ∧ -(2 ^ 63) ≤ i ∧ i < 2 ^ 63 ∧ seqIndex? i xs.length = some k ∧ xs[k]? = some y ∧ Q y (lupd L a (.lst (xs.eraseIdx k)))
theorem append_up : MtR X "list.append" (upM X.K appendW) := by
  refine MtR.imp (show MtR X "list.append" rAppend from mt_append) fun x xs H Q ⟨p, ps, L, Q0, r1, r2, rh, w, af⟩ => ?_
  obtain ⟨a, ys, y, rfl, rfl, e, hl, q⟩ := w
  obtain rfl := r1.ref_inv
  obtain ⟨v, rfl, rv⟩ := r2.one
  obtain ⟨ws, h1, h2⟩ := rh.lst e
  obtain ⟨rh', xt⟩ := rh.put_lst e (h2.append (.cons rv .nil))
  exact ⟨a, ws, v, rfl, rfl, h1, by rw [← h2.length, sizeLine_eq]; exact hl, af _ _ _ _ q xt rh' .non⟩
theorem pop_up : MtR X "list.pop" (upM X.K popW) := by
  refine MtR.imp (show MtR X "list.pop" rPop from mt_pop) fun x xs H Q ⟨p, ps, L, Q0, r1, r2, rh, w, af⟩ => ?_
  obtain ⟨a, ys, y, rfl, rfl, e, hy, q⟩ := w
  obtain rfl := r1.ref_inv
  cases r2
  obtain ⟨ws, h1, h2⟩ := rh.lst e
  obtain ⟨rh', xt⟩ := rh.put_lst e h2.dropLast
  obtain ⟨v, hv, rv⟩ := h2.get hy
  exact ⟨a, ws, v, rfl, rfl, h1, by rw [← h2.length]; exact hv, af _ _ _ _ q xt rh' (rv.ext xt)⟩
theorem popAt_up : MtR X "list.pop" (upM X.K popAtW) := by
  refine MtR.imp (show MtR X "list.pop" rPopAt from mt_popAt) fun x xs H Q ⟨p, ps, L, Q0, r1, r2, rh, w, af⟩ => ?_
  obtain ⟨a, ys, i, k, y, rfl, rfl, e, b1, b2, hk, hy, q⟩ := w
  obtain rfl := r1.ref_inv
  obtain ⟨v0, rfl, rv0⟩ := r2.one
  obtain rfl := rv0.int_inv
  obtain ⟨ws, h1, h2⟩ := rh.lst e
  obtain ⟨rh', xt⟩ := rh.put_lst e (h2.eraseIdx k)
  obtain ⟨v, hv, rv⟩ := h2.get hy
  exact ⟨a, ws, i, k, v, rfl, rfl, h1, b1, b2, by rw [← h2.length]; exact hk, hv, af _ _ _ _ q xt rh' (rv.ext xt)⟩
end
end DP

set_option Elab.async false
set_option linter.all false
set_option maxRecDepth 100000
set_option maxHeartbeats 4000000
/-! what a loop walks -/
namespace DP
open PySem PySem.Spec PyProof.Rows L2

/-! ### enumerate of a tuple -/
theorem meets_enumerate_newT {v : Value} {o : Obj} {H : Heap → Prop} (B : Begins v o H) :
    Meets (Builtin.«enumerate.__new__» ⟨[.type "enumerate", v], []⟩) (fun _ R s => H s.heap ∧
      R (.ok (.ret (.ref (s.heap.push o).objs.size))) { s with heap := (s.heap.push o).push { cls := .type "enumerate", data := .fields #[.none, .bool false, .ref s.heap.objs.size, rawInt 0, .none, .none] } }) :=
  .of_wp fun prog w A R s h => by
    obtain ⟨hp, g, d, tk, os⟩ := s; obtain ⟨h1, h⟩ := h
    have hsub := sub_enumerate
    have q1 : ∀ {A' : Around} {E : Value → Shared → Prop} {Q : Value → Shared → Prop}, Q (.ref hp.objs.size) ⟨hp.push o, g, d, tk, os⟩ → wpAny (model prog w) A' (pyIter v) Q E ⟨hp, g, d, tk, os⟩ :=
      fun q => B.iter prog w _ _ ⟨hp, g, d, tk, os⟩ _ h1 q
    wp_walk
    refine wpAny_stack_any fun st => wpAny_pure ?_
    split
    · rename_i c _ _ _ _ _
      cases (c == Value.type "enumerate")
      · wp_walk using q1
        exact ⟨_, rfl, h⟩
      · wp_walk using q1
        exact ⟨_, rfl, h⟩
    · wp_walk using q1
      exact ⟨_, rfl, h⟩
theorem begins_tup (l : Addr) (items : Array Value) : Begins (.ref l) { cls := .type "tuple_iterator", data := .fields #[.ref l, .int 0 0] } fun h => h.IsTuple l items where
  iter := fun prog w A E s Q hl h => wpAny_pyIter_tuple hl h
  keeps := fun h h' x hk => x.at fun o e => hk l o e
  free := rfl
theorem call_enumT {prog : Program} {w : World} {A : Around} {E : Value → Shared → Prop} {s : Shared} {l : Addr} {items : Array Value} {Q : Value → Shared → Prop} (hL : s.heap.IsTuple l items)
    (h : ∀ h', IsEnum h' (s.heap.objs.size + 1) s.heap.objs.size 0 .none → h'.IsTupleIter s.heap.objs.size l 0 → h'.objs.size = s.heap.objs.size + 2 →
      (∀ b o, s.heap.get? b = some o → h'.get? b = some o) → Q (.ref (s.heap.objs.size + 1)) { s with heap := h' }) :
    wpAny (model prog w) A (call (.type "enumerate") [.ref l]) Q E s := by
  have B := begins_tup l items
  refine callType_new F.called_enumerate (by decide) (F.typeCall_enumerate_1 _) (F.newCall_enumerate_1 _) (fun obj => F.args_object_init_2 obj _) F.entry_enumerate_new
    (meets_enumerate_newT B) ⟨hL, ?_⟩
  have hz : (s.heap.push { cls := .type "tuple_iterator", data := .fields #[.ref l, .int 0 0] }).objs.size = s.heap.objs.size + 1 := Heap.size_push ..
  show _ ∧ _
  rw [hz]
  have he : IsEnum ((s.heap.push { cls := .type "tuple_iterator", data := .fields #[.ref l, .int 0 0] }).push { cls := .type "enumerate", data := .fields #[.none, .bool false, .ref s.heap.objs.size, rawInt 0, .none, .none] }) (s.heap.objs.size + 1) s.heap.objs.size 0 .none := by
    have := Heap.get?_push_size (s.heap.push { cls := .type "tuple_iterator", data := .fields #[.ref l, .int 0 0] }) (o := { cls := .type "enumerate", data := .fields #[.none, .bool false, .ref s.heap.objs.size, rawInt 0, .none, .none] }) rfl
    rw [hz] at this; exact this
  refine ⟨⟨_, he, rfl⟩, h _ he ⟨_, Heap.get?_push_of_some _ (Heap.get?_push_size _ B.free), rfl, rfl⟩ (by rw [Heap.size_push, hz]) fun b o x => Heap.get?_push_of_some _ (Heap.get?_push_of_some _ x)⟩
/-- the tuple at a, each item in a new pair -/
def IteT (K : PySem.W.Frag) (a : Addr) : It :=
  ⟨fun i H => ∃ (xs : List V) (x : V), SqT K H a xs ∧ xs[i]? = some x, fun i H v H' => ∃ T x, v = .ref T ∧ H T = none ∧ H' = upd H T (.tup [.int (i : Nat), x]) ∧ ∀ xs, SqT K H a xs → xs[i]? = some x, fun i H => ∃ xs : List V, SqT K H a xs ∧ xs.length = i⟩
theorem turn_enumT {P : Program} {w : World} {K : PySem.W.Frag} {elts : List Expr} {kk : Nat} {tpos : Pos} (a e it : Addr) :
    Turn P w K (.Tuple elts kk tpos) (IteT K a) [e, it] e (fun i h => (∃ old, IsEnum h e it ((i : Nat) : Int) old) ∧ h.IsTupleIter it a i ∧ e ≠ it) where
  mem := by simp
  obj := fun i h st b hb => by
    obtain ⟨⟨old, he⟩, ⟨o, ho, hc, hd⟩, _⟩ := st
    have e' : b = e ∨ b = it := by simpa using hb
    rcases e' with z | z
    · rw [z]; exact ⟨_, he, fun v q => nomatch q⟩
    · rw [z]; exact ⟨o, ho, fun v q => by rw [hd] at q; cases q⟩
  keep := fun i h h' st k => let ⟨⟨old, he⟩, hi, hne⟩ := st; ⟨⟨old, k e (by simp) _ he⟩, hi.at fun o q => k it (by simp) o q, hne⟩
  item := by
    intro X hP hw hK hc i pins s σ H E I hf st hg
    subst hP hw hK
    obtain ⟨⟨old, he⟩, hit, hne⟩ := st
    obtain ⟨xs, x, hq, hx⟩ := hg
    obtain ⟨its, rv, p, hz⟩ := I.tuple hq
    obtain ⟨u, hu, ru⟩ := rv.get hx
    have hel : e < s.heap.objs.size := Heap.lt_size he
    have hil : it < s.heap.objs.size := by obtain ⟨_, q, _⟩ := hit; exact Heap.lt_size q
    have hilt : i < its.toArray.size := by have := (List.getElem?_eq_some_iff.mp hu).1; simpa using this
    have hta : a ≠ it := fun z => by
      obtain ⟨o1, q1, q2, _⟩ := hit
      obtain ⟨o2, q3, q4, _⟩ := p
      subst z
      rw [q1] at q3; cases q3
      rw [q4] at q2
      exact absurd (Value.type.inj q2) (by decide)
    have hte : e ≠ a := fun z => by
      obtain ⟨o2, q3, q4, _⟩ := p
      subst z
      rw [he] at q3; cases q3
      exact absurd (Value.type.inj q4) (by decide)
    refine wpAny_pyNext_enum_itemD (Draws.tuple (prog := X.prog) (w := X.w) (A := X.A.in1) (I.ok.hd hc) it a hta its.toArray) he ⟨hit, p⟩ hilt hne (by simp [hne, hte]) fun x' h' tk hx' ho hst' hT hsz hk => ?_
    have exu : x' = u := by
      have q1 : its[i]? = some x' := by simpa using hx'
      rw [hu] at q1
      exact (Option.some.inj q1).symm
    subst exu
    refine ⟨_, rfl, wpAny_letOwnedTupleGo_enum (s := { s with heap := h', toks := tk + 1 }) ho fun h'' he' sb => ?_⟩
    have hT2 : h''.get? s.heap.objs.size = some { cls := .type "tuple", data := .seq #[.int i tk, x'] } := (sb.2 _ (Nat.ne_of_gt hel)).trans hT
    have new : ObjOk X.prog X.w (upd H s.heap.objs.size (.tup [.int (i : Nat), x])) h'' s.heap.objs.size (.tup [.int (i : Nat), x]) :=
      ⟨by show 2 ≤ sizeLine; decide, [.int i tk, x'], .cons ⟨_, rfl⟩ (.cons ru .nil), ⟨_, hT2, rfl, _, rfl⟩⟩
    have I1 : Inv X pins σ (upd H s.heap.objs.size (.tup [.int (i : Nat), x])) { s with heap := h'', toks := tk + 1 } :=
      I.turnedNew (ch := [e, it]) (fun b ob hb q => (sb.2 b (fun z => hb (by simp [z]))).trans (hk b ob (fun z => hb (by simp [z])) (fun z => hb (by simp [z])) q)) hf (Nat.le_refl _) new
    refine ⟨.ref s.heap.objs.size, _, I1, rfl, ⟨_, x, rfl, I.hok.fresh (Nat.le_refl _), rfl, fun ys hy => by rw [I.tuple_inj hy hq]; exact hx⟩, ⟨⟨x', ?_⟩, hst'.1.at fun o q => (sb.2 it (Ne.symm hne)).trans q, hne⟩, fun b hb => ?_⟩
    · have e1 : ((i + 1 : Nat) : Int) = (i : Int) + 1 := by omega
      rw [e1]; exact he'
    · have hb' : b < s.heap.objs.size := by
        have e' : b = e ∨ b = it := by simpa using hb
        rcases e' with z | z
        · rw [z]; exact hel
        · rw [z]; exact hil
      rw [upd_ne (Nat.ne_of_lt hb')]
      exact (hf b hb).1
  done := by
    intro X hP hw hK hc i pins s σ H E I hf st hg
    subst hP hw hK
    obtain ⟨⟨old, he⟩, hit, hne⟩ := st
    obtain ⟨xs, hq, hx⟩ := hg
    obtain ⟨its, rv, p, hz⟩ := I.tuple hq
    obtain ⟨f0, f1, f2, f3, f4, f5⟩ := hf it (by simp)
    have hl := rv.length
    have hta : a ≠ it := fun z => by
      obtain ⟨o1, q1, q2, _⟩ := hit
      obtain ⟨o2, q3, q4, _⟩ := p
      subst z
      rw [q1] at q3; cases q3
      rw [q4] at q2
      exact absurd (Value.type.inj q2) (by decide)
    have e1 : i = its.toArray.size := by rw [List.size_toArray, ← hl]; exact hx.symm
    refine wpAny_pyNext_enum_endD (Draws.tuple (prog := X.prog) (w := X.w) (A := X.A.in1) (I.ok.hd hc) it a hta its.toArray) he ⟨by rw [← e1]; exact hit, p⟩ fun h' eb => ⟨rfl, I.turned (t' := s.toks) (fun b o hb q => eb b o hb q) f0 f1 f3 f4 f5⟩
  self := fun A i s Q E st h => let ⟨⟨_, he⟩, _⟩ := st; wpAny_pyIter_enum he h
end DP

set_option Elab.async false
set_option linter.all false
set_option maxRecDepth 100000
set_option maxHeartbeats 4000000
/-! the small syntax and its weakest preconditions -/
namespace DP
open PySem PySem.Spec PyProof.Rows L2

inductive COp where
  | eq | ne | q (o : QOp) | inn | nin
  deriving DecidableEq
def COp.op : COp → CmpOp
  | .eq => .Eq | .ne => .NotEq | .q o => o.op | .inn => .In | .nin => .NotIn
inductive Bf where
  | len | sorted | all | any | sum | max | min | int | abs | tuple | list | isi
  deriving DecidableEq
inductive Mt where
  | append | pop | popAt
  deriving DecidableEq
inductive Tg where
  | nm (i : Nat) | tp (is : List Nat)
mutual
inductive Tm where
  | var (i : Nat) | cst (v : PV) | con (x : Str) | ty (n : String)
  | bin (op : BOp) (a b : Tm) | neg (a : Tm)
  | cmp (op : COp) (a b : Tm) | chn (op op' : COp) (a b c : Tm)
  | isN (neg : Bool) (a : Tm)
  | nt (a : Tm) | an (a b : Tm) | orr (a b : Tm) | ite (c a b : Tm)
  | tup (es : Tms) | lst (es : Tms) | dct0 | dct1 (k v : Tm)
  | call (f : Str) (es : Tms)
  | bf (f : Bf) (es : Tms)
  | tupRg (es : Tms) | lstRg (es : Tms) | tupRg3 (es : Tms)
  | mt (m : Mt) (o : Tm) (es : Tms)
  | ix (a b : Tm) | slc (a : Tm) (lo hi : Tms)
  | lc (e : Tm) (tg : Tg) (it : Itm) (ifs : Tms) (own : List Nat)
  | dc (k v : Tm) (tg : Tg) (it : Itm) (ifs : Tms) (own : List Nat)
inductive Tms where
  | nil | cons (a : Tm) (r : Tms)
inductive Itm where
  | seq (a : Tm) | rng (es : Tms) | enum (a : Tm) | zip (a b : Tm)
end
mutual
inductive Ts where
  | ret (e : Tm) | retN | expr (e : Tm) | pass | brk
  | asg (tg : Tg) (e : Tm) | put (o i e : Tm)
  | aug (i : Nat) (op : BOp) (e : Tm) | augS (o i : Tm) (op : BOp) (e : Tm)
  | ite (c : Tm) (a b : Tss) | whl (c : Tm) (b : Tss) | for (tg : Tg) (it : Itm) (b : Tss)
  | raise
inductive Tss where
  | nil | cons (s : Ts) (r : Tss)
end
/-- a def: its names by slot, its parameters, its body -/
structure Def where
  names : List Str
  ps : List Str
  body : Tss

/-- an exception: its class by name, its fields -/
structure Ex where
  cls : Str
  fs : List (Str × PV)
abbrev KX := Ex → LHp → Prop
/-- what a body may lean on: the defs' promises, the module's ints -/
structure Env' where
  call : Str → List PV → LHp → K1 → KX → Prop
  con : Str → Option Int

def cmpW : COp → LR2
  | .eq => eqW false
  | .ne => eqW true
  | .q o => ordW o
  | .inn => inW false
  | .nin => inW true
def bfW : Bf → LRC
  | .len => lenW | .sorted => sortedW | .all => allW | .any => anyW | .sum => sumW | .max => maxW | .min => minW | .int => intW | .abs => absW | .tuple => tupleW | .list => listW | .isi => isiW
def mtW : Mt → LRM
  | .append => appendW | .pop => popW | .popAt => popAtW
def isLst (p : PV) (L : LHp) : Prop := ∃ a xs, p = .ref a ∧ L a = some (.lst xs)
/-- lo, lo + 1, .. below hi -/
def rgP (a b : Int) : List PV := (List.range (b - a).toNat).map fun i => .int (a + (i : Nat))
def rgOk (a b : Int) : Prop := -(2 ^ 62) ≤ a ∧ a < 2 ^ 62 ∧ -(2 ^ 62) ≤ b ∧ b < 2 ^ 62 ∧ (b - a).toNat ≤ 2 ^ 24
def rgW (xs : List PV) (Q : List PV → Prop) : Prop := match xs with
  | [.int b] => rgOk 0 b ∧ Q (rgP 0 b)
  | [.int a, .int b] => rgOk a b ∧ Q (rgP a b)
  | _ => False
abbrev KI := List PV → (LHp → Prop) → LHp → Prop
def srcW (v : PV) (L : LHp) (R : KI) : Prop := match v with
  | .tup xs => R xs (fun _ => True) L
  | .rol xs => R xs (fun _ => True) L
  | .ref a => ∃ xs, L a = some (.lst xs) ∧ R xs (fun L' => L' a = some (.lst xs)) L
  | _ => False
def enumP : Nat → List PV → List PV
  | _, [] => []
  | i, x :: r => .tup [.int (i : Nat), x] :: enumP (i + 1) r
def enumW (v : PV) (L : LHp) (R : KI) : Prop := match v with
  | .tup xs => R (enumP 0 xs) (fun _ => True) L
  | .ref a => ∃ xs, L a = some (.lst xs) ∧ R (enumP 0 xs) (fun L' => L' a = some (.lst xs)) L
  | _ => False
def zipP : List PV → List PV → List PV
  | x :: xs, y :: ys => .tup [x, y] :: zipP xs ys
  | _, _ => []
def zipW (v w : PV) (L : LHp) (R : KI) : Prop := match v, w with
  | .tup xs, .tup ys => R (zipP xs ys) (fun _ => True) L
  | .ref a, .ref b => ∃ xs ys, L a = some (.lst xs) ∧ L b = some (.lst ys) ∧ R (zipP xs ys) (fun L' => L' a = some (.lst xs) ∧ L' b = some (.lst ys)) L
  | _, _ => False
def setsL : LSt → List Nat → List PV → LSt
  | ls, i :: is, x :: xs => setsL (ls.set i (some x)) is xs
  | ls, _, _ => ls
def asgT (tg : Tg) (v : PV) (ls : LSt) (Q : LSt → Prop) : Prop := match tg, v with
  | .nm i, v => Q (ls.set i (some v))
  | .tp is, .tup xs => xs.length = is.length ∧ Q (setsL ls is xs)
  | .tp _, _ => False
def wipeL (ls : LSt) : List Nat → LSt
  | [] => ls
  | v :: vs => (wipeL ls vs).set v none
def lcW (G : LHp → Prop) (step : PV → LHp → (Option PV → LHp → Prop) → Prop) (D : Addr) : List PV → LHp → (LHp → Prop) → Prop
  | [], L, Q => G L ∧ Q L
  | x :: r, L, Q => G L ∧ step x L fun o L' => match o with
    | some y => ∃ acc, L' D = some (.lst acc) ∧ acc.length < 16777216 ∧ lcW G step D r (lupd L' D (.lst (acc ++ [y]))) Q
    | none => lcW G step D r L' Q
def dcW (G : LHp → Prop) (step : PV → LHp → (Option (PV × PV) → LHp → Prop) → Prop) (D : Addr) : List PV → LHp → (LHp → Prop) → Prop
  | [], L, Q => G L ∧ ∃ kvs, L D = some (.kdct kvs) ∧ Q (lupd L D (.dct kvs))
  | x :: r, L, Q => G L ∧ step x L fun o L' => match o with
    | some (k, y) => ∃ kvs, L' D = some (.kdct kvs) ∧ (∃ c, toKey k = some c) ∧ kvs.length < 16777216 ∧ dcW G step D r (lupd L' D (.kdct (dput kvs k y))) Q
    | none => dcW G step D r L' Q
/-- a, a + c, ..: n of them -/
def rg3P (a c : Int) (n : Nat) : List PV := (List.range n).map fun i => .int (a + (i : Nat) * c)
def rg3W (xs : List PV) (Q : List PV → Prop) : Prop := match xs with
  | [.int a, .int b, .int c] => ∃ n, RgC a b c n ∧ n ≤ 2 ^ 24 ∧ Q (rg3P a c n)
  | _ => False
def noX : KX := fun _ _ => False
def tst (x : PV) (Q : Bool → Prop) : Prop := ∃ k, x = .bl k ∧ Q k
mutual
def wpE (Γ : Env') : Tm → LSt → LHp → KX → K1 → Prop
  | .var i, ls, L, _, Q => ∃ x, ls[i]? = some (some x) ∧ Q x L
  | .cst v, _, L, _, Q => Q v L
  | .con x, _, L, _, Q => ∃ i, Γ.con x = some i ∧ Q (.int i) L
  | .ty n, _, L, _, Q => Q (.ty n) L
  | .bin op a b, ls, L, E, Q => wpE Γ a ls L E fun x L1 => wpE Γ b ls L1 E fun y L2 => binW op x y L2 Q
  | .neg a, ls, L, E, Q => wpE Γ a ls L E fun x L1 => ∃ i, x = .int i ∧ Q (.int (-i)) L1
  | .cmp op a b, ls, L, E, Q => wpE Γ a ls L E fun x L1 => wpE Γ b ls L1 E fun y L2 => cmpW op x y L2 Q
  | .chn op op' a b c, ls, L, E, Q => wpE Γ a ls L E fun x L1 => wpE Γ b ls L1 E fun y L2 => cmpW op x y L2 fun z L3 => tst z fun k => if k = true then wpE Γ c ls L3 E fun w L4 => cmpW op' y w L4 Q else Q (.bl false) L3
  | .isN neg a, ls, L, E, Q => wpE Γ a ls L E fun x L1 => Q (.bl (xnot neg (DP.isN x))) L1
  | .nt a, ls, L, E, Q => wpE Γ a ls L E fun x L1 => tst x fun k => Q (.bl (!k)) L1
  | .an a b, ls, L, E, Q => wpE Γ a ls L E fun x L1 => tst x fun k => if k = true then wpE Γ b ls L1 E Q else Q (.bl false) L1
  | .orr a b, ls, L, E, Q => wpE Γ a ls L E fun x L1 => tst x fun k => if k = true then Q (.bl true) L1 else wpE Γ b ls L1 E Q
  | .ite c a b, ls, L, E, Q => wpE Γ c ls L E fun x L1 => tst x fun k => if k = true then wpE Γ a ls L1 E Q else wpE Γ b ls L1 E Q
  | .tup es, ls, L, E, Q => wpA Γ es ls L E fun xs L1 => LenOk xs.length ∧ Q (.tup xs) L1
  | .lst es, ls, L, E, Q => wpA Γ es ls L E fun xs L1 => LenOk xs.length ∧ ∀ p, L1 p = none → Q (.ref p) (lupd L1 p (.lst xs))
  | .dct0, _, L, _, Q => ∀ p, L p = none → Q (.ref p) (lupd L p (.dct []))
  | .dct1 k v, ls, L, E, Q => ∀ p, L p = none → wpE Γ k ls (lupd L p (.dct [])) E fun x L1 => wpE Γ v ls L1 E fun y L2 => L2 p = some (.dct []) ∧ (∃ c, toKey x = some c) ∧ Q (.ref p) (lupd L2 p (.dct [(x, y)]))
  | .call f es, ls, L, E, Q => wpA Γ es ls L E fun xs L1 => Γ.call f xs L1 Q E
  | .bf f es, ls, L, E, Q => wpA Γ es ls L E fun xs L1 => bfW f xs L1 Q
  | .tupRg es, ls, L, E, Q => wpA Γ es ls L E fun xs L1 => rgW xs fun ys => Q (.tup ys) L1
  | .lstRg es, ls, L, E, Q => wpA Γ es ls L E fun xs L1 => rgW xs fun ys => ∀ p, L1 p = none → Q (.ref p) (lupd L1 p (.lst ys))
  | .tupRg3 es, ls, L, E, Q => wpA Γ es ls L E fun xs L1 => rg3W xs fun ys => Q (.tup ys) L1
  | .mt m o es, ls, L, E, Q => wpE Γ o ls L E fun x L1 => isLst x L1 ∧ wpA Γ es ls L1 E fun xs L2 => mtW m x xs L2 Q
  | .ix a b, ls, L, E, Q => wpE Γ a ls L E fun x L1 => wpE Γ b ls L1 E fun y L2 => ixW x y L2 Q
  | .slc a lo hi, ls, L, E, Q => wpE Γ a ls L E fun x L1 => wpO Γ lo ls L1 E fun l L2 => wpO Γ hi ls L2 E fun h L3 => slW x l h L3 Q
  | .lc e tg it ifs own, ls, L, E, Q => wpI Γ it ls L E fun xs G L1 => ∀ D, L1 D = none →
      lcW G (fun x L2 N => asgT tg x (wipeL ls own) fun ls2 => wpIf Γ ifs ls2 L2 fun b L3 => if b = true then wpE Γ e ls2 L3 noX fun y L4 => N (some y) L4 else N none L3) D xs (lupd L1 D (.lst [])) fun L' => Q (.ref D) L'
  | .dc k v tg it ifs own, ls, L, E, Q => wpI Γ it ls L E fun xs G L1 => ∀ D, L1 D = none →
      dcW G (fun x L2 N => asgT tg x (wipeL ls own) fun ls2 => wpIf Γ ifs ls2 L2 fun b L3 => if b = true then wpE Γ k ls2 L3 noX fun c L4 => wpE Γ v ls2 L4 noX fun y L5 => N (some (c, y)) L5 else N none L3) D xs (lupd L1 D (.kdct [])) fun L' => Q (.ref D) L'
/-- arguments, from the left -/
def wpA (Γ : Env') : Tms → LSt → LHp → KX → (List PV → LHp → Prop) → Prop
  | .nil, _, L, _, Q => Q [] L
  | .cons a r, ls, L, E, Q => wpE Γ a ls L E fun x L1 => wpA Γ r ls L1 E fun xs L2 => Q (x :: xs) L2
/-- an end of a slice -/
def wpO (Γ : Env') : Tms → LSt → LHp → KX → (Option Int → LHp → Prop) → Prop
  | .nil, _, L, _, Q => Q none L
  | .cons a _, ls, L, E, Q => wpE Γ a ls L E fun x L1 => ∃ i, x = .int i ∧ Q (some i) L1
/-- a comprehension's tests: none or one -/
def wpIf (Γ : Env') : Tms → LSt → LHp → (Bool → LHp → Prop) → Prop
  | .nil, _, L, Q => Q true L
  | .cons a _, ls, L, Q => wpE Γ a ls L noX fun x L1 => tst x fun k => Q k L1
def wpI (Γ : Env') : Itm → LSt → LHp → KX → KI → Prop
  | .seq a, ls, L, E, R => wpE Γ a ls L E fun v L1 => srcW v L1 R
  | .rng es, ls, L, E, R => wpA Γ es ls L E fun xs L1 => rgW xs fun ys => R ys (fun _ => True) L1
  | .enum a, ls, L, E, R => wpE Γ a ls L E fun v L1 => enumW v L1 R
  | .zip a b, ls, L, E, R => wpE Γ a ls L E fun v L1 => wpE Γ b ls L1 E fun w L2 => zipW v w L2 R
end

/-! ### statements -/
structure LEnds where
  nx : LSt → LHp → Prop
  rt : K1
  bk : LSt → LHp → Prop := fun _ _ => False
abbrev KXS := Ex → LSt → LHp → Prop
def forW (G : LHp → Prop) (step : PV → LSt → LHp → (LSt → LHp → Prop) → Prop) : List PV → LSt → LHp → (LSt → LHp → Prop) → Prop
  | [], ls, L, Q => G L ∧ Q ls L
  | x :: r, ls, L, Q => G L ∧ step x ls L fun ls' L' => forW G step r ls' L' Q
def whlW (c : LSt → LHp → (Bool → LHp → Prop) → Prop) (b : LSt → LHp → (LSt → LHp → Prop) → Prop) (Q : LSt → LHp → Prop) : Nat → LSt → LHp → Prop
  | 0, _, _ => False
  | n + 1, ls, L => c ls L fun k L1 => if k = true then b ls L1 (whlW c b Q n) else Q ls L1
mutual
def wpS (Γ : Env') (E : KXS) : Ts → LEnds → LSt → LHp → Prop
  | .ret e, D, ls, L => wpE Γ e ls L (fun x => E x ls) D.rt
  | .retN, D, _, L => D.rt .non L
  | .expr e, D, ls, L => wpE Γ e ls L (fun x => E x ls) fun _ L1 => D.nx ls L1
  | .pass, D, ls, L => D.nx ls L
  | .brk, D, ls, L => D.bk ls L
  | .asg tg e, D, ls, L => wpE Γ e ls L (fun x => E x ls) fun v L1 => asgT tg v ls fun ls' => D.nx ls' L1
  | .put o i e, D, ls, L => wpE Γ e ls L (fun x => E x ls) fun v L1 => wpE Γ o ls L1 (fun x => E x ls) fun p L2 => wpE Γ i ls L2 (fun x => E x ls) fun k L3 => setW p k v L3 fun L4 => D.nx ls L4
  | .aug i op e, D, ls, L => ∃ x, ls[i]? = some (some x) ∧ wpE Γ e ls L (fun x => E x ls) fun y L1 => ∃ a b, x = .int a ∧ y = .int b ∧ binW op (.int a) (.int b) L1 fun z L2 => D.nx (ls.set i (some z)) L2
  | .augS o i op e, D, ls, L => wpE Γ o ls L (fun x => E x ls) fun p L1 => wpE Γ i ls L1 (fun x => E x ls) fun k L2 => ixW p k L2 fun x L3 => wpE Γ e ls L3 (fun x => E x ls) fun y L4 =>
      ∃ a b, x = .int a ∧ y = .int b ∧ binW op (.int a) (.int b) L4 fun z L5 => setW p k z L5 fun L6 => D.nx ls L6
  | .ite c a b, D, ls, L => wpE Γ c ls L (fun x => E x ls) fun x L1 => tst x fun k => if k = true then wpSs Γ E a D ls L1 else wpSs Γ E b D ls L1
  | .whl c b, D, ls, L => ∃ n, whlW (fun ls L Q => wpE Γ c ls L (fun x => E x ls) fun x L1 => tst x fun k => Q k L1) (fun ls L N => wpSs Γ E b { D with nx := N, bk := D.nx } ls L) D.nx n ls L
  | .for tg it b, D, ls, L => wpI Γ it ls L (fun x => E x ls) fun xs G L1 => forW G (fun x ls L N => asgT tg x ls fun ls' => wpSs Γ E b { D with nx := N, bk := D.nx } ls' L) xs ls L1 D.nx
  | .raise, _, _, _ => False
def wpSs (Γ : Env') (E : KXS) : Tss → LEnds → LSt → LHp → Prop
  | .nil, D, ls, L => D.nx ls L
  | .cons s r, D, ls, L => wpS Γ E s { D with nx := fun ls' L' => wpSs Γ E r D ls' L' } ls L
end
def startL (n : Nat) (vs : List PV) : LSt := vs.map some ++ List.replicate (n - vs.length) none

/-! ### defs, to a depth -/
structure Prg where
  fns : Str → Option Def
  con : Str → Option Int
def callW (P : Prg) : Nat → Str → List PV → LHp → K1 → KX → Prop
  | 0, _, _, _, _, _ => False
  | k + 1, f, vs, L, Q, E => ∃ d, P.fns f = some d ∧ vs.length = d.ps.length ∧
    wpSs ⟨callW P k, P.con⟩ (fun x _ => E x) d.body { nx := fun _ L' => Q .non L', rt := Q } (startL d.names.length vs) L
end DP

set_option Elab.async false
set_option linter.all false
set_option maxRecDepth 100000
set_option maxHeartbeats 4000000
/-! the judgements of HandS, by the weakest preconditions: expressions -/
namespace DP
open PySem PySem.Spec PyProof.Rows L2

theorem PE.imp {X : Cx} {e : Expr} {t t' : TE} (h : PE X e t) (i : ∀ σ H Q, t' σ H Q → t σ H Q) : PE X e t' := ⟨fun pins s σ H Q I w => h.run pins s σ H Q I (i _ _ _ w)⟩
theorem PT.imp {X : Cx} {e : Expr} {t t' : TT} (h : PT X e t) (i : ∀ σ H Q, t' σ H Q → t σ H Q) : PT X e t' := ⟨fun pins s σ H Q I w => h.run pins s σ H Q I (i _ _ _ w)⟩
theorem PW.imp {X : Cx} {e : Expr} {t t' : TT} (h : PW X e t) (i : ∀ σ H Q, t' σ H Q → t σ H Q) : PW X e t' := ⟨fun wh pins s σ H Q I w => h.run wh pins s σ H Q I (i _ _ _ w)⟩
theorem PA.imp {X : Cx} {e : List Expr} {t t' : TA} (h : PA X e t) (i : ∀ σ H Q, t' σ H Q → t σ H Q) : PA X e t' := ⟨fun p pins s σ H Q I w => h.run p pins s σ H Q I (i _ _ _ w)⟩
theorem PO.imp {X : Cx} {e : Option Expr} {t t' : TO} (h : PO X e t) (i : ∀ σ H Q, t' σ H Q → t σ H Q) : PO X e t' := ⟨fun pins s σ H Q I w => h.run pins s σ H Q I (i _ _ _ w)⟩
theorem PI.imp {X : Cx} {tg e : Expr} {t t' : TI} (h : PI X tg e t) (i : ∀ σ H Q, t' σ H Q → t σ H Q) : PI X tg e t' := ⟨fun pins s σ H Q I w => h.run pins s σ H Q I (i _ _ _ w)⟩
theorem PG.imp {X : Cx} {e : Expr} {t t' : TG} (h : PG X e t) (i : ∀ v σ H Q, t' v σ H Q → t v σ H Q) : PG X e t' := ⟨fun pins s σ H v u Q I r w => h.run pins s σ H v u Q I r (i _ _ _ _ w)⟩
theorem PTs.imp {X : Cx} {e : List Expr} {t t' : TT} (h : PTs X e t) (i : ∀ σ H Q, t' σ H Q → t σ H Q) : PTs X e t' := ⟨fun pins s σ H Q I w => h.run pins s σ H Q I (i _ _ _ w)⟩
theorem PS.imp {X : Cx} {e : Stmt} {t t' : TS} (h : PS X e t) (i : ∀ D σ H, t' D σ H → t D σ H) : PS X e t' := ⟨fun pins s σ H D I w => h.run pins s σ H D I (i _ _ _ w)⟩
theorem PSs.imp {X : Cx} {e : List Stmt} {t t' : TS} (h : PSs X e t) (i : ∀ D σ H, t' D σ H → t D σ H) : PSs X e t' := ⟨fun pins s σ H D I w => h.run pins s σ H D I (i _ _ _ w)⟩

/-! ### exceptions, calls -/
/-- an exception of the class named, with its fields -/
def RelEx (mg : Str → Option Value) (K : PySem.W.Frag) (H : Hp) (cls : Value) (d : Option Addr) (ex : Ex) : Prop :=
  (mg ex.cls = some cls ∨ (mg ex.cls = none ∧ bootBuiltins ex.cls = some cls)) ∧
    ∀ f p, ex.fs.lookup f = some p → ∃ dx vs v, d = some dx ∧ H dx = some (.xd vs) ∧ vs.lookup f = some v ∧ Rep K H p v
abbrev XTy := Hp → LSt → KX → Prop
def AfterX (K : PySem.W.Frag) (mg : Str → Option Value) (H : Hp) (E0 : KX) (EX : XK) : Prop := ∀ ex L' H' cls d, E0 ex L' → ExtT H H' → RelHp K H' L' → RelEx mg K H' cls d ex → EX cls d H'
def upSp (K : PySem.W.Frag) (mg : Str → Option Value) (c : List PV → LHp → K1 → KX → Prop) : Sp := fun vs H Q EX => ∃ ps L Q0 E0, RepL K H ps vs ∧ RelHp K H L ∧ c ps L Q0 E0 ∧ After K H Q0 Q ∧ AfterX K mg H E0 EX
def wxOf (K : PySem.W.Frag) (mg : Str → Option Value) (XT : XTy) : WX := fun cls d σ H' => ∃ ls E ex L' H, RelSt K H ls σ ∧ XT H ls E ∧ ExtT H H' ∧ RelHp K H' L' ∧ RelEx mg K H' cls d ex ∧ E ex L'
def XT0 : XTy := fun _ _ E => ∀ ex L, ¬ E ex L

/-- the names of built-ins that the laws call -/
def bltNs : List Str := ["len", "sorted", "all", "any", "sum", "max", "min", "int", "abs", "tuple", "list", "isinstance", "range", "enumerate", "zip", "str", "bool"]
/-- the module as a body finds it -/
structure Gb (P : Program) (w : World) (K : PySem.W.Frag) (mg : Str → Option Value) (base : Heap) (Γ : Env') (F : Str → Bool) (k : Nat) : Prop where
  fn : ∀ f, F f = true → ∃ a fd ps, mg f = some (.ref a) ∧ PySem.W.keepIn K (.ref a) = true ∧ Binds K fd ps [] ∧ FnOk P w K mg base (L2.CX P w) k a fd ps (upSp K mg (Γ.call f))
  con : ∀ x i, Γ.con x = some i → ∃ t, mg x = some (.int i t)
  blt : ∀ x ∈ bltNs, mg x = none

/-- the place where an expression stands -/
structure GE (Γ : Env') (F C : Str → Bool) (k : Nat) (XT : XTy) (X : Cx) (N : List Str) (sc : Scope) (fnB : Str → Bool) : Prop where
  eN : X.N = N
  esc : X.env.scope = sc
  nd : N.Nodup
  calm : X.calm = true
  room : Room k X.A
  gb : Gb X.prog X.w X.K X.mg X.base Γ F k
  cn : ∀ x, C x = true → ∃ i t, Γ.con x = some i ∧ X.mg x = some (.int i t)
  efn : ∀ x, fnB x = true → X.fn x = true
  xt : Takes X (wxOf X.K X.mg XT)
  xm : ∀ H H' ls E, ExtT H H' → XT H ls E → XT H' ls E

/-! ### lifted -/
abbrev WE' := LSt → LHp → KX → K1 → Prop
def lift (K : PySem.W.Frag) (XT : XTy) (w : WE') : TE := fun σ H Q => ∃ ls L E Q0, RelSt K H ls σ ∧ RelHp K H L ∧ XT H ls E ∧ w ls L E Q0 ∧ After K H Q0 Q
def AfterB (K : PySem.W.Frag) (H : Hp) (Q0 : K1) (Q : Bool → Hp → Prop) : Prop := ∀ pv L' H', Q0 pv L' → ExtT H H' → RelHp K H' L' → ∃ c, pv = .bl c ∧ Q c H'
def liftB (K : PySem.W.Frag) (XT : XTy) (w : WE') : TT := fun σ H Q => ∃ ls L E Q0, RelSt K H ls σ ∧ RelHp K H L ∧ XT H ls E ∧ w ls L E Q0 ∧ AfterB K H Q0 Q
def AfterA (K : PySem.W.Frag) (H : Hp) (Q0 : List PV → LHp → Prop) (Q : List V → Hp → Prop) : Prop := ∀ ps L' vs H', Q0 ps L' → ExtT H H' → RelHp K H' L' → RepL K H' ps vs → Q vs H'
def liftA (K : PySem.W.Frag) (XT : XTy) (w : LSt → LHp → KX → (List PV → LHp → Prop) → Prop) : TA := fun σ H Q => ∃ ls L E Q0, RelSt K H ls σ ∧ RelHp K H L ∧ XT H ls E ∧ w ls L E Q0 ∧ AfterA K H Q0 Q
def liftO (K : PySem.W.Frag) (XT : XTy) (w : LSt → LHp → KX → (Option Int → LHp → Prop) → Prop) : TO := fun σ H Q => ∃ ls L E Q0, RelSt K H ls σ ∧ RelHp K H L ∧ XT H ls E ∧ w ls L E Q0 ∧ ∀ o L' H', Q0 o L' → ExtT H H' → RelHp K H' L' → Q o H'
/-- what an iterator gives while G holds -/
structure Gives (K : PySem.W.Frag) (H0 : Hp) (J : It) (xs : List PV) (G : LHp → Prop) : Prop where
  go : ∀ i H L, i < xs.length → ExtT H0 H → RelHp K H L → G L → J.go i H
  yld : ∀ i x H L v H', xs[i]? = some x → ExtT H0 H → RelHp K H L → G L → J.yld i H v H' → ExtT H H' ∧ RelHp K H' L ∧ Rep K H' x v
  stop : ∀ H L, ExtT H0 H → RelHp K H L → G L → J.stop xs.length H
def liftI (K : PySem.W.Frag) (XT : XTy) (w : LSt → LHp → KX → KI → Prop) : TI := fun σ H R => ∃ ls L E R0, RelSt K H ls σ ∧ RelHp K H L ∧ XT H ls E ∧ w ls L E R0 ∧
  ∀ xs G L' H' J, R0 xs G L' → ExtT H H' → RelHp K H' L' → Gives K H' J xs G → R J H'
/-- two states that are one but at the slots is -/
def Dif (is : List Nat) (σ σ' : St) : Prop := σ'.length = σ.length ∧ ∀ i, i ∉ is → σ'[i]? = σ[i]?
def tgIs : Tg → List Nat
  | .nm i => [i]
  | .tp is => is
def liftG (K : PySem.W.Frag) (tg : Tg) : TG := fun v σ H Q => ∃ pv ls Q0, Rep K H pv v ∧ RelSt K H ls σ ∧ asgT tg pv ls Q0 ∧ ∀ ls' σ', Q0 ls' → RelSt K H ls' σ' → Dif (tgIs tg) σ σ' → Q σ' H

theorem After.cont {K : PySem.W.Frag} {H H' : Hp} {Q0 : K1} {Q : VK} (a : After K H Q0 Q) (x : ExtT H H') : After K H' Q0 Q := a.ext x
theorem AfterB.ext {K : PySem.W.Frag} {H H' : Hp} {Q0 : K1} {Q : Bool → Hp → Prop} (a : AfterB K H Q0 Q) (x : ExtT H H') : AfterB K H' Q0 Q := fun pv L' H2 q e r => a pv L' H2 q (x.trans e) r
theorem AfterA.ext {K : PySem.W.Frag} {H H' : Hp} {Q0 : List PV → LHp → Prop} {Q : List V → Hp → Prop} (a : AfterA K H Q0 Q) (x : ExtT H H') : AfterA K H' Q0 Q := fun pv L' v H2 q e r p => a pv L' v H2 q (x.trans e) r p
theorem liftB_tB {K : PySem.W.Frag} {XT : XTy} {w : WE'} {σ : St} {H : Hp} {Q : Bool → Hp → Prop} (h : liftB K XT w σ H Q) : tB (lift K XT w) σ H Q := by
  obtain ⟨ls, L, E, Q0, rs, rh, xe, hw, af⟩ := h
  refine ⟨ls, L, E, Q0, rs, rh, xe, hw, fun pv L' v H' q e r p => ?_⟩
  obtain ⟨c, rfl, z⟩ := af pv L' H' q e r
  exact ⟨c, p.bl_inv, z⟩

abbrev lf (Γ : Env') (XT : XTy) (X : Cx) (t : Tm) : TE := lift X.K XT (wpE Γ t)

/-! ### forms -/
def plainE : Expr → Bool
  | .Starred .. => false
  | .Slice .. => false
  | .Set .. => false
  | .ListComp .. => false
  | .DictComp .. => false
  | .SetComp .. => false
  | _ => true
def compE : Expr → Bool
  | .ListComp .. => true
  | .DictComp .. => true
  | .SetComp .. => true
  | _ => false
def argE : Expr → Bool
  | .Starred .. => false
  | .Slice .. => false
  | .Set .. => false
  | _ => true
def dfl : Expr → Bool
  | .BoolOp .. => false
  | .IfExp .. => false
  | .Compare .. => false
  | .UnaryOp .Not .. => false
  | _ => true
def tstE : Expr → Bool
  | .IfExp .. => false
  | _ => true
def isBo : Expr → Bool
  | .BoolOp .. => true
  | _ => false
def baseE : Expr → Bool
  | .Call .. => false
  | _ => true
theorem star_arg {e : Expr} (h : argE e = true) (es : List Expr) (env : PySem.Env) : starEach (e :: es) env = (false, eval e env) :: starEach es env := by
  cases e <;> first | rfl | cases h
theorem few_star : ∀ {es : List Expr} (env : PySem.Env) (pos : Pos), (es.all argE) = true → (backTo pos (starEach es env)).any (·.1) = false
  | [], env, pos, _ => rfl
  | e :: es, env, pos, h => by
    rw [List.all_cons, Bool.and_eq_true] at h
    rw [star_arg h.1]
    exact few_star env pos h.2
theorem isTrue_dfl {e : Expr} {env : PySem.Env} (h : dfl e = true) (whole : Sem Value) : isTrue e env whole = (do let v ← whole; standAt e.pos; holding [v] (truthy v)) := by
  cases e <;> first | rfl | cases h | (rename_i op _ _; cases op <;> first | rfl | cases h)
theorem plainIx {b : Expr} (h : argE b = true) : PlainIx b := fun o i => by
  cases b <;> first | rfl | cases h
theorem folded {e : Expr} (h : argE e = true) (env : PySem.Env) (x : Value) : foldedSetIterable e env x = pure x := by
  cases e <;> first | rfl | cases h
theorem base_attr {o : Expr} (h : baseE o = true) (name : Str) (env : PySem.Env) : attributeBase o name env (eval o env) = eval o env := by
  cases o <;> first | rfl | cases h
theorem behind {op : CmpOp} {b : Expr} (h : argE b = true) : behindInMarks op b = false := by
  cases b <;> first | rfl | cases h
theorem swaps_no {e : Expr} {o : Option Expr} {l : Nat} {env : PySem.Env} (h : compE e = false) : swapsWith e o l env = pure false := by
  cases e <;> first | rfl | cases h
theorem aug_store {i : Expr} (h : argE i = true) (ov iv new : Value) : augStore i ov iv new = (do holding [new, ov, iv] (setItem ov iv new); release [new, ov, iv] []; pure .next) := by
  cases i <;> first | rfl | cases h
theorem assign_sub {o i : Expr} {pos : Pos} {env : PySem.Env} (h : argE i = true) (v : Value) : assign (.Subscript o i pos) env v = (do
      let ov ← holding [v] (eval o env)
      let iv ← holding [v, ov] (eval i env)
      standAt pos
      holding [v, ov, iv] (setItem ov iv v)
      release [v, ov, iv] []) := by
  cases i <;> first | rfl | cases h

structure SE (X : Cx) (XT : XTy) (e : Expr) (w : WE') : Prop where
  pe : PE X e (lift X.K XT w)
  pt : tstE e = true → PT X e (liftB X.K XT w)
  pw : isBo e = true → PW X e (liftB X.K XT w)
theorem SE.dfl {X : Cx} {XT : XTy} {e : Expr} {w : WE'} (h : PE X e (lift X.K XT w)) (hd : dfl e = true) : SE X XT e w :=
  ⟨h, fun _ => PT.imp (pt_val h (isTrue_dfl hd)) fun _ _ _ z => liftB_tB z, fun q => by cases e <;> first | (cases q; done) | (cases hd; done)⟩

section
variable {Γ : Env'} {F C : Str → Bool} {k : Nat} {XT : XTy} {X : Cx} {N : List Str} {sc : Scope} {fnB : Str → Bool} (G : GE Γ F C k XT X N sc fnB)
variable {a b c : Expr} {ta tb tc : Tm} {pos : Pos}
include G
theorem GE.u64 : X.A.units + 64 < cLine := G.room.units
theorem GE.u70 : X.A.units + 70 < cLine := by have := G.room.un; omega
theorem GE.u65 : X.A.units + 65 < cLine := by have := G.room.un; omega
theorem cmp_up (op : COp) : OpR X (compareOp op.op) (up2 X.K (cmpW op)) := by
  cases op with
  | eq => exact eq_up G.u64
  | ne => exact ne_up G.u64
  | q o => exact ord_up o G.u64
  | inn => exact in_any (neg := false) (.inl ⟨rfl, rfl⟩) G.u65
  | nin => exact in_any (neg := true) (.inr ⟨rfl, rfl⟩) G.u65

theorem l_op {r : LR2} {wa wb w : WE'} (hw : ∀ ls L E Q, w ls L E Q → wa ls L E fun x L1 => wb ls L1 E fun y L2 => r x y L2 Q) {σ : St} {H : Hp} {Q : VK} (h : lift X.K XT w σ H Q) : tOp (up2 X.K r) (lift X.K XT wa) (lift X.K XT wb) σ H Q := by
  obtain ⟨ls, L, E, Q0, rs, rh, xe, w, af⟩ := h
  exact ⟨ls, L, E, _, rs, rh, xe, hw _ _ _ _ w, fun x L1 v H1 q e1 rh1 rv => ⟨ls, L1, E, _, rs.ext e1, rh1, G.xm _ _ _ _ e1 xe, q, fun y L2 u H2 q2 e2 rh2 ru => ⟨x, y, L2, Q0, rv.ext e2, ru, rh2, q2, af.ext (e1.trans e2)⟩⟩⟩
theorem se_bin {op : BOp} (ha : PE X a (lf Γ XT X ta)) (hb : PE X b (lf Γ XT X tb)) : SE X XT (.BinOp a op.op b pos) (wpE Γ (.bin op ta tb)) :=
  .dfl (PE.imp (pe_op (bin_up op) ha hb) fun σ H Q h => l_op G (fun _ _ _ _ w => by rw [wpE] at w; exact w) h) rfl
theorem se_neg (ha : PE X a (lf Γ XT X ta)) : SE X XT (.UnaryOp .USub a pos) (wpE Γ (.neg ta)) := by
  refine .dfl (PE.imp (pe_un neg_up ha) fun σ H Q h => ?_) rfl
  obtain ⟨ls, L, E, Q0, rs, rh, xe, w, af⟩ := h
  rw [wpE] at w
  refine ⟨ls, L, E, _, rs, rh, xe, w, fun x L1 v H1 q e1 rh1 rv => ?_⟩
  obtain ⟨i, rfl, q⟩ := q
  exact ⟨_, L1, Q0, rv, rh1, q, af.ext e1⟩
theorem se_cmp {op : COp} (ha : PE X a (lf Γ XT X ta)) (hb : PE X b (lf Γ XT X tb)) (hm : argE b = true) : SE X XT (.Compare a [op.op] [b] pos) (wpE Γ (.cmp op ta tb)) := by
  have i : ∀ σ H Q, lift X.K XT (wpE Γ (.cmp op ta tb)) σ H Q → tOp (up2 X.K (cmpW op)) (lf Γ XT X ta) (lf Γ XT X tb) σ H Q := fun σ H Q h => l_op G (fun _ _ _ _ w => by rw [wpE] at w; exact w) h
  exact ⟨PE.imp (pe_cmpR (cmp_up G op) ha hb (behind hm)) i, fun _ => PT.imp (pt_cmpR (cmp_up G op) ha hb (behind hm)) fun σ H Q h => i _ _ _ (liftB_tB h), fun q => nomatch q⟩
theorem se_isN {neg : Bool} {j : Nat} {p' : Pos} (ha : PE X a (lf Γ XT X ta)) : SE X XT (.Compare a [if neg then .IsNot else .Is] [.Constant .none j p'] pos) (wpE Γ (.isN neg ta)) := by
  have key : ∀ {op : CmpOp}, OpR X (compareOp op) (up2 X.K (isNW neg)) → SE X XT (.Compare a [op] [.Constant .none j p'] pos) (wpE Γ (.isN neg ta)) := fun {op} ho => by
    have i : ∀ σ H Q, lift X.K XT (wpE Γ (.isN neg ta)) σ H Q → tOp (up2 X.K (isNW neg)) (lf Γ XT X ta) (tC .non) σ H Q := fun σ H Q h => by
      obtain ⟨ls, L, E, Q0, rs, rh, xe, w, af⟩ := h
      rw [wpE] at w
      exact ⟨ls, L, E, _, rs, rh, xe, w, fun x L1 v H1 q e1 rh1 rv => ⟨x, .non, L1, Q0, rv, .non, rh1, ⟨rfl, q⟩, af.ext e1⟩⟩
    exact ⟨PE.imp (pe_cmpR ho ha pe_non (behind rfl)) i, fun _ => PT.imp (pt_cmpR ho ha pe_non (behind rfl)) fun σ H Q h => i _ _ _ (liftB_tB h), fun q => nomatch q⟩
  cases neg with
  | false => exact key is_up
  | true => exact key isNot_up
theorem se_chn {op op' : COp} (ha : PE X a (lf Γ XT X ta)) (hb : PE X b (lf Γ XT X tb)) (hc : PE X c (lf Γ XT X tc)) (hm : argE c = true) : SE X XT (.Compare a [op.op, op'.op] [b, c] pos) (wpE Γ (.chn op op' ta tb tc)) := by
  have hl : lastMarks [op.op, op'.op] [b, c] = false := by
    show lastMarks [op'.op] [c] = false
    exact behind hm
  have i : ∀ σ H Q, lift X.K XT (wpE Γ (.chn op op' ta tb tc)) σ H Q → tChain (up2 X.K (cmpW op)) (up2 X.K (cmpW op')) (lf Γ XT X ta) (lf Γ XT X tb) (lf Γ XT X tc) σ H Q := fun σ H Q h => by
    obtain ⟨ls, L, E, Q0, rs, rh, xe, w, af⟩ := h
    rw [wpE] at w
    refine ⟨ls, L, E, _, rs, rh, xe, w, fun x L1 v H1 q e1 rh1 rv => ⟨ls, L1, E, _, rs.ext e1, rh1, G.xm _ _ _ _ e1 xe, q, fun y L2 u H2 q2 e2 rh2 ru => ⟨x, y, L2, _, rv.ext e2, ru, rh2, q2, fun z L3 zv H3 q3 e3 rh3 rz => ?_⟩⟩⟩
    obtain ⟨k, rfl, q3⟩ := q3
    refine ⟨k, rz.bl_inv, ?_⟩
    have e123 := (e1.trans e2).trans e3
    cases k with
    | true =>
      simp only [if_true] at q3 ⊢
      exact ⟨ls, L3, E, _, rs.ext e123, rh3, G.xm _ _ _ _ e123 xe, q3, fun z L4 zv H4 q4 e4 rh4 rz4 => ⟨y, z, L4, Q0, ru.ext (e3.trans e4), rz4, rh4, q4, af.ext (e123.trans e4)⟩⟩
    | false =>
      simp only [Bool.false_eq_true, if_false] at q3 ⊢
      exact af _ _ _ _ q3 e123 rh3 (.bl _)
  exact ⟨PE.imp (pe_chain (cmp_up G op) (cmp_up G op') ha hb hc hl) i, fun _ => PT.imp (pt_chain (cmp_up G op) (cmp_up G op') ha hb hc hl) fun σ H Q h => i _ _ _ (liftB_tB h), fun q => nomatch q⟩
theorem se_nt (ha : SE X XT a (wpE Γ ta)) (ht : tstE a = true) : SE X XT (.UnaryOp .Not a pos) (wpE Γ (.nt ta)) := by
  refine ⟨PE.imp (pe_not ha.pe) fun σ H Q h => ?_, fun _ => PT.imp (pt_not (ha.pt ht)) fun σ H Q h => ?_, fun q => nomatch q⟩
  · obtain ⟨ls, L, E, Q0, rs, rh, xe, w, af⟩ := h
    rw [wpE] at w
    refine ⟨ls, L, E, _, rs, rh, xe, w, fun x L1 v H1 q e1 rh1 rv => ?_⟩
    obtain ⟨k, rfl, q⟩ := q
    exact ⟨k, rv.bl_inv, af _ _ _ _ q e1 rh1 (.bl _)⟩
  · obtain ⟨ls, L, E, Q0, rs, rh, xe, w, af⟩ := h
    rw [wpE] at w
    refine ⟨ls, L, E, _, rs, rh, xe, w, fun x L1 H1 q e1 rh1 => ?_⟩
    obtain ⟨k, rfl, q⟩ := q
    obtain ⟨c, e, z⟩ := af _ _ _ q e1 rh1
    cases e
    exact ⟨k, rfl, z⟩
theorem l_an {σ : St} {H : Hp} {Q : VK} (h : (lf Γ XT X (.an ta tb)) σ H Q) : tAndV (lf Γ XT X ta) (lf Γ XT X tb) σ H Q := by
  obtain ⟨ls, L, E, Q0, rs, rh, xe, w, af⟩ := h
  rw [wpE] at w
  refine ⟨ls, L, E, _, rs, rh, xe, w, fun x L1 v H1 q e1 rh1 rv => ?_⟩
  obtain ⟨k, rfl, q⟩ := q
  refine ⟨k, rv.bl_inv, ?_⟩
  cases k with
  | true =>
    simp only [if_true] at q ⊢
    exact ⟨ls, L1, E, Q0, rs.ext e1, rh1, G.xm _ _ _ _ e1 xe, q, af.ext e1⟩
  | false =>
    simp only [Bool.false_eq_true, if_false] at q ⊢
    exact af _ _ _ _ q e1 rh1 (.bl _)
theorem l_anB {σ : St} {H : Hp} {Q : Bool → Hp → Prop} (h : liftB X.K XT (wpE Γ (.an ta tb)) σ H Q) : tAnd (liftB X.K XT (wpE Γ ta)) (liftB X.K XT (wpE Γ tb)) σ H Q := by
  obtain ⟨ls, L, E, Q0, rs, rh, xe, w, af⟩ := h
  rw [wpE] at w
  refine ⟨ls, L, E, _, rs, rh, xe, w, fun x L1 H1 q e1 rh1 => ?_⟩
  obtain ⟨k, rfl, q⟩ := q
  refine ⟨k, rfl, ?_⟩
  cases k with
  | true =>
    simp only [if_true] at q ⊢
    exact ⟨ls, L1, E, Q0, rs.ext e1, rh1, G.xm _ _ _ _ e1 xe, q, af.ext e1⟩
  | false =>
    simp only [Bool.false_eq_true, if_false] at q ⊢
    obtain ⟨c, e, z⟩ := af _ _ _ q e1 rh1
    cases e
    exact z
theorem l_or {σ : St} {H : Hp} {Q : VK} (h : (lf Γ XT X (.orr ta tb)) σ H Q) : tOrV (lf Γ XT X ta) (lf Γ XT X tb) σ H Q := by
  obtain ⟨ls, L, E, Q0, rs, rh, xe, w, af⟩ := h
  rw [wpE] at w
  refine ⟨ls, L, E, _, rs, rh, xe, w, fun x L1 v H1 q e1 rh1 rv => ?_⟩
  obtain ⟨k, rfl, q⟩ := q
  refine ⟨k, rv.bl_inv, ?_⟩
  cases k with
  | false =>
    simp only [Bool.false_eq_true, if_false] at q ⊢
    exact ⟨ls, L1, E, Q0, rs.ext e1, rh1, G.xm _ _ _ _ e1 xe, q, af.ext e1⟩
  | true =>
    simp only [if_true] at q ⊢
    exact af _ _ _ _ q e1 rh1 (.bl _)
theorem l_orB {σ : St} {H : Hp} {Q : Bool → Hp → Prop} (h : liftB X.K XT (wpE Γ (.orr ta tb)) σ H Q) : tOr (liftB X.K XT (wpE Γ ta)) (liftB X.K XT (wpE Γ tb)) σ H Q := by
  obtain ⟨ls, L, E, Q0, rs, rh, xe, w, af⟩ := h
  rw [wpE] at w
  refine ⟨ls, L, E, _, rs, rh, xe, w, fun x L1 H1 q e1 rh1 => ?_⟩
  obtain ⟨k, rfl, q⟩ := q
  refine ⟨k, rfl, ?_⟩
  cases k with
  | false =>
    simp only [Bool.false_eq_true, if_false] at q ⊢
    exact ⟨ls, L1, E, Q0, rs.ext e1, rh1, G.xm _ _ _ _ e1 xe, q, af.ext e1⟩
  | true =>
    simp only [if_true] at q ⊢
    obtain ⟨c, e, z⟩ := af _ _ _ q e1 rh1
    cases e
    exact z
theorem se_an2 (ha : SE X XT a (wpE Γ ta)) (hb : SE X XT b (wpE Γ tb)) (h1 : tstE a = true) (h2 : tstE b = true) : SE X XT (.BoolOp .And [a, b] pos) (wpE Γ (.an ta tb)) := by
  have w : PW X (.BoolOp .And [a, b] pos) (liftB X.K XT (wpE Γ (.an ta tb))) := PW.imp (pw_and (ha.pt h1) (pw_and1 (hb.pt h2))) fun _ _ _ h => l_anB G h
  exact ⟨PE.imp (pe_and ha.pe (pe_one hb.pe)) fun _ _ _ h => l_an G h, fun _ => w.pt, fun _ => w⟩
theorem se_an {b' : Expr} {rest : List Expr} (ha : SE X XT a (wpE Γ ta)) (hb : SE X XT (.BoolOp .And (b :: b' :: rest) pos) (wpE Γ tb)) (h1 : tstE a = true) : SE X XT (.BoolOp .And (a :: b :: b' :: rest) pos) (wpE Γ (.an ta tb)) := by
  have w : PW X (.BoolOp .And (a :: b :: b' :: rest) pos) (liftB X.K XT (wpE Γ (.an ta tb))) := PW.imp (pw_and (ha.pt h1) (hb.pw rfl)) fun _ _ _ h => l_anB G h
  exact ⟨PE.imp (pe_and ha.pe hb.pe) fun _ _ _ h => l_an G h, fun _ => w.pt, fun _ => w⟩
theorem se_or2 (ha : SE X XT a (wpE Γ ta)) (hb : SE X XT b (wpE Γ tb)) (h1 : tstE a = true) (h2 : tstE b = true) : SE X XT (.BoolOp .Or [a, b] pos) (wpE Γ (.orr ta tb)) := by
  have w : PW X (.BoolOp .Or [a, b] pos) (liftB X.K XT (wpE Γ (.orr ta tb))) := PW.imp (pw_or (ha.pt h1) (pw_or1 (hb.pt h2))) fun _ _ _ h => l_orB G h
  exact ⟨PE.imp (pe_or ha.pe (pe_one hb.pe)) fun _ _ _ h => l_or G h, fun _ => w.pt, fun _ => w⟩
theorem se_or {b' : Expr} {rest : List Expr} (ha : SE X XT a (wpE Γ ta)) (hb : SE X XT (.BoolOp .Or (b :: b' :: rest) pos) (wpE Γ tb)) (h1 : tstE a = true) : SE X XT (.BoolOp .Or (a :: b :: b' :: rest) pos) (wpE Γ (.orr ta tb)) := by
  have w : PW X (.BoolOp .Or (a :: b :: b' :: rest) pos) (liftB X.K XT (wpE Γ (.orr ta tb))) := PW.imp (pw_or (ha.pt h1) (hb.pw rfl)) fun _ _ _ h => l_orB G h
  exact ⟨PE.imp (pe_or ha.pe hb.pe) fun _ _ _ h => l_or G h, fun _ => w.pt, fun _ => w⟩
theorem se_ite (hc : SE X XT c (wpE Γ tc)) (ha : PE X a (lf Γ XT X ta)) (hb : PE X b (lf Γ XT X tb)) (h1 : tstE c = true) : SE X XT (.IfExp c a b pos) (wpE Γ (.ite tc ta tb)) := by
  refine ⟨PE.imp (pe_ifExp (hc.pt h1) ha hb) fun σ H Q h => ?_, (fun q => nomatch q), fun q => nomatch q⟩
  obtain ⟨ls, L, E, Q0, rs, rh, xe, w, af⟩ := h
  rw [wpE] at w
  refine ⟨ls, L, E, _, rs, rh, xe, w, fun x L1 H1 q e1 rh1 => ?_⟩
  obtain ⟨k, rfl, q⟩ := q
  refine ⟨k, rfl, ?_⟩
  cases k with
  | true =>
    simp only [if_true] at q ⊢
    exact ⟨ls, L1, E, Q0, rs.ext e1, rh1, G.xm _ _ _ _ e1 xe, q, af.ext e1⟩
  | false =>
    simp only [Bool.false_eq_true, if_false] at q ⊢
    exact ⟨ls, L1, E, Q0, rs.ext e1, rh1, G.xm _ _ _ _ e1 xe, q, af.ext e1⟩
end
end DP

set_option Elab.async false
set_option linter.all false
set_option maxRecDepth 100000
set_option maxHeartbeats 4000000
/-! names, displays, calls, subscripts, iterators, comprehensions -/
namespace DP
open PySem PySem.Spec PyProof.Rows L2

section
variable {Γ : Env'} {F C : Str → Bool} {k : Nat} {XT : XTy} {X : Cx} {N : List Str} {sc : Scope} {fnB : Str → Bool} (G : GE Γ F C k XT X N sc fnB)
variable {a b c e : Expr} {es : List Expr} {ta tb tc : Tm} {ts : Tms} {pos p p2 : Pos} {x : Str}
include G
theorem se_var {i : Nat} (hi : N[i]? = some x) (hv : Vis sc x) (h1 : (x == ("__debug__" : Str)) = false) (h2 : (x == ("__classdict__" : Str)) = false) : SE X XT (.Name x pos) (wpE Γ (.var i)) := by
  refine .dfl (PE.imp (pe_var (by rw [G.eN]; exact hi) (by rw [G.esc]; exact hv) h1 h2) fun σ H Q h => ?_) rfl
  obtain ⟨ls, L, E, Q0, rs, rh, xe, w, af⟩ := h
  rw [wpE] at w
  obtain ⟨y, hy, q⟩ := w
  obtain ⟨v, h3, h4⟩ := rs.2 i y hy
  exact ⟨v, h3, af _ _ _ _ q (.refl _) rh h4⟩
theorem l_cst {pv : PV} {v : V} (hr : ∀ H, Rep X.K H pv v) {w : WE'} (hw : ∀ ls L E Q, w ls L E Q → Q pv L) (h : PE X e (tC v)) (hd : dfl e = true) : SE X XT e w := by
  refine .dfl (PE.imp h fun σ H Q h => ?_) hd
  obtain ⟨ls, L, E, Q0, rs, rh, xe, w, af⟩ := h
  exact af _ _ _ _ (hw _ _ _ _ w) (.refl _) rh (hr _)
theorem GE.gl (h : sc.names.lookup x = some .globalImplicit) : Gl X x := by
  show X.env.scope.names.lookup x = _
  rw [G.esc]; exact h
theorem se_con (hg : sc.names.lookup x = some .globalImplicit) (hc : C x = true) (h1 : (x == ("__debug__" : Str)) = false) : SE X XT (.Name x pos) (wpE Γ (.con x)) := by
  obtain ⟨i, t, h2, h3⟩ := G.cn x hc
  refine l_cst G (pv := .int i) (fun _ => .int i) (fun ls L E Q w => ?_) (pe_glob (v := .int i) (G.gl hg) h3 ⟨t, rfl⟩ h1) rfl
  rw [wpE] at w
  obtain ⟨j, hj, q⟩ := w
  rw [h2] at hj; cases hj
  exact q
def tyNm : Str → Option String := fun x => if x = "int" then some "int" else if x = "str" then some "str" else if x = "bool" then some "bool" else if x = "list" then some "list" else if x = "tuple" then some "tuple" else none
theorem se_ty {n : String} (hg : sc.names.lookup x = some .globalImplicit) (hn : tyNm x = some n) : SE X XT (.Name x pos) (wpE Γ (.ty n)) := by
  have key : ∀ (m : Str), m ∈ bltNs → x = m → bootBuiltins m = some (.type n) → m ≠ "__name__" → (m == ("__debug__" : Str)) = false → SE X XT (.Name x pos) (wpE Γ (.ty n)) := fun m hm e hv h1 h2 => by
    subst e
    refine l_cst G (pv := .ty n) (fun _ => .ty n) (fun ls L E Q w => ?_) (pe_bltn (v := .ty n) (G.gl hg) (G.gb.blt _ hm) hv rfl h1 h2) rfl
    rw [wpE] at w
    exact w
  unfold tyNm at hn
  split at hn
  · cases hn; subst x; exact key _ (by decide) rfl rfl (by decide) (by decide)
  · split at hn
    · cases hn; subst x; exact key _ (by decide) rfl rfl (by decide) (by decide)
    · split at hn
      · cases hn; subst x; exact key _ (by decide) rfl rfl (by decide) (by decide)
      · split at hn
        · cases hn; subst x; exact key _ (by decide) rfl rfl (by decide) (by decide)
        · split at hn
          · cases hn; subst x; exact key _ (by decide) rfl rfl (by decide) (by decide)
          · cases hn

/-! ### arguments, displays -/
abbrev lA (Γ : Env') (XT : XTy) (X : Cx) (t : Tms) : TA := liftA X.K XT (wpA Γ t)
theorem sa_nil : PA X [] (lA Γ XT X .nil) := PA.imp pa_nil fun σ H Q ⟨ls, L, E, Q0, rs, rh, xe, w, af⟩ => by
  rw [wpA] at w
  exact af _ _ _ _ w (.refl _) rh .nil
theorem sa_cons (ha : PE X e (lf Γ XT X ta)) (hr : PA X es (lA Γ XT X ts)) (h : argE e = true) : PA X (e :: es) (lA Γ XT X (.cons ta ts)) := PA.imp (pa_cons ha hr (star_arg h _ _)) fun σ H Q ⟨ls, L, E, Q0, rs, rh, xe, w, af⟩ => by
  rw [wpA] at w
  exact ⟨ls, L, E, _, rs, rh, xe, w, fun x L1 v H1 q e1 rh1 rv => ⟨ls, L1, E, _, rs.ext e1, rh1, G.xm _ _ _ _ e1 xe, q, fun ps L2 vs H2 q2 e2 rh2 rp => af _ _ _ _ q2 (e1.trans e2) rh2 (.cons (rv.ext e2) rp)⟩⟩
theorem RepL.len {K : PySem.W.Frag} {H : Hp} : ∀ {ps : List PV} {vs : List V}, RepL K H ps vs → vs.length = ps.length
  | [], _, .nil => rfl
  | _ :: _, _, .cons _ r => by rw [List.length_cons, List.length_cons, RepL.len r]
theorem se_tup {k : Nat} (ha : PA X es (lA Γ XT X ts)) : SE X XT (.Tuple es k pos) (wpE Γ (.tup ts)) := by
  refine .dfl (PE.imp (pe_tup ha) fun σ H Q ⟨ls, L, E, Q0, rs, rh, xe, w, af⟩ => ?_) rfl
  rw [wpE] at w
  refine ⟨ls, L, E, _, rs, rh, xe, w, fun ps L1 vs H1 q e1 rh1 rp => ⟨?_, fun p n => ?_⟩⟩
  · rw [RepL.len G rp]; exact lenOk q.1
  · exact af _ _ _ _ q.2 (e1.trans (.new n)) (rh1.grow n) (Rep.new_tup n rp)
theorem se_lst (ha : PA X es (lA Γ XT X ts)) : SE X XT (.List es pos) (wpE Γ (.lst ts)) := by
  refine .dfl (PE.imp (pe_lst ha) fun σ H Q ⟨ls, L, E, Q0, rs, rh, xe, w, af⟩ => ?_) rfl
  rw [wpE] at w
  refine ⟨ls, L, E, _, rs, rh, xe, w, fun ps L1 vs H1 q e1 rh1 rp => ⟨?_, fun p n => ?_⟩⟩
  · rw [RepL.len G rp]; exact lenOk q.1
  · exact af _ _ _ _ (q.2 p (rh1.free n)) (e1.trans (.new n)) (rh1.new_lst n rp) (.ref p)
theorem new_dct {K : PySem.W.Frag} {H : Hp} {L : LHp} {p : Addr} (rh : RelHp K H L) (n : H p = none) : RelHp K (upd H p (.dK [])) (lupd L p (.dct [])) :=
  rh.new n (.inl ⟨[], upd_same, .nil⟩)
theorem se_dct0 : SE X XT (.Dict [] [] pos) (wpE Γ .dct0) := by
  refine .dfl (PE.imp pe_dnewK fun σ H Q ⟨ls, L, E, Q0, rs, rh, xe, w, af⟩ p n => ?_) rfl
  rw [wpE] at w
  exact af _ _ _ _ (w p (rh.free n)) (.new n) (new_dct G rh n) (.ref p)
theorem se_dct1 {i : Nat} {cv : PV} {v : V} (ha : PE X a (tVar i)) (hb : PE X b (tC v)) (hr : ∀ H, Rep X.K H cv v) : SE X XT (.Dict [some a] [b] pos) (wpE Γ (.dct1 (.var i) (.cst cv))) := by
  refine .dfl (PE.imp (pe_disp (pps_cons ha hb pps_nil) rfl rfl (by simp) (by simp)) fun σ H Q ⟨ls, L, E, Q0, rs, rh, xe, w, af⟩ p n => ?_) rfl
  rw [wpE] at w
  have e0 : ExtT H (upd H p (.dK [])) := .new n
  have w := w p (rh.free n)
  rw [wpE] at w
  obtain ⟨y, hy, w⟩ := w
  rw [wpE] at w
  obtain ⟨v0, h3, h4⟩ := rs.2 i y hy
  obtain ⟨hp, ⟨ck, hk⟩, q2⟩ := w
  refine ⟨v0, h3, ?_⟩
  show (upd H p (.dK [])) p = some (.dK []) ∧ _
  refine ⟨upd_same, [(ck, v)], ?_, by simp, ?_⟩
  · have hx := toKey_eq hk
    subst hx
    cases ck with
    | inl i => rw [h4.int_inv]; rfl
    | inr z => rw [h4.str_inv]; rfl
  · have hx := toKey_eq hk
    have e1 : ExtT (upd H p (.dK [])) (upd (upd H p (.dK [])) p (.dK (mergeK [] [(ck, v)]))) := .put upd_same trivial
    refine af _ _ _ _ q2 (e0.trans e1) ?_ (.ref p)
    refine (new_dct G rh n).upd_any e1 (.inl ⟨_, upd_same, ?_⟩)
    exact .cons ⟨hx, hr _⟩ .nil
end
end DP

set_option Elab.async false
set_option linter.all false
set_option maxRecDepth 100000
set_option maxHeartbeats 4000000
/-! calls, subscripts, ranges -/
namespace DP
open PySem PySem.Spec PyProof.Rows L2

def Bf.nm : Bf → Str
  | .len => "len" | .sorted => "sorted" | .all => "all" | .any => "any" | .sum => "sum" | .max => "max" | .min => "min" | .int => "int" | .abs => "abs" | .tuple => "tuple" | .list => "list" | .isi => "isinstance"
def Mt.nm : Mt → Str
  | .append => "append" | .pop => "pop" | .popAt => "pop"

section
variable {Γ : Env'} {F C : Str → Bool} {k : Nat} {XT : XTy} {X : Cx} {N : List Str} {sc : Scope} {fnB : Str → Bool} (G : GE Γ F C k XT X N sc fnB)
variable {a b c e o : Expr} {es : List Expr} {ta tb tc : Tm} {ts : Tms} {pos p p2 apos cpos : Pos} {x : Str}
include G
theorem l_call {r : LRC} {w : WE'} (hw : ∀ ls L E Q, w ls L E Q → wpA Γ ts ls L E fun xs L1 => r xs L1 Q) {σ : St} {H : Hp} {Q : VK} (h : lift X.K XT w σ H Q) : tCB (upC X.K r) (lA Γ XT X ts) σ H Q := by
  obtain ⟨ls, L, E, Q0, rs, rh, xe, w, af⟩ := h
  exact ⟨ls, L, E, _, rs, rh, xe, hw _ _ _ _ w, fun ps L1 vs H1 q e1 rh1 rp => ⟨ps, L1, Q0, rp, rh1, q, af.ext e1⟩⟩
theorem se_bf {f : Bf} (hg : sc.names.lookup f.nm = some .globalImplicit) (ha : PA X (e :: es) (lA Γ XT X ts)) (he : (e :: es).all argE = true) : SE X XT (.Call (.Name f.nm p) (e :: es) [] pos) (wpE Γ (.bf f ts)) := by
  have h1 : argE e = true := by rw [List.all_cons, Bool.and_eq_true] at he; exact he.1
  have h2 : es.all argE = true := by rw [List.all_cons, Bool.and_eq_true] at he; exact he.2
  have i : ∀ σ H Q, lift X.K XT (wpE Γ (.bf f ts)) σ H Q → tCB (upC X.K (bfW f)) (lA Γ XT X ts) σ H Q := fun σ H Q h => l_call G (fun _ _ _ _ w => by rw [wpE] at w; exact w) h
  have hm : X.mg f.nm = none := G.gb.blt _ (by cases f <;> decide)
  have kb : ∀ id, CallR X (.builtin id) (upC X.K (bfW f)) → bootBuiltins f.nm = some (.builtin id) → f.nm ≠ "__name__" → (f.nm == ("__debug__" : Str)) = false → SE X XT (.Call (.Name f.nm p) (e :: es) [] pos) (wpE Γ (.bf f ts)) := fun id hc hv hn hd =>
    .dfl (PE.imp (pe_callB hc (G.gl hg) hm hv ha hn hd (star_arg h1 _ _) (few_star _ _ h2)) i) rfl
  have kt : ∀ id, CallR X (.type id) (upC X.K (bfW f)) → bootBuiltins f.nm = some (.type id) → f.nm ≠ "__name__" → (f.nm == ("__debug__" : Str)) = false → SE X XT (.Call (.Name f.nm p) (e :: es) [] pos) (wpE Γ (.bf f ts)) := fun id hc hv hn hd =>
    .dfl (PE.imp (pe_callTy hc (G.gl hg) hm hv ha hn hd (star_arg h1 _ _) (few_star _ _ h2)) i) rfl
  cases f with
  | len => exact kb _ len_up rfl (by decide) (by decide)
  | sorted => exact kb _ (sorted_up G.calm G.u70) rfl (by decide) (by decide)
  | all => exact kb _ (all_up G.calm) rfl (by decide) (by decide)
  | any => exact kb _ (any_up G.calm) rfl (by decide) (by decide)
  | sum => exact kb _ (sum_up G.calm) rfl (by decide) (by decide)
  | max => exact kb _ (max_up G.calm) rfl (by decide) (by decide)
  | min => exact kb _ (min_up G.calm) rfl (by decide) (by decide)
  | int => exact kt _ int_fn_up rfl (by decide) (by decide)
  | abs => exact kb _ abs_up rfl (by decide) (by decide)
  | tuple => exact kt _ tuple_up rfl (by decide) (by decide)
  | list => exact kt _ list_up rfl (by decide) (by decide)
  | isi => exact kb _ isi_up rfl (by decide) (by decide)
theorem se_call (hf : F x = true) (hg : sc.names.lookup x = some .globalImplicit) (hd : (x == ("__debug__" : Str)) = false) (ha : PA X (e :: es) (lA Γ XT X ts)) (he : (e :: es).all argE = true) : SE X XT (.Call (.Name x p) (e :: es) [] pos) (wpE Γ (.call x ts)) := by
  have h1 : argE e = true := by rw [List.all_cons, Bool.and_eq_true] at he; exact he.1
  have h2 : es.all argE = true := by rw [List.all_cons, Bool.and_eq_true] at he; exact he.2
  obtain ⟨f, fd, ps, hm, hk, hb, Fn⟩ := G.gb.fn x hf
  refine .dfl (PE.imp (pe_callS Fn G.room (G.gl hg) hm hk hb (fun σ => passAt G.xt σ) ha hd (star_arg h1 _ _) (few_star _ _ h2)) fun σ H Q ⟨ls, L, E, Q0, rs, rh, xe, w, af⟩ => ?_) rfl
  rw [wpE] at w
  refine ⟨ls, L, E, _, rs, rh, xe, w, fun qs L1 vs H1 q e1 rh1 rp => ⟨qs, L1, Q0, E, rp, rh1, q, af.ext e1, fun ex L' H' cls d e0 x rh' rx => ?_⟩⟩
  exact ⟨ls, E, ex, L', H1, rs.ext e1, G.xm _ _ _ _ e1 xe, x, rh', rx, e0⟩
theorem isLst_ty {K : PySem.W.Frag} {H : Hp} {L : LHp} {q : PV} {v : V} (rh : RelHp K H L) (r : Rep K H q v) (h : isLst q L) : tyV K "list" v H := by
  obtain ⟨a, xs, rfl, hl⟩ := h
  obtain ⟨vs, h1, _⟩ := rh.lst hl
  rw [r.ref_inv]
  first
    | exact .inl ⟨vs, sqL_of h1⟩
    | exact ⟨vs, sqL_of h1⟩
    | (unfold tyV; simp; exact ⟨vs, sqL_of h1⟩)
theorem mt_up (m : Mt) : MtR X (match m with | .append => "list.append" | .pop => "list.pop" | .popAt => "list.pop") (upM X.K (mtW m)) := by
  cases m with
  | append => exact append_up
  | pop => exact pop_up
  | popAt => exact popAt_up
theorem se_mt1 {m : Mt} (hm : m = .append ∨ m = .popAt) (ho : PE X o (lf Γ XT X ta)) (ha : PA X [e] (lA Γ XT X ts)) (hb : baseE o = true) (hl : (apos.endLine == cpos.line) = true) (he : argE e = true) :
    SE X XT (.Call (.Attribute o m.nm apos) [e] [] cpos) (wpE Γ (.mt m ta ts)) := by
  have i : ∀ σ H Q, lift X.K XT (wpE Γ (.mt m ta ts)) σ H Q → tBM X.K "list" (upM X.K (mtW m)) (lf Γ XT X ta) (lA Γ XT X ts) σ H Q := fun σ H Q ⟨ls, L, E, Q0, rs, rh, xe, w, af⟩ => by
    rw [wpE] at w
    exact ⟨ls, L, E, _, rs, rh, xe, w, fun x L1 v H1 q e1 rh1 rv => ⟨isLst_ty G rh1 rv q.1, ls, L1, E, _, rs.ext e1, rh1, G.xm _ _ _ _ e1 xe, q.2, fun ps L2 vs H2 q2 e2 rh2 rp => ⟨x, ps, L2, Q0, rv.ext e2, rp, rh2, q2, af.ext (e1.trans e2)⟩⟩⟩
  have hst : starEach [e] X.env = (false, eval e X.env) :: starEach [] X.env := star_arg he _ _
  have hfew : ((backTo cpos (starEach [e] X.env)).all (fun x => !x.1) && (backToKw cpos (keywordEach [] X.env)).all (fun x => x.1.isSome)
      && decide (([e] : List Expr).length + ([] : List Keyword).length + (if ([] : List Keyword).isEmpty then 0 else 1) < 30)) = true := by rw [hst]; rfl
  rcases hm with rfl | rfl
  · exact .dfl (PE.imp (pe_bm PySem.F.plainAttrs_list PySem.F.slot_list_append PySem.F.type_list_append append_up ho ha (base_attr hb _ _) hfew hl hst rfl) i) rfl
  · exact .dfl (PE.imp (pe_bm PySem.F.plainAttrs_list PySem.F.slot_list_pop PySem.F.type_list_pop popAt_up ho ha (base_attr hb _ _) hfew hl hst rfl) i) rfl
theorem se_pop (ho : PE X o (lf Γ XT X ta)) (hb : baseE o = true) (hl : (apos.endLine == cpos.line) = true) : SE X XT (.Call (.Attribute o (Mt.nm .pop) apos) [] [] cpos) (wpE Γ (.mt .pop ta .nil)) := by
  refine .dfl (PE.imp (pe_bm0 PySem.F.plainAttrs_list PySem.F.slot_list_pop PySem.F.type_list_pop pop_up ho (base_attr hb _ _) hl) fun σ H Q ⟨ls, L, E, Q0, rs, rh, xe, w, af⟩ => ?_) rfl
  rw [wpE] at w
  refine ⟨ls, L, E, _, rs, rh, xe, w, fun x L1 v H1 q e1 rh1 rv => ⟨isLst_ty G rh1 rv q.1, ?_⟩⟩
  have q2 := q.2
  rw [wpA] at q2
  exact ⟨x, [], L1, Q0, rv, .nil, rh1, q2, af.ext e1⟩
theorem se_ix (ha : PE X a (lf Γ XT X ta)) (hb : PE X b (lf Γ XT X tb)) (h : argE b = true) : SE X XT (.Subscript a b pos) (wpE Γ (.ix ta tb)) :=
  .dfl (PE.imp (pe_ix (ix_any G.u65) ha hb (plainIx h)) fun σ H Q h => l_op G (fun _ _ _ _ w => by rw [wpE] at w; exact w) h) rfl

/-! ### slices -/
abbrev lO (Γ : Env') (XT : XTy) (X : Cx) (t : Tms) : TO := liftO X.K XT (wpO Γ t)
theorem so_none : PO X none (lO Γ XT X .nil) := PO.imp po_none fun σ H Q ⟨ls, L, E, Q0, rs, rh, xe, w, af⟩ => by
  rw [wpO] at w
  exact af _ _ _ w (.refl _) rh
theorem so_some {r : Tms} (ha : PE X a (lf Γ XT X ta)) : PO X (some a) (lO Γ XT X (.cons ta r)) := PO.imp (po_some ha) fun σ H Q ⟨ls, L, E, Q0, rs, rh, xe, w, af⟩ => by
  rw [wpO] at w
  refine ⟨ls, L, E, _, rs, rh, xe, w, fun x L1 v H1 q e1 rh1 rv => ?_⟩
  obtain ⟨i, rfl, q⟩ := q
  exact ⟨i, rv.int_inv, af _ _ _ q e1 rh1⟩
theorem se_slc {lo hi : Option Expr} {tl th : Tms} (ha : PE X a (lf Γ XT X ta)) (hl : PO X lo (lO Γ XT X tl)) (hh : PO X hi (lO Γ XT X th)) : SE X XT (.Subscript a (.Slice lo hi none p2) pos) (wpE Γ (.slc ta tl th)) := by
  refine .dfl (PE.imp (pe_slice sl_any ha hl hh) fun σ H Q ⟨ls, L, E, Q0, rs, rh, xe, w, af⟩ => ?_) rfl
  rw [wpE] at w
  exact ⟨ls, L, E, _, rs, rh, xe, w, fun x L1 v H1 q e1 rh1 rv => ⟨ls, L1, E, _, rs.ext e1, rh1, G.xm _ _ _ _ e1 xe, q, fun l L2 H2 q2 e2 rh2 => ⟨ls, L2, E, _, rs.ext (e1.trans e2), rh2, G.xm _ _ _ _ (e1.trans e2) xe, q2, fun h L3 H3 q3 e3 rh3 =>
    ⟨x, L3, Q0, rv.ext (e2.trans e3), rh3, q3, af.ext ((e1.trans e2).trans e3)⟩⟩⟩⟩

/-! ### ranges -/
theorem rgV_rep {K : PySem.W.Frag} {H : Hp} (a b : Int) : RepL K H (rgP a b) (rgV a b) := by
  unfold rgP rgV
  generalize List.range (b - a).toNat = l
  induction l with
  | nil => exact .nil
  | cons i r ih => exact .cons (.int _) ih
theorem rgW_inv {xs : List PV} {Q : List PV → Prop} (h : rgW xs Q) : (∃ b, xs = [.int b] ∧ rgOk 0 b ∧ Q (rgP 0 b)) ∨ ∃ a b, xs = [.int a, .int b] ∧ rgOk a b ∧ Q (rgP a b) := by
  unfold rgW at h
  split at h
  · exact .inl ⟨_, rfl, h⟩
  · exact .inr ⟨_, _, rfl, h⟩
  · exact h.elim
/-- range(..) as an argument, at run time -/
def lRg (Γ : Env') (XT : XTy) (X : Cx) (ts : Tms) : St → Hp → (Int → Int → Hp → Prop) → Prop := fun σ H Q => ∃ (ls : LSt) (L : LHp) (E : KX) (Q0 : List PV → LHp → Prop), RelSt X.K H ls σ ∧ RelHp X.K H L ∧ XT H ls E ∧ wpA Γ ts ls L E (fun xs L1 => rgW xs fun ys => Q0 ys L1) ∧
  ∀ a b L' H', rgOk a b → Q0 (rgP a b) L' → ExtT H H' → RelHp X.K H' L' → Q a b H'
theorem GE.rng (hg : sc.names.lookup ("range" : Str) = some .globalImplicit) : Gl X "range" ∧ X.mg "range" = none := ⟨G.gl hg, G.gb.blt _ (by decide)⟩
theorem srg1 (hg : sc.names.lookup ("range" : Str) = some .globalImplicit) (ha : PE X a (lf Γ XT X ta)) (h : argE a = true) : PRg X (.Call (.Name "range" p) [a] [] pos) (lRg Γ XT X (.cons ta .nil)) := by
  intro pins s σ H Q I hh
  refine prg_1 (G.rng hg).1 (G.rng hg).2 ha (star_arg h _ _) pins s σ H Q I ?_
  obtain ⟨ls, L, E, Q0, rs, rh, xe, w, af⟩ := hh
  rw [wpA] at w
  refine ⟨ls, L, E, _, rs, rh, xe, w, fun x L1 v H1 q e1 rh1 rv => ?_⟩
  rw [wpA] at q
  rcases rgW_inv G q with ⟨j, ex, ok, qq⟩ | ⟨_, _, ex, _⟩
  · cases ex
    exact ⟨j, rv.int_inv, af _ _ _ _ ok qq e1 rh1⟩
  · cases ex
theorem srg2 (hg : sc.names.lookup ("range" : Str) = some .globalImplicit) (ha : PE X a (lf Γ XT X ta)) (hb : PE X b (lf Γ XT X tb)) (h : argE a = true) (h' : argE b = true) : PRg X (.Call (.Name "range" p) [a, b] [] pos) (lRg Γ XT X (.cons ta (.cons tb .nil))) := by
  intro pins s σ H Q I hh
  refine prg_2 (G.rng hg).1 (G.rng hg).2 ha hb (star_arg h _ _) (star_arg h' _ _) (few_star _ _ (by simp [h'])) pins s σ H Q I ?_
  obtain ⟨ls, L, E, Q0, rs, rh, xe, w, af⟩ := hh
  rw [wpA] at w
  refine ⟨ls, L, E, _, rs, rh, xe, w, fun x L1 v H1 q e1 rh1 rv => ?_⟩
  rw [wpA] at q
  refine ⟨ls, L1, E, _, rs.ext e1, rh1, G.xm _ _ _ _ e1 xe, q, fun y L2 u H2 q2 e2 rh2 ru => ?_⟩
  rw [wpA] at q2
  rcases rgW_inv G q2 with ⟨_, ex, _⟩ | ⟨i, j, ex, ok, qq⟩
  · cases ex
  · cases ex
    exact ⟨i, j, rv.int_inv, ru.int_inv, af _ _ _ _ ok qq (e1.trans e2) rh2⟩
theorem se_tupRg (hg : sc.names.lookup ("tuple" : Str) = some .globalImplicit) (he : PRg X e (lRg Γ XT X ts)) (h : argE e = true) : SE X XT (.Call (.Name "tuple" p) [e] [] pos) (wpE Γ (.tupRg ts)) := by
  refine .dfl (PE.imp (pe_tupRg G.calm (G.gl hg) (G.gb.blt _ (by decide)) he (star_arg h _ _)) fun σ H Q ⟨ls, L, E, Q0, rs, rh, xe, w, af⟩ => ?_) rfl
  rw [wpE] at w
  exact ⟨ls, L, E, fun ys L1 => Q0 (.tup ys) L1, rs, rh, xe, w, fun a b L1 H1 ok q e1 rh1 => ⟨ok, fun p n => af _ _ _ _ q (e1.trans (.new n)) (rh1.grow n) (Rep.new_tup n (rgV_rep G a b))⟩⟩
theorem se_lstRg (hg : sc.names.lookup ("list" : Str) = some .globalImplicit) (he : PRg X e (lRg Γ XT X ts)) (h : argE e = true) : SE X XT (.Call (.Name "list" p) [e] [] pos) (wpE Γ (.lstRg ts)) := by
  refine .dfl (PE.imp (pe_listRg G.calm (G.gl hg) (G.gb.blt _ (by decide)) he (star_arg h _ _)) fun σ H Q ⟨ls, L, E, Q0, rs, rh, xe, w, af⟩ => ?_) rfl
  rw [wpE] at w
  exact ⟨ls, L, E, fun ys L1 => ∀ p, L1 p = none → Q0 (.ref p) (lupd L1 p (.lst ys)), rs, rh, xe, w, fun a b L1 H1 ok q e1 rh1 => ⟨ok, fun p n => af _ _ _ _ (q p (rh1.free n)) (e1.trans (.new n)) (rh1.new_lst n (rgV_rep G a b)) (.ref p)⟩⟩
/-- three bounds -/
theorem rg3_rep {K : PySem.W.Frag} {H : Hp} {a c : Int} {n : Nat} {acc : Array Value} (h : ItemsOf (fun i v => ∃ t, v = .int (a + i * c) t) acc n) : ∃ vs, Vals vs acc.toList ∧ vs.length = n ∧ RepL K H (rg3P a c n) vs := by
  have e : acc.toList.length = n := by rw [Array.length_toList]; exact h.1
  refine ⟨(List.range n).map fun i => V.int (a + (i : Nat) * c), ?_, by simp, ?_⟩
  · rw [← e]
    refine vals_of_get acc.toList _ fun j u hj => ?_
    obtain ⟨t, rfl⟩ := h.2 j u (by rw [← hj, Array.getElem?_toList])
    exact ⟨t, rfl⟩
  · unfold rg3P
    generalize List.range n = l
    induction l with
    | nil => exact .nil
    | cons i r ih => exact .cons (.int _) ih
theorem rg3W_inv {xs : List PV} {Q : List PV → Prop} (h : rg3W xs Q) : ∃ a b c n, xs = [.int a, .int b, .int c] ∧ RgC a b c n ∧ n ≤ 2 ^ 24 ∧ Q (rg3P a c n) := by
  unfold rg3W at h
  split at h
  · obtain ⟨n, h1, h2, h3⟩ := h; exact ⟨_, _, _, n, rfl, h1, h2, h3⟩
  · exact h.elim
theorem se_tupRg3 {e0 e1 e2 : Expr} (hg : sc.names.lookup ("tuple" : Str) = some .globalImplicit) (hr : sc.names.lookup ("range" : Str) = some .globalImplicit) (ha : PA X [e0, e1, e2] (lA Γ XT X ts)) (h : [e0, e1, e2].all argE = true) :
    SE X XT (.Call (.Name "tuple" p) [.Call (.Name "range" p2) [e0, e1, e2] [] apos] [] pos) (wpE Γ (.tupRg3 ts)) := by
  have h0 : argE e0 = true := by rw [List.all_cons, Bool.and_eq_true] at h; exact h.1
  have h1 : [e1, e2].all argE = true := by rw [List.all_cons, Bool.and_eq_true] at h; exact h.2
  have na : starEach [Expr.Call (.Name "range" p2) [e0, e1, e2] [] apos] X.env = (false, eval (.Call (.Name "range" p2) [e0, e1, e2] [] apos) X.env) :: starEach [] X.env := rfl
  refine .dfl ⟨fun pins s σ H Q I hh => ?_⟩ rfl
  obtain ⟨ls, L, E, Q0, rs, rh, xe, w, af⟩ := hh
  rw [wpE] at w
  have ht : X.mg "tuple" = none := G.gb.blt _ (by decide)
  refine Call_ (ld_blt I (G.gl hg) ht boot_tuple (PyProof.Rows.callWith_type1 (args_cons ?_ na) na))
  refine Call_ (ld_blt I (G.rng hr).1 (G.rng hr).2 boot_range (PyProof.Rows.callWith_type1 (thn (ha.run apos pins s σ H _ I ⟨ls, L, E, _, rs, rh, xe, w, fun ps L1 vs H1 q e1 rh1 rp => (⟨ps, L1, rp, q, e1, rh1⟩ : ∃ ps L1, RepL X.K H1 ps vs ∧ (rg3W ps fun ys => Q0 (.tup ys) L1) ∧ ExtT H H1 ∧ RelHp X.K H1 L1)⟩) fun us s1 ⟨vs, H1, I1, r1, ps, L1, rp, q, e1, rh1⟩ => ?_) (star_arg h0 _ _) (few_star _ _ h1)))
  obtain ⟨a, b, c, n, rfl, ⟨c0, c1, c2, c3⟩, hn, q⟩ := rg3W_inv G q
  cases rp with
  | cons p0 rp =>
    cases rp with
    | cons p1 rp =>
      cases rp with
      | cons p2 rp =>
        cases rp
        cases p0.int_inv
        cases p1.int_inv
        cases p2.int_inv
        cases r1 with
        | cons u0 r1 =>
          cases r1 with
          | cons u1 r1 =>
            cases r1 with
            | cons u2 r1 =>
              cases r1
              obtain ⟨t0, rfl⟩ := u0
              obtain ⟨t1, rfl⟩ := u1
              obtain ⟨t2, rfl⟩ := u2
              refine call_range_3 c0 (args_nil ?_) (.inl (PyProof.noPylong_small c1))
              have I2 : Inv X pins σ H1 { s1 with heap := s1.heap.push { cls := .type "range", data := .fields #[.int a t0, .int b t1, .int c t2] }, toks := s1.toks } := I1.kept fun b o e => Heap.get?_push_of_some _ e
              refine call_tuple_range (n := n) (I2.ok.hd G.calm) (IsRange.new ..) c2 c3 hn fun h' tk acc hk hi => ?_
              have I3 : Inv X pins σ H1 { s1 with heap := h', toks := tk } := I2.kept hk
              obtain ⟨ws, v1, v2, v3⟩ := rg3_rep G (K := X.K) (H := H1) hi
              have nf : H1 h'.objs.size = none := I3.hok.fresh (Nat.le_refl _)
              refine ⟨.ref h'.objs.size, upd H1 h'.objs.size (.tup ws), I3.laid (t' := tk) (fun c o e => Heap.get?_push_of_some _ e) (Nat.le_refl _) ⟨?_, acc.toList, v1, ?_⟩, rfl, af _ _ _ _ q (e1.trans (.new nf)) (rh1.grow nf) (Rep.new_tup nf v3)⟩
              · rw [v2, sizeLine_eq]; omega
              · rw [Array.toArray_toList]; exact IsTup.new _ _
end
end DP

set_option Elab.async false
set_option linter.all false
set_option maxRecDepth 100000
set_option maxHeartbeats 4000000
/-! what is walked -/
namespace DP
open PySem PySem.Spec PyProof.Rows L2

theorem RepL.lenE {K : PySem.W.Frag} {H : Hp} : ∀ {ps : List PV} {vs : List V}, RepL K H ps vs → vs.length = ps.length
  | [], _, .nil => rfl
  | _ :: _, _, .cons _ r => by rw [List.length_cons, List.length_cons, RepL.lenE r]
theorem get_lt {α : Type} {xs : List α} {i : Nat} (h : i < xs.length) : ∃ x, xs[i]? = some x := ⟨xs[i], by simp [h]⟩
/-- a list that stays while G holds -/
theorem gives_l {K : PySem.W.Frag} {H0 : Hp} {a : Addr} {xs : List PV} {G : LHp → Prop} (h : ∀ H L, ExtT H0 H → RelHp K H L → G L → ∃ vs, SqL K H a vs ∧ RepL K H xs vs) : Gives K H0 (Itl K a) xs G where
  go := fun i H L hi x rh g => by
    obtain ⟨vs, sq, r⟩ := h H L x rh g
    obtain ⟨v, e⟩ := get_lt (xs := vs) (i := i) (by rw [r.lenE]; exact hi)
    exact ⟨vs, v, sq, e⟩
  yld := fun i y H L v H' hi x rh g q => by
    obtain ⟨vs, sq, r⟩ := h H L x rh g
    obtain ⟨rfl, q⟩ := q
    obtain ⟨v', e, rv⟩ := r.get hi
    rw [q vs sq] at e; cases e
    exact ⟨.refl _, rh, rv⟩
  stop := fun H L x rh g => by
    obtain ⟨vs, sq, r⟩ := h H L x rh g
    exact ⟨vs, sq, by rw [r.lenE]; exact Nat.le_refl _⟩
theorem gives_t {K : PySem.W.Frag} {H0 : Hp} {a : Addr} {xs : List PV} {G : LHp → Prop} (h : ∀ H L, ExtT H0 H → RelHp K H L → G L → ∃ vs, SqT K H a vs ∧ RepL K H xs vs) : Gives K H0 (Itt K a) xs G where
  go := fun i H L hi x rh g => by
    obtain ⟨vs, sq, r⟩ := h H L x rh g
    obtain ⟨v, e⟩ := get_lt (xs := vs) (i := i) (by rw [r.lenE]; exact hi)
    exact ⟨vs, v, sq, e⟩
  yld := fun i y H L v H' hi x rh g q => by
    obtain ⟨vs, sq, r⟩ := h H L x rh g
    obtain ⟨rfl, q⟩ := q
    obtain ⟨v', e, rv⟩ := r.get hi
    rw [q vs sq] at e; cases e
    exact ⟨.refl _, rh, rv⟩
  stop := fun H L x rh g => by
    obtain ⟨vs, sq, r⟩ := h H L x rh g
    exact ⟨vs, sq, by rw [r.lenE]; exact Nat.le_refl _⟩
theorem rgP_length (a b : Int) : (rgP a b).length = (b - a).toNat := by unfold rgP; simp
theorem rgP_get {a b : Int} {i : Nat} {x : PV} (h : (rgP a b)[i]? = some x) : x = .int (a + (i : Nat)) := by
  unfold rgP at h
  rw [List.getElem?_map] at h
  by_cases hi : i < (b - a).toNat
  · rw [List.getElem?_range hi] at h
    exact (Option.some.inj h).symm
  · rw [List.getElem?_eq_none (by simpa using hi)] at h; cases h
theorem gives_r {K : PySem.W.Frag} {H0 : Hp} {a b : Int} {G : LHp → Prop} : Gives K H0 (Itr a (b - a).toNat) (rgP a b) G where
  go := fun i H L hi x rh g => by rw [rgP_length] at hi; exact hi
  yld := fun i y H L v H' hi x rh g q => by
    obtain ⟨rfl, rfl⟩ := q
    rw [rgP_get hi]
    exact ⟨.refl _, rh, .int _⟩
  stop := fun H L x rh g => by rw [rgP_length]; exact Nat.le_refl _
theorem enumP_length : ∀ (s : Nat) (xs : List PV), (enumP s xs).length = xs.length
  | _, [] => rfl
  | s, x :: r => by unfold enumP; rw [List.length_cons, List.length_cons, enumP_length (s + 1) r]
theorem enumP_get : ∀ {xs : List PV} {s i : Nat} {y : PV}, (enumP s xs)[i]? = some y → ∃ x, xs[i]? = some x ∧ y = .tup [.int ((s + i : Nat) : Int), x]
  | [], _, _, _, h => by simp [enumP] at h
  | x :: r, s, 0, y, h => by
    simp [enumP] at h
    exact ⟨x, rfl, h.symm⟩
  | x :: r, s, i + 1, y, h => by
    unfold enumP at h
    rw [List.getElem?_cons_succ] at h
    obtain ⟨z, h1, h2⟩ := enumP_get (xs := r) (s := s + 1) (i := i) (y := y) h
    refine ⟨z, by rw [List.getElem?_cons_succ]; exact h1, ?_⟩
    rw [h2, show s + 1 + i = s + (i + 1) by omega]
theorem pair_new {K : PySem.W.Frag} {H : Hp} {L : LHp} {T : Addr} {p q : PV} {v w : V} (rh : RelHp K H L) (n : H T = none) (r1 : Rep K H p v) (r2 : Rep K H q w) :
    ExtT H (upd H T (.tup [v, w])) ∧ RelHp K (upd H T (.tup [v, w])) L ∧ Rep K (upd H T (.tup [v, w])) (.tup [p, q]) (.ref T) :=
  ⟨.new n, rh.grow n, Rep.new_tup n (.cons r1 (.cons r2 .nil))⟩
theorem gives_el {K : PySem.W.Frag} {H0 : Hp} {a : Addr} {xs : List PV} {G : LHp → Prop} (h : ∀ H L, ExtT H0 H → RelHp K H L → G L → ∃ vs, SqL K H a vs ∧ RepL K H xs vs) : Gives K H0 (Ite K a) (enumP 0 xs) G where
  go := fun i H L hi x rh g => by
    rw [enumP_length] at hi
    obtain ⟨vs, sq, r⟩ := h H L x rh g
    obtain ⟨v, e⟩ := get_lt (xs := vs) (i := i) (by rw [r.lenE]; exact hi)
    exact ⟨vs, v, sq, e⟩
  yld := fun i y H L v H' hi x rh g q => by
    obtain ⟨z, hz, rfl⟩ := enumP_get hi
    obtain ⟨vs, sq, r⟩ := h H L x rh g
    obtain ⟨T, u, rfl, n, rfl, q⟩ := q
    obtain ⟨v', e, rv⟩ := r.get hz
    rw [q vs sq] at e; cases e
    rw [Nat.zero_add]
    exact pair_new rh n (.int _) rv
  stop := fun H L x rh g => by
    obtain ⟨vs, sq, r⟩ := h H L x rh g
    rw [enumP_length]
    first
      | exact ⟨vs, sq, by rw [r.lenE]; exact Nat.le_refl _⟩
      | exact ⟨vs, sq, by rw [r.lenE]⟩
theorem gives_et {K : PySem.W.Frag} {H0 : Hp} {a : Addr} {xs : List PV} {G : LHp → Prop} (h : ∀ H L, ExtT H0 H → RelHp K H L → G L → ∃ vs, SqT K H a vs ∧ RepL K H xs vs) : Gives K H0 (IteT K a) (enumP 0 xs) G where
  go := fun i H L hi x rh g => by
    rw [enumP_length] at hi
    obtain ⟨vs, sq, r⟩ := h H L x rh g
    obtain ⟨v, e⟩ := get_lt (xs := vs) (i := i) (by rw [r.lenE]; exact hi)
    exact ⟨vs, v, sq, e⟩
  yld := fun i y H L v H' hi x rh g q => by
    obtain ⟨z, hz, rfl⟩ := enumP_get hi
    obtain ⟨vs, sq, r⟩ := h H L x rh g
    obtain ⟨T, u, rfl, n, rfl, q⟩ := q
    obtain ⟨v', e, rv⟩ := r.get hz
    rw [q vs sq] at e; cases e
    rw [Nat.zero_add]
    exact pair_new rh n (.int _) rv
  stop := fun H L x rh g => by
    obtain ⟨vs, sq, r⟩ := h H L x rh g
    rw [enumP_length]
    exact ⟨vs, sq, r.lenE⟩
theorem zipP_length : ∀ (xs ys : List PV), (zipP xs ys).length = min xs.length ys.length
  | [], ys => by simp [zipP]
  | x :: xs, [] => by simp [zipP]
  | x :: xs, y :: ys => by
    unfold zipP
    rw [List.length_cons, zipP_length xs ys, List.length_cons, List.length_cons]
    omega
theorem zipP_get : ∀ {xs ys : List PV} {i : Nat} {z : PV}, (zipP xs ys)[i]? = some z → ∃ x y, xs[i]? = some x ∧ ys[i]? = some y ∧ z = .tup [x, y]
  | [], _, _, _, h => by simp [zipP] at h
  | _ :: _, [], _, _, h => by simp [zipP] at h
  | x :: xs, y :: ys, 0, z, h => by
    simp [zipP] at h
    exact ⟨x, y, rfl, rfl, h.symm⟩
  | x :: xs, y :: ys, i + 1, z, h => by
    unfold zipP at h
    rw [List.getElem?_cons_succ] at h
    obtain ⟨u, v, h1, h2, h3⟩ := zipP_get (xs := xs) (ys := ys) (i := i) (z := z) h
    exact ⟨u, v, by rw [List.getElem?_cons_succ]; exact h1, by rw [List.getElem?_cons_succ]; exact h2, h3⟩
theorem gives_zl {K : PySem.W.Frag} {H0 : Hp} {a b : Addr} {xs ys : List PV} {G : LHp → Prop} (h : ∀ H L, ExtT H0 H → RelHp K H L → G L → ∃ vs, SqL K H a vs ∧ RepL K H xs vs)
    (h' : ∀ H L, ExtT H0 H → RelHp K H L → G L → ∃ vs, SqL K H b vs ∧ RepL K H ys vs) : Gives K H0 (Itz K a b) (zipP xs ys) G where
  go := fun i H L hi x rh g => by
    rw [zipP_length] at hi
    obtain ⟨vs, sq, r⟩ := h H L x rh g
    obtain ⟨ws, sq', r'⟩ := h' H L x rh g
    obtain ⟨v, e⟩ := get_lt (xs := vs) (i := i) (by rw [r.lenE]; omega)
    obtain ⟨w, e'⟩ := get_lt (xs := ws) (i := i) (by rw [r'.lenE]; omega)
    exact ⟨vs, ws, v, w, sq, sq', e, e'⟩
  yld := fun i y H L v H' hi x rh g q => by
    obtain ⟨z, z', hz, hz', rfl⟩ := zipP_get hi
    obtain ⟨vs, sq, r⟩ := h H L x rh g
    obtain ⟨ws, sq', r'⟩ := h' H L x rh g
    obtain ⟨T, u, u', rfl, n, rfl, q, q'⟩ := q
    obtain ⟨v', e, rv⟩ := r.get hz
    obtain ⟨w', e', rw'⟩ := r'.get hz'
    rw [q vs sq] at e; cases e
    rw [q' ws sq'] at e'; cases e'
    exact pair_new rh n rv rw'
  stop := fun H L x rh g => by
    obtain ⟨vs, sq, r⟩ := h H L x rh g
    obtain ⟨ws, sq', r'⟩ := h' H L x rh g
    refine ⟨vs, ws, sq, sq', ?_⟩
    rw [zipP_length, r.lenE, r'.lenE]
    omega
theorem gives_zt {K : PySem.W.Frag} {H0 : Hp} {a b : Addr} {xs ys : List PV} {G : LHp → Prop} (h : ∀ H L, ExtT H0 H → RelHp K H L → G L → ∃ vs, SqT K H a vs ∧ RepL K H xs vs)
    (h' : ∀ H L, ExtT H0 H → RelHp K H L → G L → ∃ vs, SqT K H b vs ∧ RepL K H ys vs) : Gives K H0 (RZ.ItzT K a b) (zipP xs ys) G where
  go := fun i H L hi x rh g => by
    rw [zipP_length] at hi
    obtain ⟨vs, sq, r⟩ := h H L x rh g
    obtain ⟨ws, sq', r'⟩ := h' H L x rh g
    obtain ⟨v, e⟩ := get_lt (xs := vs) (i := i) (by rw [r.lenE]; omega)
    obtain ⟨w, e'⟩ := get_lt (xs := ws) (i := i) (by rw [r'.lenE]; omega)
    exact ⟨vs, ws, v, w, sq, sq', e, e'⟩
  yld := fun i y H L v H' hi x rh g q => by
    obtain ⟨z, z', hz, hz', rfl⟩ := zipP_get hi
    obtain ⟨vs, sq, r⟩ := h H L x rh g
    obtain ⟨ws, sq', r'⟩ := h' H L x rh g
    obtain ⟨T, u, u', rfl, n, rfl, q, q'⟩ := q
    obtain ⟨v', e, rv⟩ := r.get hz
    obtain ⟨w', e', rw'⟩ := r'.get hz'
    rw [q vs sq] at e; cases e
    rw [q' ws sq'] at e'; cases e'
    exact pair_new rh n rv rw'
  stop := fun H L x rh g => by
    obtain ⟨vs, sq, r⟩ := h H L x rh g
    obtain ⟨ws, sq', r'⟩ := h' H L x rh g
    refine ⟨vs, ws, sq, sq', ?_⟩
    rw [zipP_length, r.lenE, r'.lenE]
    omega

/-! ### iterators of what the value is at run time -/
section
variable {X : Cx} {tg : Expr}
theorem pi_seq {l : Expr} {tl : TE} (hl : PE X l tl) : PI X tg l (fun σ H R => tl σ H fun x H1 => (∃ a, x = .ref a ∧ (∃ xs, SqL X.K H1 a xs) ∧ R (Itl X.K a) H1) ∨ ∃ a, x = .ref a ∧ (∃ xs, SqT X.K H1 a xs) ∧ R (Itt X.K a) H1) := by
  refine ⟨fun pins s σ H R I h => ?_⟩
  refine thn (hl.run pins s σ H _ I h) fun v s1 ⟨x, H1, I1, r1, q1⟩ => ?_
  rcases q1 with ⟨a, e, ⟨xs, hq⟩, q⟩ | ⟨a, e, ⟨xs, hq⟩, q⟩
  · subst e
    cases r1
    obtain ⟨its, rv, p, hz⟩ := I1.list hq
    refine wpAny_pyIter_list p.isList ?_
    refine ⟨s1.heap.objs.size, [s1.heap.objs.size], _, _, H1, rfl, I1.kept (t' := s1.toks) fun b o e => Heap.get?_push_of_some _ e, turn_list a _, ⟨_, Heap.get?_push_size _ rfl, rfl, rfl⟩, fun b hb => ?_, q⟩
    have e : b = s1.heap.objs.size := by simpa using hb
    subst e
    exact I1.fpOk (Nat.le_refl _) (I1.hok.fresh (Nat.le_refl _))
  · subst e
    cases r1
    obtain ⟨its, rv, p, hz⟩ := I1.tuple hq
    refine wpAny_pyIter_tuple (show s1.heap.IsTuple a its.toArray from p) ?_
    refine ⟨s1.heap.objs.size, [s1.heap.objs.size], _, _, H1, rfl, I1.kept (t' := s1.toks) fun b o e => Heap.get?_push_of_some _ e, turn_tuple a _, ⟨_, Heap.get?_push_size _ rfl, rfl, rfl⟩, fun b hb => ?_, q⟩
    have e : b = s1.heap.objs.size := by simpa using hb
    subst e
    exact I1.fpOk (Nat.le_refl _) (I1.hok.fresh (Nat.le_refl _))
theorem pi_enumA {e : Expr} {ta : TA} {p pos tpos : Pos} {elts : List Expr} {kk : Nat} (hg : Gl X "enumerate") (hm : X.mg "enumerate" = none) (ha : PA X [e] ta) (hs : starEach [e] X.env = (false, eval e X.env) :: starEach [] X.env) :
    PI X (.Tuple elts kk tpos) (.Call (.Name "enumerate" p) [e] [] pos) (fun σ H R => ta σ H fun vs H1 => (∃ a xs, vs = [.ref a] ∧ SqL X.K H1 a xs ∧ R (Ite X.K a) H1) ∨ ∃ a xs, vs = [.ref a] ∧ SqT X.K H1 a xs ∧ R (IteT X.K a) H1) := by
  refine ⟨fun pins s σ H R I h => ?_⟩
  refine Call_ (ld_blt I hg hm boot_enumerate (PyProof.Rows.callWith_type1 (thn (ha.run pos pins s σ H _ I h) fun us s1 ⟨vs, H1, I1, r1, q1⟩ => ?_) hs rfl))
  have fin : ∀ b, b ∈ [s1.heap.objs.size + 1, s1.heap.objs.size] → FpOk X pins H1 b := fun b hb => by
    have e' : b = s1.heap.objs.size + 1 ∨ b = s1.heap.objs.size := by simpa using hb
    have hle : s1.heap.objs.size ≤ b := by
      rcases e' with z | z
      · rw [z]; exact Nat.le_add_right _ _
      · rw [z]; exact Nat.le_refl _
    exact I1.fpOk hle (I1.hok.fresh hle)
  rcases q1 with ⟨a, xs, ex, hq, q⟩ | ⟨a, xs, ex, hq, q⟩
  · subst ex
    cases r1 with
    | cons r rr =>
      cases rr
      cases r
      obtain ⟨its, rv, p', hz⟩ := I1.list hq
      refine call_enumerate_list p'.isList fun h' he hit hsz hk => wpAny_pyIter_enum he ?_
      have I2 : Inv X pins σ H1 { s1 with heap := h' } := I1.kept (t' := s1.toks) hk
      exact ⟨s1.heap.objs.size + 1, [s1.heap.objs.size + 1, s1.heap.objs.size], _, _, H1, rfl, I2, turn_enum a (s1.heap.objs.size + 1) s1.heap.objs.size, ⟨⟨.none, he⟩, hit, Nat.succ_ne_self _⟩, fin, q⟩
  · subst ex
    cases r1 with
    | cons r rr =>
      cases rr
      cases r
      obtain ⟨its, rv, p', hz⟩ := I1.tuple hq
      refine call_enumT (show s1.heap.IsTuple a its.toArray from p') fun h' he hit hsz hk => wpAny_pyIter_enum he ?_
      have I2 : Inv X pins σ H1 { s1 with heap := h' } := I1.kept (t' := s1.toks) hk
      exact ⟨s1.heap.objs.size + 1, [s1.heap.objs.size + 1, s1.heap.objs.size], _, _, H1, rfl, I2, turn_enumT a (s1.heap.objs.size + 1) s1.heap.objs.size, ⟨⟨.none, he⟩, hit, Nat.succ_ne_self _⟩, fin, q⟩
end
end DP

set_option Elab.async false
set_option linter.all false
set_option maxRecDepth 100000
set_option maxHeartbeats 4000000
/-! iterators, targets, comprehensions -/
namespace DP
open PySem PySem.Spec PyProof.Rows L2

section
variable {Γ : Env'} {F C : Str → Bool} {k : Nat} {XT : XTy} {X : Cx} {N : List Str} {sc : Scope} {fnB : Str → Bool} (G : GE Γ F C k XT X N sc fnB)
variable {a b c e o tg : Expr} {es : List Expr} {ta tb tc : Tm} {ts : Tms} {pos p p2 apos cpos : Pos} {x : Str}
include G
abbrev lI (Γ : Env') (XT : XTy) (X : Cx) (t : Itm) : TI := liftI X.K XT (wpI Γ t)
theorem si_seq (ha : PE X a (lf Γ XT X ta)) : PI X tg a (lI Γ XT X (.seq ta)) := PI.imp (pi_seq ha) fun σ H R ⟨ls, L, E, R0, rs, rh, xe, w, af⟩ => by
  rw [wpI] at w
  refine ⟨ls, L, E, _, rs, rh, xe, w, fun v L1 u H1 q e1 rh1 rv => ?_⟩
  cases v with
  | tup xs =>
    obtain ⟨a, vs, rfl, h1, r⟩ := rv.tup_inv
    exact .inr ⟨a, rfl, ⟨vs, sqT_of h1⟩, af _ _ _ _ _ q e1 rh1 (gives_t fun H L x _ _ => ⟨vs, sqT_of (x.tup _ _ h1), r.ext x⟩)⟩
  | rol xs =>
    obtain ⟨a, vs, rfl, h1, r⟩ := rv.rol_inv
    exact .inl ⟨a, rfl, ⟨vs, h1.sq⟩, af _ _ _ _ _ q e1 rh1 (gives_l fun H L x _ _ => ⟨vs, (h1.ext x).sq, r.ext x⟩)⟩
  | ref a =>
    obtain ⟨xs, hl, q⟩ := q
    obtain ⟨vs, h1, r⟩ := rh1.lst hl
    exact .inl ⟨a, rv.ref_inv, ⟨vs, sqL_of h1⟩, af _ _ _ _ _ q e1 rh1 (gives_l fun H L x rh g => let ⟨ws, h2, r2⟩ := rh.lst g; ⟨ws, sqL_of h2, r2⟩)⟩
  | _ => exact q.elim
theorem si_rng1 (hg : sc.names.lookup ("range" : Str) = some .globalImplicit) (ha : PE X a (lf Γ XT X ta)) (h : argE a = true) : PI X tg (.Call (.Name "range" p) [a] [] pos) (lI Γ XT X (.rng (.cons ta .nil))) :=
  PI.imp (pi_range1 (G.rng hg).1 (G.rng hg).2 (pa_cons ha pa_nil (star_arg h _ _)) (star_arg h _ _)) fun σ H R ⟨ls, L, E, R0, rs, rh, xe, w, af⟩ => by
    rw [wpI, wpA] at w
    refine ⟨ls, L, E, _, rs, rh, xe, w, fun x L1 v H1 q e1 rh1 rv => ?_⟩
    rw [wpA] at q
    rcases rgW_inv G q with ⟨j, ex, ok, qq⟩ | ⟨_, _, ex, _⟩
    · cases ex
      rw [rv.int_inv]
      have g := gives_r (K := X.K) (H0 := H1) (a := 0) (b := j) (G := fun _ => True)
      rw [show (j - 0).toNat = j.toNat by simp] at g
      exact ⟨j, rfl, ok.2.2.1, ok.2.2.2.1, af _ _ _ _ _ qq e1 rh1 g⟩
    · cases ex
theorem si_rng2 (hg : sc.names.lookup ("range" : Str) = some .globalImplicit) (ha : PE X a (lf Γ XT X ta)) (hb : PE X b (lf Γ XT X tb)) (h : argE a = true) (h' : argE b = true) : PI X tg (.Call (.Name "range" p) [a, b] [] pos) (lI Γ XT X (.rng (.cons ta (.cons tb .nil)))) :=
  PI.imp (pi_range2 (G.rng hg).1 (G.rng hg).2 (pa_cons ha (pa_cons hb pa_nil (star_arg h' _ _)) (star_arg h _ _)) (by rw [star_arg h, star_arg h']; rfl) (by rw [star_arg h']; rfl)) fun σ H R ⟨ls, L, E, R0, rs, rh, xe, w, af⟩ => by
    rw [wpI, wpA] at w
    refine ⟨ls, L, E, _, rs, rh, xe, w, fun x L1 v H1 q e1 rh1 rv => ?_⟩
    rw [wpA] at q
    refine ⟨ls, L1, E, _, rs.ext e1, rh1, G.xm _ _ _ _ e1 xe, q, fun y L2 u H2 q2 e2 rh2 ru => ?_⟩
    rw [wpA] at q2
    rcases rgW_inv G q2 with ⟨_, ex, _⟩ | ⟨i, j, ex, ok, qq⟩
    · cases ex
    · cases ex
      rw [rv.int_inv, ru.int_inv]
      exact ⟨i, j, rfl, ⟨ok.1, ok.2.1, ok.2.2.1, ok.2.2.2.1⟩, af _ _ _ _ _ qq (e1.trans e2) rh2 gives_r⟩
theorem enumW_inv {v : PV} {L : LHp} {R : KI} (h : enumW v L R) : (∃ xs, v = .tup xs ∧ R (enumP 0 xs) (fun _ => True) L) ∨ ∃ a xs, v = .ref a ∧ L a = some (.lst xs) ∧ R (enumP 0 xs) (fun L' => L' a = some (.lst xs)) L := by
  cases v with
  | tup xs => exact .inl ⟨xs, rfl, h⟩
  | ref a => obtain ⟨xs, h1, h2⟩ := h; exact .inr ⟨a, xs, rfl, h1, h2⟩
  | _ => exact h.elim
theorem si_enum {elts : List Expr} {kk : Nat} {tpos : Pos} (hg : sc.names.lookup ("enumerate" : Str) = some .globalImplicit) (ha : PE X a (lf Γ XT X ta)) (h : argE a = true) : PI X (.Tuple elts kk tpos) (.Call (.Name "enumerate" p) [a] [] pos) (lI Γ XT X (.enum ta)) :=
  PI.imp (pi_enumA (G.gl hg) (G.gb.blt _ (by decide)) (pa_cons ha pa_nil (star_arg h _ _)) (star_arg h _ _)) fun σ H R ⟨ls, L, E, R0, rs, rh, xe, w, af⟩ => by
    rw [wpI] at w
    refine ⟨ls, L, E, _, rs, rh, xe, w, fun x L1 v H1 q e1 rh1 rv => ?_⟩
    rcases enumW_inv G q with ⟨xs, rfl, q⟩ | ⟨a, xs, rfl, hl, q⟩
    · obtain ⟨a, vs, rfl, h1, r⟩ := rv.tup_inv
      exact .inr ⟨a, vs, rfl, sqT_of h1, af _ _ _ _ _ q e1 rh1 (gives_et fun H L x _ _ => ⟨vs, sqT_of (x.tup _ _ h1), r.ext x⟩)⟩
    · obtain ⟨vs, h1, r⟩ := rh1.lst hl
      rw [rv.ref_inv]
      exact .inl ⟨a, vs, rfl, sqL_of h1, af _ _ _ _ _ q e1 rh1 (gives_el fun H L x rh g => let ⟨ws, h2, r2⟩ := rh.lst g; ⟨ws, sqL_of h2, r2⟩)⟩
theorem zipW_inv {v w : PV} {L : LHp} {R : KI} (h : zipW v w L R) : (∃ xs ys, v = .tup xs ∧ w = .tup ys ∧ R (zipP xs ys) (fun _ => True) L) ∨
    ∃ a b xs ys, v = .ref a ∧ w = .ref b ∧ L a = some (.lst xs) ∧ L b = some (.lst ys) ∧ R (zipP xs ys) (fun L' => L' a = some (.lst xs) ∧ L' b = some (.lst ys)) L := by
  unfold zipW at h
  split at h
  · exact .inl ⟨_, _, rfl, rfl, h⟩
  · obtain ⟨xs, ys, h1, h2, h3⟩ := h; exact .inr ⟨_, _, xs, ys, rfl, rfl, h1, h2, h3⟩
  · exact h.elim
theorem si_zip {elts : List Expr} {kk : Nat} {tpos : Pos} (hg : sc.names.lookup ("zip" : Str) = some .globalImplicit) (ha : PE X a (lf Γ XT X ta)) (hb : PE X b (lf Γ XT X tb)) (h : argE a = true) (h' : argE b = true) : PI X (.Tuple elts kk tpos) (.Call (.Name "zip" p) [a, b] [] pos) (lI Γ XT X (.zip ta tb)) :=
  PI.imp (RZ.pi_zipA (G.gl hg) (G.gb.blt _ (by decide)) (pa_cons ha (pa_cons hb pa_nil (star_arg h' _ _)) (star_arg h _ _)) (star_arg h _ _) (few_star _ _ (by simp [h']))) fun σ H R ⟨ls, L, E, R0, rs, rh, xe, w, af⟩ => by
    rw [wpI] at w
    refine ⟨ls, L, E, _, rs, rh, xe, w, fun x L1 v H1 q e1 rh1 rv => ?_⟩
    refine ⟨ls, L1, E, _, rs.ext e1, rh1, G.xm _ _ _ _ e1 xe, q, fun y L2 u H2 q2 e2 rh2 ru => ?_⟩
    rcases zipW_inv G q2 with ⟨xs, ys, rfl, rfl, q⟩ | ⟨a, b, xs, ys, rfl, rfl, hl, hl', q⟩
    · obtain ⟨a, vs, rfl, h1, r⟩ := (rv.ext e2).tup_inv
      obtain ⟨b, ws, rfl, h2, r2⟩ := ru.tup_inv
      exact ⟨a, b, vs, ws, rfl, .inr ⟨sqT_of h1, sqT_of h2, af _ _ _ _ _ q (e1.trans e2) rh2 (gives_zt (fun H L x _ _ => ⟨vs, sqT_of (x.tup _ _ h1), r.ext x⟩) fun H L x _ _ => ⟨ws, sqT_of (x.tup _ _ h2), r2.ext x⟩)⟩⟩
    · obtain ⟨vs, h1, r⟩ := rh2.lst hl
      obtain ⟨ws, h2, r2⟩ := rh2.lst hl'
      rw [rv.ref_inv, ru.ref_inv]
      exact ⟨a, b, vs, ws, rfl, .inl ⟨sqL_of h1, sqL_of h2, af _ _ _ _ _ q (e1.trans e2) rh2 (gives_zl (fun H L x rh g => let ⟨ws, h2, r2⟩ := rh.lst g.1; ⟨ws, sqL_of h2, r2⟩) fun H L x rh g => let ⟨ws, h2, r2⟩ := rh.lst g.2; ⟨ws, sqL_of h2, r2⟩)⟩⟩

/-! ### targets -/
theorem Dif.refl (is : List Nat) (σ : St) : Dif is σ σ := ⟨rfl, fun _ _ => rfl⟩
theorem Dif.set (is : List Nat) {σ σ' : St} (d : Dif is σ σ') (i : Nat) (hi : i ∈ is) (v : Option V) : Dif is σ (σ'.set i v) :=
  ⟨by rw [List.length_set]; exact d.1, fun j hj => by rw [List.getElem?_set_ne (fun (z : i = j) => hj (z ▸ hi))]; exact d.2 j hj⟩
theorem sg_name {i : Nat} (hi : N[i]? = some x) (hl : sc.names.lookup x = some .local ∨ (sc.names.lookup x = some .cell ∧ fnB x = true)) : PG X (.Name x pos) (liftG X.K (.nm i)) := by
  have hl' : Loc X.env.scope x := by rw [G.esc]; exact hl.elim .inl fun z => .inr z.1
  have hf : X.fn x = true ∨ X.env.scope.names.lookup x = some .local := by rw [G.esc]; exact hl.elim .inr fun z => .inl (G.efn x z.2)
  refine PG.imp (pg_name (by rw [G.eN]; exact G.nd) (by rw [G.eN]; exact hi) hl' hf) fun v σ H Q ⟨pv, ls, Q0, rv, rs, w, af⟩ => ?_
  exact af _ _ w (rs.set i rv) (.set G _ (.refl G _ _) i (by simp [tgIs]) _)
/-- the names of a tuple target, stored in a row -/
def gNms (K : PySem.W.Frag) (all is : List Nat) : TGs := fun vs σ H Q => ∃ (ps : List PV) (ls : LSt) (Q0 : LSt → Prop), RepL K H ps vs ∧ RelSt K H ls σ ∧ ps.length = is.length ∧ Q0 (setsL ls is ps) ∧ ∀ ls' σ', Q0 ls' → RelSt K H ls' σ' → Dif all σ σ' → Q σ' H
theorem sg_names (all : List Nat) : ∀ {is : List Nat} {es : List Expr}, (∀ i ∈ is, i ∈ all) → (List.length is = es.length) → (∀ (j i : Nat) (e : Expr), is[j]? = some i → es[j]? = some e → ∃ (x : Str) (pos : Pos), e = Expr.Name x pos ∧ N[i]? = some x ∧ (sc.names.lookup x = some .local ∨ (sc.names.lookup x = some .cell ∧ fnB x = true))) →
    PGs X es (gNms X.K all is) ∧ (assignEach es X.env).length = is.length ∧ (assignEach es X.env).findIdx? (·.1) = none
  | [], [], _, _, _ => by
    refine ⟨⟨fun pins s σ H vs us Q I rv ⟨ps, ls, Q0, rp, rs, hl, q, af⟩ => ?_⟩, rfl, rfl⟩
    have : ps = [] := List.length_eq_zero_iff.mp hl
    subst this
    cases rp
    exact pgs_nil.run pins s σ H [] us Q I rv ⟨rfl, af _ _ q rs (.refl G _ _)⟩
  | i :: is, e :: es, hs, hl, h => by
    obtain ⟨x, pos, rfl, h1, h2⟩ := h 0 i e rfl rfl
    obtain ⟨r1, r2, r3⟩ := sg_names all (is := is) (es := es) (fun j hj => hs j (List.mem_cons_of_mem _ hj)) (by simpa using hl) fun j i e a b => h (j + 1) i e (by simpa using a) (by simpa using b)
    have hl' : Loc X.env.scope x := by rw [G.esc]; exact h2.elim .inl fun z => .inr z.1
    have hf : X.fn x = true ∨ X.env.scope.names.lookup x = some .local := by rw [G.esc]; exact h2.elim .inr fun z => .inl (G.efn x z.2)
    have hae : assignEach (.Name x pos :: es) X.env = (false, assign (.Name x pos) X.env) :: assignEach es X.env := rfl
    refine ⟨⟨fun pins s σ H vs us Q I rv ⟨ps, ls, Q0, rp, rs, hll, q, af⟩ => ?_⟩, by rw [hae, List.length_cons, r2, List.length_cons], by rw [hae, List.findIdx?_cons, r3]; rfl⟩
    refine (pgs_cons (pg_name (by rw [G.eN]; exact G.nd) (by rw [G.eN]; exact h1) hl' hf) r1).run pins s σ H vs us Q I rv ?_
    cases rp with
    | nil => simp at hll
    | @cons p v ps vs rv1 rp1 =>
      refine ⟨v, vs, rfl, ?_⟩
      show gNms X.K all is vs (σ.set i (some v)) H Q
      exact ⟨ps, _, Q0, rp1, rs.set i rv1, by simpa using hll, q, fun ls' σ' a b d => af ls' σ' a b ⟨by rw [d.1, List.length_set], fun j hj => by rw [d.2 j hj, List.getElem?_set_ne (fun (z : i = j) => hj (z ▸ hs i List.mem_cons_self))]⟩⟩
  | [], _ :: _, _, hl, _ => by simp at hl
  | _ :: _, [], _, hl, _ => by simp at hl
theorem sg_tup {is : List Nat} {k : Nat} (hl : is.length = es.length) (h : ∀ (j i : Nat) (e : Expr), is[j]? = some i → es[j]? = some e → ∃ (x : Str) (pos : Pos), e = Expr.Name x pos ∧ N[i]? = some x ∧ (sc.names.lookup x = some .local ∨ (sc.names.lookup x = some .cell ∧ fnB x = true))) :
    PG X (.Tuple es k pos) (liftG X.K (.tp is)) := by
  obtain ⟨r1, r2, r3⟩ := sg_names G is (fun _ h => h) hl h
  refine PG.imp (pg_tup G.calm r1 r2 r3) fun v σ H Q ⟨pv, ls, Q0, rv, rs, w, af⟩ => ?_
  cases pv with
  | tup xs =>
    obtain ⟨a, vs, rfl, h1, r⟩ := rv.tup_inv
    exact ⟨a, vs, rfl, sqT_of h1, by rw [r.lenE]; exact w.1, xs, ls, Q0, r, rs, w.1, w.2, af⟩
  | _ => exact w.elim
end
end DP

set_option Elab.async false
set_option linter.all false
set_option maxRecDepth 100000
set_option maxHeartbeats 4000000
/-! comprehensions -/
namespace DP
open PySem PySem.Spec PyProof.Rows L2

theorem wipe_get (σ : St) (i : Nat) : ∀ vs : List Nat, (wipe σ vs)[i]? = if i ∈ vs then (if i < σ.length then some none else none) else σ[i]?
  | [] => by simp [wipe]
  | v :: vs => by
    unfold wipe
    have ih := wipe_get σ i vs
    have hl := wipe_length σ vs
    by_cases hv : v = i
    · subst hv
      by_cases hi : v < σ.length
      · rw [List.getElem?_set_self (by rw [hl]; exact hi)]; simp [hi]
      · rw [List.getElem?_eq_none (by rw [List.length_set, hl]; omega)]; simp [hi]
    · rw [List.getElem?_set_ne hv, ih]
      have : (i ∈ v :: vs) ↔ i ∈ vs := by simp [Ne.symm hv]
      simp only [this]
theorem wipe_dif {σ σ' : St} {vs is : List Nat} (d : Dif is σ σ') (h : ∀ i ∈ is, i ∈ vs) : wipe σ' vs = wipe σ vs := by
  apply List.ext_getElem?
  intro i
  rw [wipe_get, wipe_get, d.1]
  by_cases hi : i ∈ vs
  · simp [hi]
  · simp only [hi, if_false]
    exact d.2 i fun z => hi (h i z)
theorem wipe_wipe (σ : St) (vs : List Nat) : wipe (wipe σ vs) vs = wipe σ vs := by
  apply List.ext_getElem?
  intro i
  rw [wipe_get, wipe_length, wipe_get]
  by_cases hi : i ∈ vs <;> simp [hi]
theorem RelSt.wipe {K : PySem.W.Frag} {H : Hp} {ls : LSt} {σ : St} (r : RelSt K H ls σ) : ∀ vs : List Nat, RelSt K H (wipeL ls vs) (L2.wipe σ vs)
  | [] => r
  | v :: vs => by
    have ih := RelSt.wipe r vs
    unfold wipeL L2.wipe
    refine ⟨by rw [List.length_set, List.length_set]; exact ih.1, fun i x e => ?_⟩
    by_cases hv : v = i
    · subst hv
      by_cases hl : v < (wipeL ls vs).length
      · rw [List.getElem?_set_self hl] at e; cases e
      · rw [List.getElem?_eq_none (by rw [List.length_set]; omega)] at e; cases e
    · rw [List.getElem?_set_ne hv] at e
      rw [List.getElem?_set_ne hv]
      exact ih.2 i x e

section
variable {Γ : Env'} {F C : Str → Bool} {k : Nat} {XT : XTy} {X : Cx} {N : List Str} {sc : Scope} {fnB : Str → Bool} (G : GE Γ F C k XT X N sc fnB)
include G
theorem GE.blk (s : Shared) (H : Hp) (scope : Scope) (cl : List (Str × Addr)) (A : Addr) (fp : List Addr) :
    GE Γ F C k XT0 (X.blk s H scope (compEnvC scope cl A X.env) fp) N (relS scope sc) (fun x => scope.names.lookup x == some .cell) where
  eN := G.eN
  esc := by show relS scope X.env.scope = _; rw [G.esc]
  nd := G.nd
  calm := G.calm
  room := G.room
  gb := G.gb
  cn := G.cn
  efn := fun x h => h
  xt := takes0.imp fun c d σ H ⟨ls, E, ex, L', H', _, z, _, _, _, e⟩ => z ex L' e
  xm := fun _ _ _ _ _ h => h
end
/-- a comprehension's tests -/
def liftF (K : PySem.W.Frag) (Γ : Env') (ifs : Tms) : TT := fun σ H Q => ∃ ls L Q0, RelSt K H ls σ ∧ RelHp K H L ∧ wpIf Γ ifs ls L Q0 ∧ ∀ b L' H', Q0 b L' → ExtT H H' → RelHp K H' L' → Q b H'
theorem lf_nil {Γ : Env'} {X : Cx} : PTs X [] (liftF X.K Γ .nil) := PTs.imp pts_nil fun σ H Q ⟨ls, L, Q0, rs, rh, w, af⟩ => by
  rw [wpIf] at w
  exact af _ _ _ w (.refl _) rh
theorem lf_one {Γ : Env'} {X : Cx} {c : Expr} {tc : Tm} {r : Tms} (h : PT X c (liftB X.K XT0 (wpE Γ tc))) : PTs X [c] (liftF X.K Γ (.cons tc r)) := PTs.imp (pts_one h) fun σ H Q ⟨ls, L, Q0, rs, rh, w, af⟩ => by
  rw [wpIf] at w
  refine ⟨ls, L, noX, _, rs, rh, (fun _ _ z => z), w, fun pv L' H' q e1 rh1 => ?_⟩
  obtain ⟨k, rfl, q⟩ := q
  exact ⟨k, rfl, af _ _ _ q e1 rh1⟩

section
variable {Γ : Env'} {F C : Str → Bool} {k : Nat} {XT : XTy} {X : Cx} {N : List Str} {sc : Scope} {fnB : Str → Bool} (G : GE Γ F C k XT X N sc fnB)
include G
theorem l_lc {te : Tm} {tgt : Tg} {it : Itm} {ifs : Tms} {own : List Nat} (ht : ∀ i ∈ tgIs tgt, i ∈ own) {σ : St} {H : Hp} {Q : VK} (h : lf Γ XT X (.lc te tgt it ifs own) σ H Q) :
    tLc (lI Γ XT X it) (liftG X.K tgt) (liftF X.K Γ ifs) (lf Γ XT0 X te) own σ H Q := by
  obtain ⟨ls, L, E, Q0, rs, rh, xe, w, af⟩ := h
  rw [wpE] at w
  refine ⟨ls, L, E, _, rs, rh, xe, w, fun xs Gd L1 H1 J q e1 rh1 gv D hD => ?_⟩
  have q := q D (rh1.free hD)
  have hE0 : ExtT H1 (upd H1 D (.lst [])) := .new hD
  refine ⟨fun i m Hc => m = xs.length - i ∧ i ≤ xs.length ∧ ∃ Lc, ExtT H1 Hc ∧ RelHp X.K Hc Lc ∧ lcW Gd (fun x L2 N => asgT tgt x (wipeL ls own) fun ls2 => wpIf Γ ifs ls2 L2 fun b L3 => if b = true then wpE Γ te ls2 L3 noX fun y L4 => N (some y) L4 else N none L3) D (xs.drop i) Lc fun L' => Q0 (.ref D) L',
    ⟨_, rfl, Nat.zero_le _, _, hE0, rh1.new_lst hD .nil, q⟩, ?_⟩
  rintro i m Hc ⟨rfl, hi, Lc, xc, rc, wc⟩
  by_cases hlt : i < xs.length
  · have hg : xs[i]? = some xs[i] := by simp [hlt]
    rw [List.drop_eq_getElem_cons hlt] at wc
    obtain ⟨gd, wc⟩ := wc
    refine .inr ⟨gv.go i Hc Lc hlt xc rc gd, fun H' => ∃ L', ExtT H1 H' ∧ RelHp X.K H' L' ∧ lcW Gd _ D (xs.drop (i + 1)) L' fun L' => Q0 (.ref D) L', fun H' ⟨L', z1, z2, z3⟩ => ⟨xs.length - (i + 1), by omega, rfl, hlt, L', z1, z2, z3⟩, fun v H' y => ?_⟩
    obtain ⟨x1, r1, rv⟩ := gv.yld i _ Hc Lc v H' hg xc rc gd y
    refine ⟨_, _, _, rv, (rs.ext ((e1.trans xc).trans x1)).wipe own, wc, fun ls2 σ2 q2 rs2 d2 => ⟨?_, ?_⟩⟩
    · rw [wipe_dif d2 ht, wipe_wipe]
    · refine ⟨ls2, Lc, _, rs2, r1, q2, fun b L3 H3 q3 x3 r3 => ?_⟩
      cases b with
      | true =>
        simp only [if_true] at q3 ⊢
        refine ⟨ls2, L3, noX, _, rs2.ext x3, r3, (fun _ _ z => z), q3, fun y L4 yv H4 q4 x4 r4 ry => ?_⟩
        obtain ⟨acc, h1, h2, h3⟩ := q4
        obtain ⟨vs, h4, h5⟩ := r4.lst h1
        obtain ⟨p1, p2⟩ := r4.put_lst h1 (h5.append (.cons ry .nil))
        refine ⟨vs, h4, ?_, _, (xc.trans x1).trans ((x3.trans x4).trans p2), p1, h3⟩
        rw [h5.lenE, sizeLine_eq]; exact h2
      | false =>
        simp only [Bool.false_eq_true, if_false] at q3 ⊢
        exact ⟨L3, (xc.trans x1).trans x3, r3, q3⟩
  · have e : i = xs.length := by omega
    subst e
    rw [List.drop_length] at wc
    obtain ⟨gd, wc⟩ := wc
    exact .inl ⟨gv.stop Hc Lc xc rc gd, af _ _ _ _ wc (e1.trans xc) rc (.ref D)⟩
/-- what is wanted of a block -/
structure BlkS (Γ : Env') (F C : Str → Bool) (k : Nat) (N : List Str) (sc scope : Scope) (tg elt : Expr) (ifs : List Expr) (tgt : Tg) (te : Tm) (tifs : Tms) : Prop where
  g : ∀ {X : Cx}, GE Γ F C k XT0 X N (relS scope sc) (fun x => scope.names.lookup x == some .cell) → PG X tg (liftG X.K tgt)
  t : ∀ {X : Cx}, GE Γ F C k XT0 X N (relS scope sc) (fun x => scope.names.lookup x == some .cell) → PTs X ifs (liftF X.K Γ tifs)
  e : ∀ {X : Cx}, GE Γ F C k XT0 X N (relS scope sc) (fun x => scope.names.lookup x == some .cell) → PE X elt (lf Γ XT0 X te)
theorem se_lc {elt tg iter : Expr} {ifs : List Expr} {scope : Scope} {pos : Pos} {te : Tm} {tgt : Tg} {it : Itm} {tifs : Tms} {own : List (Str × Nat)} (hi : PI X tg iter (lI Γ XT X it)) (hf : argE iter = true) (ok : blkC N sc scope own = true) (ht : ∀ i ∈ tgIs tgt, i ∈ own.map (·.2))
    (hb : BlkS Γ F C k N sc scope tg elt ifs tgt te tifs) : SE X XT (.ListComp elt [⟨tg, iter, ifs, 0⟩] scope pos) (wpE Γ (.lc te tgt it tifs (own.map (·.2)))) :=
  .dfl (PE.imp (pe_lc (wi := lI Γ XT X it) (g := liftG X.K tgt) (tt := liftF X.K Γ tifs) (te := lf Γ XT0 X te) G.calm (by rw [G.eN]; exact G.nd) hi (by rw [G.eN, G.esc]; exact blkOk_by ok) (fun s H A cl fp => hb.g (G.blk s H scope cl A fp)) (fun s H A cl fp => hb.t (G.blk s H scope cl A fp)) (fun s H A cl fp => hb.e (G.blk s H scope cl A fp)) (folded hf _)) fun σ H Q h => l_lc G ht h) rfl
theorem ss_setLc {i : Nat} {y : Str} {py : Pos} {elt tg iter : Expr} {ifs : List Expr} {scope : Scope} {pos spos : Pos} {te : Tm} {tgt : Tg} {it : Itm} {tifs : Tms} {own : List (Str × Nat)} (hi : PI X tg iter (lI Γ XT X it)) (hf : argE iter = true) (ok : blkC N sc scope own = true) (ht : ∀ i ∈ tgIs tgt, i ∈ own.map (·.2))
    (hb : BlkS Γ F C k N sc scope tg elt ifs tgt te tifs) (hy : N[i]? = some y) (hyl : sc.names.lookup y = some .local) (hk : sc.kind = .function) (hl : (py.line == pos.line) = true) (ha : (scope.names.any fun (n, k) => n == y && (k == .local || k == .cell)) = false) :
    PS X (.Assign [.Name y py] (.ListComp elt [⟨tg, iter, ifs, 0⟩] scope pos) spos) (tAsg (lf Γ XT X (.lc te tgt it tifs (own.map (·.2)))) (gName i)) := by
  have h := ps_setLc (wi := lI Γ XT X it) (g := liftG X.K tgt) (tt := liftF X.K Γ tifs) (te := lf Γ XT0 X te) (X := X) (i := i) (y := y) (py := py) (spos := spos) (pos := pos) G.calm (by rw [G.eN]; exact G.nd) (by rw [G.eN]; exact hy) (by rw [G.esc]; exact hyl)
    (sw_true (by rw [G.esc]; exact hk) (by rw [G.esc]; exact hyl) hl ha) hi (by rw [G.eN, G.esc]; exact blkOk_by ok) (fun s H A cl fp => hb.g (G.blk s H scope cl A fp)) (fun s H A cl fp => hb.t (G.blk s H scope cl A fp)) (fun s H A cl fp => hb.e (G.blk s H scope cl A fp)) (folded hf _)
  exact PS.imp h fun D σ H q => l_lc G ht q

/-! ### dicts -/
theorem new_kdct {K : PySem.W.Frag} {H : Hp} {L : LHp} {p : Addr} (rh : RelHp K H L) (n : H p = none) : RelHp K (upd H p (.dK [])) (lupd L p (.kdct [])) :=
  rh.new n ⟨[], upd_same, .nil⟩
theorem put_kdct {K : PySem.W.Frag} {H : Hp} {L : LHp} {p : Addr} {kvs : List (PV × PV)} {x y : PV} {vx vy : V} {c : Key} (rh : RelHp K H L) (e : L p = some (.kdct kvs)) (hc : toKey x = some c) (rx : Rep K H x vx) (ry : Rep K H y vy) :
    vx = kV c ∧ ∃ ks, H p = some (.dK ks) ∧ ks.length = kvs.length ∧ ExtT H (upd H p (.dK (putK ks c vy))) ∧ RelHp K (upd H p (.dK (putK ks c vy))) (lupd L p (.kdct (dput kvs x y))) := by
  obtain ⟨ks, h1, h2⟩ := rh p _ e
  have ek := toKey_eq hc
  subst ek
  have x2 : ExtT H (upd H p (.dK (putK ks c vy))) := .put h1 trivial
  refine ⟨repK_key rx, ks, h1, (Paired.length h2).symm, x2, rh.upd_any x2 ⟨_, upd_same, ?_⟩⟩
  exact (RepD.put (fun _ _ => keyP_inj) c ry h2).ext x2
theorem done_kdct {K : PySem.W.Frag} {H : Hp} {L : LHp} {p : Addr} {kvs : List (PV × PV)} (rh : RelHp K H L) (e : L p = some (.kdct kvs)) : RelHp K H (lupd L p (.dct kvs)) := fun b u q => by
  by_cases hb : b = p
  · subst hb
    rw [lupd_same] at q; cases q
    obtain ⟨ks, h1, h2⟩ := rh b _ e
    exact .inl ⟨ks, h1, h2⟩
  · rw [lupd_ne hb] at q
    exact rh b u q
theorem l_dc {tk tv : Tm} {tgt : Tg} {it : Itm} {ifs : Tms} {own : List Nat} (ht : ∀ i ∈ tgIs tgt, i ∈ own) {σ : St} {H : Hp} {Q : VK} (h : lf Γ XT X (.dc tk tv tgt it ifs own) σ H Q) :
    tDc (lI Γ XT X it) (liftG X.K tgt) (liftF X.K Γ ifs) (lf Γ XT0 X tk) (lf Γ XT0 X tv) own σ H Q := by
  obtain ⟨ls, L, E, Q0, rs, rh, xe, w, af⟩ := h
  rw [wpE] at w
  refine ⟨ls, L, E, _, rs, rh, xe, w, fun xs Gd L1 H1 J q e1 rh1 gv D hD => ?_⟩
  have q := q D (rh1.free hD)
  have hE0 : ExtT H1 (upd H1 D (.dK [])) := .new hD
  refine ⟨fun i m Hc => m = xs.length - i ∧ i ≤ xs.length ∧ ∃ Lc, ExtT H1 Hc ∧ RelHp X.K Hc Lc ∧ dcW Gd (fun x L2 N => asgT tgt x (wipeL ls own) fun ls2 => wpIf Γ ifs ls2 L2 fun b L3 => if b = true then wpE Γ tk ls2 L3 noX fun c L4 => wpE Γ tv ls2 L4 noX fun y L5 => N (some (c, y)) L5 else N none L3) D (xs.drop i) Lc fun L' => Q0 (.ref D) L',
    ⟨_, rfl, Nat.zero_le _, _, hE0, new_kdct G rh1 hD, q⟩, ?_⟩
  rintro i m Hc ⟨rfl, hi, Lc, xc, rc, wc⟩
  by_cases hlt : i < xs.length
  · have hg : xs[i]? = some xs[i] := by simp [hlt]
    rw [List.drop_eq_getElem_cons hlt] at wc
    obtain ⟨gd, wc⟩ := wc
    refine .inr ⟨gv.go i Hc Lc hlt xc rc gd, fun H' => ∃ L', ExtT H1 H' ∧ RelHp X.K H' L' ∧ dcW Gd _ D (xs.drop (i + 1)) L' fun L' => Q0 (.ref D) L', fun H' ⟨L', z1, z2, z3⟩ => ⟨xs.length - (i + 1), by omega, rfl, hlt, L', z1, z2, z3⟩, fun v H' y => ?_⟩
    obtain ⟨x1, r1, rv⟩ := gv.yld i _ Hc Lc v H' hg xc rc gd y
    refine ⟨_, _, _, rv, (rs.ext ((e1.trans xc).trans x1)).wipe own, wc, fun ls2 σ2 q2 rs2 d2 => ⟨?_, ?_⟩⟩
    · rw [wipe_dif d2 ht, wipe_wipe]
    · refine ⟨ls2, Lc, _, rs2, r1, q2, fun b L3 H3 q3 x3 r3 => ?_⟩
      cases b with
      | true =>
        simp only [if_true] at q3 ⊢
        refine ⟨ls2, L3, noX, _, rs2.ext x3, r3, (fun _ _ z => z), q3, fun kk L4 kv H4 q4 x4 r4 rk => ?_⟩
        refine ⟨ls2, L4, noX, _, rs2.ext (x3.trans x4), r4, (fun _ _ z => z), q4, fun y L5 yv H5 q5 x5 r5 ry => ?_⟩
        obtain ⟨kvs, h1, ⟨c, hc⟩, h2, h3⟩ := q5
        obtain ⟨ek, ks, h4, h5, p2, p1⟩ := put_kdct G r5 h1 hc (rk.ext x5) ry
        refine ⟨ks, c, ek, h4, ?_, _, (xc.trans x1).trans ((x3.trans x4).trans (x5.trans p2)), p1, h3⟩
        rw [h5, sizeLine_eq]; exact h2
      | false =>
        simp only [Bool.false_eq_true, if_false] at q3 ⊢
        exact ⟨L3, (xc.trans x1).trans x3, r3, q3⟩
  · have e : i = xs.length := by omega
    subst e
    rw [List.drop_length] at wc
    obtain ⟨gd, kvs, hk, wc⟩ := wc
    exact .inl ⟨gv.stop Hc Lc xc rc gd, af _ _ _ _ wc (e1.trans xc) (done_kdct G rc hk) (.ref D)⟩
theorem se_dc {kx vx tg iter : Expr} {ifs : List Expr} {scope : Scope} {pos : Pos} {tk tv : Tm} {tgt : Tg} {it : Itm} {tifs : Tms} {own : List (Str × Nat)} (hi : PI X tg iter (lI Γ XT X it)) (hf : argE iter = true) (ok : blkC N sc scope own = true) (ht : ∀ i ∈ tgIs tgt, i ∈ own.map (·.2))
    (hb : BlkS Γ F C k N sc scope tg kx ifs tgt tk tifs) (hb2 : BlkS Γ F C k N sc scope tg vx ifs tgt tv tifs) : SE X XT (.DictComp kx vx [⟨tg, iter, ifs, 0⟩] scope pos) (wpE Γ (.dc tk tv tgt it tifs (own.map (·.2)))) :=
  .dfl (PE.imp (pe_dc (wi := lI Γ XT X it) (g := liftG X.K tgt) (tt := liftF X.K Γ tifs) (tk := lf Γ XT0 X tk) (tv := lf Γ XT0 X tv) G.calm (by rw [G.eN]; exact G.nd) hi (by rw [G.eN, G.esc]; exact blkOk_by ok) (fun s H A cl fp => hb.g (G.blk s H scope cl A fp)) (fun s H A cl fp => hb.t (G.blk s H scope cl A fp)) (fun s H A cl fp => hb.e (G.blk s H scope cl A fp)) (fun s H A cl fp => hb2.e (G.blk s H scope cl A fp)) (folded hf _)) fun σ H Q h => l_dc G ht h) rfl
/-- a dict's comprehension, stored at a local name in its line -/
theorem sw_trueD {kx vx : Expr} {gs : List Comprehension} {scope : Scope} {pos py : Pos} {y : Str} {l : Nat} {env : PySem.Env} (hk : env.scope.kind = .function) (hy : env.scope.names.lookup y = some .local) (hl : (py.line == pos.line) = true)
    (ha : (scope.names.any fun (n, k) => n == y && (k == .local || k == .cell)) = false) : swapsWith (.DictComp kx vx gs scope pos) (some (.Name y py)) l env = pure true := by
  have k1 : env.kindOf y = some .local := hy
  have k2 : env.blockKind = .function := by unfold Env.blockKind; rw [hk]; rfl
  unfold swapsWith
  simp only [k2, k1, ha, Expr.pos, hl]
  rfl
theorem ss_setDc {i : Nat} {y : Str} {py : Pos} {kx vx tg iter : Expr} {ifs : List Expr} {scope : Scope} {pos spos : Pos} {tk tv : Tm} {tgt : Tg} {it : Itm} {tifs : Tms} {own : List (Str × Nat)} (hi : PI X tg iter (lI Γ XT X it)) (hf : argE iter = true) (ok : blkC N sc scope own = true) (ht : ∀ i ∈ tgIs tgt, i ∈ own.map (·.2))
    (hb : BlkS Γ F C k N sc scope tg kx ifs tgt tk tifs) (hb2 : BlkS Γ F C k N sc scope tg vx ifs tgt tv tifs) (hy : N[i]? = some y) (hyl : sc.names.lookup y = some .local) (hk : sc.kind = .function) (hl : (py.line == pos.line) = true) (ha : (scope.names.any fun (n, k) => n == y && (k == .local || k == .cell)) = false) :
    PS X (.Assign [.Name y py] (.DictComp kx vx [⟨tg, iter, ifs, 0⟩] scope pos) spos) (tAsg (lf Γ XT X (.dc tk tv tgt it tifs (own.map (·.2)))) (gName i)) := by
  have hN : X.N.Nodup := by rw [G.eN]; exact G.nd
  have hyl' : X.env.scope.names.lookup y = some .local := by rw [G.esc]; exact hyl
  refine ⟨fun pins s σ H D I h => ?_⟩
  rw [exec_Assign_Name_used _ _ _ _ (sw_trueD G (by rw [G.esc]; exact hk) hyl' hl ha)]
  refine wpAny_bind (wpAny_standAt (wpAny_bind ?_))
  have h' : tDc (lI Γ XT X it) (liftG X.K tgt) (liftF X.K Γ tifs) (lf Γ XT0 X tk) (lf Γ XT0 X tv) (own.map (·.2)) σ H (fun x H1 => gName i x σ H1 D.nx) := l_dc G ht h
  show wpAny _ X.A (do let _ ← comprehension (.DictComp kx vx [⟨tg, iter, ifs, 0⟩] scope pos) scope X.env (firstIterPos [⟨tg, iter, ifs, 0⟩] pos) newDict false (eval iter X.env) (some (assign (.Name y py) X.env))) _ _ s
  refine wpAny_bind (thn (dc_core (Qf := fun _ s' => SP X pins D .next s') G.calm hN I hi (by rw [G.eN, G.esc]; exact blkOk_by ok) (fun s H A cl fp => hb.g (G.blk s H scope cl A fp)) (fun s H A cl fp => hb.t (G.blk s H scope cl A fp)) (fun s H A cl fp => hb.e (G.blk s H scope cl A fp)) (fun s H A cl fp => hb2.e (G.blk s H scope cl A fp)) (folded hf _) h' fun T W s1 m H1 I1 q hn f => ?_) fun _ s1 hq => wpAny_pure (wpAny_pure hq))
  show wpAny _ _ (assign (.Name y py) X.env (.ref T)) _ _ _
  refine wpAny_assign_Name (store_ok2 (v := V.ref T) I1 hN (by rw [G.eN]; exact hy) (.inl hyl') rfl (fun s2 I2 ⟨a, sb, ha⟩ => ?_) (.inr hyl'))
  obtain ⟨f0, f1, f2, f3, f4, f5⟩ := f
  have ne : W ≠ a := by
    rcases ha with z | z
    · rw [z]; exact f1
    · exact fun e => f4 y a z e.symm
  refine ⟨m, hn.sameBut sb ne, fun h3 sb3 => ⟨_, H1, I2.turned (t' := s2.toks) (fun b o hb e => (sb3.2 b hb).trans e) f0 f1 f3 f4 f5, q⟩⟩
end
end DP

set_option Elab.async false
set_option linter.all false
set_option maxRecDepth 100000
set_option maxHeartbeats 4000000
/-! an expression is of a term: a look at the tree -/
namespace DP
open PySem PySem.Spec PyProof.Rows L2

def visB (sc : Scope) (x : Str) : Bool := match sc.names.lookup x with
  | some .local => true | some .cell => true | some .free => true | _ => false
def glB (sc : Scope) (x : Str) : Bool := decide (sc.names.lookup x = some .globalImplicit)
def cstB : PV → Const → Bool
  | .int i, .int j => decide (i = j)
  | .bl a, .bool b => decide (a = b)
  | .non, .none => true
  | .str x, .str y => decide (x = y)
  | _, _ => false
def ownOf (N : List Str) (own : List Nat) : List (Str × Nat) := own.filterMap fun i => (N[i]?).map fun x => (x, i)
def locB (sc : Scope) (fnB : Str → Bool) (x : Str) : Bool := match sc.names.lookup x with
  | some .local => true | some .cell => fnB x | _ => false
def trNms (N : List Str) (sc : Scope) (fnB : Str → Bool) : List Nat → List Expr → Bool
  | [], [] => true
  | i :: is, .Name x _ :: es => decide (N[i]? = some x) && locB sc fnB x && trNms N sc fnB is es
  | _, _ => false
def trG (N : List Str) (sc : Scope) (fnB : Str → Bool) (tg : Tg) (e : Expr) : Bool := match tg with
  | .nm i => match e with | .Name x _ => decide (N[i]? = some x) && locB sc fnB x | _ => false
  | .tp is => match e with | .Tuple es _ _ => trNms N sc fnB is es | _ => false
mutual
def trE (N : List Str) (F C : Str → Bool) : Tm → Scope → (Str → Bool) → Expr → Bool
  | .var i, sc, fnB, e => match e with | .Name x _ => decide (N[i]? = some x) && visB sc x && !(x == ("__debug__" : Str)) && !(x == ("__classdict__" : Str)) | _ => false
  | .cst v, sc, fnB, e => match e with | .Constant c _ _ => cstB v c | _ => false
  | .con y, sc, fnB, e => match e with | .Name x _ => decide (x = y) && glB sc x && C x && !(x == ("__debug__" : Str)) | _ => false
  | .ty n, sc, fnB, e => match e with | .Name x _ => decide (tyNm x = some n) && glB sc x | _ => false
  | .bin op a b, sc, fnB, e => match e with | .BinOp l o r _ => decide (o = op.op) && trE N F C a sc fnB l && trE N F C b sc fnB r | _ => false
  | .neg a, sc, fnB, e => match e with | .UnaryOp .USub l _ => trE N F C a sc fnB l | _ => false
  | .cmp op a b, sc, fnB, e => match e with | .Compare l [o] [r] _ => decide (o = op.op) && argE r && trE N F C a sc fnB l && trE N F C b sc fnB r | _ => false
  | .chn op op' a b c, sc, fnB, e => match e with | .Compare l [o, o'] [m, r] _ => decide (o = op.op) && decide (o' = op'.op) && argE r && trE N F C a sc fnB l && trE N F C b sc fnB m && trE N F C c sc fnB r | _ => false
  | .isN neg a, sc, fnB, e => match e with | .Compare l [o] [.Constant .none _ _] _ => decide (o = if neg then .IsNot else .Is) && trE N F C a sc fnB l | _ => false
  | .nt a, sc, fnB, e => match e with | .UnaryOp .Not l _ => tstE l && trE N F C a sc fnB l | _ => false
  | .an a b, sc, fnB, e => match e with
    | .BoolOp .And [x, y] _ => tstE x && tstE y && trE N F C a sc fnB x && trE N F C b sc fnB y
    | .BoolOp .And (x :: y :: z :: r) pos => tstE x && trE N F C a sc fnB x && trE N F C b sc fnB (.BoolOp .And (y :: z :: r) pos)
    | _ => false
  | .orr a b, sc, fnB, e => match e with
    | .BoolOp .Or [x, y] _ => tstE x && tstE y && trE N F C a sc fnB x && trE N F C b sc fnB y
    | .BoolOp .Or (x :: y :: z :: r) pos => tstE x && trE N F C a sc fnB x && trE N F C b sc fnB (.BoolOp .Or (y :: z :: r) pos)
    | _ => false
  | .ite c a b, sc, fnB, e => match e with | .IfExp x y z _ => tstE x && trE N F C c sc fnB x && trE N F C a sc fnB y && trE N F C b sc fnB z | _ => false
  | .tup es, sc, fnB, e => match e with | .Tuple xs _ _ => trA N F C es sc fnB xs | _ => false
  | .lst es, sc, fnB, e => match e with | .List xs _ => trA N F C es sc fnB xs | _ => false
  | .dct0, sc, fnB, e => match e with | .Dict [] [] _ => true | _ => false
  | .dct1 k v, sc, fnB, e => match k, v, e with
    | .var i, .cst cv, .Dict [some (.Name x _)] [.Constant c _ _] _ => decide (N[i]? = some x) && visB sc x && !(x == ("__debug__" : Str)) && !(x == ("__classdict__" : Str)) && cstB cv c
    | _, _, _ => false
  | .call f es, sc, fnB, e => match e with | .Call (.Name x _) (y :: r) [] _ => decide (x = f) && F x && glB sc x && !(x == ("__debug__" : Str)) && trA N F C es sc fnB (y :: r) | _ => false
  | .bf f es, sc, fnB, e => match e with | .Call (.Name x _) (y :: r) [] _ => decide (x = f.nm) && glB sc x && trA N F C es sc fnB (y :: r) | _ => false
  | .tupRg es, sc, fnB, e => match e with
    | .Call (.Name x _) [.Call (.Name y _) [a] [] _] [] _ => decide (x = "tuple") && decide (y = "range") && glB sc x && glB sc y && trR N F C es sc fnB [a]
    | .Call (.Name x _) [.Call (.Name y _) [a, b] [] _] [] _ => decide (x = "tuple") && decide (y = "range") && glB sc x && glB sc y && trR N F C es sc fnB [a, b]
    | _ => false
  | .lstRg es, sc, fnB, e => match e with
    | .Call (.Name x _) [.Call (.Name y _) [a] [] _] [] _ => decide (x = "list") && decide (y = "range") && glB sc x && glB sc y && trR N F C es sc fnB [a]
    | .Call (.Name x _) [.Call (.Name y _) [a, b] [] _] [] _ => decide (x = "list") && decide (y = "range") && glB sc x && glB sc y && trR N F C es sc fnB [a, b]
    | _ => false
  | .mt m o es, sc, fnB, e => match e with
    | .Call (.Attribute ob nm apos) [a] [] cpos => (decide (m = .append) || decide (m = .popAt)) && decide (nm = m.nm) && baseE ob && (apos.endLine == cpos.line) && trE N F C o sc fnB ob && trA N F C es sc fnB [a]
    | .Call (.Attribute ob nm apos) [] [] cpos => decide (m = .pop) && decide (nm = m.nm) && baseE ob && (apos.endLine == cpos.line) && trE N F C o sc fnB ob && (match es with | .nil => true | _ => false)
    | _ => false
  | .ix a b, sc, fnB, e => match e with
    | .Subscript x y _ => argE y && trE N F C a sc fnB x && trE N F C b sc fnB y
    | _ => false
  | .slc a lo hi, sc, fnB, e => match e with
    | .Subscript x (.Slice l h none _) _ => trE N F C a sc fnB x && trO N F C lo sc fnB l && trO N F C hi sc fnB h
    | _ => false
  | .lc t tg it ifs own, sc, fnB, e => match e with
    | .ListComp elt [⟨tge, iter, ife, as⟩] scope _ => decide (as = 0) && argE iter && trI N F C it sc fnB tge iter && blkC N sc scope (ownOf N own) && decide ((ownOf N own).map (·.2) = own) && (tgIs tg).all (fun i => decide (i ∈ own)) &&
        trG N (relS scope sc) (fun x => scope.names.lookup x == some .cell) tg tge && trF N F C ifs (relS scope sc) (fun x => scope.names.lookup x == some .cell) ife && trE N F C t (relS scope sc) (fun x => scope.names.lookup x == some .cell) elt
    | _ => false
  | .dc tk tv tg it ifs own, sc, fnB, e => match e with
    | .DictComp kx vx [⟨tge, iter, ife, as⟩] scope _ => decide (as = 0) && argE iter && trI N F C it sc fnB tge iter && blkC N sc scope (ownOf N own) && decide ((ownOf N own).map (·.2) = own) && (tgIs tg).all (fun i => decide (i ∈ own)) &&
        trG N (relS scope sc) (fun x => scope.names.lookup x == some .cell) tg tge && trF N F C ifs (relS scope sc) (fun x => scope.names.lookup x == some .cell) ife && trE N F C tk (relS scope sc) (fun x => scope.names.lookup x == some .cell) kx && trE N F C tv (relS scope sc) (fun x => scope.names.lookup x == some .cell) vx
    | _ => false
  | .tupRg3 es, sc, fnB, e => match e with
    | .Call (.Name x _) [.Call (.Name y _) [a, b, c] [] _] [] _ => decide (x = "tuple") && decide (y = "range") && glB sc x && glB sc y && trA N F C es sc fnB [a, b, c]
    | _ => false
def trA (N : List Str) (F C : Str → Bool) : Tms → Scope → (Str → Bool) → List Expr → Bool
  | .nil, sc, fnB, es => match es with | [] => true | _ => false
  | .cons a r, sc, fnB, es => match es with | e :: es => argE e && trE N F C a sc fnB e && trA N F C r sc fnB es | _ => false
/-- a range's bounds: one or two -/
def trR (N : List Str) (F C : Str → Bool) : Tms → Scope → (Str → Bool) → List Expr → Bool
  | .nil, sc, fnB, es => match es with | [] => true | _ => false
  | .cons a r, sc, fnB, es => match es with | e :: es => argE e && trE N F C a sc fnB e && trR N F C r sc fnB es | _ => false
def trO (N : List Str) (F C : Str → Bool) : Tms → Scope → (Str → Bool) → Option Expr → Bool
  | .nil, sc, fnB, e => match e with | none => true | _ => false
  | .cons a _, sc, fnB, e => match e with | some e => trE N F C a sc fnB e | _ => false
def trF (N : List Str) (F C : Str → Bool) : Tms → Scope → (Str → Bool) → List Expr → Bool
  | .nil, sc, fnB, es => match es with | [] => true | _ => false
  | .cons a _, sc, fnB, es => match es with | [e] => tstE e && trE N F C a sc fnB e | _ => false
def trI (N : List Str) (F C : Str → Bool) : Itm → Scope → (Str → Bool) → Expr → Expr → Bool
  | .seq a, sc, fnB, tg, e => trE N F C a sc fnB e
  | .rng es, sc, fnB, tg, e => match e with
    | .Call (.Name y _) [a] [] _ => decide (y = "range") && glB sc y && trR N F C es sc fnB [a]
    | .Call (.Name y _) [a, b] [] _ => decide (y = "range") && glB sc y && trR N F C es sc fnB [a, b]
    | _ => false
  | .enum a, sc, fnB, tg, e => match tg, e with
    | .Tuple _ _ _, .Call (.Name y _) [x] [] _ => decide (y = "enumerate") && glB sc y && argE x && trE N F C a sc fnB x
    | _, _ => false
  | .zip a b, sc, fnB, tg, e => match tg, e with
    | .Tuple _ _ _, .Call (.Name y _) [x, z] [] _ => decide (y = "zip") && glB sc y && argE x && argE z && trE N F C a sc fnB x && trE N F C b sc fnB z
    | _, _ => false
end
theorem vis_of {sc : Scope} {x : Str} (h : visB sc x = true) : Vis sc x := by
  unfold visB at h
  split at h
  · exact .inl ‹_›
  · exact .inr (.inl ‹_›)
  · exact .inr (.inr ‹_›)
  · cases h
theorem loc_of {sc : Scope} {fnB : Str → Bool} {x : Str} (h : locB sc fnB x = true) : sc.names.lookup x = some .local ∨ (sc.names.lookup x = some .cell ∧ fnB x = true) := by
  unfold locB at h
  split at h
  · exact .inl ‹_›
  · exact .inr ⟨‹_›, h⟩
  · cases h
theorem nms_len {N : List Str} {sc : Scope} {fnB : Str → Bool} : ∀ {is : List Nat} {es : List Expr}, trNms N sc fnB is es = true → is.length = es.length
  | [], [], _ => rfl
  | [], _ :: _, h => by cases h
  | _ :: _, [], h => by cases h
  | i :: is, e :: es, h => by
    cases e <;> first | (unfold trNms at h; rw [Bool.and_eq_true] at h; rw [List.length_cons, List.length_cons, nms_len h.2]) | cases h
theorem nms_get {N : List Str} {sc : Scope} {fnB : Str → Bool} : ∀ {is : List Nat} {es : List Expr}, trNms N sc fnB is es = true → ∀ (j i : Nat) (e : Expr), is[j]? = some i → es[j]? = some e → ∃ (x : Str) (pos : Pos), e = Expr.Name x pos ∧ N[i]? = some x ∧ (sc.names.lookup x = some .local ∨ (sc.names.lookup x = some .cell ∧ fnB x = true))
  | [], _, _, j, i, e, h1, _ => by simp at h1
  | _ :: _, [], h, _, _, _, _, _ => by cases h
  | i :: is, e :: es, h, j, i', e', h1, h2 => by
    cases e with
    | Name x pos =>
      unfold trNms at h
      simp only [Bool.and_eq_true, decide_eq_true_eq] at h
      cases j with
      | zero =>
        simp at h1 h2
        subst h1 h2
        exact ⟨x, pos, rfl, h.1.1, loc_of h.1.2⟩
      | succ j => exact nms_get h.2 j i' e' (by simpa using h1) (by simpa using h2)
    | _ => cases h

section
variable {Γ : Env'} {F C : Str → Bool} {k : Nat} {XT : XTy} {X : Cx} {N : List Str} {sc : Scope} {fnB : Str → Bool} (G : GE Γ F C k XT X N sc fnB)
include G
theorem soG {tg : Tg} {e : Expr} (h : trG N sc fnB tg e = true) : PG X e (liftG X.K tg) := by
  cases tg with
  | nm i =>
    unfold trG at h
    simp only at h
    split at h
    · simp only [Bool.and_eq_true, decide_eq_true_eq] at h
      exact sg_name G h.1 (loc_of h.2)
    · cases h
  | tp is =>
    unfold trG at h
    simp only at h
    split at h
    · exact sg_tup G (nms_len h) (nms_get h)
    · cases h
theorem so_cst {v : PV} {c : Const} {j : Nat} {pos : Pos} (h : cstB v c = true) : ∃ u, PE X (.Constant c j pos) (tC u) ∧ ∀ H, Rep X.K H v u := by
  unfold cstB at h
  split at h
  · cases of_decide_eq_true h; exact ⟨_, pe_int, fun _ => .int _⟩
  · cases of_decide_eq_true h; exact ⟨_, pe_bl, fun _ => .bl _⟩
  · exact ⟨_, pe_non, fun _ => .non⟩
  · cases of_decide_eq_true h; exact ⟨_, pe_str, fun _ => .str _⟩
  · cases h
end
mutual
theorem soE {Γ : Env'} {F C : Str → Bool} {k : Nat} {N : List Str} : ∀ (t : Tm) {X : Cx} {XT : XTy} {sc : Scope} {fnB : Str → Bool} {e : Expr}, GE Γ F C k XT X N sc fnB → trE N F C t sc fnB e = true → SE X XT e (wpE Γ t)
  | .var i, X, XT, sc, fnB, e, G, h => by
    unfold trE at h
    split at h
    · simp only [Bool.and_eq_true, decide_eq_true_eq, Bool.not_eq_true'] at h
      exact se_var G h.1.1.1 (vis_of h.1.1.2) h.1.2 h.2
    · cases h
  | .cst v, X, XT, sc, fnB, e, G, h => by
    unfold trE at h
    split at h
    · obtain ⟨u, h1, h2⟩ := so_cst G h
      exact l_cst G h2 (fun ls L E Q w => by rw [wpE] at w; exact w) h1 rfl
    · cases h
  | .con y, X, XT, sc, fnB, e, G, h => by
    unfold trE at h
    split at h
    · simp only [Bool.and_eq_true, decide_eq_true_eq, Bool.not_eq_true', glB] at h
      obtain ⟨⟨⟨rfl, h1⟩, h2⟩, h3⟩ := h
      exact se_con G h1 h2 h3
    · cases h
  | .ty n, X, XT, sc, fnB, e, G, h => by
    unfold trE at h
    split at h
    · simp only [Bool.and_eq_true, decide_eq_true_eq, glB] at h
      exact se_ty G h.2 h.1
    · cases h
  | .bin op a b, X, XT, sc, fnB, e, G, h => by
    unfold trE at h
    split at h
    · simp only [Bool.and_eq_true, decide_eq_true_eq] at h
      obtain ⟨⟨rfl, h1⟩, h2⟩ := h
      exact se_bin G (soE a G h1).pe (soE b G h2).pe
    · cases h
  | .neg a, X, XT, sc, fnB, e, G, h => by
    unfold trE at h
    split at h
    · exact se_neg G (soE a G h).pe
    · cases h
  | .cmp op a b, X, XT, sc, fnB, e, G, h => by
    unfold trE at h
    split at h
    · simp only [Bool.and_eq_true, decide_eq_true_eq] at h
      obtain ⟨⟨⟨rfl, h0⟩, h1⟩, h2⟩ := h
      exact se_cmp G (soE a G h1).pe (soE b G h2).pe h0
    · cases h
  | .chn op op' a b c, X, XT, sc, fnB, e, G, h => by
    unfold trE at h
    split at h
    · simp only [Bool.and_eq_true, decide_eq_true_eq] at h
      obtain ⟨⟨⟨⟨⟨rfl, rfl⟩, h0⟩, h1⟩, h2⟩, h3⟩ := h
      exact se_chn G (soE a G h1).pe (soE b G h2).pe (soE c G h3).pe h0
    · cases h
  | .isN neg a, X, XT, sc, fnB, e, G, h => by
    unfold trE at h
    split at h
    · simp only [Bool.and_eq_true, decide_eq_true_eq] at h
      obtain ⟨rfl, h1⟩ := h
      exact se_isN G (soE a G h1).pe
    · cases h
  | .nt a, X, XT, sc, fnB, e, G, h => by
    unfold trE at h
    split at h
    · simp only [Bool.and_eq_true] at h
      exact se_nt G (soE a G h.2) h.1
    · cases h
  | .an a b, X, XT, sc, fnB, e, G, h => by
    unfold trE at h
    split at h
    · simp only [Bool.and_eq_true] at h
      exact se_an2 G (soE a G h.1.2) (soE b G h.2) h.1.1.1 h.1.1.2
    · simp only [Bool.and_eq_true] at h
      exact se_an G (soE a G h.1.2) (soE b G h.2) h.1.1
    · cases h
  | .orr a b, X, XT, sc, fnB, e, G, h => by
    unfold trE at h
    split at h
    · simp only [Bool.and_eq_true] at h
      exact se_or2 G (soE a G h.1.2) (soE b G h.2) h.1.1.1 h.1.1.2
    · simp only [Bool.and_eq_true] at h
      exact se_or G (soE a G h.1.2) (soE b G h.2) h.1.1
    · cases h
  | .ite c a b, X, XT, sc, fnB, e, G, h => by
    unfold trE at h
    split at h
    · simp only [Bool.and_eq_true] at h
      exact se_ite G (soE c G h.1.1.2) (soE a G h.1.2).pe (soE b G h.2).pe h.1.1.1
    · cases h
  | .tup es, X, XT, sc, fnB, e, G, h => by
    unfold trE at h
    split at h
    · exact se_tup G (soA es G h).1
    · cases h
  | .lst es, X, XT, sc, fnB, e, G, h => by
    unfold trE at h
    split at h
    · exact se_lst G (soA es G h).1
    · cases h
  | .dct0, X, XT, sc, fnB, e, G, h => by
    unfold trE at h
    split at h
    · exact se_dct0 G
    · cases h
  | .dct1 kk v, X, XT, sc, fnB, e, G, h => by
    unfold trE at h
    split at h
    · simp only [Bool.and_eq_true, decide_eq_true_eq, Bool.not_eq_true'] at h
      obtain ⟨⟨⟨⟨h1, h2⟩, h3⟩, h4⟩, h5⟩ := h
      obtain ⟨u, h6, h7⟩ := so_cst G h5
      exact se_dct1 G (pe_var (by rw [G.eN]; exact h1) (by rw [G.esc]; exact vis_of h2) h3 h4) h6 h7
    · cases h
  | .call f es, X, XT, sc, fnB, e, G, h => by
    unfold trE at h
    split at h
    · simp only [Bool.and_eq_true, decide_eq_true_eq, Bool.not_eq_true', glB] at h
      obtain ⟨⟨⟨⟨rfl, h1⟩, h2⟩, h3⟩, h4⟩ := h
      obtain ⟨h5, h6⟩ := soA es G h4
      exact se_call G h1 h2 h3 h5 h6
    · cases h
  | .bf f es, X, XT, sc, fnB, e, G, h => by
    unfold trE at h
    split at h
    · simp only [Bool.and_eq_true, decide_eq_true_eq, glB] at h
      obtain ⟨⟨rfl, h2⟩, h4⟩ := h
      obtain ⟨h5, h6⟩ := soA es G h4
      exact se_bf G h2 h5 h6
    · cases h
  | .tupRg es, X, XT, sc, fnB, e, G, h => by
    unfold trE at h
    split at h
    · simp only [Bool.and_eq_true, decide_eq_true_eq, glB] at h
      obtain ⟨⟨⟨⟨rfl, rfl⟩, h1⟩, h2⟩, h3⟩ := h
      exact se_tupRg G h1 (soR1 es G h2 h3) rfl
    · simp only [Bool.and_eq_true, decide_eq_true_eq, glB] at h
      obtain ⟨⟨⟨⟨rfl, rfl⟩, h1⟩, h2⟩, h3⟩ := h
      exact se_tupRg G h1 (soR2 es G h2 h3) rfl
    · cases h
  | .lstRg es, X, XT, sc, fnB, e, G, h => by
    unfold trE at h
    split at h
    · simp only [Bool.and_eq_true, decide_eq_true_eq, glB] at h
      obtain ⟨⟨⟨⟨rfl, rfl⟩, h1⟩, h2⟩, h3⟩ := h
      exact se_lstRg G h1 (soR1 es G h2 h3) rfl
    · simp only [Bool.and_eq_true, decide_eq_true_eq, glB] at h
      obtain ⟨⟨⟨⟨rfl, rfl⟩, h1⟩, h2⟩, h3⟩ := h
      exact se_lstRg G h1 (soR2 es G h2 h3) rfl
    · cases h
  | .mt m o es, X, XT, sc, fnB, e, G, h => by
    unfold trE at h
    split at h
    · simp only [Bool.and_eq_true, Bool.or_eq_true, decide_eq_true_eq] at h
      obtain ⟨⟨⟨⟨⟨h0, rfl⟩, h1⟩, h2⟩, h3⟩, h4⟩ := h
      obtain ⟨h5, h6⟩ := soA es G h4
      exact se_mt1 G h0 (soE o G h3).pe h5 h1 h2 (by simpa using h6)
    · simp only [Bool.and_eq_true, decide_eq_true_eq] at h
      obtain ⟨⟨⟨⟨⟨rfl, rfl⟩, h1⟩, h2⟩, h3⟩, h4⟩ := h
      cases es with
      | nil => exact se_pop G (soE o G h3).pe h1 h2
      | cons a r => cases h4
    · cases h
  | .ix a b, X, XT, sc, fnB, e, G, h => by
    unfold trE at h
    split at h
    · simp only [Bool.and_eq_true] at h
      exact se_ix G (soE a G h.1.2).pe (soE b G h.2).pe h.1.1
    · cases h
  | .slc a lo hi, X, XT, sc, fnB, e, G, h => by
    unfold trE at h
    split at h
    · simp only [Bool.and_eq_true] at h
      exact se_slc G (soE a G h.1.1).pe (soO lo G h.1.2) (soO hi G h.2)
    · cases h
  | .lc t tg it ifs own, X, XT, sc, fnB, e, G, h => by
    unfold trE at h
    split at h
    · simp only [Bool.and_eq_true, decide_eq_true_eq, List.all_eq_true] at h
      obtain ⟨⟨⟨⟨⟨⟨⟨⟨rfl, h1⟩, h2⟩, h3⟩, h4⟩, h5⟩, h6⟩, h7⟩, h8⟩ := h
      have r := se_lc G (pos := ‹Pos›) (own := ownOf N own) (te := t) (tgt := tg) (it := it) (tifs := ifs) (soI it G h1 h2) h1 h3 (by rw [h4]; exact h5) ⟨fun G' => soG G' h6, fun G' => soF ifs G' h7, fun G' => (soE t G' h8).pe⟩
      rw [h4] at r
      exact r
    · cases h
  | .dc tk tv tg it ifs own, X, XT, sc, fnB, e, G, h => by
    unfold trE at h
    split at h
    · simp only [Bool.and_eq_true, decide_eq_true_eq, List.all_eq_true] at h
      obtain ⟨⟨⟨⟨⟨⟨⟨⟨⟨rfl, h1⟩, h2⟩, h3⟩, h4⟩, h5⟩, h6⟩, h7⟩, h8⟩, h9⟩ := h
      have r := se_dc G (pos := ‹Pos›) (own := ownOf N own) (tk := tk) (tv := tv) (tgt := tg) (it := it) (tifs := ifs) (soI it G h1 h2) h1 h3 (by rw [h4]; exact h5) ⟨fun G' => soG G' h6, fun G' => soF ifs G' h7, fun G' => (soE tk G' h8).pe⟩ ⟨fun G' => soG G' h6, fun G' => soF ifs G' h7, fun G' => (soE tv G' h9).pe⟩
      rw [h4] at r
      exact r
    · cases h
  | .tupRg3 es, X, XT, sc, fnB, e, G, h => by
    unfold trE at h
    split at h
    · simp only [Bool.and_eq_true, decide_eq_true_eq, glB] at h
      obtain ⟨⟨⟨⟨rfl, rfl⟩, h1⟩, h2⟩, h3⟩ := h
      obtain ⟨h5, h6⟩ := soA es G h3
      exact se_tupRg3 G h1 h2 h5 h6
    · cases h
theorem soA {Γ : Env'} {F C : Str → Bool} {k : Nat} {N : List Str} : ∀ (ts : Tms) {X : Cx} {XT : XTy} {sc : Scope} {fnB : Str → Bool} {es : List Expr}, GE Γ F C k XT X N sc fnB → trA N F C ts sc fnB es = true → PA X es (lA Γ XT X ts) ∧ es.all argE = true
  | .nil, X, XT, sc, fnB, es, G, h => by
    unfold trA at h
    split at h
    · exact ⟨sa_nil G, rfl⟩
    · cases h
  | .cons a r, X, XT, sc, fnB, es, G, h => by
    unfold trA at h
    split at h
    · simp only [Bool.and_eq_true] at h
      obtain ⟨h1, h2⟩ := soA r G h.2
      exact ⟨sa_cons G (soE a G h.1.2).pe h1 h.1.1, by rw [List.all_cons, h.1.1, h2]; rfl⟩
    · cases h
theorem soR1 {Γ : Env'} {F C : Str → Bool} {k : Nat} {N : List Str} : ∀ (ts : Tms) {X : Cx} {XT : XTy} {sc : Scope} {fnB : Str → Bool} {a : Expr} {p pos : Pos}, GE Γ F C k XT X N sc fnB → sc.names.lookup ("range" : Str) = some .globalImplicit → trR N F C ts sc fnB [a] = true → PRg X (.Call (.Name "range" p) [a] [] pos) (lRg Γ XT X ts)
  | .nil, X, XT, sc, fnB, a, p, pos, G, hg, h => by unfold trR at h; cases h
  | .cons t .nil, X, XT, sc, fnB, a, p, pos, G, hg, h => by
    unfold trR at h
    simp only [Bool.and_eq_true] at h
    exact srg1 G hg (soE t G h.1.2).pe h.1.1
  | .cons t (.cons t' r), X, XT, sc, fnB, a, p, pos, G, hg, h => by
    unfold trR at h
    simp only [Bool.and_eq_true] at h
    have := h.2
    unfold trR at this
    cases this
theorem soR2 {Γ : Env'} {F C : Str → Bool} {k : Nat} {N : List Str} : ∀ (ts : Tms) {X : Cx} {XT : XTy} {sc : Scope} {fnB : Str → Bool} {a b : Expr} {p pos : Pos}, GE Γ F C k XT X N sc fnB → sc.names.lookup ("range" : Str) = some .globalImplicit → trR N F C ts sc fnB [a, b] = true → PRg X (.Call (.Name "range" p) [a, b] [] pos) (lRg Γ XT X ts)
  | .nil, X, XT, sc, fnB, a, b, p, pos, G, hg, h => by unfold trR at h; cases h
  | .cons t .nil, X, XT, sc, fnB, a, b, p, pos, G, hg, h => by
    unfold trR at h
    simp only [Bool.and_eq_true] at h
    have := h.2
    unfold trR at this
    cases this
  | .cons t (.cons t' .nil), X, XT, sc, fnB, a, b, p, pos, G, hg, h => by
    unfold trR at h
    simp only [Bool.and_eq_true] at h
    have h2 := h.2
    unfold trR at h2
    simp only [Bool.and_eq_true] at h2
    exact srg2 G hg (soE t G h.1.2).pe (soE t' G h2.1.2).pe h.1.1 h2.1.1
  | .cons t (.cons t' (.cons t'' r)), X, XT, sc, fnB, a, b, p, pos, G, hg, h => by
    unfold trR at h
    simp only [Bool.and_eq_true] at h
    have h2 := h.2
    unfold trR at h2
    simp only [Bool.and_eq_true] at h2
    have := h2.2
    unfold trR at this
    cases this
theorem soO {Γ : Env'} {F C : Str → Bool} {k : Nat} {N : List Str} : ∀ (ts : Tms) {X : Cx} {XT : XTy} {sc : Scope} {fnB : Str → Bool} {e : Option Expr}, GE Γ F C k XT X N sc fnB → trO N F C ts sc fnB e = true → PO X e (lO Γ XT X ts)
  | .nil, X, XT, sc, fnB, es, G, h => by
    unfold trO at h
    split at h
    · exact so_none G
    · cases h
  | .cons a r, X, XT, sc, fnB, es, G, h => by
    unfold trO at h
    split at h
    · exact so_some G (soE a G h).pe
    · cases h
theorem soF {Γ : Env'} {F C : Str → Bool} {k : Nat} {N : List Str} : ∀ (ts : Tms) {X : Cx} {sc : Scope} {fnB : Str → Bool} {es : List Expr}, GE Γ F C k XT0 X N sc fnB → trF N F C ts sc fnB es = true → PTs X es (liftF X.K Γ ts)
  | .nil, X, sc, fnB, es, G, h => by
    unfold trF at h
    split at h
    · exact lf_nil
    · cases h
  | .cons a r, X, sc, fnB, es, G, h => by
    unfold trF at h
    split at h
    · simp only [Bool.and_eq_true] at h
      exact lf_one ((soE a G h.2).pt h.1)
    · cases h
theorem soI {Γ : Env'} {F C : Str → Bool} {k : Nat} {N : List Str} : ∀ (it : Itm) {X : Cx} {XT : XTy} {sc : Scope} {fnB : Str → Bool} {tg e : Expr}, GE Γ F C k XT X N sc fnB → argE e = true → trI N F C it sc fnB tg e = true → PI X tg e (lI Γ XT X it)
  | .seq a, X, XT, sc, fnB, tg, e, G, h0, h => by
    unfold trI at h
    exact si_seq G (soE a G h).pe
  | .rng (.cons t .nil), X, XT, sc, fnB, tg, e, G, h0, h => by
    unfold trI at h
    split at h
    · simp only [Bool.and_eq_true, decide_eq_true_eq, glB] at h
      obtain ⟨⟨rfl, h1⟩, h2⟩ := h
      unfold trR at h2
      simp only [Bool.and_eq_true] at h2
      exact si_rng1 G h1 (soE t G h2.1.2).pe h2.1.1
    · simp only [Bool.and_eq_true] at h
      have h2 := h.2
      unfold trR at h2
      simp only [Bool.and_eq_true] at h2
      have := h2.2
      unfold trR at this
      cases this
    · cases h
  | .rng .nil, X, XT, sc, fnB, tg, e, G, h0, h => by
    unfold trI at h
    split at h
    · simp only [Bool.and_eq_true] at h
      have h2 := h.2
      unfold trR at h2
      cases h2
    · simp only [Bool.and_eq_true] at h
      have h2 := h.2
      unfold trR at h2
      cases h2
    · cases h
  | .rng (.cons t (.cons t' .nil)), X, XT, sc, fnB, tg, e, G, h0, h => by
    unfold trI at h
    split at h
    · simp only [Bool.and_eq_true] at h
      have h2 := h.2
      unfold trR at h2
      simp only [Bool.and_eq_true] at h2
      have := h2.2
      unfold trR at this
      cases this
    · simp only [Bool.and_eq_true, decide_eq_true_eq, glB] at h
      obtain ⟨⟨rfl, h1⟩, h2⟩ := h
      unfold trR at h2
      simp only [Bool.and_eq_true] at h2
      have h3 := h2.2
      unfold trR at h3
      simp only [Bool.and_eq_true] at h3
      exact si_rng2 G h1 (soE t G h2.1.2).pe (soE t' G h3.1.2).pe h2.1.1 h3.1.1
    · cases h
  | .rng (.cons t (.cons t' (.cons t'' r))), X, XT, sc, fnB, tg, e, G, h0, h => by
    unfold trI at h
    split at h
    · simp only [Bool.and_eq_true] at h
      have h2 := h.2
      unfold trR at h2
      simp only [Bool.and_eq_true] at h2
      have := h2.2
      unfold trR at this
      cases this
    · simp only [Bool.and_eq_true] at h
      have h2 := h.2
      unfold trR at h2
      simp only [Bool.and_eq_true] at h2
      have h3 := h2.2
      unfold trR at h3
      simp only [Bool.and_eq_true] at h3
      have := h3.2
      unfold trR at this
      cases this
    · cases h
  | .enum a, X, XT, sc, fnB, tg, e, G, h0, h => by
    unfold trI at h
    split at h
    · simp only [Bool.and_eq_true, decide_eq_true_eq, glB] at h
      obtain ⟨⟨⟨rfl, h1⟩, h2⟩, h3⟩ := h
      exact si_enum G h1 (soE a G h3).pe h2
    · cases h
  | .zip a b, X, XT, sc, fnB, tg, e, G, h0, h => by
    unfold trI at h
    split at h
    · simp only [Bool.and_eq_true, decide_eq_true_eq, glB] at h
      obtain ⟨⟨⟨⟨⟨rfl, h1⟩, h2⟩, h3⟩, h4⟩, h5⟩ := h
      exact si_zip G h1 (soE a G h4).pe (soE b G h5).pe h2 h3
    · cases h
end
end DP

set_option Elab.async false
set_option linter.all false
set_option maxRecDepth 100000
set_option maxHeartbeats 4000000
/-! statements -/
namespace DP
open PySem PySem.Spec PyProof.Rows L2

/-- the ends carried down -/
structure AfterS (K : PySem.W.Frag) (H : Hp) (D0 : LEnds) (D : Ends) : Prop where
  nx : ∀ ls L σ H', D0.nx ls L → ExtT H H' → RelHp K H' L → RelSt K H' ls σ → D.nx σ H'
  rt : After K H D0.rt D.rt
  bk : ∀ ls L σ H', D0.bk ls L → ExtT H H' → RelHp K H' L → RelSt K H' ls σ → D.bk σ H'
theorem AfterS.ext {K : PySem.W.Frag} {H H1 : Hp} {D0 : LEnds} {D : Ends} (a : AfterS K H D0 D) (x : ExtT H H1) : AfterS K H1 D0 D :=
  ⟨fun ls L σ H' q e r s => a.nx ls L σ H' q (x.trans e) r s, a.rt.ext x, fun ls L σ H' q e r s => a.bk ls L σ H' q (x.trans e) r s⟩
def XOk (XT : XTy) (H : Hp) (E : KXS) : Prop := ∀ H' ls, ExtT H H' → XT H' ls fun x => E x ls
theorem XOk.ext {XT : XTy} {H H1 : Hp} {E : KXS} (h : XOk XT H E) (x : ExtT H H1) : XOk XT H1 E := fun H' ls e => h H' ls (x.trans e)
def liftS (K : PySem.W.Frag) (XT : XTy) (w : KXS → LEnds → LSt → LHp → Prop) : TS := fun D σ H => ∃ ls L E D0, RelSt K H ls σ ∧ RelHp K H L ∧ XOk XT H E ∧ w E D0 ls L ∧ AfterS K H D0 D

structure GS (Γ : Env') (F C : Str → Bool) (k : Nat) (XT : XTy) (X : Cx) (N : List Str) (sc : Scope) (fnB : Str → Bool) : Prop where
  g : GE Γ F C k XT X N sc fnB
  kind : sc.kind = .function
  pass : PassesOwn (model X.prog X.w) X.A X.env X.xe

theorem swap2 {env : PySem.Env} {x y : Str} {px py pt p2 : Pos} {a b : Expr} {k1 k2 : Nat} (hk : env.scope.kind = .function) (hx : env.scope.names.lookup x = some .local) (hy : env.scope.names.lookup y = some .local) (hl : (py.line == px.line) = true) (ne : x ≠ y)
    (ha : argE a = true) (hb : argE b = true) (h1 : [a, b].all (foldedForSure 8) = false) (h2 : [a, b].all (constantsAlone 8) = false) :
    swappedStores [.Tuple [.Name x px, .Name y py] k1 pt] (.Tuple [a, b] k2 p2) env = pure (some [x, y]) := by
  have kx : env.kindOf x = some .local := hx
  have ky : env.kindOf y = some .local := hy
  have kb : env.blockKind = .function := by unfold Env.blockKind; rw [hk]; rfl
  have st : ∀ {e : Expr}, argE e = true → ¬ ((match e with | .Starred .. => true | _ => false) = true) := fun {e} h => by cases e <;> first | (intro z; cases z; done) | cases h
  have hl' : py.line = px.line := by simpa using hl
  have h1' : ¬ (foldedForSure 8 a = true ∧ foldedForSure 8 b = true) := fun z => by simp [z.1, z.2] at h1
  have h2' : ¬ (constantsAlone 8 a = true ∧ constantsAlone 8 b = true) := fun z => by simp [z.1, z.2] at h2
  unfold swappedStores
  simp [kb, kx, ky, Expr.pos, hl', List.filterMap_cons, List.eraseDups_cons, Ne.symm ne]
  rw [if_neg (fun z => z.elim (st ha) (st hb)), if_neg h1', if_neg h2']
theorem swap3 {env : PySem.Env} {x y z : Str} {px py pz pt p2 : Pos} {a b c : Expr} {k1 k2 : Nat} (hk : env.scope.kind = .function) (hx : env.scope.names.lookup x = some .local) (hy : env.scope.names.lookup y = some .local) (hz : env.scope.names.lookup z = some .local) (hl : (py.line == px.line) = true) (hlz : (pz.line == px.line) = true)
    (ne : x ≠ y) (nez : x ≠ z) (nyz : y ≠ z) (ha : argE a = true) (hb : argE b = true) (hc : argE c = true) (h1 : [a, b, c].all (foldedForSure 8) = false) (h2 : [a, b, c].all (constantsAlone 8) = false) :
    swappedStores [.Tuple [.Name x px, .Name y py, .Name z pz] k1 pt] (.Tuple [a, b, c] k2 p2) env = pure (some [x, y, z]) := by
  have kx : env.kindOf x = some .local := hx
  have ky : env.kindOf y = some .local := hy
  have kz : env.kindOf z = some .local := hz
  have kb : env.blockKind = .function := by unfold Env.blockKind; rw [hk]; rfl
  have st : ∀ {e : Expr}, argE e = true → ¬ ((match e with | .Starred .. => true | _ => false) = true) := fun {e} h => by cases e <;> first | (intro z; cases z; done) | cases h
  have hl' : py.line = px.line := by simpa using hl
  have hl2 : pz.line = px.line := by simpa using hlz
  have h1' : ¬ (foldedForSure 8 a = true ∧ foldedForSure 8 b = true ∧ foldedForSure 8 c = true) := fun z => by simp [z.1, z.2.1, z.2.2] at h1
  have h2' : ¬ (constantsAlone 8 a = true ∧ constantsAlone 8 b = true ∧ constantsAlone 8 c = true) := fun z => by simp [z.1, z.2.1, z.2.2] at h2
  unfold swappedStores
  simp [kb, kx, ky, kz, Expr.pos, hl', hl2, List.filterMap_cons, List.eraseDups_cons, Ne.symm ne, Ne.symm nez, Ne.symm nyz]
  rw [if_neg (fun z => z.elim (st ha) fun z => z.elim (st hb) (st hc)), if_neg h1', if_neg h2']
end DP

set_option Elab.async false
set_option linter.all false
set_option maxRecDepth 100000
set_option maxHeartbeats 4000000
/-! statements: the rules by the weakest preconditions -/
namespace DP
open PySem PySem.Spec PyProof.Rows L2

def tupE : Expr → Bool
  | .Tuple .. => true
  | _ => false
theorem swaps_cell {x : Str} {p : Pos} {v : Expr} {l : Nat} {env : PySem.Env} (h : env.scope.names.lookup x = some .cell) : swapsWith v (some (.Name x p)) l env = pure false := by
  have k : env.kindOf x = some .cell := h
  have e : (NameKind.cell == NameKind.local) = false := rfl
  cases v <;> first | rfl | (unfold swapsWith; simp [k, e])
theorem swap_none {t v : Expr} {env : PySem.Env} (h : tupE v = false) : swappedStores [t] v env = pure none := by
  cases v <;> first | cases h | skip
  all_goals cases t <;> rfl
theorem swap_name {x : Str} {p : Pos} {v : Expr} {env : PySem.Env} : swappedStores [.Name x p] v env = pure none := by
  cases v <;> rfl
theorem swap_sub {o i : Expr} {p : Pos} {v : Expr} {env : PySem.Env} : swappedStores [.Subscript o i p] v env = pure none := by
  cases v <;> rfl
theorem swaps_sole {t v : Expr} {l : Nat} {env : PySem.Env} (h : compE v = false) : swapsWithSole [t] v l env = pure false := by
  unfold swapsWithSole
  exact swaps_no h
theorem swaps_tup {ts : List Expr} {k : Nat} {p : Pos} {v : Expr} {l : Nat} {env : PySem.Env} (h : compE v = false) : swapsWithSole [.Tuple ts k p] v l env = pure false := by
  unfold swapsWithSole
  exact swaps_no h

section
variable {Γ : Env'} {F C : Str → Bool} {k : Nat} {XT : XTy} {X : Cx} {N : List Str} {sc : Scope} {fnB : Str → Bool} (G : GS Γ F C k XT X N sc fnB)
variable {a b c e o i' : Expr} {es : List Expr} {te ta tb tc : Tm} {ts : Tms} {pos p p2 : Pos} {x y z : Str}
abbrev lS (Γ : Env') (XT : XTy) (X : Cx) (t : Ts) : TS := liftS X.K XT (fun E => wpS Γ E t)
abbrev lSs (Γ : Env') (XT : XTy) (X : Cx) (t : Tss) : TS := liftS X.K XT (fun E => wpSs Γ E t)
include G
theorem ss_ret (he : PE X e (lf Γ XT X te)) : PS X (.Return (some e) pos) (lS Γ XT X (.ret te)) := PS.imp (ps_ret he) fun D σ H ⟨ls, L, E, D0, rs, rh, xo, w, af⟩ => by
  dsimp only at w
  rw [wpS] at w
  exact ⟨ls, L, _, _, rs, rh, xo H ls (.refl _), w, af.rt⟩
theorem ss_retN : PS X (.Return none pos) (lS Γ XT X .retN) := PS.imp ps_retN fun D σ H ⟨ls, L, E, D0, rs, rh, xo, w, af⟩ => by
  dsimp only at w
  rw [wpS] at w
  exact af.rt _ _ _ _ w (.refl _) rh .non
theorem ss_expr (he : PE X e (lf Γ XT X te)) (hc : compE e = false) : PS X (.Expr e pos) (lS Γ XT X (.expr te)) := PS.imp (ps_expr he (swaps_no hc)) fun D σ H ⟨ls, L, E, D0, rs, rh, xo, w, af⟩ => by
  dsimp only at w
  rw [wpS] at w
  exact ⟨ls, L, _, _, rs, rh, xo H ls (.refl _), w, fun pv L1 v H1 q e1 rh1 rv => af.nx _ _ _ _ q e1 rh1 (rs.ext e1)⟩
theorem ss_pass : PS X (.Pass pos) (lS Γ XT X .pass) := PS.imp ps_pass fun D σ H ⟨ls, L, E, D0, rs, rh, xo, w, af⟩ => by
  dsimp only at w
  rw [wpS] at w
  exact af.nx _ _ _ _ w (.refl _) rh rs
theorem ss_brk : PS X (.Break pos) (lS Γ XT X .brk) := PS.imp ps_break fun D σ H ⟨ls, L, E, D0, rs, rh, xo, w, af⟩ => by
  dsimp only at w
  rw [wpS] at w
  exact af.bk _ _ _ _ w (.refl _) rh rs
theorem ss_raise : PS X e' (lS Γ XT X .raise) := PS.imp ps_never fun D σ H ⟨ls, L, E, D0, rs, rh, xo, w, af⟩ => by
  dsimp only at w
  rw [wpS] at w
  exact w
theorem l_set {i : Nat} {D : Ends} {σ : L2.St} {H : Hp} (h : lS Γ XT X (.asg (.nm i) te) D σ H) : tAsg (lf Γ XT X te) (gName i) D σ H := by
  obtain ⟨ls, L, E, D0, rs, rh, xo, w, af⟩ := h
  rw [wpS] at w
  exact ⟨ls, L, _, _, rs, rh, xo H ls (.refl _), w, fun pv L1 v H1 q e1 rh1 rv => af.nx _ _ _ _ q e1 rh1 ((rs.ext e1).set i rv)⟩
theorem ss_set {i : Nat} (hi : N[i]? = some x) (hl : sc.names.lookup x = some .local ∨ (sc.names.lookup x = some .cell ∧ fnB x = true)) (he : PE X e (lf Γ XT X te)) (hc : compE e = false ∨ sc.names.lookup x = some .cell) : PS X (.Assign [.Name x p] e pos) (lS Γ XT X (.asg (.nm i) te)) := by
  have hl' : Loc X.env.scope x := by rw [G.g.esc]; exact hl.elim .inl fun z => .inr z.1
  have hf : X.fn x = true ∨ X.env.scope.names.lookup x = some .local := by rw [G.g.esc]; exact hl.elim .inr fun z => .inl (G.g.efn x z.2)
  exact PS.imp (ps_set (by rw [G.g.eN]; exact G.g.nd) (by rw [G.g.eN]; exact hi) hl' he (hc.elim swaps_no fun z => swaps_cell (by rw [G.g.esc]; exact z)) hf) fun D σ H h => l_set G h
theorem ss_asg {is : List Nat} {tg : Expr} (he : PE X e (lf Γ XT X te)) (hg : PG X tg (liftG X.K (.tp is))) (h1 : swapsWithSole [tg] e pos.line X.env = pure false) (h2 : swappedStores [tg] e X.env = pure none) (h3 : (assignEach [tg] X.env).map (·.2) = [assign tg X.env]) : PS X (.Assign [tg] e pos) (lS Γ XT X (.asg (.tp is) te)) := by
  refine PS.imp (ps_asg he hg h1 h2 h3) fun D σ H ⟨ls, L, E, D0, rs, rh, xo, w, af⟩ => ?_
  dsimp only at w
  rw [wpS] at w
  exact ⟨ls, L, _, _, rs, rh, xo H ls (.refl _), w, fun pv L1 v H1 q e1 rh1 rv => ⟨pv, ls, _, rv, rs.ext e1, q, fun ls' σ' a b _ => af.nx _ _ _ _ a e1 rh1 b⟩⟩
theorem ss_par {i j : Nat} {px py pt : Pos} {k1 k2 : Nat} (hi : N[i]? = some x) (hj : N[j]? = some y) (hij : i ≠ j) (hx : sc.names.lookup x = some .local) (hy : sc.names.lookup y = some .local) (hl : (py.line == px.line) = true) (ne : x ≠ y)
    (ha : PA X [a, b] (lA Γ XT X ts)) (h0 : argE a = true) (h0' : argE b = true) (h1 : [a, b].all (foldedForSure 8) = false) (h2 : [a, b].all (constantsAlone 8) = false) :
    PS X (.Assign [.Tuple [.Name x px, .Name y py] k1 pt] (.Tuple [a, b] k2 p2) pos) (lS Γ XT X (.asg (.tp [i, j]) (.tup ts))) := by
  have hx' : X.env.scope.names.lookup x = some .local := by rw [G.g.esc]; exact hx
  have hy' : X.env.scope.names.lookup y = some .local := by rw [G.g.esc]; exact hy
  refine PS.imp (ps_par G.g.calm (by rw [G.g.eN]; exact G.g.nd) (by rw [G.g.eN]; exact hi) (by rw [G.g.eN]; exact hj) hij hx' hy' ha (swap2 (by rw [G.g.esc]; exact G.kind) hx' hy' hl ne h0 h0' h1 h2) (swaps_tup rfl)) fun D σ H ⟨ls, L, E, D0, rs, rh, xo, w, af⟩ => ?_
  dsimp only at w
  rw [wpS, wpE] at w
  refine ⟨ls, L, _, _, rs, rh, xo H ls (.refl _), w, fun ps L1 vs H1 q e1 rh1 rp => ?_⟩
  obtain ⟨_, hlen, q⟩ := q
  cases rp with
  | nil => cases hlen
  | cons r1 rp =>
    cases rp with
    | nil => cases hlen
    | cons r2 rp =>
      cases rp with
      | cons _ _ => cases hlen
      | nil => exact ⟨_, _, rfl, af.nx _ _ _ _ q e1 rh1 (((rs.ext e1).set i r1).set j r2)⟩
theorem ss_par3 {i j l : Nat} {px py pz pt : Pos} {k1 k2 : Nat} (hi : N[i]? = some x) (hj : N[j]? = some y) (hh : N[l]? = some z) (hij : i ≠ j) (hil : i ≠ l) (hjl : j ≠ l) (hx : sc.names.lookup x = some .local) (hy : sc.names.lookup y = some .local) (hz : sc.names.lookup z = some .local)
    (hl : (py.line == px.line) = true) (hlz : (pz.line == px.line) = true) (ne : x ≠ y) (nez : x ≠ z) (nyz : y ≠ z)
    (ha : PA X [a, b, c] (lA Γ XT X ts)) (h0 : argE a = true) (h0' : argE b = true) (h0'' : argE c = true) (h1 : [a, b, c].all (foldedForSure 8) = false) (h2 : [a, b, c].all (constantsAlone 8) = false) :
    PS X (.Assign [.Tuple [.Name x px, .Name y py, .Name z pz] k1 pt] (.Tuple [a, b, c] k2 p2) pos) (lS Γ XT X (.asg (.tp [i, j, l]) (.tup ts))) := by
  have hx' : X.env.scope.names.lookup x = some .local := by rw [G.g.esc]; exact hx
  have hy' : X.env.scope.names.lookup y = some .local := by rw [G.g.esc]; exact hy
  have hz' : X.env.scope.names.lookup z = some .local := by rw [G.g.esc]; exact hz
  refine PS.imp (ps_par3 G.g.calm (by rw [G.g.eN]; exact G.g.nd) (by rw [G.g.eN]; exact hi) (by rw [G.g.eN]; exact hj) (by rw [G.g.eN]; exact hh) hij hil hjl hx' hy' hz' ha (swap3 (by rw [G.g.esc]; exact G.kind) hx' hy' hz' hl hlz ne nez nyz h0 h0' h0'' h1 h2) (swaps_tup rfl)) fun D σ H ⟨ls, L, E, D0, rs, rh, xo, w, af⟩ => ?_
  dsimp only at w
  rw [wpS, wpE] at w
  refine ⟨ls, L, _, _, rs, rh, xo H ls (.refl _), w, fun ps L1 vs H1 q e1 rh1 rp => ?_⟩
  obtain ⟨_, hlen, q⟩ := q
  cases rp with
  | nil => cases hlen
  | cons r1 rp =>
    cases rp with
    | nil => cases hlen
    | cons r2 rp =>
      cases rp with
      | nil => cases hlen
      | cons r3 rp =>
        cases rp with
        | cons _ _ => cases hlen
        | nil => exact ⟨_, _, _, rfl, af.nx _ _ _ _ q e1 rh1 ((((rs.ext e1).set i r1).set j r2).set l r3)⟩
theorem ss_put (he : PE X e (lf Γ XT X te)) (ho : PE X o (lf Γ XT X ta)) (hi : PE X i' (lf Γ XT X tb)) (hc : compE e = false) (ha : argE i' = true) : PS X (.Assign [.Subscript o i' p] e pos) (lS Γ XT X (.put ta tb te)) := by
  refine PS.imp (ps_asg he (pg_sub ho hi (set_any G.g.u65) (assign_sub ha)) (swaps_sole hc) swap_sub rfl) fun D σ H ⟨ls, L, E, D0, rs, rh, xo, w, af⟩ => ?_
  dsimp only at w
  rw [wpS] at w
  refine ⟨ls, L, _, _, rs, rh, xo H ls (.refl _), w, fun pv L1 v H1 q e1 rh1 rv => ?_⟩
  refine ⟨ls, L1, _, _, rs.ext e1, rh1, xo H1 ls e1, q, fun po L2 ov H2 q2 e2 rh2 ro => ?_⟩
  refine ⟨ls, L2, _, _, rs.ext (e1.trans e2), rh2, xo H2 ls (e1.trans e2), q2, fun pi L3 iv H3 q3 e3 rh3 ri => ?_⟩
  refine ⟨po, pi, pv, L3, _, ro.ext e3, ri, rv.ext (e2.trans e3), rh3, q3, fun L4 H4 q4 e4 rh4 => ?_⟩
  have e14 := ((e1.trans e2).trans e3).trans e4
  exact af.nx _ _ _ _ q4 e14 rh4 (rs.ext e14)
/-- x op= y of two ints -/
def upI (K : PySem.W.Frag) (op : BOp) : TIp := fun x y H Q => ∃ a b L Q0, x = .int a ∧ y = .int b ∧ RelHp K H L ∧ binW op (.int a) (.int b) L Q0 ∧ After K H Q0 Q
def augB : BOp → Bool
  | .add => true | .sub => true | .mul => true | _ => false
theorem iop_mulW' : OpR X (inplaceOp .Mult) (rI CMulW fun i j => .int (i * j)) := opI fun _ _ _ _ _ _ _ hc q => imul_int q hc.ok
theorem ip_any {op : BOp} (h : augB op = true) : PIp X op.op (upI X.K op) := fun pins s σ H x y v u Q I rx ry ⟨a, b, L, Q0, hx, hy, rh, w, af⟩ => by
  subst hx hy
  cases op with
  | add => exact iop_add pins s σ H _ _ v u Q I rx ry ⟨a, b, rfl, rfl, af _ _ _ _ w (.refl _) rh (.int _)⟩
  | sub => exact iop_sub pins s σ H _ _ v u Q I rx ry ⟨a, b, rfl, rfl, af _ _ _ _ w.2 (.refl _) rh (.int _)⟩
  | mul => exact iop_mulW' G pins s σ H _ _ v u Q I rx ry ⟨a, b, rfl, rfl, by
      have := w.1
      exact this, af _ _ _ _ w.2 (.refl _) rh (.int _)⟩
  | _ => cases h
theorem ss_aug {i : Nat} {op : BOp} (h : augB op = true) (hi : N[i]? = some x) (hl : sc.names.lookup x = some .local ∨ (sc.names.lookup x = some .cell ∧ fnB x = true)) (he : PE X e (lf Γ XT X te)) : PS X (.AugAssign (.Name x p) op.op e pos) (lS Γ XT X (.aug i op te)) := by
  have hl' : Loc X.env.scope x := by rw [G.g.esc]; exact hl.elim .inl fun z => .inr z.1
  have hf : X.fn x = true ∨ X.env.scope.names.lookup x = some .local := by rw [G.g.esc]; exact hl.elim .inr fun z => .inl (G.g.efn x z.2)
  refine PS.imp (ps_aug (by rw [G.g.eN]; exact G.g.nd) (by rw [G.g.eN]; exact hi) hl' he (ip_any G h) hf) fun D σ H ⟨ls, L, E, D0, rs, rh, xo, w, af⟩ => ?_
  dsimp only at w
  rw [wpS] at w
  obtain ⟨y, hy, w⟩ := w
  obtain ⟨v, h1, h2⟩ := rs.2 i y hy
  refine ⟨v, h1, ls, L, _, _, rs, rh, xo H ls (.refl _), w, fun pv L1 u H1 q e1 rh1 rv => ?_⟩
  obtain ⟨a, b, rfl, rfl, q⟩ := q
  exact ⟨a, b, L1, _, h2.int_inv, rv.int_inv, rh1, q, fun z L2 zv H2 q2 e2 rh2 rz => af.nx _ _ _ _ q2 (e1.trans e2) rh2 ((rs.ext (e1.trans e2)).set i rz)⟩
theorem ss_augS {op : BOp} (h : augB op = true) (ho : PE X o (lf Γ XT X ta)) (hi : PE X i' (lf Γ XT X tb)) (he : PE X e (lf Γ XT X te)) (ha : argE i' = true) : PS X (.AugAssign (.Subscript o i' p) op.op e pos) (lS Γ XT X (.augS ta tb op te)) := by
  refine PS.imp (ps_augS ho hi (get_any G.g.u65) he (ip_any G h) (set_any G.g.u65) (aug_store ha)) fun D σ H ⟨ls, L, E, D0, rs, rh, xo, w, af⟩ => ?_
  dsimp only at w
  rw [wpS] at w
  refine ⟨ls, L, _, _, rs, rh, xo H ls (.refl _), w, fun po L1 ov H1 q e1 rh1 ro => ?_⟩
  refine ⟨ls, L1, _, _, rs.ext e1, rh1, xo H1 ls e1, q, fun pi L2 iv H2 q2 e2 rh2 ri => ?_⟩
  refine ⟨po, pi, L2, _, ro.ext e2, ri, rh2, q2, fun px L3 xv H3 q3 e3 rh3 rx => ?_⟩
  have e13 := (e1.trans e2).trans e3
  refine ⟨ls, L3, _, _, rs.ext e13, rh3, xo H3 ls e13, q3, fun py L4 yv H4 q4 e4 rh4 ry => ?_⟩
  obtain ⟨a, b, rfl, rfl, q4⟩ := q4
  refine ⟨a, b, L4, _, rx.int_inv, ry.int_inv, rh4, q4, fun pz L5 zv H5 q5 e5 rh5 rz => ?_⟩
  refine ⟨po, pi, pz, L5, _, ro.ext ((e2.trans e3).trans (e4.trans e5)), ri.ext (e3.trans (e4.trans e5)), rz, rh5, q5, fun L6 H6 q6 e6 rh6 => ?_⟩
  have e16 := ((e13.trans e4).trans e5).trans e6
  exact af.nx _ _ _ _ q6 e16 rh6 (rs.ext e16)
theorem ss_if {A B : List Stmt} {tA tB : Tss} (hc : SE X XT c (wpE Γ tc)) (ht : tstE c = true) (hA : PSs X A (lSs Γ XT X tA)) (hB : PSs X B (lSs Γ XT X tB)) : PS X (.If c A B pos) (lS Γ XT X (.ite tc tA tB)) := by
  refine PS.imp (ps_if (hc.pt ht) hA hB) fun D σ H ⟨ls, L, E, D0, rs, rh, xo, w, af⟩ => ?_
  dsimp only at w
  rw [wpS] at w
  refine ⟨ls, L, _, _, rs, rh, xo H ls (.refl _), w, fun pv L1 H1 q e1 rh1 => ?_⟩
  obtain ⟨b, rfl, q⟩ := q
  refine ⟨b, rfl, ?_⟩
  cases b with
  | true =>
    simp only [if_true] at q ⊢
    exact ⟨ls, L1, E, D0, rs.ext e1, rh1, xo.ext e1, q, af.ext e1⟩
  | false =>
    simp only [Bool.false_eq_true, if_false] at q ⊢
    exact ⟨ls, L1, E, D0, rs.ext e1, rh1, xo.ext e1, q, af.ext e1⟩
theorem ss_while {B : List Stmt} {tB : Tss} (hc : SE X XT c (wpE Γ tc)) (ht : tstE c = true) (hB : PSs X B (lSs Γ XT X tB)) : PS X (.While c B [] pos) (lS Γ XT X (.whl tc tB)) := by
  refine PS.imp (ps_while G.pass (hc.pt ht) hB) fun D σ H ⟨ls, L, E, D0, rs, rh, xo, w, af⟩ => ?_
  dsimp only at w
  rw [wpS] at w
  obtain ⟨n, w⟩ := w
  refine ⟨fun m σ' H' => ∃ ls' L', ExtT H H' ∧ RelSt X.K H' ls' σ' ∧ RelHp X.K H' L' ∧ whlW (fun ls L Q => wpE Γ tc ls L (fun x => E x ls) fun x L1 => tst x fun k => Q k L1) (fun ls L N => wpSs Γ E tB { D0 with nx := N, bk := D0.nx } ls L) D0.nx m ls' L', ⟨n, ls, L, .refl _, rs, rh, w⟩, ?_⟩
  rintro m σ' H' ⟨ls', L', x, rs', rh', w'⟩
  cases m with
  | zero => exact w'.elim
  | succ m =>
    unfold whlW at w'
    refine ⟨ls', L', _, _, rs', rh', xo H' ls' x, w', fun pv L1 H1 q e1 rh1 => ?_⟩
    obtain ⟨b, rfl, q⟩ := q
    refine ⟨b, rfl, ?_⟩
    cases b with
    | true =>
      simp only [if_true] at q ⊢
      refine ⟨fun σ2 H2 => ∃ ls2 L2, ExtT H H2 ∧ RelSt X.K H2 ls2 σ2 ∧ RelHp X.K H2 L2 ∧ whlW _ _ D0.nx m ls2 L2, fun σ2 H2 z => ⟨m, Nat.lt_succ_self _, z⟩, ?_⟩
      refine ⟨ls', L1, E, _, rs'.ext e1, rh1, xo.ext (x.trans e1), q, ⟨fun ls2 L2 σ2 H2 q2 e2 rh2 rs2 => ⟨ls2, L2, (x.trans e1).trans e2, rs2, rh2, q2⟩, af.rt.ext (x.trans e1), fun ls2 L2 σ2 H2 q2 e2 rh2 rs2 => af.nx _ _ _ _ q2 ((x.trans e1).trans e2) rh2 rs2⟩⟩
    | false =>
      simp only [Bool.false_eq_true, if_false] at q ⊢
      exact af.nx _ _ _ _ q (x.trans e1) rh1 (rs'.ext e1)
theorem ss_for {B : List Stmt} {tB : Tss} {tg iter : Expr} {tgt : Tg} {it : Itm} (hi : PI X tg iter (lI Γ XT X it)) (hf : argE iter = true) (hg : PG X tg (liftG X.K tgt)) (hB : PSs X B (lSs Γ XT X tB)) : PS X (.For tg iter B [] pos) (lS Γ XT X (.for tgt it tB)) := by
  refine PS.imp (ps_for G.pass G.g.calm hi hg hB (folded hf _)) fun D σ H ⟨ls, L, E, D0, rs, rh, xo, w, af⟩ => ?_
  dsimp only at w
  rw [wpS] at w
  refine ⟨ls, L, _, _, rs, rh, xo H ls (.refl _), w, fun xs Gd L1 H1 J q e1 rh1 gv => ?_⟩
  refine ⟨fun i m σ' H' => m = xs.length - i ∧ i ≤ xs.length ∧ ∃ ls' L', ExtT H1 H' ∧ RelSt X.K H' ls' σ' ∧ RelHp X.K H' L' ∧ forW Gd (fun x ls L N => asgT tgt x ls fun ls' => wpSs Γ E tB { D0 with nx := N, bk := D0.nx } ls' L) (xs.drop i) ls' L' D0.nx,
    ⟨_, rfl, Nat.zero_le _, ls, L1, .refl _, rs.ext e1, rh1, q⟩, ?_⟩
  rintro i m σ' H' ⟨rfl, hi, ls', L', x, rs', rh', w'⟩
  by_cases hlt : i < xs.length
  · have hg : xs[i]? = some xs[i] := by simp [hlt]
    rw [List.drop_eq_getElem_cons hlt] at w'
    obtain ⟨gd, w'⟩ := w'
    refine .inr ⟨gv.go i H' L' hlt x rh' gd, fun σ2 H2 => ∃ ls2 L2, ExtT H1 H2 ∧ RelSt X.K H2 ls2 σ2 ∧ RelHp X.K H2 L2 ∧ forW Gd _ (xs.drop (i + 1)) ls2 L2 D0.nx, fun σ2 H2 z => ⟨xs.length - (i + 1), by omega, rfl, hlt, z⟩, fun v H2 y => ?_⟩
    obtain ⟨x1, r1, rv⟩ := gv.yld i _ H' L' v H2 hg x rh' gd y
    refine ⟨_, ls', _, rv, rs'.ext x1, w', fun ls2 σ2 q2 rs2 _ => ?_⟩
    have e12 := (e1.trans x).trans x1
    exact ⟨ls2, L', E, _, rs2, r1, xo.ext e12, q2, ⟨fun ls3 L3 σ3 H3 q3 e3 rh3 rs3 => ⟨ls3, L3, (x.trans x1).trans e3, rs3, rh3, q3⟩, af.rt.ext e12, fun ls3 L3 σ3 H3 q3 e3 rh3 rs3 => af.nx _ _ _ _ q3 (e12.trans e3) rh3 rs3⟩⟩
  · have e : i = xs.length := by omega
    subst e
    rw [List.drop_length] at w'
    obtain ⟨gd, w'⟩ := w'
    exact .inl ⟨gv.stop H' L' x rh' gd, af.nx _ _ _ _ w' (e1.trans x) rh' rs'⟩
theorem sss_nil : PSs X [] (lSs Γ XT X .nil) := PSs.imp pss_nil fun D σ H ⟨ls, L, E, D0, rs, rh, xo, w, af⟩ => by
  dsimp only at w
  rw [wpSs] at w
  exact af.nx _ _ _ _ w (.refl _) rh rs
theorem sss_cons {st : Stmt} {r : List Stmt} {t : Ts} {tr : Tss} (h1 : PS X st (lS Γ XT X t)) (h2 : PSs X r (lSs Γ XT X tr)) : PSs X (st :: r) (lSs Γ XT X (.cons t tr)) := PSs.imp (pss_cons h1 h2) fun D σ H ⟨ls, L, E, D0, rs, rh, xo, w, af⟩ => by
  dsimp only at w
  rw [wpSs] at w
  exact ⟨ls, L, E, _, rs, rh, xo, w, ⟨fun ls2 L2 σ2 H2 q2 e2 rh2 rs2 => ⟨ls2, L2, E, D0, rs2, rh2, xo.ext e2, q2, af.ext e2⟩, af.rt, af.bk⟩⟩
end
end DP

set_option Elab.async false
set_option linter.all false
set_option maxRecDepth 100000
set_option maxHeartbeats 4000000
/-! a statement is of a term; defs -/
namespace DP
open PySem PySem.Spec PyProof.Rows L2

def usedB (sc : Scope) (x : Str) (p : Pos) (v : Expr) : Bool := match v with
  | .ListComp _ _ scope pos => decide (sc.names.lookup x = some .local) && (p.line == pos.line) && !(scope.names.any fun (n, k) => n == x && (k == .local || k == .cell))
  | .DictComp _ _ _ scope pos => decide (sc.names.lookup x = some .local) && (p.line == pos.line) && !(scope.names.any fun (n, k) => n == x && (k == .local || k == .cell))
  | _ => false
mutual
def trS (N : List Str) (F C : Str → Bool) : Ts → Scope → (Str → Bool) → Stmt → Bool
  | .ret e, sc, fnB, st => match st with | .Return (some x) _ => trE N F C e sc fnB x | _ => false
  | .retN, sc, fnB, st => match st with | .Return none _ => true | _ => false
  | .expr e, sc, fnB, st => match st with | .Expr x _ => !(compE x) && trE N F C e sc fnB x | _ => false
  | .pass, sc, fnB, st => match st with | .Pass _ => true | _ => false
  | .brk, sc, fnB, st => match st with | .Break _ => true | _ => false
  | .asg (.nm i) e, sc, fnB, st => match st with
    | .Assign [.Name x p] v _ => decide (N[i]? = some x) && locB sc fnB x && (!(compE v) || decide (sc.names.lookup x = some .cell) || usedB sc x p v) && trE N F C e sc fnB v
    | _ => false
  | .asg (.tp is) e, sc, fnB, st => match is, e, st with
    | [i, j], .tup es, .Assign [.Tuple [.Name x px, .Name y py] _ _] (.Tuple [a, b] _ _) _ =>
      decide (N[i]? = some x) && decide (N[j]? = some y) && !(decide (i = j)) && decide (sc.names.lookup x = some .local) && decide (sc.names.lookup y = some .local) && (py.line == px.line) && !(decide (x = y)) &&
        argE a && argE b && !([a, b].all (foldedForSure 8)) && !([a, b].all (constantsAlone 8)) && trA N F C es sc fnB [a, b]
    | [i, j, l], .tup es, .Assign [.Tuple [.Name x px, .Name y py, .Name z pz] _ _] (.Tuple [a, b, c] _ _) _ =>
      decide (N[i]? = some x) && decide (N[j]? = some y) && decide (N[l]? = some z) && !(decide (i = j)) && !(decide (i = l)) && !(decide (j = l)) && decide (sc.names.lookup x = some .local) && decide (sc.names.lookup y = some .local) && decide (sc.names.lookup z = some .local) &&
        (py.line == px.line) && (pz.line == px.line) && !(decide (x = y)) && !(decide (x = z)) && !(decide (y = z)) &&
        argE a && argE b && argE c && !([a, b, c].all (foldedForSure 8)) && !([a, b, c].all (constantsAlone 8)) && trA N F C es sc fnB [a, b, c]
    | is, e, .Assign [.Tuple ts k p] v _ => !(compE v) && !(tupE v) && trG N sc fnB (.tp is) (.Tuple ts k p) && trE N F C e sc fnB v
    | _, _, _ => false
  | .put o i e, sc, fnB, st => match st with
    | .Assign [.Subscript a b _] v _ => !(compE v) && argE b && trE N F C o sc fnB a && trE N F C i sc fnB b && trE N F C e sc fnB v
    | _ => false
  | .aug i op e, sc, fnB, st => match st with
    | .AugAssign (.Name x _) o v _ => decide (o = op.op) && augB op && decide (N[i]? = some x) && locB sc fnB x && trE N F C e sc fnB v
    | _ => false
  | .augS t i op e, sc, fnB, st => match st with
    | .AugAssign (.Subscript a b _) o v _ => decide (o = op.op) && augB op && argE b && trE N F C t sc fnB a && trE N F C i sc fnB b && trE N F C e sc fnB v
    | _ => false
  | .ite c a b, sc, fnB, st => match st with
    | .If x A B _ => tstE x && trE N F C c sc fnB x && trSs N F C a sc fnB A && trSs N F C b sc fnB B
    | _ => false
  | .whl c b, sc, fnB, st => match st with
    | .While x B [] _ => tstE x && trE N F C c sc fnB x && trSs N F C b sc fnB B
    | _ => false
  | .for tg it b, sc, fnB, st => match st with
    | .For t i B [] _ => argE i && trG N sc fnB tg t && trI N F C it sc fnB t i && trSs N F C b sc fnB B
    | _ => false
  | .raise, sc, fnB, st => match st with | .Raise .. => true | _ => false
def trSs (N : List Str) (F C : Str → Bool) : Tss → Scope → (Str → Bool) → List Stmt → Bool
  | .nil, sc, fnB, st => match st with | [] => true | _ => false
  | .cons s r, sc, fnB, st => match st with | x :: xs => trS N F C s sc fnB x && trSs N F C r sc fnB xs | _ => false
end
section
variable {Γ : Env'} {F C : Str → Bool} {k : Nat} {XT : XTy} {X : Cx} {N : List Str} {sc : Scope} {fnB : Str → Bool} (G : GS Γ F C k XT X N sc fnB)
include G
theorem so_used {i : Nat} {y : Str} {py spos : Pos} {v : Expr} {e : Tm} (hy : N[i]? = some y) (hu : usedB sc y py v = true) (h : trE N F C e sc fnB v = true) : PS X (.Assign [.Name y py] v spos) (tAsg (lf Γ XT X e) (gName i)) := by
  unfold usedB at hu
  split at hu
  · simp only [Bool.and_eq_true, decide_eq_true_eq, Bool.not_eq_true'] at hu
    obtain ⟨⟨h1, h2⟩, h3⟩ := hu
    cases e with
    | lc t tg it ifs own =>
      unfold trE at h
      split at h
      · rename_i q
        injection q with q1 q2 q3 q4
        subst q1 q2 q3 q4
        simp only [Bool.and_eq_true, decide_eq_true_eq, List.all_eq_true] at h
        obtain ⟨⟨⟨⟨⟨⟨⟨⟨rfl, g1⟩, g2⟩, g3⟩, g4⟩, g5⟩, g6⟩, g7⟩, g8⟩ := h
        have r := ss_setLc G.g (py := py) (spos := spos) (pos := ‹Pos›) (own := ownOf N own) (te := t) (tgt := tg) (it := it) (tifs := ifs) (soI it G.g g1 g2) g1 g3 (by rw [g4]; exact g5) ⟨fun G' => soG G' g6, fun G' => soF ifs G' g7, fun G' => (soE t G' g8).pe⟩ hy h1 G.kind h2 h3
        rw [g4] at r
        exact r
      · cases h
    | _ => unfold trE at h; first | (cases h; done) | (split at h <;> first | (cases h; done) | (rename_i q; cases q))
  · simp only [Bool.and_eq_true, decide_eq_true_eq, Bool.not_eq_true'] at hu
    obtain ⟨⟨h1, h2⟩, h3⟩ := hu
    cases e with
    | dc t u tg it ifs own =>
      unfold trE at h
      split at h
      · rename_i q
        injection q with q1 q2 q3 q4 q5
        subst q1 q2 q3 q4 q5
        simp only [Bool.and_eq_true, decide_eq_true_eq, List.all_eq_true] at h
        obtain ⟨⟨⟨⟨⟨⟨⟨⟨⟨rfl, g1⟩, g2⟩, g3⟩, g4⟩, g5⟩, g6⟩, g7⟩, g8⟩, g9⟩ := h
        have r := ss_setDc G.g (py := py) (spos := spos) (pos := ‹Pos›) (own := ownOf N own) (tk := t) (tv := u) (tgt := tg) (it := it) (tifs := ifs) (soI it G.g g1 g2) g1 g3 (by rw [g4]; exact g5) ⟨fun G' => soG G' g6, fun G' => soF ifs G' g7, fun G' => (soE t G' g8).pe⟩ ⟨fun G' => soG G' g6, fun G' => soF ifs G' g7, fun G' => (soE u G' g9).pe⟩ hy h1 G.kind h2 h3
        rw [g4] at r
        exact r
      · cases h
    | _ => unfold trE at h; first | (cases h; done) | (split at h <;> first | (cases h; done) | (rename_i q; cases q))
  · cases hu
end
mutual
theorem soS {Γ : Env'} {F C : Str → Bool} {k : Nat} {XT : XTy} {X : Cx} {N : List Str} {sc : Scope} {fnB : Str → Bool} (G : GS Γ F C k XT X N sc fnB) : ∀ (t : Ts) {st : Stmt}, trS N F C t sc fnB st = true → PS X st (lS Γ XT X t)
  | .ret e, st, h => by
    unfold trS at h
    split at h
    · exact ss_ret G (soE e G.g h).pe
    · cases h
  | .retN, st, h => by
    unfold trS at h
    split at h
    · exact ss_retN G
    · cases h
  | .expr e, st, h => by
    unfold trS at h
    split at h
    · simp only [Bool.and_eq_true, Bool.not_eq_true'] at h
      exact ss_expr G (soE e G.g h.2).pe h.1
    · cases h
  | .pass, st, h => by
    unfold trS at h
    split at h
    · exact ss_pass G
    · cases h
  | .brk, st, h => by
    unfold trS at h
    split at h
    · exact ss_brk G
    · cases h
  | .asg (.nm i) e, st, h => by
    unfold trS at h
    split at h
    · simp only [Bool.and_eq_true, decide_eq_true_eq, Bool.or_eq_true, Bool.not_eq_true'] at h
      obtain ⟨⟨⟨h1, h2⟩, h3⟩, h4⟩ := h
      rcases h3 with (h3 | h3) | h3
      · exact ss_set G h1 (loc_of h2) (soE e G.g h4).pe (.inl h3)
      · exact ss_set G h1 (loc_of h2) (soE e G.g h4).pe (.inr h3)
      · exact PS.imp (so_used G h1 h3 h4) fun D σ H q => l_set G q
    · cases h
  | .asg (.tp is) e, st, h => by
    unfold trS at h
    split at h
    · simp only [Bool.and_eq_true, decide_eq_true_eq, Bool.not_eq_true', decide_eq_false_iff_not] at h
      obtain ⟨⟨⟨⟨⟨⟨⟨⟨⟨⟨⟨h1, h2⟩, h3⟩, h4⟩, h5⟩, h6⟩, h7⟩, h8⟩, h9⟩, h10⟩, h11⟩, h12⟩ := h
      exact ss_par G h1 h2 h3 h4 h5 h6 h7 (soA _ G.g h12).1 h8 h9 h10 h11
    · simp only [Bool.and_eq_true, decide_eq_true_eq, Bool.not_eq_true', decide_eq_false_iff_not] at h
      obtain ⟨⟨⟨⟨⟨⟨⟨⟨⟨⟨⟨⟨⟨⟨⟨⟨⟨⟨⟨h1, h2⟩, h3⟩, h4⟩, h5⟩, h6⟩, h7⟩, h8⟩, h9⟩, h10⟩, h11⟩, h12⟩, h13⟩, h14⟩, h15⟩, h16⟩, h17⟩, h18⟩, h19⟩, h20⟩ := h
      exact ss_par3 G h1 h2 h3 h4 h5 h6 h7 h8 h9 h10 h11 h12 h13 h14 (soA _ G.g h20).1 h15 h16 h17 h18 h19
    · simp only [Bool.and_eq_true, Bool.not_eq_true'] at h
      obtain ⟨⟨⟨h1, h2⟩, h3⟩, h4⟩ := h
      exact ss_asg G (soE _ G.g h4).pe (soG G.g h3) (swaps_tup h1) (swap_none h2) rfl
    · cases h
  | .put o i e, st, h => by
    unfold trS at h
    split at h
    · simp only [Bool.and_eq_true, Bool.not_eq_true'] at h
      obtain ⟨⟨⟨⟨h1, h2⟩, h3⟩, h4⟩, h5⟩ := h
      exact ss_put G (soE e G.g h5).pe (soE o G.g h3).pe (soE i G.g h4).pe h1 h2
    · cases h
  | .aug i op e, st, h => by
    unfold trS at h
    split at h
    · simp only [Bool.and_eq_true, decide_eq_true_eq] at h
      obtain ⟨⟨⟨⟨rfl, h1⟩, h2⟩, h3⟩, h4⟩ := h
      exact ss_aug G h1 h2 (loc_of h3) (soE e G.g h4).pe
    · cases h
  | .augS o i op e, st, h => by
    unfold trS at h
    split at h
    · simp only [Bool.and_eq_true, decide_eq_true_eq] at h
      obtain ⟨⟨⟨⟨⟨rfl, h1⟩, h2⟩, h3⟩, h4⟩, h5⟩ := h
      exact ss_augS G h1 (soE o G.g h3).pe (soE i G.g h4).pe (soE e G.g h5).pe h2
    · cases h
  | .ite c a b, st, h => by
    unfold trS at h
    split at h
    · simp only [Bool.and_eq_true] at h
      obtain ⟨⟨⟨h1, h2⟩, h3⟩, h4⟩ := h
      exact ss_if G (soE c G.g h2) h1 (soSs G a h3) (soSs G b h4)
    · cases h
  | .whl c b, st, h => by
    unfold trS at h
    split at h
    · simp only [Bool.and_eq_true] at h
      obtain ⟨⟨h1, h2⟩, h3⟩ := h
      exact ss_while G (soE c G.g h2) h1 (soSs G b h3)
    · cases h
  | .for tg it b, st, h => by
    unfold trS at h
    split at h
    · simp only [Bool.and_eq_true] at h
      obtain ⟨⟨⟨h1, h2⟩, h3⟩, h4⟩ := h
      exact ss_for G (soI it G.g h1 h3) h1 (soG G.g h2) (soSs G b h4)
    · cases h
  | .raise, st, h => ss_raise G
theorem soSs {Γ : Env'} {F C : Str → Bool} {k : Nat} {XT : XTy} {X : Cx} {N : List Str} {sc : Scope} {fnB : Str → Bool} (G : GS Γ F C k XT X N sc fnB) : ∀ (t : Tss) {st : List Stmt}, trSs N F C t sc fnB st = true → PSs X st (lSs Γ XT X t)
  | .nil, st, h => by
    unfold trSs at h
    split at h
    · exact sss_nil G
    · cases h
  | .cons s r, st, h => by
    unfold trSs at h
    split at h
    · simp only [Bool.and_eq_true] at h
      exact sss_cons G (soS G s h.1) (soSs G r h.2)
    · cases h
end

/-! ### defs -/
/-- what is known of the module: its defs, its ints -/
structure Wd (P : Program) (w : World) (K : PySem.W.Frag) (mg : Str → Option Value) (Pg : Prg) (F C : Str → Bool) : Prop where
  fn : ∀ f, F f = true → ∃ a fd st d, mg f = some (.ref a) ∧ PySem.W.keepIn K (.ref a) = true ∧ Binds K fd d.ps [] ∧ Fun K f f st a fd ∧ Pg.fns f = some d ∧ FnScope d.names d.ps (defScope st) ∧
    trSs d.names F C d.body (defScope st) (fun _ => true) (defBody st) = true
  con : ∀ x i, Pg.con x = some i → ∃ t, mg x = some (.int i t)
  cn : ∀ x, C x = true → ∃ i t, Pg.con x = some i ∧ mg x = some (.int i t)
  blt : ∀ x ∈ bltNs, mg x = none
theorem start_rel {K : PySem.W.Frag} {H : Hp} {n : Nat} {N : List Str} {ps : List PV} {vs : List V} (hn : n = N.length) (r : RepL K H ps vs) : RelSt K H (startL n ps) (L2.start N vs) := by
  subst hn
  have hl := r.lenE
  refine ⟨by unfold startL L2.start; simp [hl], fun i x e => ?_⟩
  unfold startL at e
  unfold L2.start
  by_cases hi : i < ps.length
  · rw [List.getElem?_append_left (by simpa using hi), List.getElem?_map] at e
    cases h : ps[i]? with
    | none => rw [h] at e; cases e
    | some y =>
      rw [h] at e
      cases e
      obtain ⟨v, h1, h2⟩ := r.get h
      refine ⟨v, ?_, h2⟩
      rw [List.getElem?_append_left (by simpa [hl] using hi), List.getElem?_map, h1]
      rfl
  · rw [List.getElem?_append_right (by simpa using hi)] at e
    rw [List.getElem?_replicate] at e
    split at e <;> cases e
theorem fn_lvl {P : Program} {w : World} {K : PySem.W.Frag} {mg : Str → Option Value} {base : Heap} {Pg : Prg} {F C : Str → Bool} (W : Wd P w K mg Pg F C) {k : Nat} (ih : Gb P w K mg base ⟨callW Pg k, Pg.con⟩ F k) {f : Str} {a : Addr} {fd : FuncData} {st : Stmt} {d : Def}
    (h4 : Fun K f f st a fd) (h5 : Pg.fns f = some d) (h6 : FnScope d.names d.ps (defScope st)) (h7 : trSs d.names F C d.body (defScope st) (fun _ => true) (defBody st) = true) : FnOk P w K mg base (L2.CX P w) (k + 1) a fd d.ps (upSp K mg (callW Pg (k + 1) f)) := by
  refine h4.okX h6 (fun vs H Q E h => ?_) fun cdv A outer s H vs Q E hr hsp => ?_
  · obtain ⟨ps, _, _, _, rp, _, ⟨d', e, hl, _⟩, _⟩ := h
    rw [h5] at e; cases e
    rw [rp.lenE]; exact hl
  · obtain ⟨ps, L, Q0, E0, rp, rh, ⟨d', e, hl, hw⟩, aq, ax⟩ := hsp
    rw [h5] at e; cases e
    refine ⟨_, soSs (Γ := ⟨callW Pg k, Pg.con⟩) (F := F) (C := C) (k := k) (XT := fun H' ls E' => ExtT H H' ∧ ∀ ex L, E' ex L → E0 ex L) (N := d.names) (sc := defScope st) (fnB := fun _ => true) ⟨⟨rfl, rfl, h6.nd, rfl, hr, ih, W.cn, fun _ _ => rfl, ?_, fun H1 H2 ls E' x h => ⟨h.1.trans x, h.2⟩⟩, h6.kind, passes_of rfl⟩ d.body h7, ?_⟩
    · refine (takes_of (E := E) rfl rfl rfl rfl).imp fun cls dd σ H' h => ?_
      obtain ⟨ls, E', ex, L', H1, _, ⟨x1, z⟩, x2, rh', rx, e'⟩ := h
      exact ax ex L' H' cls dd (z ex L' e') (x1.trans x2) rh' rx
    · refine ⟨startL d.names.length ps, L, fun x _ => E0 x, _, start_rel rfl rp, rh, fun H' ls x => ⟨x, fun _ _ z => z⟩, hw, ⟨fun ls L' σ H' q x r _ => aq _ _ _ _ q x r .non, aq, fun _ _ _ _ z => z.elim⟩⟩
theorem gb_of {P : Program} {w : World} {K : PySem.W.Frag} {mg : Str → Option Value} {base : Heap} {Pg : Prg} {F C : Str → Bool} (W : Wd P w K mg Pg F C) : ∀ k, Gb P w K mg base ⟨callW Pg k, Pg.con⟩ F k
  | 0 => by
    refine ⟨fun f hf => ?_, W.con, W.blt⟩
    obtain ⟨a, fd, st, d, h1, h2, h3, h4, h5, h6, h7⟩ := W.fn f hf
    refine ⟨a, fd, d.ps, h1, h2, h3, ⟨fun vs H Q E h => ?_, fun A outer s H args us vs Q E _ _ _ _ h => ?_⟩⟩
    · obtain ⟨_, _, _, _, _, _, z, _⟩ := h
      exact z.elim
    · obtain ⟨_, _, _, _, _, _, z, _⟩ := h
      exact z.elim
  | k + 1 => by
    refine ⟨fun f hf => ?_, W.con, W.blt⟩
    obtain ⟨a, fd, st, d, h1, h2, h3, h4, h5, h6, h7⟩ := W.fn f hf
    exact ⟨a, fd, d.ps, h1, h2, h3, fn_lvl W (gb_of W k) h4 h5 h6 h7⟩
end DP

set_option Elab.async false
set_option linter.all false
set_option maxRecDepth 100000
set_option maxHeartbeats 4000000
/-! the end: the law's def, from what the top has written -/
namespace DP
open PySem PySem.Spec PyProof.Rows L2

/-- a def as the top has laid it -/
def DFact (K : PySem.W.Frag) (n : Str) (st : Stmt) : Prop :=
  ∃ (f : Addr) (oc : Value) (od an : Option Addr) (osl : Array (Option Value)) (kV dc pm cd ct : Value), PySem.W.nsIn K mainGlobals n = some (some (.ref f)) ∧
    K.lookup f = some ⟨oc, od, .func (PySem.W.fnOf n n (defArgs st) (defBody st) (defScope st) .none kV dc pm an cd ct), osl⟩ ∧ PySem.W.codeIn K cd n = true ∧ PySem.W.keepIn K (.ref f) = true
def BindOk (n : Str) (st : Stmt) (ps : List Str) : Prop :=
  ∀ (kV dc pm : Value) (an : Option Addr) (cd ct : Value) (us : List Value), us.length = ps.length → bindArgs (PySem.W.fnOf n n (defArgs st) (defBody st) (defScope st) .none kV dc pm an cd ct) ⟨us, []⟩ = pure (ps.zip us)
abbrev Tab := List (Str × Def)
abbrev CTab := List (Str × Int)
def prgOf (T : Tab) (CT : CTab) : Prg := ⟨fun f => T.lookup f, fun x => CT.lookup x⟩
def hasF (T : Tab) (f : Str) : Bool := (T.lookup f).isSome
def hasC (T : CTab) (f : Str) : Bool := (T.lookup f).isSome
structure DOk (T : Tab) (CT : CTab) (n : Str) (st : Stmt) (d : Def) : Prop where
  bd : BindOk n st d.ps
  sc : FnScope d.names d.ps (defScope st)
  tr : trSs d.names (hasF T) (hasC CT) d.body (defScope st) (fun _ => true) (defBody st) = true
theorem lookup_mem {α : Type} {x : Str} {v : α} : ∀ {l : List (Str × α)}, l.lookup x = some v → (x, v) ∈ l
  | [], h => by cases h
  | (y, u) :: r, h => by
    rw [List.lookup_cons] at h
    by_cases e : (x == y) = true
    · rw [e] at h
      cases h
      rw [show x = y from by simpa using e]
      exact List.mem_cons_self
    · rw [show (x == y) = false by simpa using e] at h
      exact List.mem_cons_of_mem _ (lookup_mem h)
theorem wd_of {P : Program} {w : World} {K : PySem.W.Frag} {h : Heap} {mg : Str → Option Value} {T : Tab} {CT : CTab} (X : K.In h) (G : h.Ns mainGlobals mg)
    (hT : ∀ p ∈ T, ∃ st, DFact K p.1 st ∧ DOk T CT p.1 st p.2) (hC : ∀ p ∈ CT, ∃ t, PySem.W.nsIn K mainGlobals p.1 = some (some (.int p.2 t))) (hB : ∀ x ∈ bltNs, PySem.W.nsIn K mainGlobals x = some none) :
    Wd P w K mg (prgOf T CT) (hasF T) (hasC CT) where
  fn := fun f hf => by
    unfold hasF at hf
    cases e : T.lookup f with
    | none => rw [e] at hf; cases hf
    | some d =>
      obtain ⟨st, ⟨a, oc, od, an, osl, kV, dc, pm, cd, ct, h1, h2, h3, h4⟩, ok⟩ := hT _ (lookup_mem e)
      have Fm := fun_mk (st := st) h2 h3 h4
      exact ⟨a, _, st, d, PySem.W.mg_of X G h1, h4, Fm.binds fun kV dc pm an cd ct us hl => ok.bd kV dc pm an cd ct us hl, Fm, e, ok.sc, ok.tr⟩
  con := fun x i hx => by
    obtain ⟨t, z⟩ := hC _ (lookup_mem hx)
    exact ⟨t, PySem.W.mg_of X G z⟩
  cn := fun x hx => by
    unfold hasC at hx
    cases e : CT.lookup x with
    | none => rw [e] at hx; cases hx
    | some i =>
      obtain ⟨t, z⟩ := hC _ (lookup_mem e)
      exact ⟨i, t, e, PySem.W.mg_of X G z⟩
  blt := fun x hx => PySem.W.mg_none_of X G (hB x hx)

/-- what the head asks of the law's def -/
def spEnd (K : PySem.W.Frag) : Sp := fun vs H Q _ => ∃ (a : Addr) (ns : List Int), vs = [.ref a] ∧ ns.length ≤ 63 ∧ (∀ z ∈ ns, Builtin.Int.intBits z ≤ 1048576) ∧ Only H ∧ SqL K H a (ns.map V.int) ∧ ∀ H', Q (.bl true) H'
theorem ints_rep {K : PySem.W.Frag} {H : Hp} : ∀ ns : List Int, RepL K H (ns.map PV.int) (ns.map V.int)
  | [] => .nil
  | n :: r => .cons (.int n) (ints_rep r)
theorem sp_end {K : PySem.W.Frag} {mg : Str → Option Value} {c : List PV → LHp → K1 → KX → Prop} (h : ∀ ns : List Int, ns.length ≤ 63 → (∀ z ∈ ns, Builtin.Int.intBits z ≤ 1048576) → c [.rol (ns.map PV.int)] (fun _ => none) (fun v _ => v = .bl true) noX) :
    ∀ vs H Q E, spEnd K vs H Q E → upSp K mg c vs H Q E := fun vs H Q E ⟨a, ns, e, hl, hb, on, sq, q⟩ => by
  subst e
  have rd : Rdo K H a (ns.map V.int) := by
    rcases sq with (z | ⟨o, z⟩) | z
    · rcases on a with w | ⟨o, xs, w⟩
      · rw [w] at z; cases z
      · rw [w] at z; cases z
    · exact .inl ⟨o, z⟩
    · exact .inr z
  refine ⟨[.rol (ns.map PV.int)], fun _ => none, _, _, .cons (.rol rd (ints_rep ns)) .nil, (fun a o e => nomatch e), h ns hl hb, fun pv L' v H' e _ _ r => ?_, fun ex L' H' cls d e => e.elim⟩
  subst e
  rw [r.bl_inv]
  exact q H'
/-- the law's def: what walk_ofB asks -/
theorem all_end {l : PySem.W.OpenLaw} {w : World} {K : PySem.W.Frag} {h : Heap} {mg : Str → Option Value} {fa : Addr} {T : Tab} {CT : CTab} {x : Str} {d : Def} (k : Nat) (X : K.In h) (G : h.Ns mainGlobals mg) (hfa : mg "law" = some (.ref fa))
    (hT : ∀ p ∈ T, ∃ st, DFact K p.1 st ∧ DOk T CT p.1 st p.2) (hC : ∀ p ∈ CT, ∃ t, PySem.W.nsIn K mainGlobals p.1 = some (some (.int p.2 t))) (hB : ∀ y ∈ bltNs, PySem.W.nsIn K mainGlobals y = some none)
    (hd : T.lookup ("law" : Str) = some d) (hp : d.ps = [x])
    (hl : ∀ ns : List Int, ns.length ≤ 63 → (∀ z ∈ ns, Builtin.Int.intBits z ≤ 1048576) → callW (prgOf T CT) (k + 1) "law" [.rol (ns.map PV.int)] (fun _ => none) (fun v _ => v = .bl true) noX) :
    ∃ fd : FuncData, (∀ (s : Shared) (v : Value), BindsTo s fd ⟨[v], []⟩ [(x, v)]) ∧ ∀ base : Heap, K.In base → base.Ns mainGlobals mg → FnOk l.prog w K mg base (L2.CX l.prog w) (k + 1) fa fd [x] (spEnd K) := by
  have W : Wd l.prog w K mg (prgOf T CT) (hasF T) (hasC CT) := wd_of X G hT hC hB
  obtain ⟨st, ⟨a, oc, od, an, osl, kV, dc, pm, cd, ct, h1, h2, h3, h4⟩, ok⟩ := hT _ (lookup_mem hd)
  have e := hfa.symm.trans (PySem.W.mg_of X G h1)
  cases e
  have Fm := fun_mk (st := st) h2 h3 h4
  refine ⟨PySem.W.fnOf "law" "law" (defArgs st) (defBody st) (defScope st) .none kV dc pm an cd ct, fun s v => ?_, fun base _ _ => ?_⟩
  · refine .of_eq ?_
    have z := ok.bd kV dc pm an cd ct [v] (by show 1 = d.ps.length; rw [hp]; rfl)
    rw [hp] at z
    exact z
  · have r := fn_lvl W (gb_of (base := base) W k) Fm hd ok.sc ok.tr
    rw [hp] at r
    exact r.imp (sp_end hl)
theorem dfact_mk {K : PySem.W.Frag} {n : Str} {st : Stmt} {f : Addr} {oc : Value} {od an : Option Addr} {osl : Array (Option Value)} {kV dc pm cd ct : Value} (a : PySem.W.nsIn K mainGlobals n = some (some (.ref f)))
    (l : K.lookup f = some ⟨oc, od, .func (PySem.W.fnOf n n (defArgs st) (defBody st) (defScope st) .none kV dc pm an cd ct), osl⟩) (c : PySem.W.codeIn K cd n = true) (k : PySem.W.keepIn K (.ref f) = true) : DFact K n st :=
  ⟨f, oc, od, an, osl, kV, dc, pm, cd, ct, a, l, c, k⟩
theorem blt_ok {K : PySem.W.Frag} (b0 : PySem.W.nsIn K mainGlobals "len" = some none) (b1 : PySem.W.nsIn K mainGlobals "sorted" = some none) (b2 : PySem.W.nsIn K mainGlobals "all" = some none) (b3 : PySem.W.nsIn K mainGlobals "any" = some none) (b4 : PySem.W.nsIn K mainGlobals "sum" = some none) (b5 : PySem.W.nsIn K mainGlobals "max" = some none) (b6 : PySem.W.nsIn K mainGlobals "min" = some none) (b7 : PySem.W.nsIn K mainGlobals "int" = some none) (b8 : PySem.W.nsIn K mainGlobals "abs" = some none) (b9 : PySem.W.nsIn K mainGlobals "tuple" = some none) (b10 : PySem.W.nsIn K mainGlobals "list" = some none) (b11 : PySem.W.nsIn K mainGlobals "isinstance" = some none) (b12 : PySem.W.nsIn K mainGlobals "range" = some none) (b13 : PySem.W.nsIn K mainGlobals "enumerate" = some none) (b14 : PySem.W.nsIn K mainGlobals "zip" = some none) (b15 : PySem.W.nsIn K mainGlobals "str" = some none) (b16 : PySem.W.nsIn K mainGlobals "bool" = some none) : ∀ y ∈ bltNs, PySem.W.nsIn K mainGlobals y = some none :=
  List.forall_mem_cons.mpr ⟨b0, List.forall_mem_cons.mpr ⟨b1, List.forall_mem_cons.mpr ⟨b2, List.forall_mem_cons.mpr ⟨b3, List.forall_mem_cons.mpr ⟨b4, List.forall_mem_cons.mpr ⟨b5, List.forall_mem_cons.mpr ⟨b6, List.forall_mem_cons.mpr ⟨b7, List.forall_mem_cons.mpr ⟨b8, List.forall_mem_cons.mpr ⟨b9, List.forall_mem_cons.mpr ⟨b10, List.forall_mem_cons.mpr ⟨b11, List.forall_mem_cons.mpr ⟨b12, List.forall_mem_cons.mpr ⟨b13, List.forall_mem_cons.mpr ⟨b14, List.forall_mem_cons.mpr ⟨b15, List.forall_mem_cons.mpr ⟨b16, (fun _ h => nomatch h)⟩⟩⟩⟩⟩⟩⟩⟩⟩⟩⟩⟩⟩⟩⟩⟩⟩
theorem cx_false {P : Program} {w : World} {H : Hp} {s : Shared} {e : Value} {s1 : Shared} (h : L2.CX P w [] H s (fun _ _ _ => False) e s1) : False := by
  obtain ⟨_, _, _, _, _, _, _, _, _, _, _, _, z⟩ := h
  exact z
end DP

set_option Elab.async false
set_option linter.all false
set_option maxRecDepth 100000
set_option maxHeartbeats 4000000
/-! tools for the weakest preconditions -/
namespace DP
open PySem PySem.Spec PyProof.Rows L2

def Keep (L L' : LHp) : Prop := ∀ a o, L a = some o → L' a = some o
theorem Keep.refl (L : LHp) : Keep L L := fun _ _ h => h
theorem Keep.trans {L L1 L2 : LHp} (a : Keep L L1) (b : Keep L1 L2) : Keep L L2 := fun x o h => b x o (a x o h)
theorem Keep.new {L : LHp} {p : Addr} {o : LO} (h : L p = none) : Keep L (lupd L p o) := fun x u e => by
  rw [lupd_ne (fun z => by subst z; rw [h] at e; cases e)]
  exact e
/-- p is new over L0: written freely -/
theorem Keep.put {L0 L : LHp} {p : Addr} {o : LO} (k : Keep L0 L) (h : L0 p = none) : Keep L0 (lupd L p o) := fun x u e => by
  rw [lupd_ne (fun z => by subst z; rw [h] at e; cases e)]
  exact k x u e
theorem call_d {P : Prg} {k : Nat} {f : Str} {vs : List PV} {L : LHp} {Q : K1} {E : KX} {d : Def} (h : P.fns f = some d) (hl : vs.length = d.ps.length)
    (hw : wpSs ⟨callW P k, P.con⟩ (fun x _ => E x) d.body { nx := fun _ L' => Q .non L', rt := Q } (startL d.names.length vs) L) : callW P (k + 1) f vs L Q E := ⟨d, h, hl, hw⟩
theorem ordW_i (o : QOp) (i j : Int) (L : LHp) (Q : K1) : ordW o (.int i) (.int j) L Q = Q (.bl (o.int i j)) L := rfl
theorem eqW_i (n : Bool) (i j : Int) (L : LHp) (Q : K1) : eqW n (.int i) (.int j) L Q = Q (.bl (xnot n (decide (i = j)))) L := rfl
theorem addW_i (i j : Int) (L : LHp) (Q : K1) : addW (.int i) (.int j) L Q = Q (.int (i + j)) L := rfl
theorem mulW_i (i j : Int) (L : LHp) (Q : K1) : mulW (.int i) (.int j) L Q = (CMulW i j ∧ Q (.int (i * j)) L) := rfl
theorem intW2_i (C : Int → Int → Prop) (g : Int → Int → PV) (i j : Int) (L : LHp) (Q : K1) : intW2 C g (.int i) (.int j) L Q = (C i j ∧ Q (g i j) L) := rfl
theorem tst_bl (b : Bool) (Q : Bool → Prop) : tst (.bl b) Q = Q b := by
  unfold tst
  simp

theorem srcW_tup (xs : List PV) (L : LHp) (R : KI) : srcW (.tup xs) L R = R xs (fun _ => True) L := rfl
theorem srcW_rol (xs : List PV) (L : LHp) (R : KI) : srcW (.rol xs) L R = R xs (fun _ => True) L := rfl
theorem srcW_ref (a : Addr) (L : LHp) (R : KI) : srcW (.ref a) L R = ∃ xs, L a = some (.lst xs) ∧ R xs (fun L' => L' a = some (.lst xs)) L := rfl
theorem enumW_tup (xs : List PV) (L : LHp) (R : KI) : enumW (.tup xs) L R = R (enumP 0 xs) (fun _ => True) L := rfl
theorem enumW_ref (a : Addr) (L : LHp) (R : KI) : enumW (.ref a) L R = ∃ xs, L a = some (.lst xs) ∧ R (enumP 0 xs) (fun L' => L' a = some (.lst xs)) L := rfl
theorem asgT_nm (i : Nat) (v : PV) (ls : LSt) (Q : LSt → Prop) : asgT (.nm i) v ls Q = Q (ls.set i (some v)) := rfl
theorem asgT_tp (is : List Nat) (xs : List PV) (ls : LSt) (Q : LSt → Prop) : asgT (.tp is) (.tup xs) ls Q = (xs.length = is.length ∧ Q (setsL ls is xs)) := rfl
theorem lenW_tup (xs : List PV) (L : LHp) (Q : K1) : lenW [.tup xs] L Q = Q (.int xs.length) L := rfl
theorem tupleW_tup (xs : List PV) (L : LHp) (Q : K1) : tupleW [.tup xs] L Q = Q (.tup xs) L := rfl
theorem tupleW_ref (a : Addr) (L : LHp) (Q : K1) : tupleW [.ref a] L Q = ∃ xs, L a = some (.lst xs) ∧ Q (.tup xs) L := rfl
theorem intW_i (i : Int) (L : LHp) (Q : K1) : intW [.int i] L Q = Q (.int i) L := rfl
theorem rgW_1 (b : Int) (Q : List PV → Prop) : rgW [.int b] Q = (rgOk 0 b ∧ Q (rgP 0 b)) := rfl
theorem rgW_2 (a b : Int) (Q : List PV → Prop) : rgW [.int a, .int b] Q = (rgOk a b ∧ Q (rgP a b)) := rfl
theorem isiW_i (i : Int) (n : String) (L : LHp) (Q : K1) : isiW [.int i, .ty n] L Q = (n ∈ isiTs ∧ Q (.bl (isiB "int" n)) L) := by
  simp [isiW, tyP]
theorem isiW_tup (xs : List PV) (n : String) (L : LHp) (Q : K1) : isiW [.tup xs, .ty n] L Q = (n ∈ isiTs ∧ Q (.bl (isiB "tuple" n)) L) := by
  simp [isiW, tyP]
theorem ixW_at {xs : List PV} {i : Nat} {v : PV} {L : LHp} {Q : K1} (h : xs[i]? = some v) (q : Q v L) : ixW (.tup xs) (.int (i : Nat)) L Q := ⟨i, v, rfl, L2.atI_nat h, q⟩
theorem ixW_ref {a : Addr} {xs : List PV} {i : Nat} {v : PV} {L : LHp} {Q : K1} (e : L a = some (.lst xs)) (h : xs[i]? = some v) (q : Q v L) : ixW (.ref a) (.int (i : Nat)) L Q := .inl ⟨xs, i, v, e, rfl, L2.atI_nat h, q⟩
theorem ixW_t0 (x : PV) (r : List PV) (L : LHp) (Q : K1) : ixW (.tup (x :: r)) (.int 0) L Q = Q x L := by
  have e : L2.atI (x :: r) ((0 : Nat) : Int) = some x := L2.atI_nat rfl
  refine propext ⟨fun ⟨i, v, h, h1, q⟩ => ?_, fun q => ⟨0, x, rfl, e, q⟩⟩
  cases h
  rw [show ((0 : Int)) = ((0 : Nat) : Int) from rfl, e] at h1
  cases h1; exact q
theorem ixW_t1 (x y : PV) (r : List PV) (L : LHp) (Q : K1) : ixW (.tup (x :: y :: r)) (.int 1) L Q = Q y L := by
  have e : L2.atI (x :: y :: r) ((1 : Nat) : Int) = some y := L2.atI_nat rfl
  refine propext ⟨fun ⟨i, v, h, h1, q⟩ => ?_, fun q => ⟨1, y, rfl, e, q⟩⟩
  cases h
  rw [show ((1 : Int)) = ((1 : Nat) : Int) from rfl, e] at h1
  cases h1; exact q
theorem conW (P : Prg) {x : Str} {v : Int} (h : P.con x = some v) (L : LHp) (Q : K1) : (∃ i, P.con x = some i ∧ Q (.int i) L) = Q (.int v) L := by
  rw [h]; simp
theorem dput_len (kvs : List (PV × PV)) (k v : PV) : (dput kvs k v).length ≤ kvs.length + 1 := by
  unfold dput
  split <;> simp

/-! ### loops -/
/-- a list comprehension whose turns leave the heap as it was (but for what is new) -/
theorem lc_map {Gd : LHp → Prop} {step : PV → LHp → (Option PV → LHp → Prop) → Prop} {D : Addr} {L1 : LHp} {Q : LHp → Prop} (f : PV → Option PV) (hD : L1 D = none) (hG : ∀ L, Keep L1 L → Gd L) :
    ∀ (xs : List PV) (acc : List PV) (L : LHp), Keep L1 L → L D = some (.lst acc) → acc.length + xs.length ≤ 16777216 →
      (∀ x ∈ xs, ∀ L N, Keep L1 L → (∀ L', Keep L L' → N (f x) L') → step x L N) → (∀ L', Keep L1 L' → L' D = some (.lst (acc ++ xs.filterMap f)) → Q L') → lcW Gd step D xs L Q
  | [], acc, L, k, e, _, _, hQ => ⟨hG L k, hQ L k (by simpa using e)⟩
  | x :: r, acc, L, k, e, hl, hs, hQ => by
    rw [List.length_cons] at hl
    refine ⟨hG L k, hs x List.mem_cons_self L _ k fun L' k' => ?_⟩
    cases hf : f x with
    | none =>
      refine lc_map f hD hG r acc L' (k.trans k') (k' _ _ e) (by omega) (fun y hy => hs y (List.mem_cons_of_mem _ hy)) fun L2 k2 e2 => hQ L2 k2 ?_
      rw [e2, List.filterMap_cons, hf]
    | some y =>
      refine ⟨acc, k' _ _ e, by omega, ?_⟩
      refine lc_map f hD hG r (acc ++ [y]) _ ((k.trans k').put hD) lupd_same (by rw [List.length_append, List.length_singleton]; omega) (fun y hy => hs y (List.mem_cons_of_mem _ hy)) fun L2 k2 e2 => hQ L2 k2 ?_
      rw [e2, List.filterMap_cons, hf, List.append_assoc]
      rfl
/-- from its start -/
theorem lc_map0 {Gd : LHp → Prop} {step : PV → LHp → (Option PV → LHp → Prop) → Prop} {D : Addr} {L1 : LHp} {Q : LHp → Prop} {xs : List PV} (f : PV → Option PV) (hD : L1 D = none) (hG : ∀ L, Keep L1 L → Gd L) (hl : xs.length ≤ 16777216)
    (hs : ∀ x ∈ xs, ∀ L N, Keep L1 L → (∀ L', Keep L L' → N (f x) L') → step x L N) (hQ : ∀ L', Keep L1 L' → L' D = some (.lst (xs.filterMap f)) → Q L') : lcW Gd step D xs (lupd L1 D (.lst [])) Q :=
  lc_map f hD hG xs [] _ (.new hD) lupd_same (by simpa using hl) hs (by simpa using hQ)
/-- over what is told by a list of any kind -/
theorem lc_on {α : Type} {Gd : LHp → Prop} {step : PV → LHp → (Option PV → LHp → Prop) → Prop} {D : Addr} {L1 : LHp} {Q : LHp → Prop} (ι : α → PV) (f : α → Option PV) (hD : L1 D = none) (hG : ∀ L, Keep L1 L → Gd L) :
    ∀ (xs : List α) (acc : List PV) (L : LHp), Keep L1 L → L D = some (.lst acc) → acc.length + xs.length ≤ 16777216 →
      (∀ x ∈ xs, ∀ L N, Keep L1 L → (∀ L', Keep L L' → N (f x) L') → step (ι x) L N) → (∀ L', Keep L1 L' → L' D = some (.lst (acc ++ xs.filterMap f)) → Q L') → lcW Gd step D (xs.map ι) L Q
  | [], acc, L, k, e, _, _, hQ => ⟨hG L k, hQ L k (by simpa using e)⟩
  | x :: r, acc, L, k, e, hl, hs, hQ => by
    rw [List.length_cons] at hl
    refine ⟨hG L k, hs x List.mem_cons_self L _ k fun L' k' => ?_⟩
    cases hf : f x with
    | none =>
      refine lc_on ι f hD hG r acc L' (k.trans k') (k' _ _ e) (by omega) (fun y hy => hs y (List.mem_cons_of_mem _ hy)) fun L2 k2 e2 => hQ L2 k2 ?_
      rw [e2, List.filterMap_cons, hf]
    | some y =>
      refine ⟨acc, k' _ _ e, by omega, ?_⟩
      refine lc_on ι f hD hG r (acc ++ [y]) _ ((k.trans k').put hD) lupd_same (by rw [List.length_append, List.length_singleton]; omega) (fun y hy => hs y (List.mem_cons_of_mem _ hy)) fun L2 k2 e2 => hQ L2 k2 ?_
      rw [e2, List.filterMap_cons, hf, List.append_assoc]
      rfl
theorem lc_all {α : Type} {Gd : LHp → Prop} {step : PV → LHp → (Option PV → LHp → Prop) → Prop} {D : Addr} {L1 : LHp} {Q : LHp → Prop} {xs : List α} (ι : α → PV) (g : α → PV) (hD : L1 D = none) (hG : ∀ L, Keep L1 L → Gd L) (hl : xs.length ≤ 16777216)
    (hs : ∀ x ∈ xs, ∀ L N, Keep L1 L → (∀ L', Keep L L' → N (some (g x)) L') → step (ι x) L N) (hQ : ∀ L', Keep L1 L' → L' D = some (.lst (xs.map g)) → Q L') : lcW Gd step D (xs.map ι) (lupd L1 D (.lst [])) Q :=
  lc_on ι (fun x => some (g x)) hD hG xs [] _ (.new hD) lupd_same (by simpa using hl) hs fun L' k e => hQ L' k (by rw [e]; simp)
theorem lc_some {α : Type} {Gd : LHp → Prop} {step : PV → LHp → (Option PV → LHp → Prop) → Prop} {D : Addr} {L1 : LHp} {Q : LHp → Prop} {xs : List α} (ι : α → PV) (f : α → Option PV) (hD : L1 D = none) (hG : ∀ L, Keep L1 L → Gd L) (hl : xs.length ≤ 16777216)
    (hs : ∀ x ∈ xs, ∀ L N, Keep L1 L → (∀ L', Keep L L' → N (f x) L') → step (ι x) L N) (hQ : ∀ L', Keep L1 L' → L' D = some (.lst (xs.filterMap f)) → Q L') : lcW Gd step D (xs.map ι) (lupd L1 D (.lst [])) Q :=
  lc_on ι f hD hG xs [] _ (.new hD) lupd_same (by simpa using hl) hs (by simpa using hQ)
theorem dc_map {Gd : LHp → Prop} {step : PV → LHp → (Option (PV × PV) → LHp → Prop) → Prop} {D : Addr} {L1 : LHp} {Q : LHp → Prop} (f : PV → Option (PV × PV)) (hD : L1 D = none) (hG : ∀ L, Keep L1 L → Gd L) :
    ∀ (xs : List PV) (acc : List (PV × PV)) (L : LHp), Keep L1 L → L D = some (.kdct acc) → acc.length + xs.length ≤ 16777216 → (∀ x ∈ xs, ∀ p, f x = some p → ∃ c, toKey p.1 = some c) →
      (∀ x ∈ xs, ∀ L N, Keep L1 L → (∀ L', Keep L L' → N (f x) L') → step x L N) → (∀ L', Keep L1 L' → L' D = some (.dct ((xs.filterMap f).foldl (fun a p => dput a p.1 p.2) acc)) → Q L') → dcW Gd step D xs L Q
  | [], acc, L, k, e, _, _, _, hQ => ⟨hG L k, acc, e, hQ _ (k.put hD) lupd_same⟩
  | x :: r, acc, L, k, e, hl, hk, hs, hQ => by
    rw [List.length_cons] at hl
    refine ⟨hG L k, hs x List.mem_cons_self L _ k fun L' k' => ?_⟩
    cases hf : f x with
    | none =>
      refine dc_map f hD hG r acc L' (k.trans k') (k' _ _ e) (by omega) (fun y hy => hk y (List.mem_cons_of_mem _ hy)) (fun y hy => hs y (List.mem_cons_of_mem _ hy)) fun L2 k2 e2 => hQ L2 k2 ?_
      rw [e2, List.filterMap_cons, hf]
    | some p =>
      obtain ⟨c, v⟩ := p
      refine ⟨acc, k' _ _ e, hk x List.mem_cons_self _ hf, by omega, ?_⟩
      refine dc_map f hD hG r (dput acc c v) _ ((k.trans k').put hD) lupd_same ?_ (fun y hy => hk y (List.mem_cons_of_mem _ hy)) (fun y hy => hs y (List.mem_cons_of_mem _ hy)) fun L2 k2 e2 => hQ L2 k2 ?_
      · have : (dput acc c v).length ≤ acc.length + 1 := dput_len _ _ _
        omega
      · rw [e2, List.filterMap_cons, hf]
        rfl
theorem dc_map0 {Gd : LHp → Prop} {step : PV → LHp → (Option (PV × PV) → LHp → Prop) → Prop} {D : Addr} {L1 : LHp} {Q : LHp → Prop} {xs : List PV} (f : PV → Option (PV × PV)) (hD : L1 D = none) (hG : ∀ L, Keep L1 L → Gd L) (hl : xs.length ≤ 16777216) (hk : ∀ x ∈ xs, ∀ p, f x = some p → ∃ c, toKey p.1 = some c)
    (hs : ∀ x ∈ xs, ∀ L N, Keep L1 L → (∀ L', Keep L L' → N (f x) L') → step x L N) (hQ : ∀ L', Keep L1 L' → L' D = some (.dct ((xs.filterMap f).foldl (fun a p => dput a p.1 p.2) [])) → Q L') : dcW Gd step D xs (lupd L1 D (.kdct [])) Q :=
  dc_map f hD hG xs [] _ (.new hD) lupd_same (by simpa using hl) hk hs hQ
/-- a loop by what holds at each turn -/
theorem for_by {Gd : LHp → Prop} {step : PV → LSt → LHp → (LSt → LHp → Prop) → Prop} {Q : LSt → LHp → Prop} (I : Nat → LSt → LHp → Prop) (all : List PV) (hG : ∀ i ls L, i ≤ all.length → I i ls L → Gd L)
    (hs : ∀ i x ls L N, all[i]? = some x → I i ls L → (∀ ls' L', I (i + 1) ls' L' → N ls' L') → step x ls L N) (hQ : ∀ ls L, I all.length ls L → Q ls L) :
    ∀ (xs : List PV) (i : Nat) (ls : LSt) (L : LHp), xs = all.drop i → i ≤ all.length → I i ls L → forW Gd step xs ls L Q
  | [], i, ls, L, e, hi, h => by
    have : i = all.length := by
      have := congrArg List.length e
      rw [List.length_drop, List.length_nil] at this
      omega
    subst this
    exact ⟨hG _ ls L hi h, hQ ls L h⟩
  | x :: r, i, ls, L, e, hi, h => by
    have hlt : i < all.length := by
      have := congrArg List.length e
      rw [List.length_drop, List.length_cons] at this
      omega
    have hx : all[i]? = some x := by
      have := List.getElem?_drop (xs := all) (i := i) (j := 0)
      rw [← e] at this
      simpa using this.symm
    refine ⟨hG i ls L hi h, hs i x ls L _ hx h fun ls' L' h' => for_by I all hG hs hQ r (i + 1) ls' L' ?_ hlt h'⟩
    rw [List.drop_eq_getElem_cons hlt] at e
    exact (List.cons.inj e).2
theorem for_by0 {Gd : LHp → Prop} {step : PV → LSt → LHp → (LSt → LHp → Prop) → Prop} {Q : LSt → LHp → Prop} {all : List PV} {ls : LSt} {L : LHp} (I : Nat → LSt → LHp → Prop) (h : I 0 ls L) (hG : ∀ i ls L, i ≤ all.length → I i ls L → Gd L)
    (hs : ∀ i x ls L N, all[i]? = some x → I i ls L → (∀ ls' L', I (i + 1) ls' L' → N ls' L') → step x ls L N) (hQ : ∀ ls L, I all.length ls L → Q ls L) : forW Gd step all ls L Q :=
  for_by I all hG hs hQ all 0 ls L rfl (Nat.zero_le _) h
end DP

set_option Elab.async false
set_option linter.all false
set_option maxRecDepth 100000
set_option maxHeartbeats 4000000
/-! shared defs -/
namespace LB
open PySem PySem.Spec PyProof.Rows L2 DP
def dwhole : Def := ⟨["value"], ["value"], (
  .cons (.ret (.an (.bf .isi (.cons (.var 0) (.cons (.ty "int") .nil))) (.nt (.bf .isi (.cons (.var 0) (.cons (.ty "bool") .nil)))))) <| .nil)⟩
def dwithin : Def := ⟨["value", "low", "high"], ["value", "low", "high"], (
  .cons (.ret (.an (.call "whole" (.cons (.var 0) .nil)) (.chn (.q .le) (.q .le) (.var 1) (.var 0) (.var 2)))) <| .nil)⟩
def dneed_number : Def := ⟨["value", "low", "high"], ["value", "low", "high"], (
  .cons (.ite (.nt (.call "within" (.cons (.var 0) (.cons (.var 1) (.cons (.var 2) .nil))))) (
   .cons .raise <| .nil) ( .nil)) <| .nil)⟩
def dtuple_of : Def := ⟨["value", "low", "high"], ["value", "low", "high"], (
  .cons (.ret (.an (.bf .isi (.cons (.var 0) (.cons (.ty "tuple") .nil))) (.chn (.q .le) (.q .le) (.var 1) (.bf .len (.cons (.var 0) .nil)) (.var 2)))) <| .nil)⟩
def dneed_net : Def := ⟨["net", "index", "pair", "point"], ["net"], (
  .cons (.ite (.orr (.nt (.call "tuple_of" (.cons (.var 0) (.cons (.cst (.int 2)) (.cons (.cst (.int 2)) .nil))))) (.orr (.nt (.call "within" (.cons (.ix (.var 0) (.cst (.int 0))) (.cons (.cst (.int 1)) (.cons (.con "MOST_POINTS_checks") .nil))))) (.nt (.call "tuple_of" (.cons (.ix (.var 0) (.cst (.int 1))) (.cons (.cst (.int 0)) (.cons (.cst (.int 66)) .nil))))))) (
   .cons .raise <| .nil) ( .nil)) <|
  .cons (.for (.tp [1, 2]) (.enum (.ix (.var 0) (.cst (.int 1)))) (
   .cons (.ite (.orr (.nt (.call "tuple_of" (.cons (.var 2) (.cons (.cst (.int 2)) (.cons (.cst (.int 2)) .nil))))) (.nt (.bf .all (.cons (.lc (.call "within" (.cons (.var 3) (.cons (.cst (.int 0)) (.cons (.bin .sub (.ix (.var 0) (.cst (.int 0))) (.cst (.int 1))) .nil)))) (.nm 3) (.seq (.var 2)) .nil [3]) .nil)))) (
    .cons .raise <| .nil) ( .nil)) <|
   .cons (.ite (.orr (.cmp (.q .ge) (.ix (.var 2) (.cst (.int 0))) (.ix (.var 2) (.cst (.int 1)))) (.an (.cmp (.q .gt) (.var 1) (.cst (.int 0))) (.cmp (.q .le) (.var 2) (.ix (.ix (.var 0) (.cst (.int 1))) (.bin .sub (.var 1) (.cst (.int 1))))))) (
    .cons .raise <| .nil) ( .nil)) <| .nil)) <| .nil)⟩
def dis_points : Def := ⟨["net", "value", "at", "point"], ["net", "value"], (
  .cons (.ite (.orr (.nt (.call "tuple_of" (.cons (.var 1) (.cons (.cst (.int 0)) (.cons (.ix (.var 0) (.cst (.int 0))) .nil))))) (.nt (.bf .all (.cons (.lc (.call "within" (.cons (.var 3) (.cons (.cst (.int 0)) (.cons (.bin .sub (.ix (.var 0) (.cst (.int 0))) (.cst (.int 1))) .nil)))) (.nm 3) (.seq (.var 1)) .nil [3]) .nil)))) (
   .cons (.ret (.cst (.bl false))) <| .nil) ( .nil)) <|
  .cons (.ret (.bf .all (.cons (.lc (.cmp (.q .lt) (.ix (.var 1) (.var 2)) (.ix (.var 1) (.bin .add (.var 2) (.cst (.int 1))))) (.nm 2) (.rng (.cons (.bin .sub (.bf .len (.cons (.var 1) .nil)) (.cst (.int 1))) .nil)) .nil [2]) .nil))) <| .nil)⟩
def dneed_points : Def := ⟨["net", "points"], ["net", "points"], (
  .cons (.ite (.nt (.call "is_points" (.cons (.var 0) (.cons (.var 1) .nil)))) (
   .cons .raise <| .nil) ( .nil)) <| .nil)⟩
def dnear_of : Def := ⟨["net", "found", "one", "other", "point", "points"], ["net"], (
  .cons (.asg (.nm 1) (.lc (.lst .nil) (.nm 4) (.rng (.cons (.ix (.var 0) (.cst (.int 0))) .nil)) .nil [4])) <|
  .cons (.for (.tp [2, 3]) (.seq (.ix (.var 0) (.cst (.int 1)))) (
   .cons (.expr (.mt .append (.ix (.var 1) (.var 2)) (.cons (.var 3) .nil))) <|
   .cons (.expr (.mt .append (.ix (.var 1) (.var 3)) (.cons (.var 2) .nil))) <| .nil)) <|
  .cons (.ret (.lc (.bf .sorted (.cons (.var 5) .nil)) (.nm 5) (.seq (.var 1)) .nil [5])) <| .nil)⟩
def dreach : Def := ⟨["near", "start", "kept", "found", "rim", "here", "point"], ["near", "start", "kept"], (
  .cons (.asg (.tp [3, 4]) (.tup (.cons (.dct1 (.var 1) (.cst (.bl true))) (.cons (.lst (.cons (.var 1) .nil)) .nil)))) <|
  .cons (.whl (.cmp .ne (.var 4) (.lst .nil)) (
   .cons (.asg (.nm 5) (.mt .pop (.var 4) .nil)) <|
   .cons (.for (.nm 6) (.seq (.ix (.var 0) (.var 5))) (
    .cons (.ite (.an (.cmp .inn (.var 6) (.var 2)) (.cmp .nin (.var 6) (.var 3))) (
     .cons (.put (.var 3) (.var 6) (.cst (.bl true))) <|
     .cons (.expr (.mt .append (.var 4) (.cons (.var 6) .nil))) <| .nil) ( .nil)) <| .nil)) <| .nil)) <|
  .cons (.ret (.bf .tuple (.cons (.bf .sorted (.cons (.var 3) .nil)) .nil))) <| .nil)⟩
def dline : Def := ⟨["many", "point"], ["many"], (
  .cons (.expr (.call "need_number" (.cons (.var 0) (.cons (.cst (.int 1)) (.cons (.con "MOST_POINTS_checks") .nil))))) <|
  .cons (.ret (.tup (.cons (.var 0) (.cons (.bf .tuple (.cons (.lc (.tup (.cons (.var 1) (.cons (.bin .add (.var 1) (.cst (.int 1))) .nil))) (.nm 1) (.rng (.cons (.bin .sub (.var 0) (.cst (.int 1))) .nil)) .nil [1]) .nil)) .nil)))) <| .nil)⟩
def dring : Def := ⟨["many", "point"], ["many"], (
  .cons (.expr (.call "need_number" (.cons (.var 0) (.cons (.cst (.int 3)) (.cons (.con "MOST_POINTS_checks") .nil))))) <|
  .cons (.ret (.tup (.cons (.var 0) (.cons (.bf .tuple (.cons (.bf .sorted (.cons (.bin .add (.lc (.tup (.cons (.var 1) (.cons (.bin .add (.var 1) (.cst (.int 1))) .nil))) (.nm 1) (.rng (.cons (.bin .sub (.var 0) (.cst (.int 1))) .nil)) .nil [1]) (.lst (.cons (.tup (.cons (.cst (.int 0)) (.cons (.bin .sub (.var 0) (.cst (.int 1))) .nil))) .nil))) .nil)) .nil)) .nil)))) <| .nil)⟩
def dstar : Def := ⟨["many", "point"], ["many"], (
  .cons (.expr (.call "need_number" (.cons (.var 0) (.cons (.cst (.int 1)) (.cons (.con "MOST_POINTS_checks") .nil))))) <|
  .cons (.ret (.tup (.cons (.var 0) (.cons (.bf .tuple (.cons (.lc (.tup (.cons (.cst (.int 0)) (.cons (.var 1) .nil))) (.nm 1) (.rng (.cons (.cst (.int 1)) (.cons (.var 0) .nil))) .nil [1]) .nil)) .nil)))) <| .nil)⟩
def dmay_put : Def := ⟨["near", "points", "point", "most", "kept", "other"], ["near", "points", "point", "most"], (
  .cons (.ite (.cmp .inn (.var 2) (.var 1)) (
   .cons (.ret (.cst (.bl false))) <| .nil) ( .nil)) <|
  .cons (.asg (.nm 4) (.dc (.var 5) (.cst (.bl true)) (.nm 5) (.seq (.bin .add (.var 1) (.tup (.cons (.var 2) .nil)))) .nil [5])) <|
  .cons (.ret (.cmp (.q .le) (.bf .len (.cons (.call "reach" (.cons (.var 0) (.cons (.var 2) (.cons (.var 4) .nil)))) .nil)) (.var 3))) <| .nil)⟩
def dis_fine : Def := ⟨["near", "points", "most", "kept", "point"], ["near", "points", "most"], (
  .cons (.asg (.nm 3) (.dc (.var 4) (.cst (.bl true)) (.nm 4) (.seq (.var 1)) .nil [4])) <|
  .cons (.ret (.bf .all (.cons (.lc (.cmp (.q .le) (.bf .len (.cons (.call "reach" (.cons (.var 0) (.cons (.var 4) (.cons (.var 3) .nil)))) .nil)) (.var 2)) (.nm 4) (.seq (.var 1)) .nil [4]) .nil))) <| .nil)⟩
def dneed_stones : Def := ⟨["net", "points", "most", "near"], ["net", "points", "most"], (
  .cons (.expr (.call "need_net" (.cons (.var 0) .nil))) <|
  .cons (.expr (.call "need_points" (.cons (.var 0) (.cons (.var 1) .nil)))) <|
  .cons (.expr (.call "need_number" (.cons (.var 2) (.cons (.cst (.int 1)) (.cons (.ix (.var 0) (.cst (.int 0))) .nil))))) <|
  .cons (.asg (.nm 3) (.call "near_of" (.cons (.var 0) .nil))) <|
  .cons (.ite (.nt (.call "is_fine" (.cons (.var 3) (.cons (.var 1) (.cons (.var 2) .nil))))) (
   .cons .raise <| .nil) ( .nil)) <|
  .cons (.ite (.cmp (.q .gt) (.ix (.var 0) (.cst (.int 0))) (.con "MOST_POINTS_stones")) (
   .cons .raise <| .nil) ( .nil)) <|
  .cons (.ret (.var 3)) <| .nil)⟩
def dfree_points : Def := ⟨["net", "points", "most", "near", "point"], ["net", "points", "most"], (
  .cons (.asg (.nm 3) (.call "need_stones" (.cons (.var 0) (.cons (.var 1) (.cons (.var 2) .nil))))) <|
  .cons (.ret (.lc (.var 4) (.nm 4) (.rng (.cons (.ix (.var 0) (.cst (.int 0))) .nil)) (.cons (.call "may_put" (.cons (.var 3) (.cons (.var 1) (.cons (.var 4) (.cons (.var 2) .nil))))) .nil) [4])) <| .nil)⟩
def dworth_of : Def := ⟨["near", "points", "most", "known", "some", "point", "found"], ["near", "points", "most", "known"], (
  .cons (.ite (.cmp .nin (.var 1) (.var 3)) (
   .cons (.asg (.nm 4) .dct0) <|
   .cons (.for (.nm 5) (.rng (.cons (.bf .len (.cons (.var 0) .nil)) .nil)) (
    .cons (.ite (.call "may_put" (.cons (.var 0) (.cons (.var 1) (.cons (.var 5) (.cons (.var 2) .nil))))) (
     .cons (.put (.var 4) (.call "worth_of" (.cons (.var 0) (.cons (.bf .tuple (.cons (.bf .sorted (.cons (.bin .add (.var 1) (.tup (.cons (.var 5) .nil))) .nil)) .nil)) (.cons (.var 2) (.cons (.var 3) .nil))))) (.cst (.bl true))) <| .nil) ( .nil)) <| .nil)) <|
   .cons (.asg (.nm 6) (.cst (.int 0))) <|
   .cons (.whl (.cmp .inn (.var 6) (.var 4)) (
    .cons (.aug 6 .add (.cst (.int 1))) <| .nil)) <|
   .cons (.put (.var 3) (.var 1) (.var 6)) <| .nil) ( .nil)) <|
  .cons (.ret (.ix (.var 3) (.var 1))) <| .nil)⟩
def dworth : Def := ⟨["net", "points", "most", "near"], ["net", "points", "most"], (
  .cons (.asg (.nm 3) (.call "need_stones" (.cons (.var 0) (.cons (.var 1) (.cons (.var 2) .nil))))) <|
  .cons (.ret (.call "worth_of" (.cons (.var 3) (.cons (.var 1) (.cons (.var 2) (.cons .dct0 .nil)))))) <| .nil)⟩
def dwinning_points : Def := ⟨["net", "points", "most", "found", "point", "near", "known"], ["net", "points", "most"], (
  .cons (.asg (.tp [5, 6]) (.tup (.cons (.call "need_stones" (.cons (.var 0) (.cons (.var 1) (.cons (.var 2) .nil)))) (.cons .dct0 .nil)))) <|
  .cons (.asg (.nm 3) (.lst .nil)) <|
  .cons (.for (.nm 4) (.rng (.cons (.ix (.var 0) (.cst (.int 0))) .nil)) (
   .cons (.ite (.call "may_put" (.cons (.var 5) (.cons (.var 1) (.cons (.var 4) (.cons (.var 2) .nil))))) (
    .cons (.ite (.cmp .eq (.call "worth_of" (.cons (.var 5) (.cons (.bf .tuple (.cons (.bf .sorted (.cons (.bin .add (.var 1) (.tup (.cons (.var 4) .nil))) .nil)) .nil)) (.cons (.var 2) (.cons (.var 6) .nil))))) (.cst (.int 0))) (
     .cons (.expr (.mt .append (.var 3) (.cons (.var 4) .nil))) <| .nil) ( .nil)) <| .nil) ( .nil)) <| .nil)) <|
  .cons (.ret (.var 3)) <| .nil)⟩
def dmost_stones : Def := ⟨["net", "most", "near", "best", "mask", "points", "point"], ["net", "most"], (
  .cons (.asg (.nm 2) (.call "need_stones" (.cons (.var 0) (.cons (.tup .nil) (.cons (.var 1) .nil))))) <|
  .cons (.asg (.nm 3) (.tup .nil)) <|
  .cons (.for (.nm 4) (.rng (.cons (.bin .shl (.cst (.int 1)) (.ix (.var 0) (.cst (.int 0)))) .nil)) (
   .cons (.asg (.nm 5) (.bf .tuple (.cons (.lc (.var 6) (.nm 6) (.rng (.cons (.ix (.var 0) (.cst (.int 0))) .nil)) (.cons (.cmp .eq (.bin .band (.bin .shr (.var 4) (.var 6)) (.cst (.int 1))) (.cst (.int 1))) .nil) [6]) .nil))) <|
   .cons (.ite (.orr (.cmp (.q .gt) (.bf .len (.cons (.var 5) .nil)) (.bf .len (.cons (.var 3) .nil))) (.an (.cmp .eq (.bf .len (.cons (.var 5) .nil)) (.bf .len (.cons (.var 3) .nil))) (.cmp (.q .lt) (.var 5) (.var 3)))) (
    .cons (.ite (.call "is_fine" (.cons (.var 2) (.cons (.var 5) (.cons (.var 1) .nil)))) (
     .cons (.asg (.nm 3) (.var 5)) <| .nil) ( .nil)) <| .nil) ( .nil)) <| .nil)) <|
  .cons (.ret (.var 3)) <| .nil)⟩
def dcount_stones : Def := ⟨["net", "most", "near", "counts", "mask", "points", "point"], ["net", "most"], (
  .cons (.asg (.nm 2) (.call "need_stones" (.cons (.var 0) (.cons (.tup .nil) (.cons (.var 1) .nil))))) <|
  .cons (.asg (.nm 3) (.bin .mul (.lst (.cons (.cst (.int 0)) .nil)) (.bin .add (.ix (.var 0) (.cst (.int 0))) (.cst (.int 1))))) <|
  .cons (.for (.nm 4) (.rng (.cons (.bin .shl (.cst (.int 1)) (.ix (.var 0) (.cst (.int 0)))) .nil)) (
   .cons (.asg (.nm 5) (.bf .tuple (.cons (.lc (.var 6) (.nm 6) (.rng (.cons (.ix (.var 0) (.cst (.int 0))) .nil)) (.cons (.cmp .eq (.bin .band (.bin .shr (.var 4) (.var 6)) (.cst (.int 1))) (.cst (.int 1))) .nil) [6]) .nil))) <|
   .cons (.ite (.call "is_fine" (.cons (.var 2) (.cons (.var 5) (.cons (.var 1) .nil)))) (
    .cons (.augS (.var 3) (.bf .len (.cons (.var 5) .nil)) .add (.cst (.int 1))) <| .nil) ( .nil)) <| .nil)) <|
  .cons (.whl (.cmp .eq (.ix (.var 3) (.neg (.cst (.int 1)))) (.cst (.int 0))) (
   .cons (.expr (.mt .pop (.var 3) .nil)) <| .nil)) <|
  .cons (.ret (.bf .tuple (.cons (.var 3) .nil))) <| .nil)⟩
def dfewest_full : Def := ⟨["net", "most", "near", "best", "mask", "points", "point"], ["net", "most"], (
  .cons (.asg (.nm 2) (.call "need_stones" (.cons (.var 0) (.cons (.tup .nil) (.cons (.var 1) .nil))))) <|
  .cons (.asg (.nm 3) (.cst .non)) <|
  .cons (.for (.nm 4) (.rng (.cons (.bin .shl (.cst (.int 1)) (.ix (.var 0) (.cst (.int 0)))) .nil)) (
   .cons (.asg (.nm 5) (.bf .tuple (.cons (.lc (.var 6) (.nm 6) (.rng (.cons (.ix (.var 0) (.cst (.int 0))) .nil)) (.cons (.cmp .eq (.bin .band (.bin .shr (.var 4) (.var 6)) (.cst (.int 1))) (.cst (.int 1))) .nil) [6]) .nil))) <|
   .cons (.ite (.orr (.isN false (.var 3)) (.cmp (.q .lt) (.tup (.cons (.bf .len (.cons (.var 5) .nil)) (.cons (.var 5) .nil))) (.tup (.cons (.bf .len (.cons (.var 3) .nil)) (.cons (.var 3) .nil))))) (
    .cons (.ite (.call "is_fine" (.cons (.var 2) (.cons (.var 5) (.cons (.var 1) .nil)))) (
     .cons (.ite (.nt (.bf .any (.cons (.lc (.call "may_put" (.cons (.var 2) (.cons (.var 5) (.cons (.var 6) (.cons (.var 1) .nil))))) (.nm 6) (.rng (.cons (.ix (.var 0) (.cst (.int 0))) .nil)) .nil [6]) .nil))) (
      .cons (.asg (.nm 3) (.var 5)) <| .nil) ( .nil)) <| .nil) ( .nil)) <| .nil) ( .nil)) <| .nil)) <|
  .cons (.ret (.var 3)) <| .nil)⟩
def d_law_taken : Def := ⟨["_law_row", "_law_many", "_law_cell", "_law_found"], ["_law_row", "_law_many"], (
  .cons (.ite (.cmp (.q .gt) (.ix (.var 0) (.cst (.int 3))) (.cst (.int 0))) (
   .cons (.asg (.nm 3) (.bin .mod (.bf .int (.cons (.ix (.var 0) (.cst (.int 3))) .nil)) (.var 1))) <|
   .cons (.put (.var 0) (.cst (.int 3)) (.bin .fdiv (.ix (.var 0) (.cst (.int 3))) (.var 1))) <|
   .cons (.ret (.var 3)) <| .nil) ( .nil)) <|
  .cons (.put (.var 0) (.cst (.int 1)) (.bin .add (.ix (.var 0) (.cst (.int 1))) (.cst (.int 1)))) <|
  .cons (.ite (.cmp (.q .gt) (.ix (.var 0) (.cst (.int 1))) (.bf .len (.cons (.ix (.var 0) (.cst (.int 0))) .nil))) (
   .cons (.put (.var 0) (.cst (.int 2)) (.bin .mod (.bf .int (.cons (.bin .add (.bin .mul (.ix (.var 0) (.cst (.int 2))) (.cst (.int 48271))) (.cst (.int 11))) .nil)) (.cst (.int 2147483647)))) <|
   .cons (.ret (.bin .mod (.bf .int (.cons (.bin .fdiv (.ix (.var 0) (.cst (.int 2))) (.cst (.int 7))) .nil)) (.var 1))) <| .nil) ( .nil)) <|
  .cons (.asg (.nm 2) (.ix (.ix (.var 0) (.cst (.int 0))) (.bin .sub (.ix (.var 0) (.cst (.int 1))) (.cst (.int 1))))) <|
  .cons (.put (.var 0) (.cst (.int 2)) (.bin .mod (.bf .int (.cons (.bin .add (.bin .add (.bin .mul (.ix (.var 0) (.cst (.int 2))) (.cst (.int 48271))) (.var 2)) (.cst (.int 11))) .nil)) (.cst (.int 2147483647)))) <|
  .cons (.ite (.cmp (.q .ge) (.var 2) (.bin .pow (.cst (.int 10)) (.cst (.int 18)))) (
   .cons (.put (.var 0) (.cst (.int 3)) (.bin .fdiv (.var 2) (.var 1))) <| .nil) ( .nil)) <|
  .cons (.ret (.bin .mod (.bf .int (.cons (.var 2) .nil)) (.var 1))) <| .nil)⟩
structure Has (P : Prg) : Prop where
  h_whole : P.fns "whole" = some dwhole
  h_within : P.fns "within" = some dwithin
  h_need_number : P.fns "need_number" = some dneed_number
  h_tuple_of : P.fns "tuple_of" = some dtuple_of
  h_need_net : P.fns "need_net" = some dneed_net
  h_is_points : P.fns "is_points" = some dis_points
  h_need_points : P.fns "need_points" = some dneed_points
  h_near_of : P.fns "near_of" = some dnear_of
  h_reach : P.fns "reach" = some dreach
  h_line : P.fns "line" = some dline
  h_ring : P.fns "ring" = some dring
  h_star : P.fns "star" = some dstar
  h_may_put : P.fns "may_put" = some dmay_put
  h_is_fine : P.fns "is_fine" = some dis_fine
  h_need_stones : P.fns "need_stones" = some dneed_stones
  h_free_points : P.fns "free_points" = some dfree_points
  h_worth_of : P.fns "worth_of" = some dworth_of
  h_worth : P.fns "worth" = some dworth
  h_winning_points : P.fns "winning_points" = some dwinning_points
  h_most_stones : P.fns "most_stones" = some dmost_stones
  h_count_stones : P.fns "count_stones" = some dcount_stones
  h_fewest_full : P.fns "fewest_full" = some dfewest_full
  h__law_taken : P.fns "_law_taken" = some d_law_taken
  c_MOST_POINTS_checks : P.con "MOST_POINTS_checks" = some 12
  c_MOST_POINTS_stones : P.con "MOST_POINTS_stones" = some 10
end LB

set_option Elab.async false
set_option linter.all false
set_option maxRecDepth 100000
set_option maxHeartbeats 4000000
/-! what the shared functions give: checks -/
namespace LB
open PySem DP
local macro_rules | `(tactic| walk_at "wp") => `(tactic| simp only [wpSs, wpS, wpE, wpA, wpO, wpIf, wpI, startL, List.map_cons, List.map_nil, List.length_cons, List.length_nil, List.replicate, List.cons_append, List.nil_append, List.getElem?_cons_zero, List.getElem?_cons_succ, Nat.sub_self,
  Option.some.injEq, exists_eq_left', exists_eq_left, tst_bl, ordW_i, eqW_i, addW_i, mulW_i, intW2_i, cmpW, binW, bfW, mtW, isiW_i, isiW_tup, QOp.int, PV.bl.injEq, PV.int.injEq, Nat.reduceAdd, Nat.reduceSub, lenW_tup, tupleW_tup, intW_i, rgW_1, rgW_2, ixW_t0, ixW_t1, srcW_tup, srcW_rol, enumW_tup, asgT_nm, asgT_tp, setsL, List.set_cons_zero, List.set_cons_succ, wipeL, Bool.not_eq_true', if_true, Bool.false_eq_true, if_false, true_and, and_true])
variable {P : Prg} {k : Nat} {L : LHp} {Q : K1} {E : KX}
theorem whole_s (hP : Has P) {i : Int} (q : Q (.bl true) L) : callW P (k + 1) "whole" [.int i] L Q E := by
  refine call_d hP.h_whole rfl ?_
  unfold dwhole
  walk_at "wp"
  exact ⟨by decide, by simpa [isiB] using ⟨by decide, q⟩⟩
theorem within_s (hP : Has P) {v lo hi : Int} (q : Q (.bl (decide (lo ≤ v ∧ v ≤ hi))) L) : callW P (k + 2) "within" [.int v, .int lo, .int hi] L Q E := by
  refine call_d hP.h_within rfl ?_
  unfold dwithin
  walk_at "wp"
  refine whole_s hP ?_
  walk_at "wp"
  by_cases h : lo ≤ v
  · simpa [h] using q
  · simpa [h] using q
theorem need_number_s (hP : Has P) {v lo hi : Int} (h : lo ≤ v ∧ v ≤ hi) (q : Q .non L) : callW P (k + 3) "need_number" [.int v, .int lo, .int hi] L Q E := by
  refine call_d hP.h_need_number rfl ?_
  unfold dneed_number
  walk_at "wp"
  refine within_s hP ?_
  walk_at "wp"
  simpa [h] using q
theorem tuple_of_s (hP : Has P) {xs : List PV} {lo hi : Int} (q : Q (.bl (decide (lo ≤ xs.length ∧ (xs.length : Int) ≤ hi))) L) : callW P (k + 1) "tuple_of" [.tup xs, .int lo, .int hi] L Q E := by
  refine call_d hP.h_tuple_of rfl ?_
  unfold dtuple_of
  walk_at "wp"
  refine ⟨by decide, ?_⟩
  by_cases h : lo ≤ xs.length
  · simpa [h, isiB] using q
  · simpa [h, isiB] using q

/-! ### nets -/
def prP (p : Int × Int) : PV := .tup [.int p.1, .int p.2]
def netP (n : Int) (ps : List (Int × Int)) : PV := .tup [.int n, .tup (ps.map prP)]
def ptsP (xs : List Int) : PV := .tup (xs.map .int)
def inB (n v : Int) : Bool := decide (0 ≤ v ∧ v ≤ n - 1)
/-- a whole net -/
structure NetOk (n : Int) (ps : List (Int × Int)) : Prop where
  n1 : 1 ≤ n ∧ n ≤ 12
  len : ps.length ≤ 66
  ins : ∀ p ∈ ps, 0 ≤ p.1 ∧ p.1 < p.2 ∧ p.2 ≤ n - 1
  up : ∀ i p q, ps[i]? = some p → ps[i + 1]? = some q → p.1 < q.1 ∨ (p.1 = q.1 ∧ p.2 < q.2)
theorem enumP_map {α : Type} (ι : α → PV) : ∀ (s : Nat) (xs : List α), enumP s (xs.map ι) = (xs.zipIdx s).map fun p => .tup [.int (p.2 : Nat), ι p.1]
  | _, [] => rfl
  | s, x :: r => by
    rw [List.map_cons]
    unfold enumP
    rw [enumP_map ι (s + 1) r, List.zipIdx_cons, List.map_cons]
theorem ixW_pr0 (p : Int × Int) (L : LHp) (Q : K1) : ixW (prP p) (.int 0) L Q = Q (.int p.1) L := ixW_t0 _ _ _ _
theorem ixW_pr1 (p : Int × Int) (L : LHp) (Q : K1) : ixW (prP p) (.int 1) L Q = Q (.int p.2) L := ixW_t1 _ _ _ _ _
theorem ixW_n0 (n : Int) (ps : List (Int × Int)) (L : LHp) (Q : K1) : ixW (netP n ps) (.int 0) L Q = Q (.int n) L := ixW_t0 _ _ _ _
theorem ixW_n1 (n : Int) (ps : List (Int × Int)) (L : LHp) (Q : K1) : ixW (netP n ps) (.int 1) L Q = Q (.tup (ps.map prP)) L := ixW_t1 _ _ _ _ _
theorem srcW_pts (xs : List Int) (L : LHp) (R : KI) : srcW (ptsP xs) L R = R (xs.map .int) (fun _ => True) L := rfl
theorem lenW_pts (xs : List Int) (L : LHp) (Q : K1) : lenW [ptsP xs] L Q = Q (.int xs.length) L := by rw [← List.length_map (f := PV.int)]; rfl
theorem srcW_pr (p : Int × Int) (L : LHp) (R : KI) : srcW (prP p) L R = R [.int p.1, .int p.2] (fun _ => True) L := rfl
local macro_rules | `(tactic| walk_at "wn") => `(tactic| simp only [wpSs, wpS, wpE, wpA, wpO, wpIf, wpI, startL, List.map_cons, List.map_nil, List.length_cons, List.length_nil, List.replicate, List.cons_append, List.nil_append, List.getElem?_cons_zero, List.getElem?_cons_succ, Nat.sub_self,
  Option.some.injEq, exists_eq_left', exists_eq_left, tst_bl, ordW_i, eqW_i, addW_i, mulW_i, intW2_i, cmpW, binW, bfW, mtW, isiW_i, isiW_tup, QOp.int, PV.bl.injEq, PV.int.injEq, Nat.reduceAdd, Nat.reduceSub, lenW_tup, tupleW_tup, intW_i, rgW_1, rgW_2, ixW_t0, ixW_t1, srcW_tup, srcW_rol, enumW_tup, asgT_nm, asgT_tp, setsL, List.set_cons_zero, List.set_cons_succ, wipeL, Bool.not_eq_true', if_true, Bool.false_eq_true, if_false, true_and, and_true, ixW_pr0, ixW_pr1, ixW_n0, ixW_n1, srcW_pr, srcW_pts, lenW_pts])
theorem small_pr (p : Int × Int) : small (prP p) = true := by simp [small, prP, DP.plain, DP.plainL, pdep, pdepL]
theorem ordW_pr (p r : Int × Int) (L : LHp) (Q : K1) (q : Q (.bl (decide (p.1 < r.1 ∨ (p.1 = r.1 ∧ p.2 ≤ r.2)))) L) : ordW .le (prP p) (prP r) L Q := by
  refine ⟨small_pr p, small_pr r, by simp [prP, cb, cbL], ?_⟩
  have e : qB .le (prP p) (prP r) = decide (p.1 < r.1 ∨ (p.1 = r.1 ∧ p.2 ≤ r.2)) := by
    unfold prP qB qBL
    by_cases h : p.1 = r.1
    · rw [if_pos (by rw [h])]
      unfold qBL
      by_cases h2 : p.2 = r.2
      · rw [if_pos (by rw [h2])]
        simp [qBL, QOp.len, h, h2]
      · rw [if_neg (by simpa using h2)]
        simp [qB, QOp.int, h]
    · rw [if_neg (by simpa using h)]
      simp [qB, QOp.int, h]
      omega
  rw [e]; exact q
theorem iteF' {b : Bool} {A B : Prop} (h : b = true) (q : B) : (if b = false then A else B) := by
  subst h
  simpa using q
theorem iteN {b : Bool} {A B : Prop} (h : b = false) (q : B) : (if b = true then A else B) := by
  subst h
  simpa using q
theorem iteY {b : Bool} {A B : Prop} (h : b = true) (q : A) : (if b = true then A else B) := by
  subst h
  simpa using q
theorem iteT' {b : Bool} {A B : Prop} (h : b = false) (q : A) : (if b = false then A else B) := by
  subst h
  simpa using q
theorem need_net_s (hP : Has P) {n : Int} {ps : List (Int × Int)} (h : NetOk n ps) (q : ∀ L', Keep L L' → Q .non L') : callW P (k + 4) "need_net" [netP n ps] L Q E := by
  refine call_d hP.h_need_net rfl ?_
  unfold dneed_net
  walk_at "wp"
  refine tuple_of_s hP ?_
  walk_at "wn"
  refine iteF' (by simp) ?_
  refine ⟨12, hP.c_MOST_POINTS_checks, within_s hP ?_⟩
  walk_at "wn"
  refine iteF' (by simpa using h.n1) (tuple_of_s hP ?_)
  walk_at "wn"
  refine iteF' (by have := h.len; simp; omega) ?_
  refine for_by0 (fun i ls L' => Keep L L' ∧ ∃ a b c, ls = [some (netP n ps), a, b, c]) ⟨.refl L, _, _, _, rfl⟩ (fun _ _ _ _ _ => trivial) (fun i x ls L1 N hx hI hN => ?_) fun ls L1 ⟨k1, _⟩ => q L1 k1
  obtain ⟨k1, a, b, c, rfl⟩ := hI
  obtain ⟨y, hy, rfl⟩ := enumP_get hx
  rw [List.getElem?_map] at hy
  cases hp : ps[i]? with
  | none => rw [hp] at hy; cases hy
  | some p =>
    rw [hp] at hy
    cases hy
    obtain ⟨p0, p1, p2⟩ := h.ins p (List.mem_of_getElem? hp)
    walk_at "wn"
    refine tuple_of_s hP ?_
    walk_at "wn"
    refine iteF' (by simp) fun D hD => ?_
    show lcW _ _ D ([p.1, p.2].map PV.int) _ _
    refine lc_all PV.int (fun v => .bl true) hD (fun _ _ => trivial) (by simp) (fun v hv L2 N2 k2 hN2 => ?_) fun L3 k3 e3 => ?_
    · refine within_s hP ?_
      have : decide (0 ≤ v ∧ v ≤ n - 1) = true := by
        have : v = p.1 ∨ v = p.2 := by simpa using hv
        rcases this with rfl | rfl <;> (simp; omega)
      rw [this]
      exact hN2 L2 (.refl _)
    · refine ⟨D, _, [true, true], rfl, e3, rfl, ?_⟩
      walk_at "wn"
      refine iteN (by simpa using p1) ?_
      have done : ∀ L', Keep L3 L' → N [some (netP n ps), some (.int ((0 + i : Nat) : Int)), some (prP p), c] L' := fun L' k' => hN _ _ ⟨(k1.trans k3).trans k', _, _, _, rfl⟩
      cases i with
      | zero => exact iteN (by simp) (done _ (.refl _))
      | succ j =>
        refine iteY (by simp) ?_
        have hj : j < ps.length := Nat.lt_of_succ_lt (List.getElem?_eq_some_iff.mp hp).1
        have hr : ps[j]? = some ps[j] := by simp [hj]
        have e1 : ((0 + (j + 1) : Nat) : Int) - 1 = (j : Nat) := by omega
        rw [e1]
        refine ixW_at (v := prP ps[j]) (by rw [List.getElem?_map, hr]; rfl) (ordW_pr _ _ _ _ ?_)
        walk_at "wp"
        refine iteN ?_ (done _ (.refl _))
        have := h.up j _ _ hr hp
        simp
        omega

/-! ### lots of points -/
def ptsB (n : Int) (xs : List Int) : Bool := decide ((xs.length : Int) ≤ n) && xs.all (inB n) && (List.range (xs.length - 1)).all fun i => decide (xs.getD i 0 < xs.getD (i + 1) 0)
theorem ixW_pts {xs : List Int} {i : Nat} {v : Int} (h : xs[i]? = some v) (q : Q (.int v) L) : ixW (ptsP xs) (.int (i : Nat)) L Q := ixW_at (by rw [List.getElem?_map, h]; rfl) q
theorem rgP_0 (n : Nat) : rgP 0 n = (List.range n).map fun i => PV.int (i : Nat) := by
  unfold rgP
  simp
theorem rgP_sub1 (n : Nat) : rgP 0 ((n : Int) - 1) = (List.range (n - 1)).map fun i => PV.int (i : Nat) := by
  unfold rgP
  rw [show ((n : Int) - 1 - 0).toNat = n - 1 by omega]
  simp
theorem rgOk_0 {n : Int} (h : n ≤ 16777216) (h0 : -(2 ^ 62) ≤ n) : rgOk 0 n := by unfold rgOk; omega
theorem is_points_s (hP : Has P) {n : Int} {ps : List (Int × Int)} {xs : List Int} (hn : n ≤ 12) (h : ptsB n xs = true) (q : ∀ L', Keep L L' → Q (.bl true) L') : callW P (k + 3) "is_points" [netP n ps, ptsP xs] L Q E := by
  unfold ptsB at h
  simp only [Bool.and_eq_true, decide_eq_true_eq, List.all_eq_true] at h
  obtain ⟨⟨h1, h2⟩, h3⟩ := h
  refine call_d hP.h_is_points rfl ?_
  unfold dis_points
  walk_at "wn"
  refine tuple_of_s hP ?_
  walk_at "wn"
  refine iteF' (by simpa using h1) fun D hD => ?_
  refine lc_all PV.int (fun v => .bl true) hD (fun _ _ => trivial) (by omega) (fun v hv L2 N2 k2 hN2 => ?_) fun L3 k3 e3 => ?_
  · refine within_s hP ?_
    have := h2 v hv
    unfold inB at this
    rw [this]
    exact hN2 L2 (.refl _)
  · refine ⟨D, _, xs.map fun _ => true, rfl, e3, (by have := bools_map (xs.map fun _ => true); rw [List.map_map] at this; exact this), ?_⟩
    walk_at "wn"
    refine iteF' (by simp) ⟨rgOk_0 (by omega) (by omega), fun D2 hD2 => ?_⟩
    rw [rgP_sub1]
    refine lc_all (fun i : Nat => PV.int (i : Nat)) (fun _ => .bl true) hD2 (fun _ _ => trivial) (by simp; omega) (fun i hi L4 N4 k4 hN4 => ?_) fun L4 k4 e4 => ?_
    · have hi' : i < xs.length - 1 := List.mem_range.mp hi
      have h5 := h3 i hi
      have g1 : xs[i]? = some (xs.getD i 0) := by simp [List.getD, show i < xs.length by omega]
      have g2 : xs[i + 1]? = some (xs.getD (i + 1) 0) := by simp [List.getD, show i + 1 < xs.length by omega]
      refine ixW_pts g1 ?_
      walk_at "wn"
      rw [show ((i : Nat) : Int) + 1 = ((i + 1 : Nat) : Int) by omega]
      refine ixW_pts g2 ?_
      walk_at "wn"
      rw [decide_eq_true h5]
      exact hN4 L4 (.refl _)
    · refine ⟨D2, _, (List.range (xs.length - 1)).map fun _ => true, rfl, e4, (by have := bools_map ((List.range (xs.length - 1)).map fun _ => true); rw [List.map_map] at this; exact this), ?_⟩
      have : ((List.range (xs.length - 1)).map fun _ => true).all id = true := by simp
      rw [this]
      exact q _ (k3.trans k4)
theorem need_points_s (hP : Has P) {n : Int} {ps : List (Int × Int)} {xs : List Int} (hn : n ≤ 12) (h : ptsB n xs = true) (q : ∀ L', Keep L L' → Q .non L') : callW P (k + 4) "need_points" [netP n ps, ptsP xs] L Q E := by
  refine call_d hP.h_need_points rfl ?_
  unfold dneed_points
  walk_at "wn"
  refine is_points_s hP hn h fun L1 k1 => ?_
  walk_at "wn"
  exact iteF' rfl (q L1 k1)
end LB

set_option Elab.async false
set_option linter.all false
set_option maxRecDepth 100000
set_option maxHeartbeats 4000000
/-! what the shared functions give: nets -/
namespace LB
open PySem DP
local macro_rules | `(tactic| walk_at "wp") => `(tactic| simp only [wpSs, wpS, wpE, wpA, wpO, wpIf, wpI, startL, List.map_cons, List.map_nil, List.length_cons, List.length_nil, List.replicate, List.cons_append, List.nil_append, List.getElem?_cons_zero, List.getElem?_cons_succ, Nat.sub_self,
  Option.some.injEq, exists_eq_left', exists_eq_left, tst_bl, ordW_i, eqW_i, addW_i, mulW_i, intW2_i, cmpW, binW, bfW, mtW, isiW_i, isiW_tup, QOp.int, PV.bl.injEq, PV.int.injEq, Nat.reduceAdd, Nat.reduceSub, lenW_tup, tupleW_tup, intW_i, rgW_1, rgW_2, ixW_t0, ixW_t1, srcW_tup, srcW_rol, enumW_tup, asgT_nm, asgT_tp, setsL, List.set_cons_zero, List.set_cons_succ, wipeL, Bool.not_eq_true', if_true, Bool.false_eq_true, if_false, true_and, and_true])
local macro_rules | `(tactic| walk_at "wn") => `(tactic| simp only [wpSs, wpS, wpE, wpA, wpO, wpIf, wpI, startL, List.map_cons, List.map_nil, List.length_cons, List.length_nil, List.replicate, List.cons_append, List.nil_append, List.getElem?_cons_zero, List.getElem?_cons_succ, Nat.sub_self,
  Option.some.injEq, exists_eq_left', exists_eq_left, tst_bl, ordW_i, eqW_i, addW_i, mulW_i, intW2_i, cmpW, binW, bfW, mtW, isiW_i, isiW_tup, QOp.int, PV.bl.injEq, PV.int.injEq, Nat.reduceAdd, Nat.reduceSub, lenW_tup, tupleW_tup, intW_i, rgW_1, rgW_2, ixW_t0, ixW_t1, srcW_tup, srcW_rol, enumW_tup, asgT_nm, asgT_tp, setsL, List.set_cons_zero, List.set_cons_succ, wipeL, Bool.not_eq_true', if_true, Bool.false_eq_true, if_false, true_and, and_true, ixW_pr0, ixW_pr1, ixW_n0, ixW_n1, srcW_pr, srcW_pts, lenW_pts])
variable {P : Prg} {k : Nat} {L : LHp} {Q : K1} {E : KX}

/-! ### lists at addresses -/
def Pts (L : LHp) (rs : List Addr) (gs : List (List PV)) : Prop := rs.length = gs.length ∧ ∀ (i : Nat) (r : Addr) (g : List PV), rs[i]? = some r → gs[i]? = some g → L r = some (.lst g)
theorem Pts.keep {L L' : LHp} {rs : List Addr} {gs : List (List PV)} (k : Keep L L') (h : Pts L rs gs) : Pts L' rs gs := ⟨h.1, fun i r g a b => k _ _ (h.2 i r g a b)⟩
theorem Pts.nil (L : LHp) : Pts L [] [] := ⟨rfl, fun i r g a => by simp at a⟩
theorem Pts.snoc {L : LHp} {rs : List Addr} {gs : List (List PV)} {r : Addr} {g : List PV} (h : Pts L rs gs) (e : L r = some (.lst g)) : Pts L (rs ++ [r]) (gs ++ [g]) := by
  refine ⟨by simp [h.1], fun i r' g' a b => ?_⟩
  by_cases hi : i < rs.length
  · rw [List.getElem?_append_left hi] at a
    rw [List.getElem?_append_left (by rw [← h.1]; exact hi)] at b
    exact h.2 i r' g' a b
  · rw [List.getElem?_append_right (by omega)] at a
    rw [List.getElem?_append_right (by rw [← h.1]; omega), ← h.1] at b
    cases hz : i - rs.length with
    | zero =>
      rw [hz] at a b
      simp at a b
      subst a b
      exact e
    | succ n => rw [hz] at a; simp at a
theorem Pts.put {L : LHp} {rs : List Addr} {gs : List (List PV)} {r : Addr} {g : List PV} {j : Nat} (h : Pts L rs gs) (nd : rs.Nodup) (e : rs[j]? = some r) : Pts (lupd L r (.lst g)) rs (gs.set j g) := by
  refine ⟨by simp [h.1], fun i r' g' a b => ?_⟩
  by_cases hi : i = j
  · subst hi
    rw [e] at a; cases a
    have hl : i < gs.length := by rw [← h.1]; exact (List.getElem?_eq_some_iff.mp e).1
    rw [List.getElem?_set_self hl] at b; cases b
    exact lupd_same
  · rw [List.getElem?_set_ne (Ne.symm hi)] at b
    have ne : r' ≠ r := fun z => by
      subst z
      obtain ⟨h1, e1⟩ := List.getElem?_eq_some_iff.mp a
      obtain ⟨h2, e2⟩ := List.getElem?_eq_some_iff.mp e
      exact hi ((List.getElem_inj nd).mp (e1.trans e2.symm))
    rw [lupd_ne ne]
    exact h.2 i r' g' a b
/-- a list comprehension each turn of which lays a new list -/
theorem lc_new {α : Type} {Gd : LHp → Prop} {step : PV → LHp → (Option PV → LHp → Prop) → Prop} {D : Addr} {L1 : LHp} {Q : LHp → Prop} (ι : α → PV) (g : α → List PV) (hD : L1 D = none) (hG : ∀ L, Keep L1 L → Gd L) :
    ∀ (xs : List α) (rs : List Addr) (gs : List (List PV)) (L : LHp), Keep L1 L → L D = some (.lst (rs.map .ref)) → rs.length + xs.length ≤ 16777216 → rs.Nodup → D ∉ rs → (∀ r ∈ rs, L1 r = none) → Pts L rs gs →
      (∀ x ∈ xs, ∀ L N, Keep L1 L → (∀ p L', Keep L L' → L p = none → L' p = some (.lst (g x)) → N (some (.ref p)) L') → step (ι x) L N) →
      (∀ L' rs', Keep L1 L' → L' D = some (.lst (rs'.map .ref)) → rs'.Nodup → D ∉ rs' → (∀ r ∈ rs', L1 r = none) → Pts L' rs' (gs ++ xs.map g) → Q L') → lcW Gd step D (xs.map ι) L Q
  | [], rs, gs, L, k, e, _, nd, dn, fr, pt, _, hQ => ⟨hG L k, hQ L rs k e nd dn fr (by simpa using pt)⟩
  | x :: r, rs, gs, L, k, e, hl, nd, dn, fr, pt, hs, hQ => by
    rw [List.length_cons] at hl
    refine ⟨hG L k, hs x List.mem_cons_self L _ k fun p L' k' hp e' => ?_⟩
    have pD : p ≠ D := fun z => by subst z; rw [hp] at e; cases e
    have pr : p ∉ rs := fun z => by
      obtain ⟨i, hi, hz⟩ := List.getElem_of_mem z
      have h1 : rs[i]? = some p := by rw [List.getElem?_eq_getElem hi, hz]
      have hig : i < gs.length := by have := pt.1; omega
      have z2 := pt.2 i p gs[i] h1 (List.getElem?_eq_getElem hig)
      rw [hp] at z2; cases z2
    have p1 : L1 p = none := by
      cases z : L1 p with
      | none => rfl
      | some o => have := k _ _ z; rw [hp] at this; cases this
    refine ⟨rs.map .ref, k' _ _ e, by rw [List.length_map]; omega, ?_⟩
    have em : rs.map PV.ref ++ [.ref p] = (rs ++ [p]).map .ref := by simp
    rw [em]
    have dn' : D ∉ rs ++ [p] := by simp [dn, Ne.symm pD]
    have pt' : Pts (lupd L' D (.lst ((rs ++ [p]).map .ref))) (rs ++ [p]) (gs ++ [g x]) := by
      have h0 := (pt.keep k').snoc e'
      refine ⟨h0.1, fun i r g a b => ?_⟩
      rw [lupd_ne (fun z => by subst z; exact dn' (List.mem_of_getElem? a))]
      exact h0.2 i r g a b
    refine lc_new ι g hD hG r (rs ++ [p]) (gs ++ [g x]) _ ((k.trans k').put hD) lupd_same (by simp; omega) ?_ dn' ?_ pt' (fun y hy => hs y (List.mem_cons_of_mem _ hy)) fun L2 rs2 k2 e2 n2 d2 f2 q2 => hQ L2 rs2 k2 e2 n2 d2 f2 (by simpa using q2)
    · rw [List.nodup_append]
      refine ⟨nd, by simp, fun a ha b hb => ?_⟩
      have : b = p := by simpa using hb
      subst this
      exact fun z => pr (z ▸ ha)
    · intro r hr
      rcases List.mem_append.mp hr with h | h
      · exact fr r h
      · have : r = p := by simpa using h
        subst this
        exact p1
/-- near: the lists of neighbors at a -/
def NearAt (L : LHp) (a : Addr) (nr : List (List Int)) : Prop := ∃ rs : List Addr, L a = some (.lst (rs.map .ref)) ∧ Pts L rs (nr.map fun x => x.map .int)
theorem NearAt.keep {L L' : LHp} {a : Addr} {nr : List (List Int)} (k : Keep L L') (h : NearAt L a nr) : NearAt L' a nr := let ⟨rs, h1, h2⟩ := h; ⟨rs, k _ _ h1, h2.keep k⟩
def insI (x : Int) : List Int → List Int
  | [] => [x]
  | y :: ys => if y < x then y :: insI x ys else x :: y :: ys
def sortI : List Int → List Int
  | [] => []
  | x :: xs => insI x (sortI xs)
theorem ltC_int (y x : Int) : ltC (.int y) (.int x) = decide (y < x) := by
  have h : cb (.int y) (.int x) = true := by unfold cb; rfl
  rw [← qB_code h]
  unfold qB
  rfl
theorem insP_int (x : Int) : ∀ ys : List Int, insP (.int x) (ys.map .int) = (insI x ys).map .int
  | [] => rfl
  | y :: ys => by
    rw [List.map_cons]
    unfold insP insI
    rw [ltC_int, insP_int x ys]
    by_cases h : y < x <;> simp [h]
theorem sortP_int : ∀ xs : List Int, sortP (xs.map .int) = (sortI xs).map .int
  | [] => rfl
  | x :: xs => by
    rw [List.map_cons]
    unfold sortP sortI
    rw [sortP_int xs, insP_int]
theorem plainL_int : ∀ xs : List Int, plainL (xs.map .int) = true
  | [] => rfl
  | x :: xs => by rw [List.map_cons]; unfold plainL; rw [plainL_int xs]; rfl
theorem sortOk_int (xs : List Int) : SortOk (xs.map .int) := by
  refine ⟨fun x hx => ?_, fun x hx y hy => ?_, .inl fun x hx => ?_⟩
  · obtain ⟨i, _, rfl⟩ := List.mem_map.mp hx; rfl
  · obtain ⟨i, _, rfl⟩ := List.mem_map.mp hx
    obtain ⟨j, _, rfl⟩ := List.mem_map.mp hy
    unfold cb; rfl
  · obtain ⟨i, _, rfl⟩ := List.mem_map.mp hx; exact ⟨i, rfl⟩
/-- sorted of a list of ints -/
theorem sorted_ref {a : Addr} {xs : List Int} (e : L a = some (.lst (xs.map .int))) (q : ∀ p, L p = none → Q (.ref p) (lupd L p (.lst ((sortI xs).map .int)))) : sortedW [.ref a] L Q :=
  ⟨.ref a, rfl, .inl ⟨_, e, .inl (sortOk_int xs), plainL_int xs, by rw [sortP_int]; exact q⟩⟩
theorem sorted_tup {xs : List Int} (q : ∀ p, L p = none → Q (.ref p) (lupd L p (.lst ((sortI xs).map .int)))) : sortedW [.tup (xs.map .int)] L Q :=
  ⟨.tup _, rfl, .inl (sortOk_int xs), plainL_int xs, by rw [sortP_int]; exact q⟩
theorem sorted_dct {a : Addr} {xs : List Int} {vs : List (PV × PV)} (e : L a = some (.dct vs)) (hv : vs.map (·.1) = xs.map .int) (q : ∀ p, L p = none → Q (.ref p) (lupd L p (.lst ((sortI xs).map .int)))) : sortedW [.ref a] L Q :=
  ⟨.ref a, rfl, .inr ⟨_, e, by rw [hv]; exact .inl (sortOk_int xs), by rw [hv]; exact plainL_int xs, by rw [hv, sortP_int]; exact q⟩⟩

def addAt (f : List (List Int)) (i x : Int) : List (List Int) := f.set i.toNat (f.getD i.toNat [] ++ [x])
def nearF (n : Int) (ps : List (Int × Int)) : List (List Int) := ps.foldl (fun f p => addAt (addAt f p.1 p.2) p.2 p.1) (List.replicate n.toNat [])
def nearM (n : Int) (ps : List (Int × Int)) : List (List Int) := (nearF n ps).map sortI
end LB

set_option Elab.async false
set_option linter.all false
set_option maxRecDepth 100000
set_option maxHeartbeats 4000000
/-! near_of -/
namespace LB
open PySem DP
local macro_rules | `(tactic| walk_at "wp") => `(tactic| simp only [wpSs, wpS, wpE, wpA, wpO, wpIf, wpI, startL, List.map_cons, List.map_nil, List.length_cons, List.length_nil, List.replicate, List.cons_append, List.nil_append, List.getElem?_cons_zero, List.getElem?_cons_succ, Nat.sub_self,
  Option.some.injEq, exists_eq_left', exists_eq_left, tst_bl, ordW_i, eqW_i, addW_i, mulW_i, intW2_i, cmpW, binW, bfW, mtW, isiW_i, isiW_tup, QOp.int, PV.bl.injEq, PV.int.injEq, Nat.reduceAdd, Nat.reduceSub, lenW_tup, tupleW_tup, intW_i, rgW_1, rgW_2, ixW_t0, ixW_t1, srcW_tup, srcW_rol, enumW_tup, asgT_nm, asgT_tp, setsL, List.set_cons_zero, List.set_cons_succ, wipeL, Bool.not_eq_true', if_true, Bool.false_eq_true, if_false, true_and, and_true])
local macro_rules | `(tactic| walk_at "wn") => `(tactic| simp only [wpSs, wpS, wpE, wpA, wpO, wpIf, wpI, startL, List.map_cons, List.map_nil, List.length_cons, List.length_nil, List.replicate, List.cons_append, List.nil_append, List.getElem?_cons_zero, List.getElem?_cons_succ, Nat.sub_self,
  Option.some.injEq, exists_eq_left', exists_eq_left, tst_bl, ordW_i, eqW_i, addW_i, mulW_i, intW2_i, cmpW, binW, bfW, mtW, isiW_i, isiW_tup, QOp.int, PV.bl.injEq, PV.int.injEq, Nat.reduceAdd, Nat.reduceSub, lenW_tup, tupleW_tup, intW_i, rgW_1, rgW_2, ixW_t0, ixW_t1, srcW_tup, srcW_rol, enumW_tup, asgT_nm, asgT_tp, setsL, List.set_cons_zero, List.set_cons_succ, wipeL, Bool.not_eq_true', if_true, Bool.false_eq_true, if_false, true_and, and_true, ixW_pr0, ixW_pr1, ixW_n0, ixW_n1, srcW_pr, srcW_pts, lenW_pts])
variable {P : Prg} {k : Nat} {L : LHp} {Q : K1} {E : KX}
theorem rgP_i (n : Int) : rgP 0 n = (List.range n.toNat).map fun i => PV.int (i : Nat) := by
  unfold rgP
  simp
theorem map_const_range (n : Nat) : (List.range n).map (fun _ => ([] : List PV)) = List.replicate n [] := by
  apply List.ext_getElem
  · simp
  · intro i h1 h2
    simp
theorem addAt_len (f : List (List Int)) (i x : Int) : (addAt f i x).length = f.length := by simp [addAt]
/-- found[one].append(other) -/
theorem app_at {F : Addr} {rs : List Addr} {f : List (List Int)} {i x : Int} {Q : K1} (hF : L F = some (.lst (rs.map .ref))) (pt : Pts L rs (f.map fun y => y.map .int)) (nd : rs.Nodup) (dn : F ∉ rs) (h0 : 0 ≤ i) (h1 : i < f.length) (hl : ∀ y ∈ f, y.length < 16777216)
    (q : ∀ L', L' F = some (.lst (rs.map .ref)) → Pts L' rs ((addAt f i x).map fun y => y.map .int) → (∀ a, a ∉ rs → L' a = L a) → Q .non L') :
    ixW (.ref F) (.int i) L (fun v L1 => isLst v L1 ∧ appendW v [.int x] L1 Q) := by
  obtain ⟨j, rfl⟩ : ∃ j : Nat, i = j := ⟨i.toNat, by omega⟩
  have hj : j < f.length := by omega
  have hr : j < rs.length := by have := pt.1; rw [List.length_map] at this; omega
  have er : rs[j]? = some rs[j] := List.getElem?_eq_getElem hr
  have ef : f[j]? = some f[j] := List.getElem?_eq_getElem hj
  have eL := pt.2 j _ _ er (by rw [List.getElem?_map, ef]; rfl)
  refine ixW_ref hF (v := .ref rs[j]) (by rw [List.getElem?_map, er]; rfl) ⟨⟨_, _, rfl, eL⟩, ?_⟩
  refine ⟨rs[j], _, .int x, rfl, rfl, eL, by rw [List.length_map]; exact hl _ (List.getElem_mem hj), ?_⟩
  have mem : rs[j] ∈ rs := List.getElem_mem hr
  refine q _ ?_ ?_ fun a ha => lupd_ne fun z => ha (z ▸ mem)
  · rw [lupd_ne (fun (z : F = rs[j]) => dn (z ▸ mem))]; exact hF
  · have := pt.put (g := (f[j] ++ [x]).map .int) nd er
    unfold addAt
    rw [List.map_set]
    have e2 : f.getD ((j : Nat) : Int).toNat [] = f[j] := by simp [List.getD, ef]
    rw [e2, show ((j : Nat) : Int).toNat = j from rfl]
    simpa using this
/-- the lists while pairs are taken -/
def nearT (n : Int) (ps : List (Int × Int)) (i : Nat) : List (List Int) := nearF n (ps.take i)
theorem nearT_succ {n : Int} {ps : List (Int × Int)} {i : Nat} {p : Int × Int} (h : ps[i]? = some p) : nearT n ps (i + 1) = addAt (addAt (nearT n ps i) p.1 p.2) p.2 p.1 := by
  unfold nearT nearF
  rw [List.take_add_one, h]
  simp
theorem nearF_len (n : Int) (ps : List (Int × Int)) : ∀ f : List (List Int), (ps.foldl (fun f p => addAt (addAt f p.1 p.2) p.2 p.1) f).length = f.length := by
  induction ps with
  | nil => intro f; rfl
  | cons p r ih => intro f; rw [List.foldl_cons, ih, addAt_len, addAt_len]
theorem nearT_len (n : Int) (ps : List (Int × Int)) (i : Nat) : (nearT n ps i).length = n.toNat := by
  unfold nearT nearF
  rw [nearF_len n, List.length_replicate]
theorem addAt_most {f : List (List Int)} {i x : Int} {m : Nat} (h : ∀ y ∈ f, y.length ≤ m) : ∀ y ∈ addAt f i x, y.length ≤ m + 1 := fun y hy => by
  unfold addAt at hy
  rcases List.mem_or_eq_of_mem_set hy with z | z
  · exact Nat.le_succ_of_le (h y z)
  · rw [z, List.length_append, List.length_singleton]
    by_cases hi : i.toNat < f.length
    · have : f.getD i.toNat [] = f[i.toNat] := by simp [List.getD, hi]
      rw [this]
      exact Nat.succ_le_succ (h _ (List.getElem_mem hi))
    · have : f.getD i.toNat [] = [] := by simp [List.getD, hi]
      rw [this]
      simp
theorem nearT_most (n : Int) (ps : List (Int × Int)) : ∀ i, i ≤ ps.length → ∀ y ∈ nearT n ps i, y.length ≤ 2 * i
  | 0, _, y, hy => by
    unfold nearT nearF at hy
    simp at hy
    rw [hy.2]; simp
  | i + 1, hi, y, hy => by
    have hp : ps[i]? = some ps[i] := List.getElem?_eq_getElem hi
    rw [nearT_succ hp] at hy
    have := addAt_most (addAt_most (nearT_most n ps i (Nat.le_of_succ_le hi))) y hy
    omega
theorem near_of_s (hP : Has P) {n : Int} {ps : List (Int × Int)} (h : NetOk n ps) (q : ∀ a L', Keep L L' → L a = none → NearAt L' a (nearM n ps) → Q (.ref a) L') : callW P (k + 1) "near_of" [netP n ps] L Q E := by
  refine call_d hP.h_near_of rfl ?_
  unfold dnear_of
  walk_at "wn"
  refine ⟨rgOk_0 (by have := h.n1; omega) (by have := h.n1; omega), fun F hF => ?_⟩
  rw [rgP_i]
  refine lc_new (fun i : Nat => PV.int (i : Nat)) (fun _ => []) hF (fun _ _ => trivial) (List.range n.toNat) [] [] _ (.new hF) lupd_same (by have := h.n1; simp; omega) List.nodup_nil (by simp) (by simp) (.nil _) (fun i hi L2 N k2 hN => ?_) fun L2 rs k2 e2 nd dn fr pt => ?_
  · exact ⟨by decide, fun p hp => hN p _ (.new hp) hp lupd_same⟩
  · (try walk_at "wn")
    refine for_by0 (fun i ls L' => Keep L L' ∧ L' F = some (.lst (rs.map .ref)) ∧ Pts L' rs ((nearT n ps i).map fun y => y.map .int) ∧ ∃ a b, ls = [some (netP n ps), some (.ref F), a, b, none, none]) ⟨k2, e2, ?_, _, _, rfl⟩ (fun _ _ _ _ _ => trivial) (fun i x ls L3 N hx hI hN => ?_) fun ls L3 hI => ?_
    · have e : (nearT n ps 0).map (fun y => y.map PV.int) = [] ++ (List.range n.toNat).map fun _ => [] := by
        unfold nearT nearF
        simp
        exact (map_const_range n.toNat).symm
      rw [e]; exact pt
    · obtain ⟨k3, hF3, pt3, a, b, rfl⟩ := hI
      rw [List.getElem?_map] at hx
      cases hp : ps[i]? with
      | none => rw [hp] at hx; cases hx
      | some p =>
        rw [hp] at hx
        cases hx
        obtain ⟨p0, p1, p2⟩ := h.ins p (List.mem_of_getElem? hp)
        have hil : i < ps.length := (List.getElem?_eq_some_iff.mp hp).1
        have hm := nearT_most n ps i (Nat.le_of_lt hil)
        have hlen := h.len
        have hn := h.n1
        unfold prP
        walk_at "wn"
        have hl0 := nearT_len n ps i
        refine app_at hF3 pt3 nd dn p0 (by rw [hl0]; omega) (fun y hy => by have := hm y hy; omega) fun L4 hF4 pt4 ot4 => ?_
        refine app_at hF4 pt4 nd dn (by omega) (by rw [addAt_len, hl0]; omega) (fun y hy => by have := addAt_most hm y hy; omega) fun L5 hF5 pt5 ot5 => ?_
        refine hN _ _ ⟨fun x o e => ?_, hF5, by rw [nearT_succ hp]; exact pt5, _, _, rfl⟩
        have hx : x ∉ rs := fun z => by rw [fr x z] at e; cases e
        rw [ot5 x hx, ot4 x hx]
        exact k3 x o e
    · obtain ⟨k3, hF3, pt3, a, b, rfl⟩ := hI
      have et : nearT n ps (ps.map prP).length = nearF n ps := by unfold nearT; rw [List.length_map, List.take_length]
      rw [et] at pt3
      walk_at "wn"
      refine ⟨_, hF3, fun D hD => ?_⟩
      have hz : rs.map PV.ref = (rs.zip (nearF n ps)).map fun z => .ref z.1 := by
        have := pt3.1
        rw [List.length_map] at this
        have e : (rs.zip (nearF n ps)).map Prod.fst = rs := List.map_fst_zip (by omega)
        conv => lhs; rw [← e]
        rw [List.map_map]
        rfl
      have hl : (rs.zip (nearF n ps)).length ≤ 16777216 := by
        have h1 := pt3.1
        have h2 := nearT_len n ps ps.length
        unfold nearT at h2
        rw [List.take_length] at h2
        rw [List.length_zip]
        have := h.n1
        omega
      rw [hz]
      refine lc_new (fun z : Addr × List Int => PV.ref z.1) (fun z => (sortI z.2).map .int) hD (fun L4 k4 => ?_) (rs.zip (nearF n ps)) [] [] _ (.new hD) lupd_same (by simpa using hl) List.nodup_nil (by simp) (by simp) (.nil _) (fun z hz2 L4 N k4 hN => ?_) fun L4 rs2 k4 e4 nd4 dn4 fr4 pt4 => ?_
      · rw [← hz]; exact k4 _ _ hF3
      · obtain ⟨j, hj, ej⟩ := List.getElem_of_mem hz2
        have ej' : (rs.zip (nearF n ps))[j]? = some z := by rw [List.getElem?_eq_getElem hj, ej]
        rw [List.getElem?_zip_eq_some] at ej'
        (try walk_at "wn")
        refine sorted_ref (xs := z.2) (k4 _ _ (pt3.2 j _ _ ej'.1 (by rw [List.getElem?_map, ej'.2]; rfl))) fun p hp => hN p _ (.new hp) hp lupd_same
      · have hD0 : L D = none := by
          cases z : L D with
          | none => rfl
          | some o => have := k3 _ _ z; rw [hD] at this; cases this
        refine q D L4 (k3.trans k4) hD0 ⟨rs2, e4, ?_⟩
        have : (nearM n ps).map (fun x => x.map PV.int) = [] ++ (rs.zip (nearF n ps)).map fun z => (sortI z.2).map .int := by
          have h1 := pt3.1
          rw [List.length_map] at h1
          unfold nearM
          rw [List.map_map, List.nil_append]
          conv => lhs; rw [← List.map_snd_zip (l₁ := rs) (l₂ := nearF n ps) (by omega)]
          rw [List.map_map]
          rfl
        rw [this]
        exact pt4
end LB

set_option Elab.async false
set_option linter.all false
set_option maxRecDepth 100000
set_option maxHeartbeats 4000000
/-! reach -/
namespace LB
open PySem DP
local macro_rules | `(tactic| walk_at "wp") => `(tactic| simp only [wpSs, wpS, wpE, wpA, wpO, wpIf, wpI, startL, List.map_cons, List.map_nil, List.length_cons, List.length_nil, List.replicate, List.cons_append, List.nil_append, List.getElem?_cons_zero, List.getElem?_cons_succ, Nat.sub_self,
  Option.some.injEq, exists_eq_left', exists_eq_left, tst_bl, ordW_i, eqW_i, addW_i, mulW_i, intW2_i, cmpW, binW, bfW, mtW, isiW_i, isiW_tup, QOp.int, PV.bl.injEq, PV.int.injEq, Nat.reduceAdd, Nat.reduceSub, lenW_tup, tupleW_tup, intW_i, rgW_1, rgW_2, ixW_t0, ixW_t1, srcW_tup, srcW_rol, enumW_tup, asgT_nm, asgT_tp, setsL, List.set_cons_zero, List.set_cons_succ, wipeL, Bool.not_eq_true', if_true, Bool.false_eq_true, if_false, true_and, and_true])
local macro_rules | `(tactic| walk_at "wn") => `(tactic| simp only [wpSs, wpS, wpE, wpA, wpO, wpIf, wpI, startL, List.map_cons, List.map_nil, List.length_cons, List.length_nil, List.replicate, List.cons_append, List.nil_append, List.getElem?_cons_zero, List.getElem?_cons_succ, Nat.sub_self,
  Option.some.injEq, exists_eq_left', exists_eq_left, tst_bl, ordW_i, eqW_i, addW_i, mulW_i, intW2_i, cmpW, binW, bfW, mtW, isiW_i, isiW_tup, QOp.int, PV.bl.injEq, PV.int.injEq, Nat.reduceAdd, Nat.reduceSub, lenW_tup, tupleW_tup, intW_i, rgW_1, rgW_2, ixW_t0, ixW_t1, srcW_tup, srcW_rol, enumW_tup, asgT_nm, asgT_tp, setsL, List.set_cons_zero, List.set_cons_succ, wipeL, Bool.not_eq_true', if_true, Bool.false_eq_true, if_false, true_and, and_true, ixW_pr0, ixW_pr1, ixW_n0, ixW_n1, srcW_pr, srcW_pts, lenW_pts])
variable {P : Prg} {k : Nat} {L : LHp} {Q : K1} {E : KX}
theorem shaped_list {xs : List PV} (h : plainL xs = true) (hd : pdepL xs ≤ 50) : PySem.SeqAt.shaped (.list (pdL xs)) = true := by
  unfold PySem.SeqAt.shaped
  have e1 : PyData.canLay0 (.list (pdL xs)) = true := by show PyData.canLayAll0 (pdL xs) = true; exact layL_plain h
  have e2 : PyData.depth (.list (pdL xs)) = pdepL xs + 1 := by show PyData.depthAll (pdL xs) + 1 = _; rw [depL_plain h]
  rw [e1, e2, decide_eq_true (by omega)]; rfl
theorem eqW_lst {neg : Bool} {a b : Addr} {xs ys : List PV} (ea : L a = some (.lst xs)) (eb : L b = some (.lst ys)) (hx : plainL xs = true) (hy : plainL ys = true) (dx : pdepL xs ≤ 50) (dy : pdepL ys ≤ 50) (q : Q (.bl (xnot neg (decide (xs = ys)))) L) : eqW neg (.ref a) (.ref b) L Q := by
  refine .inr ⟨.list (pdL xs), .list (pdL ys), .lst ea (.plain hx), .lst eb (.plain hy), shaped_list hx dx, shaped_list hy dy, ?_⟩
  have e : PyData.eqv (.list (pdL xs)) (.list (pdL ys)) = decide (xs = ys) := by
    show PyData.eqvAll (pdL xs) (pdL ys) = _
    exact eqvL_plain hx hy
  rw [e]; exact q
theorem pdepL_int : ∀ xs : List Int, pdepL (xs.map .int) = 0
  | [] => rfl
  | x :: xs => by rw [List.map_cons]; unfold pdepL; rw [pdepL_int xs]; rfl
theorem map_int_inj {xs ys : List Int} : (xs.map PV.int = ys.map PV.int) ↔ xs = ys := by
  constructor
  · intro h
    exact map_inj (fun a b e => by injection e) h
  · intro h; rw [h]
theorem eqW_ints {neg : Bool} {a b : Addr} {xs ys : List Int} (ea : L a = some (.lst (xs.map .int))) (eb : L b = some (.lst (ys.map .int))) (q : Q (.bl (xnot neg (decide (xs = ys)))) L) : eqW neg (.ref a) (.ref b) L Q := by
  refine eqW_lst ea eb (plainL_int _) (plainL_int _) (by rw [pdepL_int]; omega) (by rw [pdepL_int]; omega) ?_
  have : decide (xs.map PV.int = ys.map PV.int) = decide (xs = ys) := by rw [Bool.eq_iff_iff]; simp [map_int_inj]
  rw [this]; exact q

/-! ### sets of ints, as dicts -/
def kT (xs : List Int) : List (PV × PV) := xs.map fun y => (.int y, .bl true)
theorem kT_keys (xs : List Int) : (kT xs).map (·.1) = xs.map .int := by unfold kT; rw [List.map_map]; rfl
theorem kT_fit (xs : List Int) (y : Int) : KeyFit (kT xs) (.int y) := .inl ⟨.inl y, rfl, fun p hp => by
  obtain ⟨z, _, rfl⟩ := List.mem_map.mp hp
  rfl⟩
theorem kT_any (xs : List Int) (y : Int) : ((kT xs).any fun p => decide (p.1 = .int y)) = decide (y ∈ xs) := by
  rw [Bool.eq_iff_iff]
  simp [kT, List.any_eq_true]
theorem kT_look (xs : List Int) (y : Int) : (dlook (kT xs) (.int y)).isSome = decide (y ∈ xs) := by
  rw [← kT_any]
  unfold dlook
  rw [Option.isSome_map, Bool.eq_iff_iff, List.find?_isSome]
  simp
theorem kT_put {xs : List Int} {y : Int} (h : y ∉ xs) : dput (kT xs) (.int y) (.bl true) = kT (xs ++ [y]) := by
  unfold dput
  rw [kT_any, decide_eq_false h, if_neg (by decide)]
  simp [kT]
theorem in_kT {neg : Bool} {a : Addr} {xs : List Int} {y : Int} (e : L a = some (.dct (kT xs))) (q : Q (.bl (xnot neg (decide (y ∈ xs)))) L) : inW neg (.int y) (.ref a) L Q :=
  .inr ⟨_, e, kT_fit xs y, by rw [kT_look]; exact q⟩
theorem xs_plain (xs : List Int) : ∀ x ∈ xs.map PV.int, small x = true := fun x hx => by
  obtain ⟨i, _, rfl⟩ := List.mem_map.mp hx; rfl

/-! ### reach -/
def rStep (inK : Int → Bool) (s : List Int × List Int) (y : Int) : List Int × List Int := if (inK y && !(decide (y ∈ s.1))) = true then (s.1 ++ [y], s.2 ++ [y]) else s
def reachL (inK : Int → Bool) (nr : List (List Int)) : Nat → List Int → List Int → Option (List Int)
  | 0, found, rim => if rim = [] then some found else none
  | n + 1, found, rim => match rim.getLast? with
    | none => some found
    | some here => let s := (nr.getD here.toNat []).foldl (rStep inK) (found, rim.dropLast); reachL inK nr n s.1 s.2
/-- that the numbers stand -/
def PtsOk (nr : List (List Int)) : Prop := ∀ l ∈ nr, ∀ y ∈ l, 0 ≤ y ∧ y < nr.length
theorem whl_ind {c : LSt → LHp → (Bool → LHp → Prop) → Prop} {b : LSt → LHp → (LSt → LHp → Prop) → Prop} {Q : LSt → LHp → Prop} (I : Nat → LSt → LHp → Prop)
    (hs : ∀ n ls L (N : LSt → LHp → Prop), I n ls L → (∀ m ls' L', n = m + 1 → I m ls' L' → N ls' L') → c ls L fun k L1 => if k = true then b ls L1 N else Q ls L1) : ∀ n ls L, I n ls L → whlW c b Q (n + 1) ls L
  | 0, ls, L, h => hs 0 ls L _ h fun m _ _ e => by omega
  | n + 1, ls, L, h => hs (n + 1) ls L _ h fun m ls' L' e h' => by
    have : n = m := by omega
    subst this
    exact whl_ind I hs n ls' L' h'
theorem nodup_len : ∀ (n : Nat) (xs : List Int), xs.Nodup → (∀ y ∈ xs, 0 ≤ y ∧ y < n) → xs.length ≤ n
  | 0, xs, _, h => by
    cases xs with
    | nil => simp
    | cons y r => have := h y List.mem_cons_self; omega
  | n + 1, xs, nd, h => by
    have nd2 : (xs.erase (n : Int)).Nodup := nd.erase _
    have h2 : ∀ y ∈ xs.erase (n : Int), 0 ≤ y ∧ y < n := fun y hy => by
      have h3 := h y (List.mem_of_mem_erase hy)
      have : y ≠ n := fun z => by
        subst z
        exact nd.not_mem_erase hy
      omega
    have := nodup_len n _ nd2 h2
    have h4 : xs.length ≤ (xs.erase (n : Int)).length + 1 := by
      rw [List.length_erase]
      split <;> omega
    omega
/-- what stays true while points are found -/
structure RInv (m : Nat) (found rim : List Int) : Prop where
  nd : found.Nodup
  ok : ∀ y ∈ found, 0 ≤ y ∧ y < m
  rk : ∀ y ∈ rim, 0 ≤ y ∧ y < m
  le : rim.length ≤ found.length
theorem RInv.step {m : Nat} {found rim : List Int} {inK : Int → Bool} {y : Int} (h : RInv m found rim) (hy : 0 ≤ y ∧ y < m) : RInv m (rStep inK (found, rim) y).1 (rStep inK (found, rim) y).2 := by
  unfold rStep
  split
  · rename_i c
    simp only [Bool.and_eq_true, Bool.not_eq_true', decide_eq_false_iff_not] at c
    refine ⟨?_, fun z hz => ?_, fun z hz => ?_, ?_⟩
    · rw [List.nodup_append]
      refine ⟨h.nd, by simp, fun a ha b hb => ?_⟩
      have : b = y := by simpa using hb
      subst this
      exact fun e => c.2 (e ▸ ha)
    · rcases List.mem_append.mp hz with q | q
      · exact h.ok z q
      · have : z = y := by simpa using q
        subst this; exact hy
    · rcases List.mem_append.mp hz with q | q
      · exact h.rk z q
      · have : z = y := by simpa using q
        subst this; exact hy
    · have := h.le
      simp; omega
  · exact h
theorem RInv.len {m : Nat} {found rim : List Int} (h : RInv m found rim) : found.length ≤ m ∧ rim.length ≤ m := by
  have h1 := nodup_len m found h.nd h.ok
  have := h.le
  omega
theorem reach_s (hP : Has P) {a : Addr} {nr : List (List Int)} {s : Int} {kv : PV} {inK : Int → Bool} {res : List Int} {m : Nat} (hn : NearAt L a nr) (hl : nr.length < 16777216) (hk : PtsOk nr) (hs : 0 ≤ s ∧ s < nr.length)
    (hK : ∀ (y : Int) (L' : LHp) (Q : K1), Keep L L' → Q (.bl (inK y)) L' → inW false (.int y) kv L' Q) (hr : reachL inK nr m [s] [s] = some res) (q : ∀ L', Keep L L' → Q (ptsP (sortI res)) L') : callW P (k + 1) "reach" [.ref a, .int s, kv] L Q E := by
  refine call_d hP.h_reach rfl ?_
  unfold dreach
  walk_at "wn"
  intro F hF
  refine ⟨lupd_same, ⟨.inl s, rfl⟩, by decide, fun R hR => ?_⟩
  refine ⟨by decide, ?_⟩
  have hF' : ∀ {o : LO}, lupd (lupd L F (.dct [])) F o F = some o := lupd_same
  have RF : R ≠ F := fun z => by
    subst z
    rw [lupd_same] at hR; cases hR
  have hR0 : L R = none := by
    rw [lupd_ne RF, lupd_ne RF] at hR; exact hR
  refine ⟨m + 1, whl_ind (fun n ls L' => ∃ found rim x5 x6, ls = [some (.ref a), some (.int s), some kv, some (.ref F), some (.ref R), x5, x6] ∧ Keep L L' ∧ L' F = some (.dct (kT found)) ∧ L' R = some (.lst (rim.map .int)) ∧ RInv nr.length found rim ∧ reachL inK nr n found rim = some res) (fun n ls L1 N hI hN => ?_) m _ _ ⟨[s], [s], none, none, rfl, ?_, ?_, ?_, ⟨by simp, by simpa using hs, by simpa using hs, Nat.le_refl _⟩, hr⟩⟩
  · obtain ⟨found, rim, x5, x6, rfl, k1, hF1, hR1, inv, hr1⟩ := hI
    have il := inv.len
    walk_at "wn"
    refine ⟨by decide, fun T hT => ?_⟩
    have TR : R ≠ T := fun z => by subst z; rw [hT] at hR1; cases hR1
    have TF : F ≠ T := fun z => by subst z; rw [hT] at hF1; cases hF1
    have k2 : Keep L (lupd L1 T (.lst [])) := k1.trans (.new hT)
    refine eqW_ints (xs := rim) (ys := []) (by rw [lupd_ne TR]; exact hR1) lupd_same ?_
    rw [tst_bl]
    have F2 : lupd L1 T (.lst []) F = some (.dct (kT found)) := by rw [lupd_ne TF]; exact hF1
    have R2 : lupd L1 T (.lst []) R = some (.lst (rim.map .int)) := by rw [lupd_ne TR]; exact hR1
    generalize lupd L1 T (.lst []) = L2 at k2 F2 R2
    by_cases hrim : rim = []
    · subst hrim
      have er : res = found := by
        cases n with
        | zero => unfold reachL at hr1; rw [if_pos rfl] at hr1; exact (Option.some.inj hr1).symm
        | succ n => unfold reachL at hr1; exact (Option.some.inj hr1).symm
      subst er
      refine iteN (by simp [xnot]) ?_
      refine sorted_dct F2 (kT_keys _) fun p hp => ⟨_, lupd_same, q _ (k2.trans (.new hp))⟩
    · refine iteY (by simp [xnot, hrim]) ⟨⟨R, _, rfl, R2⟩, R, _, .int (rim.getLast hrim), rfl, rfl, R2, ?_, ?_⟩
      · rw [List.length_map, List.getElem?_map, ← List.getLast?_eq_getElem?, List.getLast?_eq_some_getLast hrim]; rfl
      · have hmem := List.getLast_mem hrim
        have hh := inv.rk _ hmem
        generalize eh : rim.getLast hrim = here at hmem hh
        obtain ⟨m1, rfl⟩ : ∃ m1, n = m1 + 1 := by
          cases n with
          | zero => unfold reachL at hr1; rw [if_neg hrim] at hr1; cases hr1
          | succ m1 => exact ⟨m1, rfl⟩
        unfold reachL at hr1
        rw [List.getLast?_eq_some_getLast hrim, eh] at hr1
        replace hr1 : reachL inK nr m1 ((nr.getD here.toNat []).foldl (rStep inK) (found, rim.dropLast)).1 ((nr.getD here.toNat []).foldl (rStep inK) (found, rim.dropLast)).2 = some res := hr1
        obtain ⟨j, rfl⟩ : ∃ j : Nat, here = j := ⟨here.toNat, by omega⟩
        have hj : j < nr.length := by omega
        obtain ⟨rs, ha, pt⟩ := hn
        have hrs : j < rs.length := by have := pt.1; rw [List.length_map] at this; omega
        have e1 : rs[j]? = some rs[j] := List.getElem?_eq_getElem hrs
        have e2 : nr[j]? = some nr[j] := List.getElem?_eq_getElem hj
        have eL := pt.2 j _ _ e1 (by rw [List.getElem?_map, e2]; rfl)
        have eD : nr.getD ((j : Nat) : Int).toNat [] = nr[j] := by simp [List.getD, e2]
        rw [eD] at hr1
        have okl : ∀ y ∈ nr[j], 0 ≤ y ∧ y < nr.length := hk _ (List.getElem_mem hj)
        rw [← List.map_dropLast]
        have k3 : Keep L (lupd L2 R (.lst (rim.dropLast.map .int))) := k2.put hR0
        refine ixW_ref (k3 _ _ ha) (v := .ref rs[j]) (by rw [List.getElem?_map, e1]; rfl) ⟨_, k3 _ _ eL, ?_⟩
        refine for_by0 (fun i ls L' => ∃ z, ls = [some (.ref a), some (.int s), some kv, some (.ref F), some (.ref R), some (.int (j : Nat)), z] ∧ Keep L L' ∧ L' F = some (.dct (kT ((nr[j].take i).foldl (rStep inK) (found, rim.dropLast)).1)) ∧ L' R = some (.lst (((nr[j].take i).foldl (rStep inK) (found, rim.dropLast)).2.map .int)) ∧
          RInv nr.length ((nr[j].take i).foldl (rStep inK) (found, rim.dropLast)).1 ((nr[j].take i).foldl (rStep inK) (found, rim.dropLast)).2) ⟨x6, rfl, k3, ?_, ?_, ?_⟩ (fun i ls L4 _ hI => ?_) (fun i x ls L4 N2 hx hI hN2 => ?_) (fun ls L4 hI => ?_)
        · rw [lupd_ne (Ne.symm RF)]; exact F2
        · exact lupd_same
        · exact ⟨inv.nd, inv.ok, fun y hy => inv.rk y (List.dropLast_subset _ hy), by have := inv.le; show rim.dropLast.length ≤ found.length; rw [List.length_dropLast]; omega⟩
        · obtain ⟨z, rfl, k4, _⟩ := hI
          exact k4 _ _ eL
        · obtain ⟨z, rfl, k4, F4, R4, i4⟩ := hI
          rw [List.getElem?_map] at hx
          cases hy : nr[j][i]? with
          | none => rw [hy] at hx; cases hx
          | some y =>
            rw [hy] at hx
            cases hx
            have oy := okl y (List.mem_of_getElem? hy)
            have et : (nr[j].take (i + 1)).foldl (rStep inK) (found, rim.dropLast) = rStep inK ((nr[j].take i).foldl (rStep inK) (found, rim.dropLast)) y := by
              rw [List.take_add_one, hy, List.foldl_append]; rfl
            have i5 := i4.step (inK := inK) oy
            rw [← et] at i5
            generalize hs4 : (nr[j].take i).foldl (rStep inK) (found, rim.dropLast) = s4 at F4 R4 i4 et
            have l4 := i4.len
            walk_at "wn"
            refine hK y L4 _ k4 ?_
            rw [tst_bl]
            cases hin : inK y with
            | false =>
              refine iteN rfl (hN2 _ _ ⟨_, rfl, k4, ?_, ?_, i5⟩)
              · rw [et]; simpa [rStep, hin] using F4
              · rw [et]; simpa [rStep, hin] using R4
            | true =>
              refine iteY rfl (in_kT F4 ?_)
              rw [tst_bl]
              by_cases hm : y ∈ s4.1
              · refine iteN (by simp [xnot, hm]) (hN2 _ _ ⟨_, rfl, k4, ?_, ?_, i5⟩)
                · rw [et]; simpa [rStep, hin, hm] using F4
                · rw [et]; simpa [rStep, hin, hm] using R4
              · refine iteY (by simp [xnot, hm]) (.inr ⟨_, F4, kT_fit _ _, by unfold kT; rw [List.length_map]; omega, ?_⟩)
                rw [kT_put hm]
                have R5 : lupd L4 F (.dct (kT (s4.1 ++ [y]))) R = some (.lst (s4.2.map .int)) := by rw [lupd_ne RF]; exact R4
                refine ⟨⟨R, _, rfl, R5⟩, R, _, _, rfl, rfl, R5, by rw [List.length_map]; omega, ?_⟩
                refine hN2 _ _ ⟨_, rfl, (k4.put hF).put hR0, ?_, ?_, i5⟩
                · rw [et, lupd_ne (Ne.symm RF), lupd_same]; simp [rStep, hin, hm]
                · rw [et, lupd_same]; simp [rStep, hin, hm]
        · obtain ⟨z, rfl, k4, F4, R4, i4⟩ := hI
          rw [List.length_map, List.take_length] at F4 R4 i4
          exact hN m1 _ _ rfl ⟨_, _, _, _, rfl, k4, F4, R4, i4, hr1⟩
  · exact ((Keep.new hF).put hF).put hR0
  · rw [lupd_ne (Ne.symm RF), lupd_same]; rfl
  · exact lupd_same
end LB

set_option Elab.async false
set_option linter.all false
set_option maxRecDepth 100000
set_option maxHeartbeats 4000000
/-! stones: may_put, is_fine, need_stones, free_points -/
namespace LB
open PySem DP
local macro_rules | `(tactic| walk_at "wp") => `(tactic| simp only [wpSs, wpS, wpE, wpA, wpO, wpIf, wpI, startL, List.map_cons, List.map_nil, List.length_cons, List.length_nil, List.replicate, List.cons_append, List.nil_append, List.getElem?_cons_zero, List.getElem?_cons_succ, Nat.sub_self,
  Option.some.injEq, exists_eq_left', exists_eq_left, tst_bl, ordW_i, eqW_i, addW_i, mulW_i, intW2_i, cmpW, binW, bfW, mtW, isiW_i, isiW_tup, QOp.int, PV.bl.injEq, PV.int.injEq, Nat.reduceAdd, Nat.reduceSub, lenW_tup, tupleW_tup, intW_i, rgW_1, rgW_2, ixW_t0, ixW_t1, srcW_tup, srcW_rol, enumW_tup, asgT_nm, asgT_tp, setsL, List.set_cons_zero, List.set_cons_succ, wipeL, Bool.not_eq_true', if_true, Bool.false_eq_true, if_false, true_and, and_true])
local macro_rules | `(tactic| walk_at "wn") => `(tactic| simp only [wpSs, wpS, wpE, wpA, wpO, wpIf, wpI, startL, List.map_cons, List.map_nil, List.length_cons, List.length_nil, List.replicate, List.cons_append, List.nil_append, List.getElem?_cons_zero, List.getElem?_cons_succ, Nat.sub_self,
  Option.some.injEq, exists_eq_left', exists_eq_left, tst_bl, ordW_i, eqW_i, addW_i, mulW_i, intW2_i, cmpW, binW, bfW, mtW, isiW_i, isiW_tup, QOp.int, PV.bl.injEq, PV.int.injEq, Nat.reduceAdd, Nat.reduceSub, lenW_tup, tupleW_tup, intW_i, rgW_1, rgW_2, ixW_t0, ixW_t1, srcW_tup, srcW_rol, enumW_tup, asgT_nm, asgT_tp, setsL, List.set_cons_zero, List.set_cons_succ, wipeL, Bool.not_eq_true', if_true, Bool.false_eq_true, if_false, true_and, and_true, ixW_pr0, ixW_pr1, ixW_n0, ixW_n1, srcW_pr, srcW_pts, lenW_pts])
variable {P : Prg} {k : Nat} {L : LHp} {Q : K1} {E : KX}
theorem rfold_inv {N : Nat} {inK : Int → Bool} : ∀ (l : List Int) (s : List Int × List Int), (∀ y ∈ l, 0 ≤ y ∧ y < N) → RInv N s.1 s.2 → RInv N (l.foldl (rStep inK) s).1 (l.foldl (rStep inK) s).2 ∧ (l.foldl (rStep inK) s).1.length + s.2.length = (l.foldl (rStep inK) s).2.length + s.1.length
  | [], s, _, h => ⟨h, by simp; omega⟩
  | y :: l, s, hl, h => by
    obtain ⟨h1, h2⟩ := rfold_inv l (rStep inK s y) (fun z hz => hl z (List.mem_cons_of_mem _ hz)) (h.step (hl y List.mem_cons_self))
    refine ⟨h1, ?_⟩
    rw [List.foldl_cons]
    have : (rStep inK s y).1.length + s.2.length = (rStep inK s y).2.length + s.1.length := by
      unfold rStep
      split
      · simp; omega
      · omega
    omega
theorem reachL_some {nr : List (List Int)} {inK : Int → Bool} (hk : PtsOk nr) : ∀ (m : Nat) (found rim : List Int), RInv nr.length found rim → nr.length - found.length + rim.length ≤ m → ∃ res, reachL inK nr m found rim = some res
  | 0, found, rim, inv, hm => by
    have : rim = [] := List.length_eq_zero_iff.mp (by omega)
    exact ⟨found, by unfold reachL; rw [if_pos this]⟩
  | m + 1, found, rim, inv, hm => by
    by_cases hr : rim = []
    · subst hr
      exact ⟨found, rfl⟩
    · have hmem := List.getLast_mem hr
      have hh := inv.rk _ hmem
      have hj : (rim.getLast hr).toNat < nr.length := by omega
      have eD : nr.getD (rim.getLast hr).toNat [] = nr[(rim.getLast hr).toNat] := by simp [List.getD, hj]
      have i0 : RInv nr.length found rim.dropLast := ⟨inv.nd, inv.ok, fun y hy => inv.rk y (List.dropLast_subset _ hy), by have := inv.le; rw [List.length_dropLast]; omega⟩
      obtain ⟨h1, h2⟩ := rfold_inv (inK := inK) nr[(rim.getLast hr).toNat] (found, rim.dropLast) (hk _ (List.getElem_mem hj)) i0
      have h3 := h1.len
      have h4 : rim.length ≠ 0 := fun z => hr (List.length_eq_zero_iff.mp z)
      obtain ⟨res, h5⟩ := reachL_some (inK := inK) hk m _ _ h1 (by simp only [List.length_dropLast] at h2; omega)
      refine ⟨res, ?_⟩
      unfold reachL
      rw [List.getLast?_eq_some_getLast hr]
      show reachL inK nr m ((nr.getD (rim.getLast hr).toNat []).foldl (rStep inK) (found, rim.dropLast)).1 ((nr.getD (rim.getLast hr).toNat []).foldl (rStep inK) (found, rim.dropLast)).2 = some res
      rw [eD]
      exact h5
/-- what reach gives -/
def reachM (nr : List (List Int)) (inK : Int → Bool) (s : Int) : List Int := sortI ((reachL inK nr nr.length [s] [s]).getD [])
theorem reach_t (hP : Has P) {a : Addr} {nr : List (List Int)} {s : Int} {kv : PV} {inK : Int → Bool} (hn : NearAt L a nr) (hl : nr.length < 16777216) (hk : PtsOk nr) (hs : 0 ≤ s ∧ s < nr.length)
    (hK : ∀ (y : Int) (L' : LHp) (Q : K1), Keep L L' → Q (.bl (inK y)) L' → inW false (.int y) kv L' Q) (q : ∀ L', Keep L L' → Q (ptsP (reachM nr inK s)) L') : callW P (k + 1) "reach" [.ref a, .int s, kv] L Q E := by
  have inv : RInv nr.length [s] [s] := ⟨by simp, by simpa using hs, by simpa using hs, Nat.le_refl _⟩
  obtain ⟨res, hr⟩ := reachL_some (inK := inK) hk nr.length [s] [s] inv (by simp; omega)
  refine reach_s hP hn hl hk hs hK hr fun L1 k1 => ?_
  have := q L1 k1
  unfold reachM at this
  rw [hr] at this
  exact this
theorem addAt_ok {N : Nat} {f : List (List Int)} {i x : Int} (h : ∀ l ∈ f, ∀ y ∈ l, 0 ≤ y ∧ y < N) (hx : 0 ≤ x ∧ x < N) : ∀ l ∈ addAt f i x, ∀ y ∈ l, 0 ≤ y ∧ y < N := fun l hl y hy => by
  unfold addAt at hl
  rcases List.mem_or_eq_of_mem_set hl with z | z
  · exact h l z y hy
  · rw [z] at hy
    rcases List.mem_append.mp hy with w | w
    · by_cases hi : i.toNat < f.length
      · have : f.getD i.toNat [] = f[i.toNat] := by simp [List.getD, hi]
        rw [this] at w
        exact h _ (List.getElem_mem hi) y w
      · have : f.getD i.toNat [] = [] := by simp [List.getD, hi]
        rw [this] at w; cases w
    · have : y = x := by simpa using w
      subst this; exact hx
theorem nearT_ok {n : Int} {ps : List (Int × Int)} (h : NetOk n ps) : ∀ i, i ≤ ps.length → ∀ l ∈ nearT n ps i, ∀ y ∈ l, 0 ≤ y ∧ y < (n.toNat : Int)
  | 0, _, l, hl, y, hy => by
    unfold nearT nearF at hl
    simp at hl
    rw [hl.2] at hy; cases hy
  | i + 1, hi, l, hl, y, hy => by
    have hp : ps[i]? = some ps[i] := List.getElem?_eq_getElem hi
    rw [nearT_succ hp] at hl
    obtain ⟨p0, p1, p2⟩ := h.ins _ (List.getElem_mem hi)
    have := h.n1
    exact addAt_ok (addAt_ok (nearT_ok h i (Nat.le_of_succ_le hi)) (by omega)) (by omega) l hl y hy
theorem mem_insI {x y : Int} : ∀ {ys : List Int}, y ∈ insI x ys ↔ y = x ∨ y ∈ ys
  | [] => by simp [insI]
  | z :: ys => by
    unfold insI
    split
    · rw [List.mem_cons, mem_insI, List.mem_cons]
      constructor
      · rintro (h | h | h) <;> simp [h]
      · rintro (h | h | h) <;> simp [h]
    · simp
theorem mem_sortI {y : Int} : ∀ {xs : List Int}, y ∈ sortI xs ↔ y ∈ xs
  | [] => by simp [sortI]
  | x :: xs => by unfold sortI; rw [mem_insI, mem_sortI, List.mem_cons]
theorem nearM_len (n : Int) (ps : List (Int × Int)) : (nearM n ps).length = n.toNat := by
  have := nearT_len n ps ps.length
  unfold nearT at this
  rw [List.take_length] at this
  unfold nearM
  rw [List.length_map, this]
theorem nearM_ok {n : Int} {ps : List (Int × Int)} (h : NetOk n ps) : PtsOk (nearM n ps) := fun l hl y hy => by
  rw [nearM_len]
  unfold nearM at hl
  obtain ⟨l', h1, rfl⟩ := List.mem_map.mp hl
  have := nearT_ok h ps.length (Nat.le_refl _) l'
  unfold nearT at this
  rw [List.take_length] at this
  exact this h1 y (mem_sortI.mp hy)

/-! ### dicts of a comprehension over ints -/
def addN (xs : List Int) (y : Int) : List Int := if y ∈ xs then xs else xs ++ [y]
theorem kT_addN (xs : List Int) (y : Int) : dput (kT xs) (.int y) (.bl true) = kT (addN xs y) := by
  unfold addN
  by_cases h : y ∈ xs
  · rw [if_pos h]
    unfold dput
    rw [kT_any, decide_eq_true h, if_pos rfl]
    unfold kT
    rw [List.map_map]
    apply List.map_congr_left
    intro z _
    by_cases e : z = y <;> simp [e]
  · rw [if_neg h, kT_put h]
theorem kT_fold : ∀ (ys xs : List Int), (ys.map fun y => (PV.int y, PV.bl true)).foldl (fun a p => dput a p.1 p.2) (kT xs) = kT (ys.foldl addN xs)
  | [], xs => rfl
  | y :: ys, xs => by rw [List.map_cons, List.foldl_cons, List.foldl_cons, kT_addN, kT_fold ys]
theorem mem_addN {z : Int} : ∀ (ys xs : List Int), z ∈ ys.foldl addN xs ↔ z ∈ xs ∨ z ∈ ys
  | [], xs => by simp
  | y :: ys, xs => by
    rw [List.foldl_cons, mem_addN ys]
    unfold addN
    by_cases h : y ∈ xs
    · rw [if_pos h, List.mem_cons]
      constructor
      · rintro (a | a)
        · exact .inl a
        · exact .inr (.inr a)
      · rintro (a | a | a)
        · exact .inl a
        · subst a; exact .inl h
        · exact .inr a
    · rw [if_neg h]
      simp
      constructor
      · rintro ((a | a) | a) <;> simp [a]
      · rintro (a | a | a) <;> simp [a]
theorem fm_tt : ∀ ys : List Int, (ys.map PV.int).filterMap (fun x => some (x, PV.bl true)) = ys.map fun y => (PV.int y, PV.bl true)
  | [] => rfl
  | y :: ys => by rw [List.map_cons, List.map_cons, List.filterMap_cons, fm_tt ys]
/-- {y: True for y in ys} -/
theorem dc_ints {Gd : LHp → Prop} {step : PV → LHp → (Option (PV × PV) → LHp → Prop) → Prop} {D : Addr} {L1 : LHp} {Q : LHp → Prop} {ys : List Int} (hD : L1 D = none) (hG : ∀ L, Keep L1 L → Gd L) (hl : ys.length ≤ 16777216)
    (hs : ∀ y ∈ ys, ∀ L N, Keep L1 L → (∀ L', Keep L L' → N (some (.int y, .bl true)) L') → step (.int y) L N) (hQ : ∀ L', Keep L1 L' → L' D = some (.dct (kT (ys.foldl addN []))) → Q L') : dcW Gd step D (ys.map .int) (lupd L1 D (.kdct [])) Q := by
  refine dc_map0 (fun x => some (x, .bl true)) hD hG (by simpa using hl) (fun x hx p hp => ?_) (fun x hx L N k hN => ?_) fun L' k' e => hQ L' k' ?_
  · obtain ⟨y, _, rfl⟩ := List.mem_map.mp hx
    cases hp
    exact ⟨.inl y, rfl⟩
  · obtain ⟨y, hy, rfl⟩ := List.mem_map.mp hx
    exact hs y hy L N k hN
  · rw [e]
    have := kT_fold ys []
    rw [← this]
    rw [fm_tt]
    rfl
end LB

set_option Elab.async false
set_option linter.all false
set_option maxRecDepth 100000
set_option maxHeartbeats 4000000
/-! stones: may_put, is_fine, need_stones, free_points -/
namespace LB
open PySem DP
local macro_rules | `(tactic| walk_at "wp") => `(tactic| simp only [wpSs, wpS, wpE, wpA, wpO, wpIf, wpI, startL, List.map_cons, List.map_nil, List.length_cons, List.length_nil, List.replicate, List.cons_append, List.nil_append, List.getElem?_cons_zero, List.getElem?_cons_succ, Nat.sub_self,
  Option.some.injEq, exists_eq_left', exists_eq_left, tst_bl, ordW_i, eqW_i, addW_i, mulW_i, intW2_i, cmpW, binW, bfW, mtW, isiW_i, isiW_tup, QOp.int, PV.bl.injEq, PV.int.injEq, Nat.reduceAdd, Nat.reduceSub, lenW_tup, tupleW_tup, intW_i, rgW_1, rgW_2, ixW_t0, ixW_t1, srcW_tup, srcW_rol, enumW_tup, asgT_nm, asgT_tp, setsL, List.set_cons_zero, List.set_cons_succ, wipeL, Bool.not_eq_true', if_true, Bool.false_eq_true, if_false, true_and, and_true])
local macro_rules | `(tactic| walk_at "wn") => `(tactic| simp only [wpSs, wpS, wpE, wpA, wpO, wpIf, wpI, startL, List.map_cons, List.map_nil, List.length_cons, List.length_nil, List.replicate, List.cons_append, List.nil_append, List.getElem?_cons_zero, List.getElem?_cons_succ, Nat.sub_self,
  Option.some.injEq, exists_eq_left', exists_eq_left, tst_bl, ordW_i, eqW_i, addW_i, mulW_i, intW2_i, cmpW, binW, bfW, mtW, isiW_i, isiW_tup, QOp.int, PV.bl.injEq, PV.int.injEq, Nat.reduceAdd, Nat.reduceSub, lenW_tup, tupleW_tup, intW_i, rgW_1, rgW_2, ixW_t0, ixW_t1, srcW_tup, srcW_rol, enumW_tup, asgT_nm, asgT_tp, setsL, List.set_cons_zero, List.set_cons_succ, wipeL, Bool.not_eq_true', if_true, Bool.false_eq_true, if_false, true_and, and_true, ixW_pr0, ixW_pr1, ixW_n0, ixW_n1, srcW_pr, srcW_pts, lenW_pts])
variable {P : Prg} {k : Nat} {L : LHp} {Q : K1} {E : KX}
theorem small_pts (xs : List Int) : small (ptsP xs) = true := by
  rw [small_iff]
  unfold ptsP DP.plain pdep
  rw [plainL_int, pdepL_int]
  exact ⟨rfl, by omega⟩
theorem in_pts {neg : Bool} {xs : List Int} {y : Int} (q : Q (.bl (xnot neg (decide (y ∈ xs)))) L) : inW neg (.int y) (ptsP xs) L Q := by
  refine .inl ⟨rfl, small_pts xs, ?_⟩
  have : decide (PV.int y ∈ xs.map PV.int) = decide (y ∈ xs) := by rw [Bool.eq_iff_iff]; simp
  rw [this]; exact q
theorem add_pts {xs : List Int} {y : Int} (h : xs.length < 16777216) (q : Q (ptsP (xs ++ [y])) L) : addW (ptsP xs) (.tup [.int y]) L Q := by
  refine ⟨by rw [List.length_map]; show xs.length + 1 ≤ _; omega, ?_⟩
  have e : ptsP (xs ++ [y]) = .tup (xs.map .int ++ [.int y]) := by unfold ptsP; rw [List.map_append]; rfl
  rw [← e]; exact q
def inL (xs : List Int) (y : Int) : Bool := decide (y ∈ xs)
/-- how many points are reached from p over the lot xs -/
def lotM (nr : List (List Int)) (xs : List Int) (p : Int) : Nat := (reachM nr (inL xs) p).length
def mayM (nr : List (List Int)) (xs : List Int) (p most : Int) : Bool := if p ∈ xs then false else decide ((lotM nr (xs ++ [p]) p : Int) ≤ most)
def fineM (nr : List (List Int)) (xs : List Int) (most : Int) : Bool := xs.all fun p => decide ((lotM nr xs p : Int) ≤ most)
theorem fold_in {ys : List Int} {z : Int} : decide (z ∈ ys.foldl addN []) = inL ys z := by
  unfold inL
  rw [Bool.eq_iff_iff]
  simp [mem_addN]
theorem may_put_s (hP : Has P) {a : Addr} {nr : List (List Int)} {xs : List Int} {p most : Int} (hn : NearAt L a nr) (hl : nr.length < 1000) (hk : PtsOk nr) (hp : 0 ≤ p ∧ p < nr.length) (hx : xs.length < 1000) (q : ∀ L', Keep L L' → Q (.bl (mayM nr xs p most)) L') :
    callW P (k + 2) "may_put" [.ref a, ptsP xs, .int p, .int most] L Q E := by
  refine call_d hP.h_may_put rfl ?_
  unfold dmay_put
  walk_at "wn"
  refine in_pts ?_
  rw [tst_bl]
  unfold mayM at q
  by_cases hm : p ∈ xs
  · refine iteY (by simp [xnot, hm]) ?_
    rw [if_pos hm] at q
    exact q _ (.refl _)
  · rw [if_neg hm] at q
    refine iteN (by simp [xnot, hm]) ⟨by decide, add_pts (by omega) ?_⟩
    rw [srcW_pts]
    intro D hD
    refine dc_ints hD (fun _ _ => trivial) (by simp; omega) (fun y hy L1 N k1 hN => ?_) fun L1 k1 e1 => ?_
    · (try walk_at "wn")
      exact hN _ (.refl _)
    · (try walk_at "wn")
      refine reach_t hP (inK := inL (xs ++ [p])) (hn.keep k1) (by omega) hk hp (fun y L2 Q2 k2 q2 => ?_) fun L2 k2 => ?_
      · refine in_kT (k2 _ _ e1) ?_
        rw [fold_in]; exact q2
      · walk_at "wn"
        exact q _ (k1.trans k2)
theorem is_fine_s (hP : Has P) {a : Addr} {nr : List (List Int)} {xs : List Int} {most : Int} (hn : NearAt L a nr) (hl : nr.length < 1000) (hk : PtsOk nr) (hp : ∀ p ∈ xs, 0 ≤ p ∧ p < nr.length) (hx : xs.length < 1000) (q : ∀ L', Keep L L' → Q (.bl (fineM nr xs most)) L') :
    callW P (k + 2) "is_fine" [.ref a, ptsP xs, .int most] L Q E := by
  refine call_d hP.h_is_fine rfl ?_
  unfold dis_fine
  walk_at "wn"
  intro D hD
  refine dc_ints hD (fun _ _ => trivial) (by omega) (fun y hy L1 N k1 hN => ?_) fun L1 k1 e1 => ?_
  · (try walk_at "wn")
    exact hN _ (.refl _)
  · (try walk_at "wn")
    intro D2 hD2
    refine lc_all PV.int (fun p => .bl (decide ((lotM nr xs p : Int) ≤ most))) hD2 (fun _ _ => trivial) (by omega) (fun p hpm L2 N k2 hN => ?_) fun L2 k2 e2 => ?_
    · (try walk_at "wn")
      refine reach_t hP (inK := inL xs) (hn.keep (k1.trans k2)) (by omega) hk (hp p hpm) (fun y L3 Q2 k3 q2 => ?_) fun L3 k3 => ?_
      · refine in_kT (k3 _ _ (k2 _ _ e1)) ?_
        rw [fold_in]; exact q2
      · walk_at "wn"
        exact hN _ k3
    · refine ⟨D2, _, xs.map fun p => decide ((lotM nr xs p : Int) ≤ most), rfl, e2, (by have := bools_map (xs.map fun p => decide ((lotM nr xs p : Int) ≤ most)); rw [List.map_map] at this; exact this), ?_⟩
      have e : (xs.map fun p => decide ((lotM nr xs p : Int) ≤ most)).all id = fineM nr xs most := by
        unfold fineM
        rw [List.all_map]; rfl
      rw [e]
      exact q _ (k1.trans k2)
theorem ptsB_in {n : Int} {xs : List Int} (h : ptsB n xs = true) : (xs.length : Int) ≤ n ∧ ∀ p ∈ xs, 0 ≤ p ∧ p < n := by
  unfold ptsB at h
  simp only [Bool.and_eq_true, decide_eq_true_eq, List.all_eq_true] at h
  refine ⟨h.1.1, fun p hp => ?_⟩
  have := h.1.2 p hp
  unfold inB at this
  simp at this
  omega
theorem need_stones_s (hP : Has P) {n : Int} {ps : List (Int × Int)} {xs : List Int} {most : Int} (h : NetOk n ps) (h10 : n ≤ 10) (hx : ptsB n xs = true) (hm : 1 ≤ most ∧ most ≤ n) (hf : fineM (nearM n ps) xs most = true) (q : ∀ a L', Keep L L' → NearAt L' a (nearM n ps) → Q (.ref a) L') :
    callW P (k + 5) "need_stones" [netP n ps, ptsP xs, .int most] L Q E := by
  have hn := h.n1
  have hin := ptsB_in hx
  have hlen : (nearM n ps).length = n.toNat := nearM_len n ps
  refine call_d hP.h_need_stones rfl ?_
  unfold dneed_stones
  walk_at "wn"
  refine need_net_s hP h fun L1 k1 => ?_
  refine need_points_s hP hn.2 hx fun L2 k2 => ?_
  refine need_number_s (k := k + 1) hP hm ?_
  refine near_of_s hP h fun a L3 k3 _ na => ?_
  (try walk_at "wn")
  refine is_fine_s hP na (by omega) (nearM_ok h) (fun p hp => ?_) (by omega) fun L4 k4 => ?_
  · have := hin.2 p hp
    rw [hlen]; omega
  · walk_at "wn"
    refine iteF' hf ⟨10, hP.c_MOST_POINTS_stones, ?_⟩
    (try walk_at "wn")
    refine iteN (by simp; omega) ?_
    exact q a L4 (((k1.trans k2).trans k3).trans k4) (na.keep k4)
theorem free_points_s (hP : Has P) {n : Int} {ps : List (Int × Int)} {xs : List Int} {most : Int} (h : NetOk n ps) (h10 : n ≤ 10) (hx : ptsB n xs = true) (hm : 1 ≤ most ∧ most ≤ n) (hf : fineM (nearM n ps) xs most = true)
    (q : ∀ a L', Keep L L' → L' a = some (.lst ((((List.range n.toNat).filter fun i => mayM (nearM n ps) xs (i : Nat) most).map fun i => ((i : Nat) : Int)).map .int)) → Q (.ref a) L') :
    callW P (k + 6) "free_points" [netP n ps, ptsP xs, .int most] L Q E := by
  have hn := h.n1
  have hin := ptsB_in hx
  have hlen : (nearM n ps).length = n.toNat := nearM_len n ps
  refine call_d hP.h_free_points rfl ?_
  unfold dfree_points
  walk_at "wn"
  refine need_stones_s hP h h10 hx hm hf fun a L1 k1 na => ?_
  (try walk_at "wn")
  refine ⟨rgOk_0 (by omega) (by omega), fun D hD => ?_⟩
  rw [rgP_i]
  refine lc_some (fun i : Nat => PV.int (i : Nat)) (fun i => if mayM (nearM n ps) xs (i : Nat) most = true then some (.int (i : Nat)) else none) hD (fun _ _ => trivial) (by simp; omega) (fun i hi L2 N k2 hN => ?_) fun L2 k2 e2 => ?_
  · have hi' := List.mem_range.mp hi
    (try walk_at "wn")
    refine may_put_s (k := k + 3) hP (na.keep k2) (by omega) (nearM_ok h) (by omega) (by omega) fun L3 k3 => ?_
    rw [tst_bl]
    cases hb : mayM (nearM n ps) xs (i : Nat) most with
    | true => have := hN L3 k3; rw [if_pos hb] at this; exact iteY rfl this
    | false => have := hN L3 k3; rw [if_neg (by rw [hb]; decide)] at this; exact iteN rfl this
  · refine q D L2 (k1.trans k2) ?_
    rw [e2]
    congr 2
    generalize List.range n.toNat = l
    induction l with
    | nil => rfl
    | cons i r ih =>
      rw [List.filterMap_cons, List.filter_cons]
      by_cases hb : mayM (nearM n ps) xs (i : Nat) most = true
      · simp [hb, ih]
      · simp [hb, ih]
end LB

set_option Elab.async false
set_option linter.all false
set_option maxRecDepth 100000
set_option maxHeartbeats 4000000
/-! stones by masks -/
namespace LB
open PySem DP
local macro_rules | `(tactic| walk_at "wp") => `(tactic| simp only [wpSs, wpS, wpE, wpA, wpO, wpIf, wpI, startL, List.map_cons, List.map_nil, List.length_cons, List.length_nil, List.replicate, List.cons_append, List.nil_append, List.getElem?_cons_zero, List.getElem?_cons_succ, Nat.sub_self,
  Option.some.injEq, exists_eq_left', exists_eq_left, tst_bl, ordW_i, eqW_i, addW_i, mulW_i, intW2_i, cmpW, binW, bfW, mtW, isiW_i, isiW_tup, QOp.int, PV.bl.injEq, PV.int.injEq, Nat.reduceAdd, Nat.reduceSub, lenW_tup, tupleW_tup, intW_i, rgW_1, rgW_2, ixW_t0, ixW_t1, srcW_tup, srcW_rol, enumW_tup, asgT_nm, asgT_tp, setsL, List.set_cons_zero, List.set_cons_succ, wipeL, Bool.not_eq_true', if_true, Bool.false_eq_true, if_false, true_and, and_true])
local macro_rules | `(tactic| walk_at "wn") => `(tactic| simp only [wpSs, wpS, wpE, wpA, wpO, wpIf, wpI, startL, List.map_cons, List.map_nil, List.length_cons, List.length_nil, List.replicate, List.cons_append, List.nil_append, List.getElem?_cons_zero, List.getElem?_cons_succ, Nat.sub_self,
  Option.some.injEq, exists_eq_left', exists_eq_left, tst_bl, ordW_i, eqW_i, addW_i, mulW_i, intW2_i, cmpW, binW, bfW, mtW, isiW_i, isiW_tup, QOp.int, PV.bl.injEq, PV.int.injEq, Nat.reduceAdd, Nat.reduceSub, lenW_tup, tupleW_tup, intW_i, rgW_1, rgW_2, ixW_t0, ixW_t1, srcW_tup, srcW_rol, enumW_tup, asgT_nm, asgT_tp, setsL, List.set_cons_zero, List.set_cons_succ, wipeL, Bool.not_eq_true', if_true, Bool.false_eq_true, if_false, true_and, and_true, ixW_pr0, ixW_pr1, ixW_n0, ixW_n1, srcW_pr, srcW_pts, lenW_pts])
variable {P : Prg} {k : Nat} {L : LHp} {Q : K1} {E : KX}
def bitB (m i : Nat) : Bool := decide (Builtin.bitAnd ((m : Int) / 2 ^ ((i : Nat) : Int).toNat) 1 = 1)
def bitsM (n : Int) (m : Nat) : List Int := ((List.range n.toNat).filter fun i => bitB m i).map fun i => ((i : Nat) : Int)
theorem bits_fm (m : Nat) : ∀ l : List Nat, l.filterMap (fun i => if bitB m i = true then some (PV.int (i : Nat)) else none) = ((l.filter fun i => bitB m i).map fun i => ((i : Nat) : Int)).map .int
  | [] => rfl
  | i :: r => by
    rw [List.filterMap_cons, List.filter_cons, bits_fm m r]
    by_cases hb : bitB m i = true <;> simp [hb]
/-- the comprehension of a mask's points -/
theorem bits_lc {Gd : LHp → Prop} {step : PV → LHp → (Option PV → LHp → Prop) → Prop} {D : Addr} {L1 : LHp} {Q : LHp → Prop} {n : Int} {m : Nat} (hD : L1 D = none) (hG : ∀ L, Keep L1 L → Gd L) (hn : n ≤ 12)
    (hs : ∀ i L N, Keep L1 L → (∀ L', Keep L L' → N (if bitB m i = true then some (PV.int (i : Nat)) else none) L') → step (.int (i : Nat)) L N) (hQ : ∀ L', Keep L1 L' → L' D = some (.lst ((bitsM n m).map .int)) → Q L') : lcW Gd step D (rgP 0 n) (lupd L1 D (.lst [])) Q := by
  rw [rgP_i]
  refine lc_some (fun i : Nat => PV.int (i : Nat)) (fun i => if bitB m i = true then some (.int (i : Nat)) else none) hD hG (by simp; omega) (fun i _ L N k hN => hs i L N k hN) fun L' k' e' => hQ L' k' ?_
  rw [e', bits_fm]
  rfl
theorem bitsM_in {n : Int} {m : Nat} (h0 : 0 ≤ n) : ((bitsM n m).length : Int) ≤ n ∧ ∀ p ∈ bitsM n m, 0 ≤ p ∧ p < n := by
  unfold bitsM
  refine ⟨?_, fun p hp => ?_⟩
  · rw [List.length_map]
    have := List.length_filter_le (fun i => bitB m i) (List.range n.toNat)
    rw [List.length_range] at this
    omega
  · obtain ⟨i, hi, rfl⟩ := List.mem_map.mp hp
    have := List.mem_range.mp (List.mem_filter.mp hi).1
    omega
theorem pow_nat {n : Int} (h0 : 0 ≤ n) : (1 : Int) * 2 ^ n.toNat = ((2 ^ n.toNat : Nat) : Int) := by
  rw [Int.one_mul]
  exact (Int.natCast_pow 2 n.toNat).symm
/-- counts, by all masks below i -/
def countF (nr : List (List Int)) (n most : Int) (i : Nat) : List Int := (List.range i).foldl (fun c m => if fineM nr (bitsM n m) most = true then c.set (bitsM n m).length (c.getD (bitsM n m).length 0 + 1) else c) (List.replicate (n.toNat + 1) 0)
def cutZ : Nat → List Int → List Int
  | 0, xs => xs
  | k + 1, xs => if xs.getLast? = some 0 then cutZ k xs.dropLast else xs
def countM (nr : List (List Int)) (n most : Int) : List Int := cutZ (n.toNat + 1) (countF nr n most (2 ^ n.toNat))
theorem countF_len (nr : List (List Int)) (n most : Int) : ∀ i, (countF nr n most i).length = n.toNat + 1
  | 0 => by unfold countF; simp
  | i + 1 => by
    have ih := countF_len nr n most i
    unfold countF at ih ⊢
    rw [List.range_succ, List.foldl_append, List.foldl_cons, List.foldl_nil]
    split
    · rw [List.length_set]; exact ih
    · exact ih
theorem countF_succ (nr : List (List Int)) (n most : Int) (i : Nat) : countF nr n most (i + 1) = if fineM nr (bitsM n i) most = true then (countF nr n most i).set (bitsM n i).length ((countF nr n most i).getD (bitsM n i).length 0 + 1) else countF nr n most i := by
  unfold countF
  rw [List.range_succ, List.foldl_append, List.foldl_cons, List.foldl_nil]
theorem ixN_n {m j : Nat} (h : j < m) : L2.ixN m (j : Int) = some j := by
  unfold L2.ixN
  rw [if_pos (by omega), if_pos (by omega)]
  rfl
theorem count_stones_s (hP : Has P) {n : Int} {ps : List (Int × Int)} {most : Int} (h : NetOk n ps) (h10 : n ≤ 10) (hm : 1 ≤ most ∧ most ≤ n) (hnz : ∃ x r, countM (nearM n ps) n most = x :: r ∧ (countM (nearM n ps) n most).getLast? ≠ some 0)
    (q : ∀ L', Keep L L' → Q (ptsP (countM (nearM n ps) n most)) L') : callW P (k + 6) "count_stones" [netP n ps, .int most] L Q E := by
  have hn := h.n1
  have hlen : (nearM n ps).length = n.toNat := nearM_len n ps
  refine call_d hP.h_count_stones rfl ?_
  unfold dcount_stones
  walk_at "wn"
  refine ⟨by decide, need_stones_s (xs := []) hP h h10 (by simp [ptsB]; omega) hm (by rfl) fun a L1 k1 na => ?_⟩
  (try walk_at "wn")
  refine ⟨by decide, fun Z hZ => ?_⟩
  refine ⟨[.int 0], lupd_same, by omega, by omega, by simp; omega, fun C hC => ?_⟩
  have CZ : C ≠ Z := fun z => by subst z; rw [lupd_same] at hC; cases hC
  have hC1 : L1 C = none := by rw [lupd_ne CZ] at hC; exact hC
  have hC0 : L C = none := by
    cases z : L C with
    | none => rfl
    | some o => have := k1 _ _ z; rw [hC1] at this; cases this
  have hZ0 : L Z = none := by
    cases z : L Z with
    | none => rfl
    | some o => have := k1 _ _ z; rw [hZ] at this; cases this
  have e0 : (List.replicate (n + 1).toNat [PV.int 0]).flatten = (countF (nearM n ps) n most 0).map .int := by
    unfold countF
    rw [show (n + 1).toNat = n.toNat + 1 by omega]
    simp
  rw [e0]
  have hw : (1 : Int) * 2 ^ n.toNat ≤ 1024 := by
    rw [pow_nat (by omega)]
    have : 2 ^ n.toNat ≤ 2 ^ 10 := Nat.pow_le_pow_right (by decide) (by omega)
    omega
  have hw0 : 0 ≤ (1 : Int) * 2 ^ n.toNat := by rw [pow_nat (by omega)]; exact Int.natCast_nonneg _
  refine ⟨⟨by omega, by omega, by decide⟩, rgOk_0 (by omega) (by omega), ?_⟩
  rw [rgP_i, pow_nat (by omega)]
  rw [Int.toNat_natCast]
  refine for_by0 (fun i ls L' => Keep L1 L' ∧ L' C = some (.lst ((countF (nearM n ps) n most i).map .int)) ∧ ∃ b c d, ls = [some (netP n ps), some (.int most), some (.ref a), some (.ref C), b, c, d]) ⟨(Keep.new hZ).put hC1, lupd_same, _, _, _, rfl⟩ (fun _ _ _ _ _ => trivial) (fun i x ls L3 N hx hI hN => ?_) (fun ls L3 hI => ?_)
  · obtain ⟨k3, hC3, b, c, d, rfl⟩ := hI
    have na3 := na.keep k3
    have hi : i < 2 ^ n.toNat := by
      have := (List.getElem?_eq_some_iff.mp hx).1
      simpa using this
    have ex : x = .int (i : Nat) := by
      rw [List.getElem?_map, List.getElem?_range hi] at hx
      exact (Option.some.inj hx).symm
    subst ex
    walk_at "wn"
    refine ⟨rgOk_0 (by omega) (by omega), fun D hD => bits_lc (m := i) hD (fun _ _ => trivial) hn.2 (fun j L4 N2 k4 hN2 => ?_) fun L4 k4 e4 => ?_⟩
    · walk_at "wn"
      refine ⟨by omega, ?_⟩
      have := hN2 L4 (.refl _)
      by_cases hb : bitB i j = true
      · rw [if_pos hb] at this
        refine iteY ?_ this
        unfold bitB at hb
        simpa [xnot] using hb
      · rw [if_neg hb] at this
        refine iteN ?_ this
        unfold bitB at hb
        simpa [xnot] using hb
    · refine ⟨_, e4, ?_⟩
      (try walk_at "wn")
      have hbi := bitsM_in (n := n) (m := i) (by omega)
      refine is_fine_s (k := k + 3) hP (na3.keep k4) (by omega) (nearM_ok h) (fun p hp => by have := hbi.2 p hp; omega) (by omega) fun L5 k5 => ?_
      rw [tst_bl]
      have k35 := k4.trans k5
      cases hf : fineM (nearM n ps) (bitsM n i) most with
      | false =>
        refine iteN rfl (hN _ _ ⟨k3.trans k35, ?_, _, _, _, rfl⟩)
        rw [countF_succ, hf]
        exact k35 _ _ hC3
      | true =>
        refine iteY rfl ?_
        have hl := countF_len (nearM n ps) n most i
        have hbl : (bitsM n i).length < (countF (nearM n ps) n most i).length := by omega
        have hC5 := k35 _ _ hC3
        have eg : ((countF (nearM n ps) n most i).map PV.int)[(bitsM n i).length]? = some (.int ((countF (nearM n ps) n most i).getD (bitsM n i).length 0)) := by
          rw [List.getElem?_map]; simp [List.getD, hbl]
        rw [List.length_map]
        refine ixW_ref hC5 eg ⟨_, 1, rfl, rfl, .inl ⟨_, _, (bitsM n i).length, hC5, rfl, ixN_n (by rw [List.length_map]; exact hbl), ?_⟩⟩
        refine hN _ _ ⟨(k3.trans k35).put hC1, ?_, _, _, _, rfl⟩
        rw [lupd_same, countF_succ, hf, if_pos rfl, List.map_set]
  · obtain ⟨k3', hC3, b, c, d, rfl⟩ := hI
    have k3 := k1.trans k3'
    rw [List.length_map, List.length_range] at hC3
    obtain ⟨x0, r0, hne, hnz⟩ := hnz
    refine ⟨n.toNat + 1 + 1, whl_ind (fun j ls L' => ∃ xs, ls = [some (netP n ps), some (.int most), some (.ref a), some (.ref C), b, c, d] ∧ Keep L L' ∧ L' C = some (.lst (xs.map .int)) ∧ cutZ j xs = countM (nearM n ps) n most) (fun j ls L4 N hI hN => ?_) _ _ _ ⟨_, rfl, k3, hC3, rfl⟩⟩
    obtain ⟨xs, rfl, k4, hC4, hz⟩ := hI
    have hx : xs ≠ [] := fun z => by
      subst z
      have : cutZ j [] = [] := by cases j <;> rfl
      rw [this, hne] at hz; cases hz
    have el : xs = xs.dropLast ++ [xs.getLast hx] := (List.dropLast_concat_getLast hx).symm
    have ea : L2.atI (xs.map PV.int) (-1) = some (.int (xs.getLast hx)) := by
      conv => lhs; rw [el, List.map_append]
      exact L2.atI_last _ _
    walk_at "wn"
    refine .inl ⟨_, -1, _, hC4, rfl, ea, ?_⟩
    walk_at "wn"
    by_cases h0 : xs.getLast hx = 0
    · refine iteY (by simp [xnot, h0]) ⟨⟨C, _, rfl, hC4⟩, C, _, .int (xs.getLast hx), rfl, rfl, hC4, ?_, ?_⟩
      · rw [List.length_map, List.getElem?_map, ← List.getLast?_eq_getElem?, List.getLast?_eq_some_getLast hx]; rfl
      · cases j with
        | zero =>
          exfalso
          have hz' : xs = countM (nearM n ps) n most := hz
          apply hnz
          rw [← hz', List.getLast?_eq_some_getLast hx, h0]
        | succ j =>
          refine hN j _ _ rfl ⟨xs.dropLast, rfl, k4.put hC0, ?_, ?_⟩
          · rw [lupd_same, List.map_dropLast]
          · unfold cutZ at hz
            rw [List.getLast?_eq_some_getLast hx, h0, if_pos rfl] at hz
            exact hz
    · refine iteN (by simp [xnot, h0]) ⟨_, hC4, ?_⟩
      have : xs = countM (nearM n ps) n most := by
        cases j with
        | zero => exact hz
        | succ j =>
          unfold cutZ at hz
          rw [List.getLast?_eq_some_getLast hx, if_neg (by simpa using h0)] at hz
          exact hz
      rw [this]
      exact q _ k4
end LB

set_option Elab.async false
set_option linter.all false
set_option maxRecDepth 100000
set_option maxHeartbeats 4000000
/-! most_stones, fewest_full -/
namespace LB
open PySem DP
local macro_rules | `(tactic| walk_at "wp") => `(tactic| simp only [wpSs, wpS, wpE, wpA, wpO, wpIf, wpI, startL, List.map_cons, List.map_nil, List.length_cons, List.length_nil, List.replicate, List.cons_append, List.nil_append, List.getElem?_cons_zero, List.getElem?_cons_succ, Nat.sub_self,
  Option.some.injEq, exists_eq_left', exists_eq_left, tst_bl, ordW_i, eqW_i, addW_i, mulW_i, intW2_i, cmpW, binW, bfW, mtW, isiW_i, isiW_tup, QOp.int, PV.bl.injEq, PV.int.injEq, Nat.reduceAdd, Nat.reduceSub, lenW_tup, tupleW_tup, intW_i, rgW_1, rgW_2, ixW_t0, ixW_t1, srcW_tup, srcW_rol, enumW_tup, asgT_nm, asgT_tp, setsL, List.set_cons_zero, List.set_cons_succ, wipeL, Bool.not_eq_true', if_true, Bool.false_eq_true, if_false, true_and, and_true])
local macro_rules | `(tactic| walk_at "wn") => `(tactic| simp only [wpSs, wpS, wpE, wpA, wpO, wpIf, wpI, startL, List.map_cons, List.map_nil, List.length_cons, List.length_nil, List.replicate, List.cons_append, List.nil_append, List.getElem?_cons_zero, List.getElem?_cons_succ, Nat.sub_self,
  Option.some.injEq, exists_eq_left', exists_eq_left, tst_bl, ordW_i, eqW_i, addW_i, mulW_i, intW2_i, cmpW, binW, bfW, mtW, isiW_i, isiW_tup, QOp.int, PV.bl.injEq, PV.int.injEq, Nat.reduceAdd, Nat.reduceSub, lenW_tup, tupleW_tup, intW_i, rgW_1, rgW_2, ixW_t0, ixW_t1, srcW_tup, srcW_rol, enumW_tup, asgT_nm, asgT_tp, setsL, List.set_cons_zero, List.set_cons_succ, wipeL, Bool.not_eq_true', if_true, Bool.false_eq_true, if_false, true_and, and_true, ixW_pr0, ixW_pr1, ixW_n0, ixW_n1, srcW_pr, srcW_pts, lenW_pts])
variable {P : Prg} {k : Nat} {L : LHp} {Q : K1} {E : KX}
def ltI : List Int → List Int → Bool
  | [], [] => false
  | [], _ :: _ => true
  | _ :: _, [] => false
  | x :: xs, y :: ys => if x = y then ltI xs ys else decide (x < y)
theorem qBL_int : ∀ xs ys : List Int, qBL .lt (xs.map .int) (ys.map .int) = ltI xs ys
  | [], [] => by simp [qBL, QOp.len, ltI]
  | [], y :: ys => by simp [qBL, QOp.len, ltI]
  | x :: xs, [] => by simp [qBL, QOp.len, ltI]
  | x :: xs, y :: ys => by
    rw [List.map_cons, List.map_cons]
    unfold qBL ltI
    rw [qBL_int xs ys]
    by_cases h : x = y
    · subst h; rw [if_pos rfl, if_pos rfl]
    · rw [if_neg (by simpa using h), if_neg h]; simp [qB, QOp.int]
theorem cbL_int : ∀ xs ys : List Int, cbL (xs.map .int) (ys.map .int) = true
  | [], _ => by simp [cbL]
  | x :: xs, [] => by simp [cbL]
  | x :: xs, y :: ys => by rw [List.map_cons, List.map_cons]; unfold cbL; rw [cbL_int xs ys]; simp [cb]
theorem ord_pts {xs ys : List Int} (q : Q (.bl (ltI xs ys)) L) : ordW .lt (ptsP xs) (ptsP ys) L Q := by
  refine ⟨small_pts xs, small_pts ys, ?_, ?_⟩
  · unfold ptsP cb; exact cbL_int xs ys
  · have : qB .lt (ptsP xs) (ptsP ys) = ltI xs ys := by unfold ptsP qB; exact qBL_int xs ys
    rw [this]; exact q
theorem small_sz (a : Int) (xs : List Int) : small (.tup [.int a, ptsP xs]) = true := by
  have h := small_iff.mp (small_pts xs)
  rw [small_iff]
  unfold ptsP at h
  have h1 : DP.plain (ptsP xs) = true := h.1
  have h2 : pdep (ptsP xs) ≤ 60 := h.2
  have h3 : pdep (ptsP xs) = 1 := by unfold ptsP pdep; rw [pdepL_int]
  refine ⟨?_, ?_⟩
  · simp [DP.plain, DP.plainL, h1]
  · simp [pdep, pdepL, h3]
/-- (len(x), x) < (len(y), y) -/
def ltS (xs ys : List Int) : Bool := if xs.length = ys.length then ltI xs ys else decide (xs.length < ys.length)
theorem ltI_irr : ∀ xs : List Int, ltI xs xs = false
  | [] => rfl
  | x :: xs => by unfold ltI; rw [if_pos rfl]; exact ltI_irr xs
theorem ord_sz {xs ys : List Int} (q : Q (.bl (ltS xs ys)) L) : ordW .lt (.tup [.int xs.length, ptsP xs]) (.tup [.int ys.length, ptsP ys]) L Q := by
  refine ⟨small_sz _ _, small_sz _ _, ?_, ?_⟩
  · unfold cb cbL cb cbL
    have : cb (ptsP xs) (ptsP ys) = true := by unfold ptsP cb; exact cbL_int xs ys
    rw [this]
    simp [cbL]
  · have hq : qB .lt (ptsP xs) (ptsP ys) = ltI xs ys := by unfold ptsP qB; exact qBL_int xs ys
    have : qB .lt (.tup [.int xs.length, ptsP xs]) (.tup [.int ys.length, ptsP ys]) = ltS xs ys := by
      unfold qB qBL ltS
      by_cases h : xs.length = ys.length
      · rw [if_pos (by rw [h]), if_pos h]
        unfold qBL
        by_cases e : xs = ys
        · subst e
          rw [if_pos rfl, ltI_irr]
          simp [qBL, QOp.len]
        · rw [if_neg (fun z => e (by unfold ptsP at z; injection z with z; exact map_int_inj.mp z)), hq]
      · rw [if_neg (fun z => h (by injection z with z; omega)), if_neg h]
        simp [qB, QOp.int]
    rw [this]; exact q
def mostF (nr : List (List Int)) (n most : Int) (i : Nat) : List Int := (List.range i).foldl (fun best m => if (decide (best.length < (bitsM n m).length) || (decide ((bitsM n m).length = best.length) && ltI (bitsM n m) best)) && fineM nr (bitsM n m) most then bitsM n m else best) []
theorem mostF_succ (nr : List (List Int)) (n most : Int) (i : Nat) : mostF nr n most (i + 1) = if (decide ((mostF nr n most i).length < (bitsM n i).length) || (decide ((bitsM n i).length = (mostF nr n most i).length) && ltI (bitsM n i) (mostF nr n most i))) && fineM nr (bitsM n i) most then bitsM n i else mostF nr n most i := by
  unfold mostF
  rw [List.range_succ, List.foldl_append, List.foldl_cons, List.foldl_nil]
theorem most_stones_s (hP : Has P) {n : Int} {ps : List (Int × Int)} {most : Int} (h : NetOk n ps) (h10 : n ≤ 10) (hm : 1 ≤ most ∧ most ≤ n)
    (q : ∀ L', Keep L L' → Q (ptsP (mostF (nearM n ps) n most (2 ^ n.toNat))) L') : callW P (k + 6) "most_stones" [netP n ps, .int most] L Q E := by
  have hn := h.n1
  have hlen : (nearM n ps).length = n.toNat := nearM_len n ps
  refine call_d hP.h_most_stones rfl ?_
  unfold dmost_stones
  walk_at "wn"
  refine ⟨by decide, need_stones_s (xs := []) hP h h10 (by simp [ptsB]; omega) hm (by rfl) fun a L1 k1 na => ?_⟩
  (try walk_at "wn")
  have hw : (1 : Int) * 2 ^ n.toNat ≤ 1024 := by
    rw [pow_nat (by omega)]
    have : 2 ^ n.toNat ≤ 2 ^ 10 := Nat.pow_le_pow_right (by decide) (by omega)
    omega
  have hw0 : 0 ≤ (1 : Int) * 2 ^ n.toNat := by rw [pow_nat (by omega)]; exact Int.natCast_nonneg _
  refine ⟨by decide, ⟨by omega, by omega, by decide⟩, rgOk_0 (by omega) (by omega), ?_⟩
  rw [rgP_i, pow_nat (by omega), Int.toNat_natCast]
  refine for_by0 (fun i ls L' => Keep L1 L' ∧ ∃ b c d, ls = [some (netP n ps), some (.int most), some (.ref a), some (ptsP (mostF (nearM n ps) n most i)), b, c, d]) ⟨.refl _, _, _, _, rfl⟩ (fun _ _ _ _ _ => trivial) (fun i x ls L3 N hx hI hN => ?_) (fun ls L3 hI => ?_)
  · obtain ⟨k3, b, c, d, rfl⟩ := hI
    have na3 := na.keep k3
    have hi : i < 2 ^ n.toNat := by
      have := (List.getElem?_eq_some_iff.mp hx).1
      simpa using this
    have ex : x = .int (i : Nat) := by
      rw [List.getElem?_map, List.getElem?_range hi] at hx
      exact (Option.some.inj hx).symm
    subst ex
    walk_at "wn"
    refine ⟨rgOk_0 (by omega) (by omega), fun D hD => bits_lc (m := i) hD (fun _ _ => trivial) hn.2 (fun j L4 N2 k4 hN2 => ?_) fun L4 k4 e4 => ?_⟩
    · walk_at "wn"
      refine ⟨by omega, ?_⟩
      have := hN2 L4 (.refl _)
      by_cases hb : bitB i j = true
      · rw [if_pos hb] at this
        refine iteY ?_ this
        unfold bitB at hb
        simpa [xnot] using hb
      · rw [if_neg hb] at this
        refine iteN ?_ this
        unfold bitB at hb
        simpa [xnot] using hb
    · refine ⟨_, e4, ?_⟩
      have hbi := bitsM_in (n := n) (m := i) (by omega)
      have stay : ∀ {L5 : LHp}, Keep L4 L5 → mostF (nearM n ps) n most (i + 1) = mostF (nearM n ps) n most i → N [some (netP n ps), some (.int most), some (.ref a), some (ptsP (mostF (nearM n ps) n most i)), some (.int (i : Nat)), some (ptsP (bitsM n i)), d] L5 := fun k5 e => hN _ _ ⟨(k3.trans k4).trans k5, _, _, _, by rw [e]⟩
      have go : (decide ((mostF (nearM n ps) n most i).length < (bitsM n i).length) || (decide ((bitsM n i).length = (mostF (nearM n ps) n most i).length) && ltI (bitsM n i) (mostF (nearM n ps) n most i))) = true →
          callW P (k + 5) "is_fine" [.ref a, ptsP (bitsM n i), .int most] L4 (fun x L1 => tst x fun k => if k = true then N [some (netP n ps), some (.int most), some (.ref a), some (ptsP (bitsM n i)), some (.int (i : Nat)), some (ptsP (bitsM n i)), d] L1 else N [some (netP n ps), some (.int most), some (.ref a), some (ptsP (mostF (nearM n ps) n most i)), some (.int (i : Nat)), some (ptsP (bitsM n i)), d] L1) (fun x => E x) := fun hc => by
        refine is_fine_s (k := k + 3) hP (na3.keep k4) (by omega) (nearM_ok h) (fun p hp => by have := hbi.2 p hp; omega) (by omega) fun L5 k5 => ?_
        rw [tst_bl]
        cases hf : fineM (nearM n ps) (bitsM n i) most with
        | false => exact iteN rfl (stay k5 (by rw [mostF_succ, hc, hf]; rfl))
        | true => exact iteY rfl (hN _ _ ⟨(k3.trans k4).trans k5, _, _, _, by rw [mostF_succ, hc, hf]; rfl⟩)
      show lenW [ptsP (bitsM n i)] L4 _
      walk_at "wn"
      by_cases c1 : (mostF (nearM n ps) n most i).length < (bitsM n i).length
      · exact iteY (by simpa using c1) (go (by simp [c1]))
      · refine iteN (by simpa using c1) ?_
        by_cases c2 : (bitsM n i).length = (mostF (nearM n ps) n most i).length
        · refine iteY (by simp [xnot, c2]) ?_
          show ordW .lt (ptsP _) (ptsP _) _ _
          refine ord_pts ?_
          rw [tst_bl]
          cases c3 : ltI (bitsM n i) (mostF (nearM n ps) n most i) with
          | true => exact iteY rfl (go (by simp [c2, c3]))
          | false => exact iteN rfl (stay (.refl _) (by rw [mostF_succ]; simp [c2, c3]))
        · refine iteN (by simp [xnot]; omega) (stay (.refl _) (by rw [mostF_succ]; simp [c1, c2]))
  · obtain ⟨k3, b, c, d, rfl⟩ := hI
    rw [List.length_map, List.length_range]
    walk_at "wn"
    exact q _ (k1.trans k3)
/-- fewest_full's best, after the masks below i -/
def fullB (nr : List (List Int)) (n most : Int) (xs : List Int) : Bool := !((List.range n.toNat).any fun i => mayM nr xs (i : Nat) most)
def fewOk (nr : List (List Int)) (n most : Int) (best : Option (List Int)) (xs : List Int) : Bool := (match best with | none => true | some b => ltS xs b) && fineM nr xs most && fullB nr n most xs
def fewF (nr : List (List Int)) (n most : Int) (i : Nat) : Option (List Int) := (List.range i).foldl (fun best m => if fewOk nr n most best (bitsM n m) then some (bitsM n m) else best) none
theorem fewF_succ (nr : List (List Int)) (n most : Int) (i : Nat) : fewF nr n most (i + 1) = if fewOk nr n most (fewF nr n most i) (bitsM n i) then some (bitsM n i) else fewF nr n most i := by
  unfold fewF
  rw [List.range_succ, List.foldl_append, List.foldl_cons, List.foldl_nil]
def optP : Option (List Int) → PV
  | none => .non
  | some b => ptsP b
theorem any_may (hP : Has P) {a : Addr} {nr : List (List Int)} {xs : List Int} {n most : Int} {D : Addr} {L1 : LHp} {Q' : K1} (hn : NearAt L1 a nr) (hl : nr.length < 1000) (hk : PtsOk nr) (hnr : n ≤ nr.length) (hx : xs.length < 1000) (hD : L1 D = none) (hn0 : n ≤ 12)
    (q : ∀ L', Keep L1 L' → Q' (.bl (!fullB nr n most xs)) L') : lcW (fun x => True) (fun x L2 N => callW P (k + 2) "may_put" [.ref a, ptsP xs, x, .int most] L2 (fun y L4 => N (some y) L4) noX) D (rgP 0 n) (lupd L1 D (.lst [])) fun L' => anyW [.ref D] L' Q' := by
  rw [rgP_i]
  refine lc_all (fun i : Nat => PV.int (i : Nat)) (fun i => .bl (mayM nr xs (i : Nat) most)) hD (fun _ _ => trivial) (by simp; omega) (fun i hi L2 N k2 hN => ?_) fun L2 k2 e2 => ?_
  · have hi' := List.mem_range.mp hi
    exact may_put_s hP (hn.keep k2) hl hk (by omega) hx fun L3 k3 => hN L3 k3
  · refine ⟨D, _, (List.range n.toNat).map fun i => mayM nr xs (i : Nat) most, rfl, e2, (by have := bools_map ((List.range n.toNat).map fun i => mayM nr xs (i : Nat) most); rw [List.map_map] at this; exact this), ?_⟩
    have e : ((List.range n.toNat).map fun i => mayM nr xs (i : Nat) most).any id = !fullB nr n most xs := by
      unfold fullB
      rw [Bool.not_not, List.any_map]; rfl
    rw [e]
    exact q _ k2
theorem fewest_full_s (hP : Has P) {n : Int} {ps : List (Int × Int)} {most : Int} (h : NetOk n ps) (h10 : n ≤ 10) (hm : 1 ≤ most ∧ most ≤ n)
    (q : ∀ L', Keep L L' → Q (optP (fewF (nearM n ps) n most (2 ^ n.toNat))) L') : callW P (k + 6) "fewest_full" [netP n ps, .int most] L Q E := by
  have hn := h.n1
  have hlen : (nearM n ps).length = n.toNat := nearM_len n ps
  refine call_d hP.h_fewest_full rfl ?_
  unfold dfewest_full
  walk_at "wn"
  refine ⟨by decide, need_stones_s (xs := []) hP h h10 (by simp [ptsB]; omega) hm (by rfl) fun a L1 k1 na => ?_⟩
  (try walk_at "wn")
  have hw : (1 : Int) * 2 ^ n.toNat ≤ 1024 := by
    rw [pow_nat (by omega)]
    have : 2 ^ n.toNat ≤ 2 ^ 10 := Nat.pow_le_pow_right (by decide) (by omega)
    omega
  have hw0 : 0 ≤ (1 : Int) * 2 ^ n.toNat := by rw [pow_nat (by omega)]; exact Int.natCast_nonneg _
  refine ⟨⟨by omega, by omega, by decide⟩, rgOk_0 (by omega) (by omega), ?_⟩
  rw [rgP_i, pow_nat (by omega), Int.toNat_natCast]
  refine for_by0 (fun i ls L' => Keep L1 L' ∧ ∃ b c d, ls = [some (netP n ps), some (.int most), some (.ref a), some (optP (fewF (nearM n ps) n most i)), b, c, d]) ⟨.refl _, _, _, _, rfl⟩ (fun _ _ _ _ _ => trivial) (fun i x ls L3 N hx hI hN => ?_) (fun ls L3 hI => ?_)
  · obtain ⟨k3, b, c, d, rfl⟩ := hI
    have na3 := na.keep k3
    have hi : i < 2 ^ n.toNat := by
      have := (List.getElem?_eq_some_iff.mp hx).1
      simpa using this
    have ex : x = .int (i : Nat) := by
      rw [List.getElem?_map, List.getElem?_range hi] at hx
      exact (Option.some.inj hx).symm
    subst ex
    walk_at "wn"
    refine ⟨rgOk_0 (by omega) (by omega), fun D hD => bits_lc (m := i) hD (fun _ _ => trivial) hn.2 (fun j L4 N2 k4 hN2 => ?_) fun L4 k4 e4 => ?_⟩
    · walk_at "wn"
      refine ⟨by omega, ?_⟩
      have := hN2 L4 (.refl _)
      by_cases hb : bitB i j = true
      · rw [if_pos hb] at this
        refine iteY ?_ this
        unfold bitB at hb
        simpa [xnot] using hb
      · rw [if_neg hb] at this
        refine iteN ?_ this
        unfold bitB at hb
        simpa [xnot] using hb
    · refine ⟨_, e4, ?_⟩
      have hbi := bitsM_in (n := n) (m := i) (by omega)
      have hs := fewF_succ (nearM n ps) n most i
      have fin : ∀ (v : PV) (L7 : LHp), Keep L1 L7 → optP (fewF (nearM n ps) n most (i + 1)) = v → N [some (netP n ps), some (.int most), some (.ref a), some v, some (.int (i : Nat)), some (ptsP (bitsM n i)), d] L7 := fun v L7 k e => hN _ _ ⟨k, _, _, _, by rw [e]⟩
      have tail : ∀ (best : Option (List Int)) (L5 : LHp), fewF (nearM n ps) n most i = best → (match best with | none => true | some b => ltS (bitsM n i) b) = true → Keep L4 L5 →
          callW P (k + 5) "is_fine" [.ref a, ptsP (bitsM n i), .int most] L5 (fun x L1 => tst x fun k_1 => if k_1 = true then
            rgOk 0 n ∧ ∀ (D : Addr), L1 D = none → lcW (fun x => True) (fun x L2 N => callW P (k + 5) "may_put" [.ref a, ptsP (bitsM n i), x, .int most] L2 (fun y L4 => N (some y) L4) noX) D (rgP 0 n) (lupd L1 D (.lst [])) fun L' =>
              anyW [.ref D] L' fun x L1 => tst x fun k => if k = false then N [some (netP n ps), some (.int most), some (.ref a), some (ptsP (bitsM n i)), some (.int (i : Nat)), some (ptsP (bitsM n i)), d] L1
                else N [some (netP n ps), some (.int most), some (.ref a), some (optP best), some (.int (i : Nat)), some (ptsP (bitsM n i)), d] L1
            else N [some (netP n ps), some (.int most), some (.ref a), some (optP best), some (.int (i : Nat)), some (ptsP (bitsM n i)), d] L1) (fun x => E x) := fun best L5 hb hc k5 => by
        rw [hb] at hs
        refine is_fine_s (k := k + 3) hP (na3.keep (k4.trans k5)) (by omega) (nearM_ok h) (fun p hp => by have := hbi.2 p hp; omega) (by omega) fun L6 k6 => ?_
        rw [tst_bl]
        have k36 := (k3.trans k4).trans (k5.trans k6)
        cases hf : fineM (nearM n ps) (bitsM n i) most with
        | false => exact iteN rfl (fin _ _ (k36) (by rw [hs]; simp [fewOk, hc, hf]))
        | true =>
          refine iteY rfl ⟨rgOk_0 (by omega) (by omega), fun D2 hD2 => ?_⟩
          refine any_may hP (na.keep k36) (by omega) (nearM_ok h) (by omega) (by omega) hD2 (by omega) fun L7 k7 => ?_
          rw [tst_bl]
          cases hfu : fullB (nearM n ps) n most (bitsM n i) with
          | true => exact iteT' rfl (fin _ _ (k36.trans k7) (by rw [hs]; simp [fewOk, hc, hf, hfu, optP]))
          | false => exact iteF' rfl (fin _ _ (k36.trans k7) (by rw [hs]; simp [fewOk, hc, hf, hfu]))
      cases hf0 : fewF (nearM n ps) n most i with
      | none =>
        refine iteY rfl ?_
        exact tail none L4 hf0 rfl (.refl _)
      | some b0 =>
        refine iteN rfl ?_
        show lenW [ptsP (bitsM n i)] L4 _
        rw [lenW_pts]
        refine ⟨by decide, ?_⟩
        show lenW [ptsP b0] L4 _
        rw [lenW_pts]
        refine ⟨by decide, ?_⟩
        show ordW .lt (.tup [.int (bitsM n i).length, ptsP (bitsM n i)]) (.tup [.int b0.length, ptsP b0]) L4 _
        refine ord_sz ?_
        rw [tst_bl]
        rw [hf0] at hs
        cases hl : ltS (bitsM n i) b0 with
        | true => exact iteY rfl (tail (some b0) L4 hf0 hl (.refl _))
        | false => exact iteN rfl (fin _ _ (k3.trans k4) (by rw [hs]; simp [fewOk, hl]))
  · obtain ⟨k3, b, c, d, rfl⟩ := hI
    rw [List.length_map, List.length_range]
    walk_at "wn"
    exact q _ (k1.trans k3)
end LB

set_option Elab.async false
set_option linter.all false
set_option maxRecDepth 100000
set_option maxHeartbeats 4000000
/-! worth_of, worth, winning_points -/
namespace LB
open PySem DP
local macro_rules | `(tactic| walk_at "wp") => `(tactic| simp only [wpSs, wpS, wpE, wpA, wpO, wpIf, wpI, startL, List.map_cons, List.map_nil, List.length_cons, List.length_nil, List.replicate, List.cons_append, List.nil_append, List.getElem?_cons_zero, List.getElem?_cons_succ, Nat.sub_self,
  Option.some.injEq, exists_eq_left', exists_eq_left, tst_bl, ordW_i, eqW_i, addW_i, mulW_i, intW2_i, cmpW, binW, bfW, mtW, isiW_i, isiW_tup, QOp.int, PV.bl.injEq, PV.int.injEq, Nat.reduceAdd, Nat.reduceSub, lenW_tup, tupleW_tup, intW_i, rgW_1, rgW_2, ixW_t0, ixW_t1, srcW_tup, srcW_rol, enumW_tup, asgT_nm, asgT_tp, setsL, List.set_cons_zero, List.set_cons_succ, wipeL, Bool.not_eq_true', if_true, Bool.false_eq_true, if_false, true_and, and_true])
local macro_rules | `(tactic| walk_at "wn") => `(tactic| simp only [wpSs, wpS, wpE, wpA, wpO, wpIf, wpI, startL, List.map_cons, List.map_nil, List.length_cons, List.length_nil, List.replicate, List.cons_append, List.nil_append, List.getElem?_cons_zero, List.getElem?_cons_succ, Nat.sub_self,
  Option.some.injEq, exists_eq_left', exists_eq_left, tst_bl, ordW_i, eqW_i, addW_i, mulW_i, intW2_i, cmpW, binW, bfW, mtW, isiW_i, isiW_tup, QOp.int, PV.bl.injEq, PV.int.injEq, Nat.reduceAdd, Nat.reduceSub, lenW_tup, tupleW_tup, intW_i, rgW_1, rgW_2, ixW_t0, ixW_t1, srcW_tup, srcW_rol, enumW_tup, asgT_nm, asgT_tp, setsL, List.set_cons_zero, List.set_cons_succ, wipeL, Bool.not_eq_true', if_true, Bool.false_eq_true, if_false, true_and, and_true, ixW_pr0, ixW_pr1, ixW_n0, ixW_n1, srcW_pr, srcW_pts, lenW_pts])
variable {P : Prg} {k : Nat} {L : LHp} {Q : K1} {E : KX}
/-- all but what stands at d is kept -/
def KeepX (d : Addr) (L L' : LHp) : Prop := ∀ a o, a ≠ d → L a = some o → L' a = some o
theorem KeepX.refl (d : Addr) (L : LHp) : KeepX d L L := fun _ _ _ h => h
theorem KeepX.trans {d : Addr} {L L1 L2 : LHp} (a : KeepX d L L1) (b : KeepX d L1 L2) : KeepX d L L2 := fun x o h e => b x o h (a x o h e)
theorem Keep.x {d : Addr} {L L1 : LHp} (a : Keep L L1) : KeepX d L L1 := fun x o _ e => a x o e
theorem KeepX.put {d : Addr} {L L1 : LHp} {o : LO} (a : KeepX d L L1) : KeepX d L (lupd L1 d o) := fun x u h e => by rw [lupd_ne h]; exact a x u h e
theorem KeepX.put' {d p : Addr} {L L1 : LHp} {o : LO} (a : KeepX d L L1) (h : L p = none) : KeepX d L (lupd L1 p o) := fun x u hx e => by
  rw [lupd_ne (fun z => by subst z; rw [h] at e; cases e)]
  exact a x u hx e
theorem NearAt.keepX {d a : Addr} {nr : List (List Int)} {kvs : List (PV × PV)} {L L' : LHp} (h : NearAt L a nr) (hd : L d = some (.dct kvs)) (k : KeepX d L L') : NearAt L' a nr := by
  obtain ⟨rs, h1, h2⟩ := h
  refine ⟨rs, k a _ (fun z => by subst z; rw [h1] at hd; cases hd) h1, h2.1, fun i r g e1 e2 => ?_⟩
  have e := h2.2 i r g e1 e2
  exact k r _ (fun z => by subst z; rw [e] at hd; cases hd) e
theorem insI_len (x : Int) : ∀ ys : List Int, (insI x ys).length = ys.length + 1
  | [] => rfl
  | y :: ys => by
    unfold insI
    split
    · rw [List.length_cons, insI_len x ys, List.length_cons]
    · rfl
theorem sortI_len : ∀ xs : List Int, (sortI xs).length = xs.length
  | [] => rfl
  | x :: xs => by unfold sortI; rw [insI_len, sortI_len xs, List.length_cons]
def foldO {σ α : Type} (f : σ → α → Option σ) : σ → List α → Option σ
  | s, [] => some s
  | s, x :: r => match f s x with
    | none => none
    | some s1 => foldO f s1 r
theorem for_fold {σ α : Type} {step : PV → LSt → LHp → (LSt → LHp → Prop) → Prop} {Q : LSt → LHp → Prop} (ι : α → PV) (I : σ → LSt → LHp → Prop) (f : σ → α → Option σ) {s' : σ} (hQ : ∀ ls L, I s' ls L → Q ls L) :
    ∀ (xs : List α) (s : σ) (ls : LSt) (L : LHp), I s ls L → foldO f s xs = some s' → (∀ x ∈ xs, ∀ s s1 ls L N, I s ls L → f s x = some s1 → (∀ ls' L', I s1 ls' L' → N ls' L') → step (ι x) ls L N) → forW (fun _ => True) step (xs.map ι) ls L Q
  | [], s, ls, L, h, e, _ => by
    cases e
    exact ⟨trivial, hQ ls L h⟩
  | x :: r, s, ls, L, h, e, hs => by
    unfold foldO at e
    cases hf : f s x with
    | none => rw [hf] at e; cases e
    | some s1 =>
      rw [hf] at e
      exact ⟨trivial, hs x List.mem_cons_self s s1 ls L _ h hf fun ls' L' h' => for_fold ι I f hQ r s1 ls' L' h' e fun y hy => hs y (List.mem_cons_of_mem _ hy)⟩

/-! ### the worths known -/
abbrev Kn := List (List Int × Int)
def kW (kn : Kn) : List (PV × PV) := kn.map fun p => (ptsP p.1, .int p.2)
def lookK (kn : Kn) (xs : List Int) : Option Int := (kn.find? fun p => decide (p.1 = xs)).map (·.2)
def putW (kn : Kn) (xs : List Int) (w : Int) : Kn := if (kn.any fun p => decide (p.1 = xs)) = true then kn.map (fun p => if p.1 = xs then (p.1, w) else p) else kn ++ [(xs, w)]
theorem toKeys_int : ∀ xs : List Int, toKeys (xs.map .int) = some (xs.map Sum.inl)
  | [] => by rfl
  | x :: xs => by
    rw [List.map_cons]
    unfold toKeys
    rw [toKeys_int xs]
    rfl
theorem toKeyT_pts (xs : List Int) : toKeyT (ptsP xs) = some (xs.map Sum.inl) := by
  unfold toKeyT ptsP
  exact toKeys_int xs
theorem kW_fit (kn : Kn) (xs : List Int) : KeyFit (kW kn) (ptsP xs) := .inr ⟨_, toKeyT_pts xs, fun p hp => by
  obtain ⟨q, _, rfl⟩ := List.mem_map.mp hp
  show (toKeyT (ptsP q.1)).isSome = true
  rw [toKeyT_pts]; rfl⟩
theorem pts_inj {xs ys : List Int} : ptsP xs = ptsP ys ↔ xs = ys := by
  constructor
  · intro h
    unfold ptsP at h
    injection h with h
    exact map_int_inj.mp h
  · intro h; rw [h]
theorem kW_look (xs : List Int) : ∀ kn : Kn, dlook (kW kn) (ptsP xs) = (lookK kn xs).map .int
  | [] => rfl
  | p :: r => by
    have ih := kW_look xs r
    unfold dlook lookK kW at ih ⊢
    rw [List.map_cons, List.find?_cons, List.find?_cons]
    by_cases h : p.1 = xs
    · simp [h]
    · have : ¬ ptsP p.1 = ptsP xs := fun z => h (pts_inj.mp z)
      simp only [h, this, decide_false]
      exact ih
theorem kW_any (xs : List Int) (kn : Kn) : ((kW kn).any fun p => decide (p.1 = ptsP xs)) = kn.any fun p => decide (p.1 = xs) := by
  unfold kW
  rw [List.any_map]
  congr 1
  funext p
  rw [Function.comp, Bool.eq_iff_iff]
  simp [pts_inj]
theorem kW_put (xs : List Int) (w : Int) (kn : Kn) : dput (kW kn) (ptsP xs) (.int w) = kW (putW kn xs w) := by
  unfold dput putW
  rw [kW_any]
  split
  · unfold kW
    rw [List.map_map, List.map_map]
    apply List.map_congr_left
    intro p _
    by_cases h : p.1 = xs
    · simp [h]
    · simp [h, pts_inj]
  · simp [kW]
theorem lookK_put (xs : List Int) (w : Int) (kn : Kn) : lookK (putW kn xs w) xs = some w := by
  unfold lookK putW
  split
  · rename_i h
    induction kn with
    | nil => simp at h
    | cons p r ih =>
      rw [List.map_cons, List.find?_cons]
      by_cases e : p.1 = xs
      · simp [e]
      · simp only [e, if_false, decide_false]
        exact ih (by simpa [e] using h)
  · rename_i h
    have : kn.find? (fun p => decide (p.1 = xs)) = none := by
      rw [List.find?_eq_none]
      intro p hp e
      exact h (List.any_eq_true.mpr ⟨p, hp, e⟩)
    rw [List.find?_append, this]
    simp
theorem in_kW {neg : Bool} {d : Addr} {kn : Kn} {xs : List Int} (hd : L d = some (.dct (kW kn))) (q : Q (.bl (xnot neg (lookK kn xs).isSome)) L) : inW neg (ptsP xs) (.ref d) L Q :=
  .inr ⟨_, hd, kW_fit kn xs, by rw [kW_look, Option.isSome_map]; exact q⟩
theorem ix_kW {d : Addr} {kn : Kn} {xs : List Int} {w : Int} (hd : L d = some (.dct (kW kn))) (h : lookK kn xs = some w) (q : Q (.int w) L) : ixW (.ref d) (ptsP xs) L Q :=
  .inr ⟨_, .int w, hd, kW_fit _ _, by rw [kW_look, h]; rfl, q⟩
def mexL (some_ : List Int) : Nat → Int → Option Int
  | 0, f => if f ∈ some_ then none else some f
  | n + 1, f => if f ∈ some_ then mexL some_ n (f + 1) else some f
/-- a turn of worth_of's loop -/
def wStep (rec : List Int → Kn → Option (Int × Kn)) (nr : List (List Int)) (xs : List Int) (most : Int) (s : List Int × Kn) (i : Nat) : Option (List Int × Kn) :=
  if mayM nr xs (i : Nat) most then (match rec (sortI (xs ++ [(i : Int)])) s.2 with
    | none => none
    | some r => if s.1.length < 1000 then some (addN s.1 r.1, r.2) else none) else some s
def worthG (nr : List (List Int)) (most : Int) : Nat → List Int → Kn → Option (Int × Kn)
  | 0, _, _ => none
  | m + 1, xs, kn => match lookK kn xs with
    | some w => some (w, kn)
    | none => match foldO (wStep (worthG nr most m) nr xs most) ([], kn) (List.range nr.length) with
      | none => none
      | some s => match mexL s.1 20 0 with
        | none => none
        | some f => if s.2.length < 100000 then some (f, putW s.2 xs f) else none
theorem worth_of_s (hP : Has P) {a d : Addr} {nr : List (List Int)} {most : Int} (hl : nr.length < 100) (hk : PtsOk nr) : ∀ (m : Nat) (xs : List Int) (kn : Kn) (w : Int) (kn' : Kn) (L : LHp) (Q : K1) (E : KX), worthG nr most m xs kn = some (w, kn') → NearAt L a nr → L d = some (.dct (kW kn)) → xs.length + m < 500 →
    (∀ L', KeepX d L L' → L' d = some (.dct (kW kn')) → Q (.int w) L') → callW P (k + m + 2) "worth_of" [.ref a, ptsP xs, .int most, .ref d] L Q E
  | 0, xs, kn, w, kn', L, Q, E, e, _, _, _, _ => by cases e
  | m + 1, xs, kn, w, kn', L, Q, E, e, hn, hd, hx, q => by
    unfold worthG at e
    refine call_d hP.h_worth_of rfl ?_
    unfold dworth_of
    walk_at "wn"
    refine in_kW hd ?_
    rw [tst_bl]
    cases hw : lookK kn xs with
    | some w0 =>
      rw [hw] at e
      cases e
      exact iteN (by simp [xnot]) (ix_kW hd hw (q L (.refl _ _) hd))
    | none =>
      rw [hw] at e
      refine iteY (by simp [xnot]) fun S hS => ?_
      have Sd : S ≠ d := fun z => by subst z; rw [hS] at hd; cases hd
      obtain ⟨rs, ha, pt⟩ := id hn
      have aS : a ≠ S := fun z => by subst z; rw [ha] at hS; cases hS
      have hrl : rs.length = nr.length := by have := pt.1; rw [List.length_map] at this; exact this
      refine .inl ⟨rs.map .ref, by rw [lupd_ne aS]; exact ha, ?_⟩
      rw [List.length_map, hrl]
      walk_at "wn"
      refine ⟨rgOk_0 (by omega) (by omega), ?_⟩
      cases hf : foldO (wStep (worthG nr most m) nr xs most) ([], kn) (List.range nr.length) with
      | none => rw [hf] at e; cases e
      | some s =>
        rw [hf] at e
        replace e : (match mexL s.1 20 0 with | none => none | some f => if s.2.length < 100000 then some (f, putW s.2 xs f) else none) = some (w, kn') := e
        rw [rgP_i, Int.toNat_natCast]
        refine for_fold (fun i : Nat => PV.int (i : Nat)) (fun (s : List Int × Kn) ls L' => ∃ x5 x6, ls = [some (.ref a), some (ptsP xs), some (.int most), some (.ref d), some (.ref S), x5, x6] ∧ KeepX d L L' ∧ L' d = some (.dct (kW s.2)) ∧ L' S = some (.dct (kT s.1))) (wStep (worthG nr most m) nr xs most) (fun ls L2 hI => ?_) (List.range nr.length) _ _ _ ⟨none, none, rfl, ?_, ?_, ?_⟩ hf (fun i hi s0 s1 ls L2 N hI hst hN => ?_)
        · obtain ⟨x5, x6, rfl, k2, hd2, hS2⟩ := hI
          cases hm : mexL s.1 20 0 with
          | none => rw [hm] at e; cases e
          | some f =>
            rw [hm] at e
            replace e : (if s.2.length < 100000 then some (f, putW s.2 xs f) else none) = some (w, kn') := e
            by_cases hlen : s.2.length < 100000
            · rw [if_pos hlen] at e
              cases e
              refine ⟨20 + 1, whl_ind (fun j ls L' => ∃ g, ls = [some (.ref a), some (ptsP xs), some (.int most), some (.ref d), some (.ref S), x5, some (.int g)] ∧ L' = L2 ∧ mexL s.1 j g = some w) (fun j ls L' N hI hN => ?_) 20 _ _ ⟨0, rfl, rfl, hm⟩⟩
              obtain ⟨g, rfl, rfl, hg⟩ := hI
              walk_at "wn"
              refine in_kT hS2 ?_
              rw [tst_bl]
              by_cases hgm : g ∈ s.1
              · refine iteY (by simp [xnot, hgm]) ⟨g, 1, rfl, rfl, ?_⟩
                cases j with
                | zero => unfold mexL at hg; rw [if_pos hgm] at hg; cases hg
                | succ j =>
                  unfold mexL at hg
                  rw [if_pos hgm] at hg
                  exact hN j _ _ rfl ⟨g + 1, rfl, rfl, hg⟩
              · have eg : g = w := by
                  cases j <;> (unfold mexL at hg; rw [if_neg hgm] at hg; exact Option.some.inj hg)
                subst eg
                refine iteN (by simp [xnot, hgm]) (.inr ⟨_, hd2, kW_fit _ _, by unfold kW; rw [List.length_map]; omega, ?_⟩)
                rw [kW_put]
                exact ix_kW lupd_same (lookK_put _ _ _) (q _ k2.put lupd_same)
            · rw [if_neg hlen] at e; cases e
        · exact (KeepX.refl d L).put' hS
        · rw [lupd_ne (Ne.symm Sd)]; exact hd
        · exact lupd_same
        · obtain ⟨x5, x6, rfl, k2, hd2, hS2⟩ := hI
          have hi' := List.mem_range.mp hi
          have hn2 := hn.keepX hd k2
          walk_at "wn"
          refine may_put_s (k := k + m) hP hn2 (by omega) hk (by omega) (by omega) fun L3 k3 => ?_
          rw [tst_bl]
          unfold wStep at hst
          cases hb : mayM nr xs (i : Nat) most with
          | false =>
            rw [hb] at hst
            cases hst
            exact iteN rfl (hN _ _ ⟨_, _, rfl, k2.trans (Keep.x k3), k3 _ _ hd2, k3 _ _ hS2⟩)
          | true =>
            rw [hb, if_pos rfl] at hst
            cases hr : worthG nr most m (sortI (xs ++ [(i : Int)])) s0.2 with
            | none => rw [hr] at hst; cases hst
            | some r =>
              rw [hr] at hst
              replace hst : (if s0.1.length < 1000 then some (addN s0.1 r.1, r.2) else none) = some s1 := hst
              by_cases hlen : s0.1.length < 1000
              · rw [if_pos hlen] at hst
                cases hst
                refine iteY rfl ⟨by decide, add_pts (by omega) (sorted_tup fun p hp => ⟨_, lupd_same, ?_⟩)⟩
                have k4 : Keep L3 (lupd L3 p (.lst ((sortI (xs ++ [(i : Int)])).map .int))) := .new hp
                generalize lupd L3 p (.lst ((sortI (xs ++ [(i : Int)])).map .int)) = L4 at k4
                have k34 := k3.trans k4
                show callW P (k + m + 2) "worth_of" [.ref a, ptsP (sortI (xs ++ [(i : Int)])), .int most, .ref d] L4 _ _
                refine worth_of_s hP hl hk m (sortI (xs ++ [(i : Int)])) s0.2 r.1 r.2 L4 _ _ hr (hn2.keep k34) (k34 _ _ hd2) (by rw [sortI_len]; simp; omega) fun L5 k5 hd5 => ?_
                have hS5 := k5 S _ Sd (k34 _ _ hS2)
                refine .inr ⟨_, hS5, kT_fit _ _, by unfold kT; rw [List.length_map]; omega, ?_⟩
                rw [kT_addN]
                refine hN _ _ ⟨_, _, rfl, ?_, by rw [lupd_ne (Ne.symm Sd)]; exact hd5, lupd_same⟩
                exact ((k2.trans (Keep.x k34)).trans k5).put' hS
              · rw [if_neg hlen] at hst; cases hst
end LB

set_option Elab.async false
set_option linter.all false
set_option maxRecDepth 100000
set_option maxHeartbeats 4000000
/-! worth, winning_points, line, ring, star, the script's numbers -/
namespace LB
open PySem DP
local macro_rules | `(tactic| walk_at "wp") => `(tactic| simp only [wpSs, wpS, wpE, wpA, wpO, wpIf, wpI, startL, List.map_cons, List.map_nil, List.length_cons, List.length_nil, List.replicate, List.cons_append, List.nil_append, List.getElem?_cons_zero, List.getElem?_cons_succ, Nat.sub_self,
  Option.some.injEq, exists_eq_left', exists_eq_left, tst_bl, ordW_i, eqW_i, addW_i, mulW_i, intW2_i, cmpW, binW, bfW, mtW, isiW_i, isiW_tup, QOp.int, PV.bl.injEq, PV.int.injEq, Nat.reduceAdd, Nat.reduceSub, lenW_tup, tupleW_tup, intW_i, rgW_1, rgW_2, ixW_t0, ixW_t1, srcW_tup, srcW_rol, enumW_tup, asgT_nm, asgT_tp, setsL, List.set_cons_zero, List.set_cons_succ, wipeL, Bool.not_eq_true', if_true, Bool.false_eq_true, if_false, true_and, and_true])
local macro_rules | `(tactic| walk_at "wn") => `(tactic| simp only [wpSs, wpS, wpE, wpA, wpO, wpIf, wpI, startL, List.map_cons, List.map_nil, List.length_cons, List.length_nil, List.replicate, List.cons_append, List.nil_append, List.getElem?_cons_zero, List.getElem?_cons_succ, Nat.sub_self,
  Option.some.injEq, exists_eq_left', exists_eq_left, tst_bl, ordW_i, eqW_i, addW_i, mulW_i, intW2_i, cmpW, binW, bfW, mtW, isiW_i, isiW_tup, QOp.int, PV.bl.injEq, PV.int.injEq, Nat.reduceAdd, Nat.reduceSub, lenW_tup, tupleW_tup, intW_i, rgW_1, rgW_2, ixW_t0, ixW_t1, srcW_tup, srcW_rol, enumW_tup, asgT_nm, asgT_tp, setsL, List.set_cons_zero, List.set_cons_succ, wipeL, Bool.not_eq_true', if_true, Bool.false_eq_true, if_false, true_and, and_true, ixW_pr0, ixW_pr1, ixW_n0, ixW_n1, srcW_pr, srcW_pts, lenW_pts])
variable {P : Prg} {k : Nat} {L : LHp} {Q : K1} {E : KX}
theorem worth_s (hP : Has P) {n : Int} {ps : List (Int × Int)} {xs : List Int} {most w : Int} {kn : Kn} (h : NetOk n ps) (h10 : n ≤ 10) (hx : ptsB n xs = true) (hm : 1 ≤ most ∧ most ≤ n) (hf : fineM (nearM n ps) xs most = true) (hw : worthG (nearM n ps) most 12 xs [] = some (w, kn))
    (q : ∀ L', Keep L L' → Q (.int w) L') : callW P (k + 18) "worth" [netP n ps, ptsP xs, .int most] L Q E := by
  have hn := h.n1
  have hin := ptsB_in hx
  have hlen : (nearM n ps).length = n.toNat := nearM_len n ps
  refine call_d hP.h_worth rfl ?_
  unfold dworth
  walk_at "wn"
  refine need_stones_s (k := k + 12) hP h h10 hx hm hf fun a L1 k1 na => ?_
  (try walk_at "wn")
  intro D hD
  refine worth_of_s (k := k + 3) hP (by omega) (nearM_ok h) 12 xs [] w kn _ _ _ hw (na.keep (.new hD)) lupd_same (by omega) fun L2 k2 e2 => q L2 fun x o e => ?_
  have hx1 := k1 x o e
  have ne : x ≠ D := fun z => by subst z; rw [hD] at hx1; cases hx1
  exact k2 x o ne (by rw [lupd_ne ne]; exact hx1)
def winStep (nr : List (List Int)) (xs : List Int) (most : Int) (s : List Int × Kn) (i : Nat) : Option (List Int × Kn) :=
  if mayM nr xs (i : Nat) most then (match worthG nr most 12 (sortI (xs ++ [(i : Int)])) s.2 with
    | none => none
    | some r => if s.1.length < 1000 then some (if r.1 = 0 then s.1 ++ [(i : Int)] else s.1, r.2) else none) else some s
theorem winning_points_s (hP : Has P) {n : Int} {ps : List (Int × Int)} {xs : List Int} {most : Int} {s : List Int × Kn} (h : NetOk n ps) (h10 : n ≤ 10) (hx : ptsB n xs = true) (hm : 1 ≤ most ∧ most ≤ n) (hf : fineM (nearM n ps) xs most = true)
    (hw : foldO (winStep (nearM n ps) xs most) ([], []) (List.range n.toNat) = some s) (q : ∀ a L', Keep L L' → L' a = some (.lst (s.1.map .int)) → Q (.ref a) L') : callW P (k + 18) "winning_points" [netP n ps, ptsP xs, .int most] L Q E := by
  have hn := h.n1
  have hin := ptsB_in hx
  have hlen : (nearM n ps).length = n.toNat := nearM_len n ps
  refine call_d hP.h_winning_points rfl ?_
  unfold dwinning_points
  walk_at "wn"
  refine need_stones_s (k := k + 12) hP h h10 hx hm hf fun a L1 k1 na => ?_
  (try walk_at "wn")
  intro D hD
  refine ⟨by decide, by decide, fun F hF => ⟨rgOk_0 (by omega) (by omega), ?_⟩⟩
  have FD : F ≠ D := fun z => by subst z; rw [lupd_same] at hF; cases hF
  have hF1 : L1 F = none := by rw [lupd_ne FD] at hF; exact hF
  have k0 : Keep L1 (lupd (lupd L1 D (.dct [])) F (.lst [])) := (Keep.new hD).put hF1
  rw [rgP_i]
  refine for_fold (fun i : Nat => PV.int (i : Nat)) (fun (s : List Int × Kn) ls L' => ∃ x4, ls = [some (netP n ps), some (ptsP xs), some (.int most), some (.ref F), x4, some (.ref a), some (.ref D)] ∧ Keep L1 L' ∧ L' D = some (.dct (kW s.2)) ∧ L' F = some (.lst (s.1.map .int))) (winStep (nearM n ps) xs most) (fun ls L2 hI => ?_) (List.range n.toNat) _ _ _ ⟨none, rfl, k0, ?_, lupd_same⟩ hw (fun i hi s0 s1 ls L2 N hI hst hN => ?_)
  · obtain ⟨x4, rfl, k2, hD2, hF2⟩ := hI
    walk_at "wn"
    exact q F _ (k1.trans k2) hF2
  · rw [lupd_ne (Ne.symm FD)]; exact lupd_same
  · obtain ⟨x4, rfl, k2, hD2, hF2⟩ := hI
    have hi' := List.mem_range.mp hi
    have na2 := na.keep k2
    walk_at "wn"
    refine may_put_s (k := k + 15) hP na2 (by omega) (nearM_ok h) (by omega) (by omega) fun L3 k3 => ?_
    rw [tst_bl]
    unfold winStep at hst
    cases hb : mayM (nearM n ps) xs (i : Nat) most with
    | false =>
      rw [hb] at hst
      cases hst
      exact iteN rfl (hN _ _ ⟨_, rfl, k2.trans k3, k3 _ _ hD2, k3 _ _ hF2⟩)
    | true =>
      rw [hb, if_pos rfl] at hst
      cases hr : worthG (nearM n ps) most 12 (sortI (xs ++ [(i : Int)])) s0.2 with
      | none => rw [hr] at hst; cases hst
      | some r =>
        rw [hr] at hst
        replace hst : (if s0.1.length < 1000 then some (if r.1 = 0 then s0.1 ++ [(i : Int)] else s0.1, r.2) else none) = some s1 := hst
        by_cases hl : s0.1.length < 1000
        · rw [if_pos hl] at hst
          cases hst
          refine iteY rfl ⟨by decide, add_pts (by omega) (sorted_tup fun p hp => ⟨_, lupd_same, ?_⟩)⟩
          have k4 : Keep L3 (lupd L3 p (.lst ((sortI (xs ++ [(i : Int)])).map .int))) := .new hp
          generalize lupd L3 p (.lst ((sortI (xs ++ [(i : Int)])).map .int)) = L4 at k4
          have k34 := k3.trans k4
          show callW P (k + 17) "worth_of" [.ref a, ptsP (sortI (xs ++ [(i : Int)])), .int most, .ref D] L4 _ _
          refine worth_of_s (k := k + 3) hP (by omega) (nearM_ok h) 12 (sortI (xs ++ [(i : Int)])) s0.2 r.1 r.2 L4 _ _ hr (na2.keep k34) (k34 _ _ hD2) (by rw [sortI_len]; simp; omega) fun L5 k5 hD5 => ?_
          have hF5 := k5 F _ FD (k34 _ _ hF2)
          have k15 : Keep L1 L5 := fun x o e => by
            have e2 := (k2.trans k34) x o e
            exact k5 x o (fun z => by subst z; rw [hD] at e; cases e) e2
          rw [eqW_i, tst_bl]
          by_cases h0 : r.1 = 0
          · refine iteY (by simp [xnot, h0]) ⟨⟨F, _, rfl, hF5⟩, F, _, _, rfl, rfl, hF5, by rw [List.length_map]; omega, ?_⟩
            refine hN _ _ ⟨_, rfl, k15.put hF1, by rw [lupd_ne (Ne.symm FD)]; exact hD5, ?_⟩
            rw [lupd_same, if_pos h0]; simp
          · refine iteN (by simp [xnot, h0]) (hN _ _ ⟨_, rfl, k15, hD5, ?_⟩)
            rw [if_neg h0]; exact hF5
        · rw [if_neg hl] at hst; cases hst
end LB

set_option Elab.async false
set_option linter.all false
set_option maxRecDepth 100000
set_option maxHeartbeats 4000000
/-! line, ring, star, the script's numbers -/
namespace LB
open PySem DP
local macro_rules | `(tactic| walk_at "wp") => `(tactic| simp only [wpSs, wpS, wpE, wpA, wpO, wpIf, wpI, startL, List.map_cons, List.map_nil, List.length_cons, List.length_nil, List.replicate, List.cons_append, List.nil_append, List.getElem?_cons_zero, List.getElem?_cons_succ, Nat.sub_self,
  Option.some.injEq, exists_eq_left', exists_eq_left, tst_bl, ordW_i, eqW_i, addW_i, mulW_i, intW2_i, cmpW, binW, bfW, mtW, isiW_i, isiW_tup, QOp.int, PV.bl.injEq, PV.int.injEq, Nat.reduceAdd, Nat.reduceSub, lenW_tup, tupleW_tup, intW_i, rgW_1, rgW_2, ixW_t0, ixW_t1, srcW_tup, srcW_rol, enumW_tup, asgT_nm, asgT_tp, setsL, List.set_cons_zero, List.set_cons_succ, wipeL, Bool.not_eq_true', if_true, Bool.false_eq_true, if_false, true_and, and_true])
local macro_rules | `(tactic| walk_at "wn") => `(tactic| simp only [wpSs, wpS, wpE, wpA, wpO, wpIf, wpI, startL, List.map_cons, List.map_nil, List.length_cons, List.length_nil, List.replicate, List.cons_append, List.nil_append, List.getElem?_cons_zero, List.getElem?_cons_succ, Nat.sub_self,
  Option.some.injEq, exists_eq_left', exists_eq_left, tst_bl, ordW_i, eqW_i, addW_i, mulW_i, intW2_i, cmpW, binW, bfW, mtW, isiW_i, isiW_tup, QOp.int, PV.bl.injEq, PV.int.injEq, Nat.reduceAdd, Nat.reduceSub, lenW_tup, tupleW_tup, intW_i, rgW_1, rgW_2, ixW_t0, ixW_t1, srcW_tup, srcW_rol, enumW_tup, asgT_nm, asgT_tp, setsL, List.set_cons_zero, List.set_cons_succ, wipeL, Bool.not_eq_true', if_true, Bool.false_eq_true, if_false, true_and, and_true, ixW_pr0, ixW_pr1, ixW_n0, ixW_n1, srcW_pr, srcW_pts, lenW_pts])
variable {P : Prg} {k : Nat} {L : LHp} {Q : K1} {E : KX}
def linePs (n : Nat) : List (Int × Int) := (List.range (n - 1)).map fun i : Nat => ((i : Int), (i : Int) + 1)
def starPs (n : Nat) : List (Int × Int) := (List.range (n - 1)).map fun i : Nat => (0, 1 + (i : Int))
theorem line_s (hP : Has P) {n : Nat} (h : 1 ≤ n ∧ n ≤ 12) (q : ∀ L', Keep L L' → Q (netP n (linePs n)) L') : callW P (k + 4) "line" [.int n] L Q E := by
  refine call_d hP.h_line rfl ?_
  unfold dline
  walk_at "wn"
  refine ⟨12, hP.c_MOST_POINTS_checks, need_number_s hP (by omega) ?_⟩
  (try walk_at "wn")
  refine ⟨rgOk_0 (by omega) (by omega), fun D hD => ?_⟩
  rw [rgP_sub1]
  refine lc_all (fun i : Nat => PV.int (i : Nat)) (fun i : Nat => prP ((i : Int), (i : Int) + 1)) hD (fun _ _ => trivial) (by simp; omega) (fun i hi L2 N k2 hN => ?_) fun L2 k2 e2 => ?_
  · (try walk_at "wn")
    exact ⟨by decide, hN _ (.refl _)⟩
  · refine ⟨_, e2, by decide, ?_⟩
    have e : PV.tup [.int n, .tup ((List.range (n - 1)).map fun i : Nat => prP ((i : Int), (i : Int) + 1))] = netP n (linePs n) := by
      unfold netP linePs
      rw [List.map_map]
      rfl
    rw [e]
    exact q _ k2
theorem star_s (hP : Has P) {n : Nat} (h : 1 ≤ n ∧ n ≤ 12) (q : ∀ L', Keep L L' → Q (netP n (starPs n)) L') : callW P (k + 4) "star" [.int n] L Q E := by
  refine call_d hP.h_star rfl ?_
  unfold dstar
  walk_at "wn"
  refine ⟨12, hP.c_MOST_POINTS_checks, need_number_s hP (by omega) ?_⟩
  (try walk_at "wn")
  refine ⟨by unfold rgOk; omega, fun D hD => ?_⟩
  have er : rgP 1 (n : Int) = (List.range (n - 1)).map fun i => PV.int (1 + (i : Nat)) := by
    unfold rgP
    rw [show ((n : Int) - 1).toNat = n - 1 by omega]
  rw [er]
  refine lc_all (fun i : Nat => PV.int (1 + (i : Nat))) (fun i : Nat => prP (0, 1 + (i : Int))) hD (fun _ _ => trivial) (by simp; omega) (fun i hi L2 N k2 hN => ?_) fun L2 k2 e2 => ?_
  · (try walk_at "wn")
    exact ⟨by decide, hN _ (.refl _)⟩
  · refine ⟨_, e2, by decide, ?_⟩
    have e : PV.tup [.int n, .tup ((List.range (n - 1)).map fun i : Nat => prP (0, 1 + (i : Int)))] = netP n (starPs n) := by
      unfold netP starPs
      rw [List.map_map]
      rfl
    rw [e]
    exact q _ k2
def ltR (a b : Int × Int) : Bool := decide (a.1 < b.1 ∨ (a.1 = b.1 ∧ a.2 < b.2))
def insR (x : Int × Int) : List (Int × Int) → List (Int × Int)
  | [] => [x]
  | y :: ys => if ltR y x = true then y :: insR x ys else x :: y :: ys
def sortR : List (Int × Int) → List (Int × Int)
  | [] => []
  | x :: xs => insR x (sortR xs)
theorem cb_pr (a b : Int × Int) : cb (prP a) (prP b) = true := by simp [prP, cb, cbL]
theorem ltC_pr (a b : Int × Int) : ltC (prP a) (prP b) = ltR a b := by
  rw [← qB_code (cb_pr a b)]
  unfold prP qB qBL ltR
  by_cases h : a.1 = b.1
  · rw [if_pos (by rw [h])]
    unfold qBL
    by_cases h2 : a.2 = b.2
    · rw [if_pos (by rw [h2])]
      simp [qBL, QOp.len, h, h2]
    · rw [if_neg (by simpa using h2)]
      simp [qB, QOp.int, h]
  · rw [if_neg (by simpa using h)]
    simp [qB, QOp.int, h]
theorem insP_pr (x : Int × Int) : ∀ ys : List (Int × Int), insP (prP x) (ys.map prP) = (insR x ys).map prP
  | [] => rfl
  | y :: ys => by
    rw [List.map_cons]
    unfold insP insR
    rw [ltC_pr, insP_pr x ys]
    by_cases h : ltR y x = true <;> simp [h]
theorem sortP_pr : ∀ xs : List (Int × Int), sortP (xs.map prP) = (sortR xs).map prP
  | [] => rfl
  | x :: xs => by
    rw [List.map_cons]
    unfold sortP sortR
    rw [sortP_pr xs, insP_pr]
theorem sortOk_pr (xs : List (Int × Int)) : SortOk (xs.map prP) := by
  refine ⟨fun x hx => ?_, fun x hx y hy => ?_, .inr (.inl fun x hx => ?_)⟩
  · obtain ⟨i, _, rfl⟩ := List.mem_map.mp hx; exact small_pr i
  · obtain ⟨i, _, rfl⟩ := List.mem_map.mp hx
    obtain ⟨j, _, rfl⟩ := List.mem_map.mp hy
    exact cb_pr i j
  · obtain ⟨i, _, rfl⟩ := List.mem_map.mp hx; exact ⟨i.1, _, rfl⟩
theorem plainL_pr : ∀ xs : List (Int × Int), plainL (xs.map prP) = true
  | [] => rfl
  | x :: xs => by rw [List.map_cons]; unfold plainL; rw [plainL_pr xs, (small_iff.mp (small_pr x)).1]; rfl
def ringPs (n : Nat) : List (Int × Int) := sortR (linePs n ++ [(0, (n : Int) - 1)])
theorem ring_s (hP : Has P) {n : Nat} (h : 3 ≤ n ∧ n ≤ 12) (q : ∀ L', Keep L L' → Q (netP n (ringPs n)) L') : callW P (k + 4) "ring" [.int n] L Q E := by
  refine call_d hP.h_ring rfl ?_
  unfold dring
  walk_at "wn"
  refine ⟨12, hP.c_MOST_POINTS_checks, need_number_s hP (by omega) ?_⟩
  (try walk_at "wn")
  refine ⟨rgOk_0 (by omega) (by omega), fun D hD => ?_⟩
  rw [rgP_sub1]
  refine lc_all (fun i : Nat => PV.int (i : Nat)) (fun i : Nat => prP ((i : Int), (i : Int) + 1)) hD (fun _ _ => trivial) (by simp; omega) (fun i hi L2 N k2 hN => ?_) fun L2 k2 e2 => ?_
  · (try walk_at "wn")
    exact ⟨by decide, hN _ (.refl _)⟩
  · refine ⟨by decide, by decide, fun R hR => ?_⟩
    have DR : D ≠ R := fun z => by subst z; rw [e2] at hR; cases hR
    refine ⟨_, [prP (0, (n : Int) - 1)], by rw [lupd_ne DR]; exact e2, lupd_same, by simp; omega, fun T hT => ?_⟩
    have e3 : (List.range (n - 1)).map (fun i : Nat => prP ((i : Int), (i : Int) + 1)) ++ [prP (0, (n : Int) - 1)] = (linePs n ++ [(0, (n : Int) - 1)]).map prP := by
      unfold linePs
      rw [List.map_append, List.map_map]
      rfl
    have TR : lupd L2 R (.lst [prP (0, (n : Int) - 1)]) T = none := hT
    rw [e3]
    refine ⟨.ref T, rfl, .inl ⟨_, lupd_same, .inl (sortOk_pr _), plainL_pr _, fun p hp => ?_⟩⟩
    rw [sortP_pr]
    refine ⟨_, lupd_same, by decide, ?_⟩
    have e : PV.tup [.int n, .tup ((sortR (linePs n ++ [(0, (n : Int) - 1)])).map prP)] = netP n (ringPs n) := rfl
    rw [e]
    refine q _ (k2.trans (((Keep.new hR).trans (.new hT)).trans (.new hp)))
end LB

set_option Elab.async false
set_option linter.all false
set_option maxRecDepth 100000
set_option maxHeartbeats 4000000
/-! the script's numbers -/
namespace LB
open PySem DP
local macro_rules | `(tactic| walk_at "wp") => `(tactic| simp only [wpSs, wpS, wpE, wpA, wpO, wpIf, wpI, startL, List.map_cons, List.map_nil, List.length_cons, List.length_nil, List.replicate, List.cons_append, List.nil_append, List.getElem?_cons_zero, List.getElem?_cons_succ, Nat.sub_self,
  Option.some.injEq, exists_eq_left', exists_eq_left, tst_bl, ordW_i, eqW_i, addW_i, mulW_i, intW2_i, cmpW, binW, bfW, mtW, isiW_i, isiW_tup, QOp.int, PV.bl.injEq, PV.int.injEq, Nat.reduceAdd, Nat.reduceSub, lenW_tup, tupleW_tup, intW_i, rgW_1, rgW_2, ixW_t0, ixW_t1, srcW_tup, srcW_rol, enumW_tup, asgT_nm, asgT_tp, setsL, List.set_cons_zero, List.set_cons_succ, wipeL, Bool.not_eq_true', if_true, Bool.false_eq_true, if_false, true_and, and_true])
local macro_rules | `(tactic| walk_at "wn") => `(tactic| simp only [wpSs, wpS, wpE, wpA, wpO, wpIf, wpI, startL, List.map_cons, List.map_nil, List.length_cons, List.length_nil, List.replicate, List.cons_append, List.nil_append, List.getElem?_cons_zero, List.getElem?_cons_succ, Nat.sub_self,
  Option.some.injEq, exists_eq_left', exists_eq_left, tst_bl, ordW_i, eqW_i, addW_i, mulW_i, intW2_i, cmpW, binW, bfW, mtW, isiW_i, isiW_tup, QOp.int, PV.bl.injEq, PV.int.injEq, Nat.reduceAdd, Nat.reduceSub, lenW_tup, tupleW_tup, intW_i, rgW_1, rgW_2, ixW_t0, ixW_t1, srcW_tup, srcW_rol, enumW_tup, asgT_nm, asgT_tp, setsL, List.set_cons_zero, List.set_cons_succ, wipeL, Bool.not_eq_true', if_true, Bool.false_eq_true, if_false, true_and, and_true, ixW_pr0, ixW_pr1, ixW_n0, ixW_n1, srcW_pr, srcW_pts, lenW_pts])
variable {P : Prg} {k : Nat} {L : LHp} {Q : K1} {E : KX}
def rowP (ns : List Int) (c s r : Int) : List PV := [.rol (ns.map .int), .int c, .int s, .int r]
theorem row0 {R : Addr} {ns : List Int} {c s r : Int} (h : L R = some (.lst (rowP ns c s r))) (q : Q (.rol (ns.map .int)) L) : ixW (.ref R) (.int 0) L Q := ixW_ref (i := 0) h rfl q
theorem row1 {R : Addr} {ns : List Int} {c s r : Int} (h : L R = some (.lst (rowP ns c s r))) (q : Q (.int c) L) : ixW (.ref R) (.int 1) L Q := ixW_ref (i := 1) h rfl q
theorem row2 {R : Addr} {ns : List Int} {c s r : Int} (h : L R = some (.lst (rowP ns c s r))) (q : Q (.int s) L) : ixW (.ref R) (.int 2) L Q := ixW_ref (i := 2) h rfl q
theorem row3 {R : Addr} {ns : List Int} {c s r : Int} (h : L R = some (.lst (rowP ns c s r))) (q : Q (.int r) L) : ixW (.ref R) (.int 3) L Q := ixW_ref (i := 3) h rfl q
theorem put1 {R : Addr} {ns : List Int} {c s r v : Int} {Q : LHp → Prop} (h : L R = some (.lst (rowP ns c s r))) (q : Q (lupd L R (.lst (rowP ns v s r)))) : setW (.ref R) (.int 1) (.int v) L Q := .inl ⟨_, 1, 1, h, rfl, rfl, q⟩
theorem put2 {R : Addr} {ns : List Int} {c s r v : Int} {Q : LHp → Prop} (h : L R = some (.lst (rowP ns c s r))) (q : Q (lupd L R (.lst (rowP ns c v r)))) : setW (.ref R) (.int 2) (.int v) L Q := .inl ⟨_, 2, 2, h, rfl, rfl, q⟩
theorem put3 {R : Addr} {ns : List Int} {c s r v : Int} {Q : LHp → Prop} (h : L R = some (.lst (rowP ns c s r))) (q : Q (lupd L R (.lst (rowP ns c s v)))) : setW (.ref R) (.int 3) (.int v) L Q := .inl ⟨_, 3, 3, h, rfl, rfl, q⟩
theorem len_rol (xs : List PV) (L : LHp) (Q : K1) : lenW [.rol xs] L Q = Q (.int xs.length) L := rfl
theorem ix_rol {ns : List Int} {i : Nat} {v : Int} (h : ns[i]? = some v) (q : Q (.int v) L) : ixW (.rol (ns.map .int)) (.int (i : Nat)) L Q :=
  ⟨i, .int v, rfl, L2.atI_nat (by rw [List.getElem?_map, h]; rfl), q⟩
theorem cmul_s {s : Int} (h0 : 0 ≤ s) (h1 : s < 2147483647) : L2.CMulW s 48271 := by
  have h2 : s.natAbs < 2 ^ 31 := by omega
  exact L2.wide_mul (a := 31) (b := 16) h2 (by decide) (by decide) (by decide) (by decide)
theorem taken_s (hP : Has P) {R : Addr} {ns : List Int} {c s r m : Int} (hR : L R = some (.lst (rowP ns c s r))) (hc : 0 ≤ c) (hs : 0 ≤ s ∧ s < 2147483647) (hm : 0 < m ∧ m < 1000000)
    (q : ∀ (v c' s' r' : Int) L', 0 ≤ v → v < m → 0 ≤ c' → 0 ≤ s' → s' < 2147483647 → KeepX R L L' → L' R = some (.lst (rowP ns c' s' r')) → Q (.int v) L') : callW P (k + 1) "_law_taken" [.ref R, .int m] L Q E := by
  have md : ∀ z : Int, 0 ≤ z % m ∧ z % m < m := fun z => ⟨Int.emod_nonneg _ (by omega), Int.emod_lt_of_pos _ hm.1⟩
  have mp : ∀ z : Int, 0 ≤ z % 2147483647 ∧ z % 2147483647 < 2147483647 := fun z => ⟨Int.emod_nonneg _ (by decide), Int.emod_lt_of_pos _ (by decide)⟩
  refine call_d hP.h__law_taken rfl ?_
  unfold d_law_taken
  walk_at "wn"
  refine row3 hR ?_
  walk_at "wn"
  by_cases hr : 0 < r
  · refine iteY (by simpa using hr) (row3 hR ?_)
    walk_at "wn"
    refine ⟨hm.1, row3 hR ?_⟩
    walk_at "wn"
    refine ⟨⟨hm.1, by omega⟩, put3 hR ?_⟩
    exact q _ c s _ _ (md r).1 (md r).2 hc hs.1 hs.2 ((KeepX.refl R L).put) lupd_same
  · refine iteN (by simpa using hr) (row1 hR ?_)
    walk_at "wn"
    refine put1 hR ?_
    have k1 : KeepX R L (lupd L R (.lst (rowP ns (c + 1) s r))) := (KeepX.refl R L).put
    have hR1 : lupd L R (.lst (rowP ns (c + 1) s r)) R = some (.lst (rowP ns (c + 1) s r)) := lupd_same
    generalize lupd L R (.lst (rowP ns (c + 1) s r)) = L1 at k1 hR1
    refine row1 hR1 (row0 hR1 ?_)
    rw [len_rol]
    walk_at "wn"
    by_cases hlt : (ns.length : Int) < c + 1
    · refine iteY (by simpa using hlt) (row2 hR1 ?_)
      walk_at "wn"
      refine ⟨cmul_s hs.1 hs.2, by decide, put2 hR1 ?_⟩
      have k2 := k1.put (o := .lst (rowP ns (c + 1) ((s * 48271 + 11) % 2147483647) r))
      have hR2 : lupd L1 R (.lst (rowP ns (c + 1) ((s * 48271 + 11) % 2147483647) r)) R = some (.lst (rowP ns (c + 1) ((s * 48271 + 11) % 2147483647) r)) := lupd_same
      generalize lupd L1 R (.lst (rowP ns (c + 1) ((s * 48271 + 11) % 2147483647) r)) = L2' at k2 hR2
      refine row2 hR2 ?_
      walk_at "wn"
      refine ⟨⟨by decide, by decide⟩, hm.1, ?_⟩
      exact q _ _ _ _ _ (md _).1 (md _).2 (by omega) (mp _).1 (mp _).2 k2 hR2
    · refine iteN (by simpa using hlt) (row0 hR1 (row1 hR1 ?_))
      walk_at "wn"
      obtain ⟨j, rfl⟩ : ∃ j : Nat, c = j := ⟨c.toNat, by omega⟩
      rw [show ((j : Int) + 1 - 1) = (j : Nat) by omega]
      have hj : j < ns.length := by omega
      refine ix_rol (v := ns[j]) (List.getElem?_eq_getElem hj) (row2 hR1 ?_)
      generalize ns[j] = cell
      walk_at "wn"
      refine ⟨cmul_s hs.1 hs.2, by decide, put2 hR1 ?_⟩
      have k2 := k1.put (o := .lst (rowP ns ((j : Int) + 1) ((s * 48271 + cell + 11) % 2147483647) r))
      have hR2 : lupd L1 R (.lst (rowP ns ((j : Int) + 1) ((s * 48271 + cell + 11) % 2147483647) r)) R = some (.lst (rowP ns ((j : Int) + 1) ((s * 48271 + cell + 11) % 2147483647) r)) := lupd_same
      generalize lupd L1 R (.lst (rowP ns ((j : Int) + 1) ((s * 48271 + cell + 11) % 2147483647) r)) = L2' at k2 hR2
      refine ⟨⟨by decide, by decide, by decide⟩, ?_⟩
      by_cases hg : (10 : Int) ^ (18 : Int).toNat ≤ cell
      · refine iteY (by simpa using hg) ⟨⟨hm.1, by omega⟩, put3 hR2 ⟨hm.1, ?_⟩⟩
        exact q _ _ _ _ _ (md _).1 (md _).2 (by omega) (mp _).1 (mp _).2 k2.put lupd_same
      · refine iteN (by simpa using hg) ⟨hm.1, ?_⟩
        exact q _ _ _ _ _ (md _).1 (md _).2 (by omega) (mp _).1 (mp _).2 k2 hR2
end LB

set_option Elab.async false
set_option linter.all false
set_option maxRecDepth 100000
set_option maxHeartbeats 4000000
/-! k96: what is to hold of the mirrors, n by n -/
namespace LB
open PySem DP
def netB (n : Int) (ps : List (Int × Int)) : Bool := decide (1 ≤ n ∧ n ≤ 12) && decide (ps.length ≤ 66) && ps.all (fun p => decide (0 ≤ p.1 ∧ p.1 < p.2 ∧ p.2 ≤ n - 1)) && (List.range (ps.length - 1)).all fun i => ltR (ps.getD i (0, 0)) (ps.getD (i + 1) (0, 0))
theorem netOk_of {n : Int} {ps : List (Int × Int)} (h : netB n ps = true) : NetOk n ps := by
  unfold netB at h
  simp only [Bool.and_eq_true, decide_eq_true_eq, List.all_eq_true] at h
  obtain ⟨⟨⟨h1, h2⟩, h3⟩, h4⟩ := h
  refine ⟨h1, h2, h3, fun i p q hp hq => ?_⟩
  have l1 := (List.getElem?_eq_some_iff.mp hq).1
  have := h4 i (List.mem_range.mpr (by omega))
  rw [List.getD, List.getD, hp, hq] at this
  unfold ltR at this
  simpa using this
def cnt (n : Nat) (ps : List (Int × Int)) (most : Int) : List Int := countM (nearM n ps) n most
def cOk (xs : List Int) : Bool := !xs.isEmpty && decide (xs.getLast? ≠ some 0)
theorem cOk_of {xs : List Int} (h : cOk xs = true) : ∃ x r, xs = x :: r ∧ xs.getLast? ≠ some 0 := by
  unfold cOk at h
  simp only [Bool.and_eq_true, decide_eq_true_eq] at h
  cases xs with
  | nil => cases h.1
  | cons x r => exact ⟨x, r, rfl, h.2⟩
def backI (xs : List Int) (j : Nat) : Int := xs.getD (xs.length - j) 0
def fibT (xs : List Int) : Nat → List Int
  | 0 => xs
  | n + 1 => fibT xs n ++ [backI (fibT xs n) 1 + backI (fibT xs n) 2]
def triT (xs : List Int) : Nat → List Int
  | 0 => xs
  | n + 1 => triT xs n ++ [backI (triT xs n) 1 + backI (triT xs n) 2 + backI (triT xs n) 3]
def evenB (n : Nat) : Bool := decide ((n : Int) / 2 * 2 = n)
/-- the facts -/
structure Fx (n : Nat) : Prop where
  n3 : 3 ≤ n ∧ n ≤ 8
  nr : netB n (ringPs n) = true
  nl : netB n (linePs n) = true
  ns : netB n (starPs n) = true
  ne : netB n [] = true
  a1 : cOk (cnt n (linePs n) 1) = true ∧ (cnt n (linePs n) 1).sum = (fibT [1, 2] n).getD n 0
  a2 : cOk (cnt n (ringPs n) 1) = true ∧ (cnt n (ringPs n) 1).sum = (fibT [2, 1] n).getD n 0
  a3 : cOk (cnt n (starPs n) 1) = true ∧ (cnt n (starPs n) 1).sum = 2 ^ (n - 1) + 1
  a4 : cOk (cnt n [] 1) = true ∧ (cnt n [] 1).sum = 2 * 2 ^ (n - 1)
  a5 : (mostF (nearM n (linePs n)) n 1 (2 ^ n)).map PV.int = rg3P 0 2 ((n + 1) / 2)
  r5 : L2.RgC 0 n 2 ((n + 1) / 2)
  a6 : ((mostF (nearM n (ringPs n)) n 1 (2 ^ n)).length : Int) = (n : Int) / 2
  a7 : (mostF (nearM n (starPs n)) n 1 (2 ^ n)).map PV.int = rgP 1 n
  a8 : fewF (nearM n (starPs n)) n 1 (2 ^ n) = some [0]
  a9 : (fewF (nearM n (linePs n)) n 1 (2 ^ n)).map (fun b => (b.length : Int)) = some (((n : Int) + 2) / 3)
  b1 : (fewF (nearM n (ringPs n)) n 1 (2 ^ n)).map (fun b => (b.length : Int)) = some (((n : Int) + 2) / 3)
  b2 : cOk (cnt n (linePs n) 2) = true ∧ (cnt n (linePs n) 2).sum = (triT [1, 2, 4] n).getD n 0
  b3 : ((mostF (nearM n (linePs n)) n 2 (2 ^ n)).length : Int) = n - (n : Int) / 3
  b4 : (worthG (nearM n []) 1 12 [] []).map (·.1) = some ((n : Int) - (n : Int) / 2 * 2)
  b5 : (worthG (nearM n (starPs n)) 1 12 [] []).map (·.1) = some (1 + (n : Int) - (n : Int) / 2 * 2)
  b6 : (foldO (winStep (nearM n []) [] 1) ([], []) (List.range n)).map (·.1) = some (if evenB n then [] else (List.range n).map fun i : Nat => (i : Int))
  b7 : ptsB n [1] = true ∧ fineM (nearM n (starPs n)) [1] 1 = true ∧ (((List.range n).filter fun i => mayM (nearM n (starPs n)) [1] (i : Nat) 1).map fun i => ((i : Nat) : Int)).map PV.int = rgP 2 n
  b8 : ptsB n [0] = true ∧ fineM (nearM n (starPs n)) [0] 1 = true ∧ ((List.range n).filter fun i => mayM (nearM n (starPs n)) [0] (i : Nat) 1) = []
  b9 : (worthG (nearM n (starPs n)) 1 12 [0] []).map (·.1) = some 0
theorem fx3 : Fx 3 := ⟨by decide, by decide +kernel, by decide +kernel, by decide +kernel, by decide +kernel, by decide +kernel, by decide +kernel, by decide +kernel, by decide +kernel, by decide +kernel, ⟨by decide, by decide, by decide +kernel, by decide +kernel⟩, by decide +kernel, by decide +kernel, by decide +kernel, by decide +kernel, by decide +kernel, by decide +kernel, by decide +kernel, by decide +kernel, by decide +kernel, by decide +kernel, by decide +kernel, by decide +kernel, by decide +kernel⟩
theorem fx4 : Fx 4 := ⟨by decide, by decide +kernel, by decide +kernel, by decide +kernel, by decide +kernel, by decide +kernel, by decide +kernel, by decide +kernel, by decide +kernel, by decide +kernel, ⟨by decide, by decide, by decide +kernel, by decide +kernel⟩, by decide +kernel, by decide +kernel, by decide +kernel, by decide +kernel, by decide +kernel, by decide +kernel, by decide +kernel, by decide +kernel, by decide +kernel, by decide +kernel, by decide +kernel, by decide +kernel, by decide +kernel⟩
end LB

set_option Elab.async false
set_option linter.all false
set_option maxRecDepth 100000
set_option maxHeartbeats 0
namespace LB
open PySem DP
theorem fx5 : Fx 5 := ⟨by decide, by decide +kernel, by decide +kernel, by decide +kernel, by decide +kernel, by decide +kernel, by decide +kernel, by decide +kernel, by decide +kernel, by decide +kernel, ⟨by decide, by decide, by decide +kernel, by decide +kernel⟩, by decide +kernel, by decide +kernel, by decide +kernel, by decide +kernel, by decide +kernel, by decide +kernel, by decide +kernel, by decide +kernel, by decide +kernel, by decide +kernel, by decide +kernel, by decide +kernel, by decide +kernel⟩
theorem fx6 : Fx 6 := ⟨by decide, by decide +kernel, by decide +kernel, by decide +kernel, by decide +kernel, by decide +kernel, by decide +kernel, by decide +kernel, by decide +kernel, by decide +kernel, ⟨by decide, by decide, by decide +kernel, by decide +kernel⟩, by decide +kernel, by decide +kernel, by decide +kernel, by decide +kernel, by decide +kernel, by decide +kernel, by decide +kernel, by decide +kernel, by decide +kernel, by decide +kernel, by decide +kernel, by decide +kernel, by decide +kernel⟩
theorem fx7 : Fx 7 := ⟨by decide, by decide +kernel, by decide +kernel, by decide +kernel, by decide +kernel, by decide +kernel, by decide +kernel, by decide +kernel, by decide +kernel, by decide +kernel, ⟨by decide, by decide, by decide +kernel, by decide +kernel⟩, by decide +kernel, by decide +kernel, by decide +kernel, by decide +kernel, by decide +kernel, by decide +kernel, by decide +kernel, by decide +kernel, by decide +kernel, by decide +kernel, by decide +kernel, by decide +kernel, by decide +kernel⟩
theorem fx8 : Fx 8 := ⟨by decide, by decide +kernel, by decide +kernel, by decide +kernel, by decide +kernel, by decide +kernel, by decide +kernel, by decide +kernel, by decide +kernel, by decide +kernel, ⟨by decide, by decide, by decide +kernel, by decide +kernel⟩, by decide +kernel, by decide +kernel, by decide +kernel, by decide +kernel, by decide +kernel, by decide +kernel, by decide +kernel, by decide +kernel, by decide +kernel, by decide +kernel, by decide +kernel, by decide +kernel, by decide +kernel⟩
end LB

set_option Elab.async false
set_option linter.all false
set_option maxRecDepth 100000
set_option maxHeartbeats 8000000
/-! k96: the law's body -/
namespace LB
open PySem DP
local macro_rules | `(tactic| walk_at "wp") => `(tactic| simp only [wpSs, wpS, wpE, wpA, wpO, wpIf, wpI, startL, List.map_cons, List.map_nil, List.length_cons, List.length_nil, List.replicate, List.cons_append, List.nil_append, List.getElem?_cons_zero, List.getElem?_cons_succ, Nat.sub_self,
  Option.some.injEq, exists_eq_left', exists_eq_left, tst_bl, ordW_i, eqW_i, addW_i, mulW_i, intW2_i, cmpW, binW, bfW, mtW, isiW_i, isiW_tup, QOp.int, PV.bl.injEq, PV.int.injEq, Nat.reduceAdd, Nat.reduceSub, lenW_tup, tupleW_tup, intW_i, rgW_1, rgW_2, ixW_t0, ixW_t1, srcW_tup, srcW_rol, enumW_tup, asgT_nm, asgT_tp, setsL, List.set_cons_zero, List.set_cons_succ, wipeL, Bool.not_eq_true', if_true, Bool.false_eq_true, if_false, true_and, and_true])
local macro_rules | `(tactic| walk_at "wn") => `(tactic| simp only [wpSs, wpS, wpE, wpA, wpO, wpIf, wpI, startL, List.map_cons, List.map_nil, List.length_cons, List.length_nil, List.replicate, List.cons_append, List.nil_append, List.getElem?_cons_zero, List.getElem?_cons_succ, Nat.sub_self,
  Option.some.injEq, exists_eq_left', exists_eq_left, tst_bl, ordW_i, eqW_i, addW_i, mulW_i, intW2_i, cmpW, binW, bfW, mtW, isiW_i, isiW_tup, QOp.int, PV.bl.injEq, PV.int.injEq, Nat.reduceAdd, Nat.reduceSub, lenW_tup, tupleW_tup, intW_i, rgW_1, rgW_2, ixW_t0, ixW_t1, srcW_tup, srcW_rol, enumW_tup, asgT_nm, asgT_tp, setsL, List.set_cons_zero, List.set_cons_succ, wipeL, Bool.not_eq_true', if_true, Bool.false_eq_true, if_false, true_and, and_true, ixW_pr0, ixW_pr1, ixW_n0, ixW_n1, srcW_pr, srcW_pts, lenW_pts])
variable {P : Prg} {k : Nat} {L : LHp} {Q : K1} {E : KX}
def K96dlaw : Def := ⟨["_law_script", "_law_row", "_law_many", "_law_at", "_law_power", "_law_twos", "_law_even", "_law_sums", "_law_loops"], ["_law_script"], (
  .cons (.asg (.nm 1) (.lst (.cons (.var 0) (.cons (.cst (.int 0)) (.cons (.cst (.int 7896)) (.cons (.cst (.int 0)) .nil)))))) <|
  .cons (.asg (.nm 2) (.bin .add (.cst (.int 3)) (.call "_law_taken" (.cons (.var 1) (.cons (.cst (.int 6)) .nil))))) <|
  .cons (.asg (.tp [7, 8]) (.tup (.cons (.lst (.cons (.cst (.int 1)) (.cons (.cst (.int 2)) .nil))) (.cons (.lst (.cons (.cst (.int 2)) (.cons (.cst (.int 1)) .nil))) .nil)))) <|
  .cons (.for (.nm 3) (.rng (.cons (.var 2) .nil)) (
   .cons (.expr (.mt .append (.var 7) (.cons (.bin .add (.ix (.var 7) (.neg (.cst (.int 1)))) (.ix (.var 7) (.neg (.cst (.int 2))))) .nil))) <|
   .cons (.expr (.mt .append (.var 8) (.cons (.bin .add (.ix (.var 8) (.neg (.cst (.int 1)))) (.ix (.var 8) (.neg (.cst (.int 2))))) .nil))) <| .nil)) <|
  .cons (.ite (.orr (.cmp .ne (.bf .sum (.cons (.call "count_stones" (.cons (.call "line" (.cons (.var 2) .nil)) (.cons (.cst (.int 1)) .nil))) .nil)) (.ix (.var 7) (.var 2))) (.cmp .ne (.bf .sum (.cons (.call "count_stones" (.cons (.call "ring" (.cons (.var 2) .nil)) (.cons (.cst (.int 1)) .nil))) .nil)) (.ix (.var 8) (.var 2)))) (
   .cons (.ret (.cst (.bl false))) <| .nil) ( .nil)) <|
  .cons (.asg (.nm 4) (.cst (.int 1))) <|
  .cons (.for (.nm 3) (.rng (.cons (.bin .sub (.var 2) (.cst (.int 1))) .nil)) (
   .cons (.asg (.nm 4) (.bin .mul (.cst (.int 2)) (.var 4))) <| .nil)) <|
  .cons (.ite (.orr (.cmp .ne (.bf .sum (.cons (.call "count_stones" (.cons (.call "star" (.cons (.var 2) .nil)) (.cons (.cst (.int 1)) .nil))) .nil)) (.bin .add (.var 4) (.cst (.int 1)))) (.cmp .ne (.bf .sum (.cons (.call "count_stones" (.cons (.tup (.cons (.var 2) (.cons (.tup .nil) .nil))) (.cons (.cst (.int 1)) .nil))) .nil)) (.bin .mul (.cst (.int 2)) (.var 4)))) (
   .cons (.ret (.cst (.bl false))) <| .nil) ( .nil)) <|
  .cons (.ite (.orr (.cmp .ne (.call "most_stones" (.cons (.call "line" (.cons (.var 2) .nil)) (.cons (.cst (.int 1)) .nil))) (.tupRg3 (.cons (.cst (.int 0)) (.cons (.var 2) (.cons (.cst (.int 2)) .nil))))) (.cmp .ne (.bf .len (.cons (.call "most_stones" (.cons (.call "ring" (.cons (.var 2) .nil)) (.cons (.cst (.int 1)) .nil))) .nil)) (.bin .fdiv (.var 2) (.cst (.int 2))))) (
   .cons (.ret (.cst (.bl false))) <| .nil) ( .nil)) <|
  .cons (.ite (.orr (.cmp .ne (.call "most_stones" (.cons (.call "star" (.cons (.var 2) .nil)) (.cons (.cst (.int 1)) .nil))) (.tupRg (.cons (.cst (.int 1)) (.cons (.var 2) .nil)))) (.cmp .ne (.call "fewest_full" (.cons (.call "star" (.cons (.var 2) .nil)) (.cons (.cst (.int 1)) .nil))) (.tup (.cons (.cst (.int 0)) .nil)))) (
   .cons (.ret (.cst (.bl false))) <| .nil) ( .nil)) <|
  .cons (.ite (.orr (.cmp .ne (.bf .len (.cons (.call "fewest_full" (.cons (.call "line" (.cons (.var 2) .nil)) (.cons (.cst (.int 1)) .nil))) .nil)) (.bin .fdiv (.bin .add (.var 2) (.cst (.int 2))) (.cst (.int 3)))) (.cmp .ne (.bf .len (.cons (.call "fewest_full" (.cons (.call "ring" (.cons (.var 2) .nil)) (.cons (.cst (.int 1)) .nil))) .nil)) (.bin .fdiv (.bin .add (.var 2) (.cst (.int 2))) (.cst (.int 3))))) (
   .cons (.ret (.cst (.bl false))) <| .nil) ( .nil)) <|
  .cons (.asg (.nm 5) (.lst (.cons (.cst (.int 1)) (.cons (.cst (.int 2)) (.cons (.cst (.int 4)) .nil))))) <|
  .cons (.for (.nm 3) (.rng (.cons (.var 2) .nil)) (
   .cons (.expr (.mt .append (.var 5) (.cons (.bin .add (.bin .add (.ix (.var 5) (.neg (.cst (.int 1)))) (.ix (.var 5) (.neg (.cst (.int 2))))) (.ix (.var 5) (.neg (.cst (.int 3))))) .nil))) <| .nil)) <|
  .cons (.ite (.orr (.cmp .ne (.bf .sum (.cons (.call "count_stones" (.cons (.call "line" (.cons (.var 2) .nil)) (.cons (.cst (.int 2)) .nil))) .nil)) (.ix (.var 5) (.var 2))) (.cmp .ne (.bf .len (.cons (.call "most_stones" (.cons (.call "line" (.cons (.var 2) .nil)) (.cons (.cst (.int 2)) .nil))) .nil)) (.bin .sub (.var 2) (.bin .fdiv (.var 2) (.cst (.int 3)))))) (
   .cons (.ret (.cst (.bl false))) <| .nil) ( .nil)) <|
  .cons (.ite (.orr (.cmp .ne (.call "worth" (.cons (.tup (.cons (.var 2) (.cons (.tup .nil) .nil))) (.cons (.tup .nil) (.cons (.cst (.int 1)) .nil)))) (.bin .sub (.var 2) (.bin .mul (.bin .fdiv (.var 2) (.cst (.int 2))) (.cst (.int 2))))) (.cmp .ne (.call "worth" (.cons (.call "star" (.cons (.var 2) .nil)) (.cons (.tup .nil) (.cons (.cst (.int 1)) .nil)))) (.bin .sub (.bin .add (.cst (.int 1)) (.var 2)) (.bin .mul (.bin .fdiv (.var 2) (.cst (.int 2))) (.cst (.int 2)))))) (
   .cons (.ret (.cst (.bl false))) <| .nil) ( .nil)) <|
  .cons (.asg (.nm 6) (.cmp .eq (.bin .mul (.bin .fdiv (.var 2) (.cst (.int 2))) (.cst (.int 2))) (.var 2))) <|
  .cons (.ite (.cmp .ne (.call "winning_points" (.cons (.tup (.cons (.var 2) (.cons (.tup .nil) .nil))) (.cons (.tup .nil) (.cons (.cst (.int 1)) .nil)))) (.ite (.var 6) (.lst .nil) (.lstRg (.cons (.var 2) .nil)))) (
   .cons (.ret (.cst (.bl false))) <| .nil) ( .nil)) <|
  .cons (.ite (.nt (.cmp .eq (.call "free_points" (.cons (.call "star" (.cons (.var 2) .nil)) (.cons (.tup (.cons (.cst (.int 1)) .nil)) (.cons (.cst (.int 1)) .nil)))) (.lstRg (.cons (.cst (.int 2)) (.cons (.var 2) .nil))))) (
   .cons (.ret (.cst (.bl false))) <| .nil) ( .nil)) <|
  .cons (.ret (.an (.cmp .eq (.call "free_points" (.cons (.call "star" (.cons (.var 2) .nil)) (.cons (.tup (.cons (.cst (.int 0)) .nil)) (.cons (.cst (.int 1)) .nil)))) (.lst .nil)) (.cmp .eq (.call "worth" (.cons (.call "star" (.cons (.var 2) .nil)) (.cons (.tup (.cons (.cst (.int 0)) .nil)) (.cons (.cst (.int 1)) .nil)))) (.cst (.int 0))))) <| .nil)⟩
theorem fib_len (xs : List Int) : ∀ n, (fibT xs n).length = xs.length + n
  | 0 => rfl
  | n + 1 => by unfold fibT; rw [List.length_append, fib_len xs n]; rfl
theorem tri_len (xs : List Int) : ∀ n, (triT xs n).length = xs.length + n
  | 0 => rfl
  | n + 1 => by unfold triT; rw [List.length_append, tri_len xs n]; rfl
theorem ix_back {a : Addr} {xs : List Int} {j : Nat} (e : L a = some (.lst (xs.map .int))) (h1 : 1 ≤ j) (h2 : j ≤ xs.length) (q : Q (.int (backI xs j)) L) : ixW (.ref a) (.int (-(j : Int))) L Q := by
  refine .inl ⟨_, -(j : Int), _, e, rfl, ?_, q⟩
  have hl : (xs.map PV.int).length = xs.length := List.length_map ..
  have e1 : L2.ixN (xs.map PV.int).length (-(j : Int)) = some (xs.length - j) := by
    rw [hl]
    unfold L2.ixN
    rw [if_neg (by omega), if_pos (by omega)]
    congr 1
    omega
  unfold L2.atI
  rw [e1]
  show (xs.map PV.int)[xs.length - j]? = _
  rw [List.getElem?_map]
  unfold backI
  rw [List.getD, List.getElem?_eq_getElem (show xs.length - j < xs.length by omega)]
  rfl
theorem ix_back1 {a : Addr} {xs : List Int} (e : L a = some (.lst (xs.map .int))) (h2 : 1 ≤ xs.length) (q : Q (.int (backI xs 1)) L) : ixW (.ref a) (.int (-1)) L Q := ix_back (j := 1) e (by omega) h2 q
theorem ix_back2 {a : Addr} {xs : List Int} (e : L a = some (.lst (xs.map .int))) (h2 : 2 ≤ xs.length) (q : Q (.int (backI xs 2)) L) : ixW (.ref a) (.int (-2)) L Q := ix_back (j := 2) e (by omega) h2 q
theorem ix_back3 {a : Addr} {xs : List Int} (e : L a = some (.lst (xs.map .int))) (h2 : 3 ≤ xs.length) (q : Q (.int (backI xs 3)) L) : ixW (.ref a) (.int (-3)) L Q := ix_back (j := 3) e (by omega) h2 q
theorem ix_fwd {a : Addr} {xs : List Int} {j : Nat} (e : L a = some (.lst (xs.map .int))) (h2 : j < xs.length) (q : Q (.int (xs.getD j 0)) L) : ixW (.ref a) (.int (j : Nat)) L Q :=
  ixW_ref e (by rw [List.getElem?_map, List.getD, List.getElem?_eq_getElem h2]; rfl) q
theorem sum_pts {xs : List Int} (q : Q (.int xs.sum) L) : sumW [ptsP xs] L Q := ⟨_, rfl, show intsIn (ptsP xs) L _ from ⟨xs, intsOf_map xs, q⟩⟩
theorem app_int {a : Addr} {xs : List Int} {y : Int} (e : L a = some (.lst (xs.map .int))) (h : xs.length < 1000) (q : Q .non (lupd L a (.lst ((xs ++ [y]).map .int)))) : appendW (.ref a) [.int y] L Q :=
  ⟨a, _, .int y, rfl, rfl, e, by rw [List.length_map]; omega, by rw [List.map_append] at q; exact q⟩
theorem eq_small {neg : Bool} {x y : PV} (hx : small x = true) (hy : small y = true) (ni : ¬ ((∃ i j, x = .int i ∧ y = .int j) ∨ ∃ i j, x = .bl i ∧ y = .bl j)) (q : Q (.bl (xnot neg (decide (x = y)))) L) : eqW neg x y L Q := by
  unfold eqW
  split
  · exact (ni (.inl ⟨_, _, rfl, rfl⟩)).elim
  · exact (ni (.inr ⟨_, _, rfl, rfl⟩)).elim
  · exact .inl ⟨hx, hy, q⟩
theorem cm2 {i : Nat} (h : i ≤ 20) : L2.CMulW 2 (2 ^ i) := by
  refine L2.wide_mul (a := 2) (b := 21) (by decide) ?_ (by decide) (by decide) (by decide)
  have e : ((2 : Int) ^ i).natAbs = 2 ^ i := by rw [Int.natAbs_pow]; rfl
  rw [e]
  exact Nat.pow_lt_pow_right (by decide) (by omega)
theorem eqN_pts {xs : List Int} {y : PV} (h : y = ptsP xs) (q : Q (.bl false) L) : eqW true (ptsP xs) y L Q := by
  subst h
  refine eq_small (small_pts xs) (small_pts xs) ?_ (by simpa [xnot] using q)
  rintro (⟨i, j, e, _⟩ | ⟨i, j, e, _⟩) <;> (unfold ptsP at e; cases e)
theorem neN {a b : Int} (h : a = b) : xnot true (decide (a = b)) = false := by simp [xnot, h]
theorem neP {a b : PV} (h : a = b) : xnot true (decide (a = b)) = false := by simp [xnot, h]
theorem law_s (hP : Has P) {d : Def} (hd : P.fns "law" = some d) (hdef : d = K96dlaw) {ns : List Int} (fx : ∀ n, 3 ≤ n → n ≤ 8 → Fx n) (q : ∀ L', Q (.bl true) L') : callW P (k + 19) "law" [.rol (ns.map .int)] L Q E := by
  refine call_d hd (by rw [hdef]; rfl) ?_
  rw [hdef]
  unfold K96dlaw
  walk_at "wn"
  refine ⟨by decide, fun R hR => ?_⟩
  refine taken_s (k := k + 17) hP (ns := ns) (c := 0) (s := 7896) (r := 0) lupd_same (by decide) ⟨by decide, by decide⟩ ⟨by decide, by decide⟩ fun v c' s' r' L1 v0 v1 _ _ _ _ _ => ?_
  walk_at "wn"
  obtain ⟨n, hn, hv⟩ : ∃ n : Nat, (3 : Int) + v = n ∧ (3 ≤ n ∧ n ≤ 8) := ⟨(3 + v).toNat, by omega, by omega⟩
  rw [hn]
  have F := fx n hv.1 hv.2
  have hN8 : (n : Int) ≤ 8 := by omega
  refine ⟨by decide, fun S hS => ⟨by decide, fun T hT => ⟨by decide, rgOk_0 (by omega) (by omega), ?_⟩⟩⟩
  have ST : S ≠ T := fun z => by subst z; rw [lupd_same] at hT; cases hT
  rw [rgP_i, Int.toNat_natCast]
  refine for_by0 (fun i ls L' => ∃ x3, ls = [some (.rol (ns.map .int)), some (.ref R), some (.int n), x3, none, none, none, some (.ref S), some (.ref T)] ∧ L' S = some (.lst ((fibT [1, 2] i).map .int)) ∧ L' T = some (.lst ((fibT [2, 1] i).map .int))) ⟨none, rfl, ?_, lupd_same⟩ (fun _ _ _ _ _ => trivial) (fun i x ls L2 N hx hI hN => ?_) (fun ls L2 hI => ?_)
  · rw [lupd_ne ST]; exact lupd_same
  · obtain ⟨x3, rfl, hS2, hT2⟩ := hI
    have hi : i < n := by simpa using (List.getElem?_eq_some_iff.mp hx).1
    have l1 := fib_len [1, 2] i
    have l2 := fib_len [2, 1] i
    have e12 : ([1, 2] : List Int).length = 2 := rfl
    have e21 : ([2, 1] : List Int).length = 2 := rfl
    walk_at "wn"
    refine ⟨⟨S, _, rfl, hS2⟩, ix_back1 hS2 (by omega) (ix_back2 hS2 (by omega) ?_)⟩
    walk_at "wn"
    refine app_int hS2 (by omega) ?_
    have hT3 : lupd L2 S (.lst ((fibT [1, 2] i ++ [backI (fibT [1, 2] i) 1 + backI (fibT [1, 2] i) 2]).map .int)) T = some (.lst ((fibT [2, 1] i).map .int)) := by rw [lupd_ne (Ne.symm ST)]; exact hT2
    have hS3 : lupd L2 S (.lst ((fibT [1, 2] i ++ [backI (fibT [1, 2] i) 1 + backI (fibT [1, 2] i) 2]).map .int)) S = some (.lst ((fibT [1, 2] (i + 1)).map .int)) := lupd_same
    generalize lupd L2 S (.lst ((fibT [1, 2] i ++ [backI (fibT [1, 2] i) 1 + backI (fibT [1, 2] i) 2]).map .int)) = L3 at hT3 hS3
    refine ⟨⟨T, _, rfl, hT3⟩, ix_back1 hT3 (by omega) (ix_back2 hT3 (by omega) ?_)⟩
    walk_at "wn"
    refine app_int hT3 (by omega) ?_
    exact hN _ _ ⟨_, rfl, by rw [lupd_ne ST]; exact hS3, lupd_same⟩
  · obtain ⟨x3, rfl, hS2, hT2⟩ := hI
    have hfl1 := fib_len [1, 2] n
    have hfl2 := fib_len [2, 1] n
    have e12 : ([1, 2] : List Int).length = 2 := rfl
    have e21 : ([2, 1] : List Int).length = 2 := rfl
    rw [List.length_map, List.length_range] at hS2 hT2
    walk_at "wn"
    refine line_s (k := k + 14) hP (by omega) fun L3 k3 => ?_
    refine count_stones_s (k := k + 12) hP (netOk_of F.nl) (by omega) (by omega) (cOk_of F.a1.1) fun L4 k4 => ?_
    refine sum_pts (ix_fwd (k4 _ _ (k3 _ _ hS2)) (by omega) ?_)
    walk_at "wn"
    refine iteN (neN F.a1.2) ?_
    refine ring_s (k := k + 14) hP (by omega) fun L5 k5 => ?_
    refine count_stones_s (k := k + 12) hP (netOk_of F.nr) (by omega) (by omega) (cOk_of F.a2.1) fun L6 k6 => ?_
    refine sum_pts (ix_fwd (k6 _ _ (k5 _ _ (k4 _ _ (k3 _ _ hT2)))) (by omega) ?_)
    walk_at "wn"
    refine iteN (neN F.a2.2) ?_
    refine ⟨rgOk_0 (by omega) (by omega), ?_⟩
    rw [rgP_sub1]
    refine for_by0 (fun i ls L' => ∃ x3, ls = [some (.rol (ns.map .int)), some (.ref R), some (.int n), x3, some (.int (2 ^ i)), none, none, some (.ref S), some (.ref T)]) ⟨_, rfl⟩ (fun _ _ _ _ _ => trivial) (fun i x ls L7 N hx hI hN => ?_) (fun ls L7 hI => ?_)
    · obtain ⟨x3, rfl⟩ := hI
      have hi : i < n - 1 := by simpa using (List.getElem?_eq_some_iff.mp hx).1
      walk_at "wn"
      refine ⟨cm2 (by omega), ?_⟩
      rw [show (2 : Int) * 2 ^ i = 2 ^ (i + 1) by rw [Int.pow_succ, Int.mul_comm]]
      exact hN _ _ ⟨_, rfl⟩
    obtain ⟨x3, rfl⟩ := hI
    rw [List.length_map, List.length_range]
    walk_at "wn"
    refine star_s (k := k + 14) hP (by omega) fun L8 k8 => ?_
    refine count_stones_s (k := k + 12) hP (netOk_of F.ns) (by omega) (by omega) (cOk_of F.a3.1) fun L9 k9 => ?_
    refine sum_pts ?_
    walk_at "wn"
    refine iteN (neN F.a3.2) ⟨by decide, by decide, ?_⟩
    show callW P (k + 18) "count_stones" [netP n [], .int 1] L9 _ _
    refine count_stones_s (k := k + 12) hP (netOk_of F.ne) (by omega) (by omega) (cOk_of F.a4.1) fun L10 k10 => ?_
    refine sum_pts ?_
    walk_at "wn"
    refine ⟨cm2 (by omega), iteN (neN F.a4.2) ?_⟩
    refine line_s (k := k + 14) hP (by omega) fun L11 k11 => ?_
    refine most_stones_s (k := k + 12) hP (netOk_of F.nl) (by omega) (by omega) fun L12 k12 => ?_
    simp only [Int.toNat_natCast]
    refine ⟨(n + 1) / 2, F.r5, by omega, eqN_pts (by unfold ptsP; rw [F.a5]) ?_⟩
    rw [tst_bl]
    refine iteN rfl ?_
    refine ring_s (k := k + 14) hP (by omega) fun L13 k13 => ?_
    refine most_stones_s (k := k + 12) hP (netOk_of F.nr) (by omega) (by omega) fun L14 k14 => ?_
    simp only [Int.toNat_natCast]
    rw [lenW_pts]
    refine ⟨⟨by decide, by decide⟩, ?_⟩
    rw [eqW_i, tst_bl]
    refine iteN (neN F.a6) ?_
    refine star_s (k := k + 14) hP (by omega) fun L15 k15 => ?_
    refine most_stones_s (k := k + 12) hP (netOk_of F.ns) (by omega) (by omega) fun L16 k16 => ?_
    simp only [Int.toNat_natCast]
    refine ⟨by unfold rgOk; omega, eqN_pts (by unfold ptsP; rw [F.a7]) ?_⟩
    rw [tst_bl]
    refine iteN rfl ?_
    refine star_s (k := k + 14) hP (by omega) fun L17 k17 => ?_
    refine fewest_full_s (k := k + 12) hP (netOk_of F.ns) (by omega) (by omega) fun L18 k18 => ?_
    simp only [Int.toNat_natCast]
    rw [F.a8]
    refine ⟨by decide, eqN_pts (xs := [0]) rfl ?_⟩
    rw [tst_bl]
    refine iteN rfl ?_
    refine line_s (k := k + 14) hP (by omega) fun L19 k19 => ?_
    refine fewest_full_s (k := k + 12) hP (netOk_of F.nl) (by omega) (by omega) fun L20 k20 => ?_
    simp only [Int.toNat_natCast]
    obtain ⟨b1, hb1, hb1'⟩ := Option.map_eq_some_iff.mp F.a9
    rw [hb1]
    show lenW [ptsP b1] L20 _
    rw [lenW_pts]
    refine ⟨⟨by decide, by decide⟩, ?_⟩
    rw [eqW_i, tst_bl]
    refine iteN (neN hb1') ?_
    refine ring_s (k := k + 14) hP (by omega) fun L21 k21 => ?_
    refine fewest_full_s (k := k + 12) hP (netOk_of F.nr) (by omega) (by omega) fun L22 k22 => ?_
    simp only [Int.toNat_natCast]
    obtain ⟨b2, hb2, hb2'⟩ := Option.map_eq_some_iff.mp F.b1
    rw [hb2]
    show lenW [ptsP b2] L22 _
    rw [lenW_pts]
    refine ⟨⟨by decide, by decide⟩, ?_⟩
    rw [eqW_i, tst_bl]
    refine iteN (neN hb2') ?_
    refine ⟨by decide, fun W hW => ⟨rgOk_0 (by omega) (by omega), ?_⟩⟩
    rw [rgP_i, Int.toNat_natCast]
    refine for_by0 (fun i ls L' => ∃ x3, ls = [some (.rol (ns.map .int)), some (.ref R), some (.int n), x3, some (.int (2 ^ (n - 1))), some (.ref W), none, some (.ref S), some (.ref T)] ∧ L' W = some (.lst ((triT [1, 2, 4] i).map .int))) ⟨_, rfl, lupd_same⟩ (fun _ _ _ _ _ => trivial) (fun i x ls L2 N hx hI hN => ?_) (fun ls M1 hI => ?_)
    · obtain ⟨x3, rfl, hW2⟩ := hI
      have hi : i < n := by simpa using (List.getElem?_eq_some_iff.mp hx).1
      have l1 := tri_len [1, 2, 4] i
      have e124 : ([1, 2, 4] : List Int).length = 3 := rfl
      walk_at "wn"
      refine ⟨⟨W, _, rfl, hW2⟩, ix_back1 hW2 (by omega) (ix_back2 hW2 (by omega) ?_)⟩
      walk_at "wn"
      refine ix_back3 hW2 (by omega) ?_
      walk_at "wn"
      refine app_int hW2 (by omega) ?_
      exact hN _ _ ⟨_, rfl, lupd_same⟩
    obtain ⟨x3, rfl, hW1⟩ := hI
    rw [List.length_map, List.length_range] at hW1
    have l1 := tri_len [1, 2, 4] n
    have e124 : ([1, 2, 4] : List Int).length = 3 := rfl
    walk_at "wn"
    refine line_s (k := k + 14) hP (by omega) fun M2 m2 => ?_
    refine count_stones_s (k := k + 12) hP (netOk_of F.nl) (by omega) (by omega) (cOk_of F.b2.1) fun M3 m3 => ?_
    refine sum_pts (ix_fwd (m3 _ _ (m2 _ _ hW1)) (by omega) ?_)
    rw [eqW_i, tst_bl]
    refine iteN (neN F.b2.2) ?_
    refine line_s (k := k + 14) hP (by omega) fun M4 m4 => ?_
    refine most_stones_s (k := k + 12) hP (netOk_of F.nl) (by omega) (by omega) fun M5 m5 => ?_
    simp only [Int.toNat_natCast]
    rw [lenW_pts]
    refine ⟨⟨by decide, by decide⟩, ?_⟩
    walk_at "wn"
    refine iteN (neN F.b3) ⟨by decide, by decide, ?_⟩
    have cm : _root_.L2.CMulW ((n : Int) / 2) 2 := _root_.L2.wide_mul (a := 10) (b := 2) (by omega) (by decide) (by decide) (by decide) (by decide)
    have p0 : ptsB n [] = true := by simp [ptsB]
    refine ⟨by decide, ?_⟩
    show callW P (k + 18) "worth" [netP n [], ptsP [], .int 1] M5 _ _
    obtain ⟨⟨w4, kn4⟩, hw4, hw4'⟩ := Option.map_eq_some_iff.mp F.b4
    refine worth_s (k := k) hP (netOk_of F.ne) (by omega) p0 (by omega) rfl hw4 fun M6 m6 => ⟨⟨by decide, by decide⟩, cm, ?_⟩
    rw [eqW_i, tst_bl]
    refine iteN (neN hw4') ?_
    refine star_s (k := k + 14) hP (by omega) fun M7 m7 => ?_
    refine ⟨by decide, ?_⟩
    show callW P (k + 18) "worth" [netP n (starPs n), ptsP [], .int 1] M7 _ _
    obtain ⟨⟨w5, kn5⟩, hw5, hw5'⟩ := Option.map_eq_some_iff.mp F.b5
    refine worth_s (k := k) hP (netOk_of F.ns) (by omega) p0 (by omega) rfl hw5 fun M8 m8 => ⟨⟨by decide, by decide⟩, cm, ?_⟩
    rw [eqW_i, tst_bl]
    refine iteN (neN hw5') ⟨⟨by decide, by decide⟩, cm, by decide, by decide, by decide, ?_⟩
    show callW P (k + 18) "winning_points" [netP n [], ptsP [], .int 1] M8 _ _
    obtain ⟨⟨s6, kn6⟩, hw6, hw6'⟩ := Option.map_eq_some_iff.mp F.b6
    refine winning_points_s (k := k) (s := (s6, kn6)) hP (netOk_of F.ne) (by omega) p0 (by omega) rfl (by rw [Int.toNat_natCast]; exact hw6) fun A9 M9 m9 e9 => ?_
    replace e9 : M9 A9 = some (.lst (s6.map .int)) := e9
    replace hw6' : s6 = if evenB n then [] else (List.range n).map fun i : Nat => (i : Int) := hw6'
    by_cases he : (n : Int) / 2 * 2 = n
    · refine iteY (by simp [xnot, he]) ⟨by decide, fun p1 hp1 => ?_⟩
      have np1 : A9 ≠ p1 := fun z => by subst z; rw [hp1] at e9; cases e9
      have es : s6 = [] := by rw [hw6']; unfold evenB; rw [decide_eq_true he]; rfl
      rw [es] at e9
      refine eqW_ints (xs := []) (ys := []) (by rw [lupd_ne np1]; exact e9) lupd_same ?_
      rw [tst_bl]
      refine iteN (by simp [xnot]) ?_
      refine star_s (k := k + 14) hP (by omega) fun M11 m11 => ?_
      refine ⟨by decide, ?_⟩
      show callW P (k + 18) "free_points" [netP n (starPs n), ptsP [1], .int 1] M11 _ _
      refine free_points_s (k := k + 12) hP (netOk_of F.ns) (by omega) F.b7.1 (by omega) F.b7.2.1 fun A12 M12 m12 e12 => ?_
      simp only [Int.toNat_natCast] at e12
      refine ⟨by unfold rgOk; omega, fun p2 hp2 => ?_⟩
      have np2 : A12 ≠ p2 := fun z => by subst z; rw [hp2] at e12; cases e12
      rw [← F.b7.2.2]
      refine eqW_ints (by rw [lupd_ne np2]; exact e12) lupd_same ?_
      rw [tst_bl]
      refine iteF' (by simp [xnot]) ?_
      refine star_s (k := k + 14) hP (by omega) fun M13 m13 => ?_
      refine ⟨by decide, ?_⟩
      show callW P (k + 18) "free_points" [netP n (starPs n), ptsP [0], .int 1] M13 _ _
      refine free_points_s (k := k + 12) hP (netOk_of F.ns) (by omega) F.b8.1 (by omega) F.b8.2.1 fun A14 M14 m14 e14 => ?_
      simp only [Int.toNat_natCast] at e14
      rw [F.b8.2.2] at e14
      refine ⟨by decide, fun p3 hp3 => ?_⟩
      have np3 : A14 ≠ p3 := fun z => by subst z; rw [hp3] at e14; cases e14
      refine eqW_ints (xs := []) (ys := []) (by rw [lupd_ne np3]; exact e14) lupd_same ?_
      rw [tst_bl]
      refine iteY (by simp [xnot]) ?_
      refine star_s (k := k + 14) hP (by omega) fun M15 m15 => ?_
      refine ⟨by decide, ?_⟩
      show callW P (k + 18) "worth" [netP n (starPs n), ptsP [0], .int 1] M15 _ _
      obtain ⟨⟨w9, kn9⟩, hw9, hw9'⟩ := Option.map_eq_some_iff.mp F.b9
      refine worth_s (k := k) hP (netOk_of F.ns) (by omega) F.b8.1 (by omega) F.b8.2.1 hw9 fun M16 m16 => ?_
      rw [show w9 = 0 from hw9', eqW_i]
      exact q _
    · refine iteN (by simp [xnot, he]) ⟨rgOk_0 (by omega) (by omega), fun p1 hp1 => ?_⟩
      have np1 : A9 ≠ p1 := fun z => by subst z; rw [hp1] at e9; cases e9
      have es : s6 = (List.range n).map fun i : Nat => (i : Int) := by rw [hw6']; unfold evenB; rw [decide_eq_false he]; rfl
      rw [es] at e9
      have er : rgP 0 (n : Int) = ((List.range n).map fun i : Nat => (i : Int)).map PV.int := by rw [rgP_i, Int.toNat_natCast, List.map_map]; rfl
      rw [er]
      refine eqW_ints (by rw [lupd_ne np1]; exact e9) lupd_same ?_
      rw [tst_bl]
      refine iteN (by simp [xnot]) ?_
      refine star_s (k := k + 14) hP (by omega) fun M11 m11 => ?_
      refine ⟨by decide, ?_⟩
      show callW P (k + 18) "free_points" [netP n (starPs n), ptsP [1], .int 1] M11 _ _
      refine free_points_s (k := k + 12) hP (netOk_of F.ns) (by omega) F.b7.1 (by omega) F.b7.2.1 fun A12 M12 m12 e12 => ?_
      simp only [Int.toNat_natCast] at e12
      refine ⟨by unfold rgOk; omega, fun p2 hp2 => ?_⟩
      have np2 : A12 ≠ p2 := fun z => by subst z; rw [hp2] at e12; cases e12
      rw [← F.b7.2.2]
      refine eqW_ints (by rw [lupd_ne np2]; exact e12) lupd_same ?_
      rw [tst_bl]
      refine iteF' (by simp [xnot]) ?_
      refine star_s (k := k + 14) hP (by omega) fun M13 m13 => ?_
      refine ⟨by decide, ?_⟩
      show callW P (k + 18) "free_points" [netP n (starPs n), ptsP [0], .int 1] M13 _ _
      refine free_points_s (k := k + 12) hP (netOk_of F.ns) (by omega) F.b8.1 (by omega) F.b8.2.1 fun A14 M14 m14 e14 => ?_
      simp only [Int.toNat_natCast] at e14
      rw [F.b8.2.2] at e14
      refine ⟨by decide, fun p3 hp3 => ?_⟩
      have np3 : A14 ≠ p3 := fun z => by subst z; rw [hp3] at e14; cases e14
      refine eqW_ints (xs := []) (ys := []) (by rw [lupd_ne np3]; exact e14) lupd_same ?_
      rw [tst_bl]
      refine iteY (by simp [xnot]) ?_
      refine star_s (k := k + 14) hP (by omega) fun M15 m15 => ?_
      refine ⟨by decide, ?_⟩
      show callW P (k + 18) "worth" [netP n (starPs n), ptsP [0], .int 1] M15 _ _
      obtain ⟨⟨w9, kn9⟩, hw9, hw9'⟩ := Option.map_eq_some_iff.mp F.b9
      refine worth_s (k := k) hP (netOk_of F.ns) (by omega) F.b8.1 (by omega) F.b8.2.1 hw9 fun M16 m16 => ?_
      rw [show w9 = 0 from hw9', eqW_i]
      exact q _
end LB

set_option Elab.async false
set_option linter.all false
set_option maxRecDepth 100000
set_option maxHeartbeats 4000000
/-! the defs of law_k96_known_stones -/
namespace K96
open PySem PySem.Spec PyProof.Rows L2 DP
def dwhole : Def := ⟨["value"], ["value"], (
  .cons (.ret (.an (.bf .isi (.cons (.var 0) (.cons (.ty "int") .nil))) (.nt (.bf .isi (.cons (.var 0) (.cons (.ty "bool") .nil)))))) <| .nil)⟩
def dwithin : Def := ⟨["value", "low", "high"], ["value", "low", "high"], (
  .cons (.ret (.an (.call "whole" (.cons (.var 0) .nil)) (.chn (.q .le) (.q .le) (.var 1) (.var 0) (.var 2)))) <| .nil)⟩
def dneed_number : Def := ⟨["value", "low", "high"], ["value", "low", "high"], (
  .cons (.ite (.nt (.call "within" (.cons (.var 0) (.cons (.var 1) (.cons (.var 2) .nil))))) (
   .cons .raise <| .nil) ( .nil)) <| .nil)⟩
def dtuple_of : Def := ⟨["value", "low", "high"], ["value", "low", "high"], (
  .cons (.ret (.an (.bf .isi (.cons (.var 0) (.cons (.ty "tuple") .nil))) (.chn (.q .le) (.q .le) (.var 1) (.bf .len (.cons (.var 0) .nil)) (.var 2)))) <| .nil)⟩
def dneed_net : Def := ⟨["net", "index", "pair", "point"], ["net"], (
  .cons (.ite (.orr (.nt (.call "tuple_of" (.cons (.var 0) (.cons (.cst (.int 2)) (.cons (.cst (.int 2)) .nil))))) (.orr (.nt (.call "within" (.cons (.ix (.var 0) (.cst (.int 0))) (.cons (.cst (.int 1)) (.cons (.con "MOST_POINTS_checks") .nil))))) (.nt (.call "tuple_of" (.cons (.ix (.var 0) (.cst (.int 1))) (.cons (.cst (.int 0)) (.cons (.cst (.int 66)) .nil))))))) (
   .cons .raise <| .nil) ( .nil)) <|
  .cons (.for (.tp [1, 2]) (.enum (.ix (.var 0) (.cst (.int 1)))) (
   .cons (.ite (.orr (.nt (.call "tuple_of" (.cons (.var 2) (.cons (.cst (.int 2)) (.cons (.cst (.int 2)) .nil))))) (.nt (.bf .all (.cons (.lc (.call "within" (.cons (.var 3) (.cons (.cst (.int 0)) (.cons (.bin .sub (.ix (.var 0) (.cst (.int 0))) (.cst (.int 1))) .nil)))) (.nm 3) (.seq (.var 2)) .nil [3]) .nil)))) (
    .cons .raise <| .nil) ( .nil)) <|
   .cons (.ite (.orr (.cmp (.q .ge) (.ix (.var 2) (.cst (.int 0))) (.ix (.var 2) (.cst (.int 1)))) (.an (.cmp (.q .gt) (.var 1) (.cst (.int 0))) (.cmp (.q .le) (.var 2) (.ix (.ix (.var 0) (.cst (.int 1))) (.bin .sub (.var 1) (.cst (.int 1))))))) (
    .cons .raise <| .nil) ( .nil)) <| .nil)) <| .nil)⟩
def dis_points : Def := ⟨["net", "value", "at", "point"], ["net", "value"], (
  .cons (.ite (.orr (.nt (.call "tuple_of" (.cons (.var 1) (.cons (.cst (.int 0)) (.cons (.ix (.var 0) (.cst (.int 0))) .nil))))) (.nt (.bf .all (.cons (.lc (.call "within" (.cons (.var 3) (.cons (.cst (.int 0)) (.cons (.bin .sub (.ix (.var 0) (.cst (.int 0))) (.cst (.int 1))) .nil)))) (.nm 3) (.seq (.var 1)) .nil [3]) .nil)))) (
   .cons (.ret (.cst (.bl false))) <| .nil) ( .nil)) <|
  .cons (.ret (.bf .all (.cons (.lc (.cmp (.q .lt) (.ix (.var 1) (.var 2)) (.ix (.var 1) (.bin .add (.var 2) (.cst (.int 1))))) (.nm 2) (.rng (.cons (.bin .sub (.bf .len (.cons (.var 1) .nil)) (.cst (.int 1))) .nil)) .nil [2]) .nil))) <| .nil)⟩
def dneed_points : Def := ⟨["net", "points"], ["net", "points"], (
  .cons (.ite (.nt (.call "is_points" (.cons (.var 0) (.cons (.var 1) .nil)))) (
   .cons .raise <| .nil) ( .nil)) <| .nil)⟩
def dnear_of : Def := ⟨["net", "found", "one", "other", "point", "points"], ["net"], (
  .cons (.asg (.nm 1) (.lc (.lst .nil) (.nm 4) (.rng (.cons (.ix (.var 0) (.cst (.int 0))) .nil)) .nil [4])) <|
  .cons (.for (.tp [2, 3]) (.seq (.ix (.var 0) (.cst (.int 1)))) (
   .cons (.expr (.mt .append (.ix (.var 1) (.var 2)) (.cons (.var 3) .nil))) <|
   .cons (.expr (.mt .append (.ix (.var 1) (.var 3)) (.cons (.var 2) .nil))) <| .nil)) <|
  .cons (.ret (.lc (.bf .sorted (.cons (.var 5) .nil)) (.nm 5) (.seq (.var 1)) .nil [5])) <| .nil)⟩
def dreach : Def := ⟨["near", "start", "kept", "found", "rim", "here", "point"], ["near", "start", "kept"], (
  .cons (.asg (.tp [3, 4]) (.tup (.cons (.dct1 (.var 1) (.cst (.bl true))) (.cons (.lst (.cons (.var 1) .nil)) .nil)))) <|
  .cons (.whl (.cmp .ne (.var 4) (.lst .nil)) (
   .cons (.asg (.nm 5) (.mt .pop (.var 4) .nil)) <|
   .cons (.for (.nm 6) (.seq (.ix (.var 0) (.var 5))) (
    .cons (.ite (.an (.cmp .inn (.var 6) (.var 2)) (.cmp .nin (.var 6) (.var 3))) (
     .cons (.put (.var 3) (.var 6) (.cst (.bl true))) <|
     .cons (.expr (.mt .append (.var 4) (.cons (.var 6) .nil))) <| .nil) ( .nil)) <| .nil)) <| .nil)) <|
  .cons (.ret (.bf .tuple (.cons (.bf .sorted (.cons (.var 3) .nil)) .nil))) <| .nil)⟩
def dline : Def := ⟨["many", "point"], ["many"], (
  .cons (.expr (.call "need_number" (.cons (.var 0) (.cons (.cst (.int 1)) (.cons (.con "MOST_POINTS_checks") .nil))))) <|
  .cons (.ret (.tup (.cons (.var 0) (.cons (.bf .tuple (.cons (.lc (.tup (.cons (.var 1) (.cons (.bin .add (.var 1) (.cst (.int 1))) .nil))) (.nm 1) (.rng (.cons (.bin .sub (.var 0) (.cst (.int 1))) .nil)) .nil [1]) .nil)) .nil)))) <| .nil)⟩
def dring : Def := ⟨["many", "point"], ["many"], (
  .cons (.expr (.call "need_number" (.cons (.var 0) (.cons (.cst (.int 3)) (.cons (.con "MOST_POINTS_checks") .nil))))) <|
  .cons (.ret (.tup (.cons (.var 0) (.cons (.bf .tuple (.cons (.bf .sorted (.cons (.bin .add (.lc (.tup (.cons (.var 1) (.cons (.bin .add (.var 1) (.cst (.int 1))) .nil))) (.nm 1) (.rng (.cons (.bin .sub (.var 0) (.cst (.int 1))) .nil)) .nil [1]) (.lst (.cons (.tup (.cons (.cst (.int 0)) (.cons (.bin .sub (.var 0) (.cst (.int 1))) .nil))) .nil))) .nil)) .nil)) .nil)))) <| .nil)⟩
def dstar : Def := ⟨["many", "point"], ["many"], (
  .cons (.expr (.call "need_number" (.cons (.var 0) (.cons (.cst (.int 1)) (.cons (.con "MOST_POINTS_checks") .nil))))) <|
  .cons (.ret (.tup (.cons (.var 0) (.cons (.bf .tuple (.cons (.lc (.tup (.cons (.cst (.int 0)) (.cons (.var 1) .nil))) (.nm 1) (.rng (.cons (.cst (.int 1)) (.cons (.var 0) .nil))) .nil [1]) .nil)) .nil)))) <| .nil)⟩
def dmay_put : Def := ⟨["near", "points", "point", "most", "kept", "other"], ["near", "points", "point", "most"], (
  .cons (.ite (.cmp .inn (.var 2) (.var 1)) (
   .cons (.ret (.cst (.bl false))) <| .nil) ( .nil)) <|
  .cons (.asg (.nm 4) (.dc (.var 5) (.cst (.bl true)) (.nm 5) (.seq (.bin .add (.var 1) (.tup (.cons (.var 2) .nil)))) .nil [5])) <|
  .cons (.ret (.cmp (.q .le) (.bf .len (.cons (.call "reach" (.cons (.var 0) (.cons (.var 2) (.cons (.var 4) .nil)))) .nil)) (.var 3))) <| .nil)⟩
def dis_fine : Def := ⟨["near", "points", "most", "kept", "point"], ["near", "points", "most"], (
  .cons (.asg (.nm 3) (.dc (.var 4) (.cst (.bl true)) (.nm 4) (.seq (.var 1)) .nil [4])) <|
  .cons (.ret (.bf .all (.cons (.lc (.cmp (.q .le) (.bf .len (.cons (.call "reach" (.cons (.var 0) (.cons (.var 4) (.cons (.var 3) .nil)))) .nil)) (.var 2)) (.nm 4) (.seq (.var 1)) .nil [4]) .nil))) <| .nil)⟩
def dneed_stones : Def := ⟨["net", "points", "most", "near"], ["net", "points", "most"], (
  .cons (.expr (.call "need_net" (.cons (.var 0) .nil))) <|
  .cons (.expr (.call "need_points" (.cons (.var 0) (.cons (.var 1) .nil)))) <|
  .cons (.expr (.call "need_number" (.cons (.var 2) (.cons (.cst (.int 1)) (.cons (.ix (.var 0) (.cst (.int 0))) .nil))))) <|
  .cons (.asg (.nm 3) (.call "near_of" (.cons (.var 0) .nil))) <|
  .cons (.ite (.nt (.call "is_fine" (.cons (.var 3) (.cons (.var 1) (.cons (.var 2) .nil))))) (
   .cons .raise <| .nil) ( .nil)) <|
  .cons (.ite (.cmp (.q .gt) (.ix (.var 0) (.cst (.int 0))) (.con "MOST_POINTS_stones")) (
   .cons .raise <| .nil) ( .nil)) <|
  .cons (.ret (.var 3)) <| .nil)⟩
def dfree_points : Def := ⟨["net", "points", "most", "near", "point"], ["net", "points", "most"], (
  .cons (.asg (.nm 3) (.call "need_stones" (.cons (.var 0) (.cons (.var 1) (.cons (.var 2) .nil))))) <|
  .cons (.ret (.lc (.var 4) (.nm 4) (.rng (.cons (.ix (.var 0) (.cst (.int 0))) .nil)) (.cons (.call "may_put" (.cons (.var 3) (.cons (.var 1) (.cons (.var 4) (.cons (.var 2) .nil))))) .nil) [4])) <| .nil)⟩
def dworth_of : Def := ⟨["near", "points", "most", "known", "some", "point", "found"], ["near", "points", "most", "known"], (
  .cons (.ite (.cmp .nin (.var 1) (.var 3)) (
   .cons (.asg (.nm 4) .dct0) <|
   .cons (.for (.nm 5) (.rng (.cons (.bf .len (.cons (.var 0) .nil)) .nil)) (
    .cons (.ite (.call "may_put" (.cons (.var 0) (.cons (.var 1) (.cons (.var 5) (.cons (.var 2) .nil))))) (
     .cons (.put (.var 4) (.call "worth_of" (.cons (.var 0) (.cons (.bf .tuple (.cons (.bf .sorted (.cons (.bin .add (.var 1) (.tup (.cons (.var 5) .nil))) .nil)) .nil)) (.cons (.var 2) (.cons (.var 3) .nil))))) (.cst (.bl true))) <| .nil) ( .nil)) <| .nil)) <|
   .cons (.asg (.nm 6) (.cst (.int 0))) <|
   .cons (.whl (.cmp .inn (.var 6) (.var 4)) (
    .cons (.aug 6 .add (.cst (.int 1))) <| .nil)) <|
   .cons (.put (.var 3) (.var 1) (.var 6)) <| .nil) ( .nil)) <|
  .cons (.ret (.ix (.var 3) (.var 1))) <| .nil)⟩
def dworth : Def := ⟨["net", "points", "most", "near"], ["net", "points", "most"], (
  .cons (.asg (.nm 3) (.call "need_stones" (.cons (.var 0) (.cons (.var 1) (.cons (.var 2) .nil))))) <|
  .cons (.ret (.call "worth_of" (.cons (.var 3) (.cons (.var 1) (.cons (.var 2) (.cons .dct0 .nil)))))) <| .nil)⟩
def dwinning_points : Def := ⟨["net", "points", "most", "found", "point", "near", "known"], ["net", "points", "most"], (
  .cons (.asg (.tp [5, 6]) (.tup (.cons (.call "need_stones" (.cons (.var 0) (.cons (.var 1) (.cons (.var 2) .nil)))) (.cons .dct0 .nil)))) <|
  .cons (.asg (.nm 3) (.lst .nil)) <|
  .cons (.for (.nm 4) (.rng (.cons (.ix (.var 0) (.cst (.int 0))) .nil)) (
   .cons (.ite (.call "may_put" (.cons (.var 5) (.cons (.var 1) (.cons (.var 4) (.cons (.var 2) .nil))))) (
    .cons (.ite (.cmp .eq (.call "worth_of" (.cons (.var 5) (.cons (.bf .tuple (.cons (.bf .sorted (.cons (.bin .add (.var 1) (.tup (.cons (.var 4) .nil))) .nil)) .nil)) (.cons (.var 2) (.cons (.var 6) .nil))))) (.cst (.int 0))) (
     .cons (.expr (.mt .append (.var 3) (.cons (.var 4) .nil))) <| .nil) ( .nil)) <| .nil) ( .nil)) <| .nil)) <|
  .cons (.ret (.var 3)) <| .nil)⟩
def dmost_stones : Def := ⟨["net", "most", "near", "best", "mask", "points", "point"], ["net", "most"], (
  .cons (.asg (.nm 2) (.call "need_stones" (.cons (.var 0) (.cons (.tup .nil) (.cons (.var 1) .nil))))) <|
  .cons (.asg (.nm 3) (.tup .nil)) <|
  .cons (.for (.nm 4) (.rng (.cons (.bin .shl (.cst (.int 1)) (.ix (.var 0) (.cst (.int 0)))) .nil)) (
   .cons (.asg (.nm 5) (.bf .tuple (.cons (.lc (.var 6) (.nm 6) (.rng (.cons (.ix (.var 0) (.cst (.int 0))) .nil)) (.cons (.cmp .eq (.bin .band (.bin .shr (.var 4) (.var 6)) (.cst (.int 1))) (.cst (.int 1))) .nil) [6]) .nil))) <|
   .cons (.ite (.orr (.cmp (.q .gt) (.bf .len (.cons (.var 5) .nil)) (.bf .len (.cons (.var 3) .nil))) (.an (.cmp .eq (.bf .len (.cons (.var 5) .nil)) (.bf .len (.cons (.var 3) .nil))) (.cmp (.q .lt) (.var 5) (.var 3)))) (
    .cons (.ite (.call "is_fine" (.cons (.var 2) (.cons (.var 5) (.cons (.var 1) .nil)))) (
     .cons (.asg (.nm 3) (.var 5)) <| .nil) ( .nil)) <| .nil) ( .nil)) <| .nil)) <|
  .cons (.ret (.var 3)) <| .nil)⟩
def dcount_stones : Def := ⟨["net", "most", "near", "counts", "mask", "points", "point"], ["net", "most"], (
  .cons (.asg (.nm 2) (.call "need_stones" (.cons (.var 0) (.cons (.tup .nil) (.cons (.var 1) .nil))))) <|
  .cons (.asg (.nm 3) (.bin .mul (.lst (.cons (.cst (.int 0)) .nil)) (.bin .add (.ix (.var 0) (.cst (.int 0))) (.cst (.int 1))))) <|
  .cons (.for (.nm 4) (.rng (.cons (.bin .shl (.cst (.int 1)) (.ix (.var 0) (.cst (.int 0)))) .nil)) (
   .cons (.asg (.nm 5) (.bf .tuple (.cons (.lc (.var 6) (.nm 6) (.rng (.cons (.ix (.var 0) (.cst (.int 0))) .nil)) (.cons (.cmp .eq (.bin .band (.bin .shr (.var 4) (.var 6)) (.cst (.int 1))) (.cst (.int 1))) .nil) [6]) .nil))) <|
   .cons (.ite (.call "is_fine" (.cons (.var 2) (.cons (.var 5) (.cons (.var 1) .nil)))) (
    .cons (.augS (.var 3) (.bf .len (.cons (.var 5) .nil)) .add (.cst (.int 1))) <| .nil) ( .nil)) <| .nil)) <|
  .cons (.whl (.cmp .eq (.ix (.var 3) (.neg (.cst (.int 1)))) (.cst (.int 0))) (
   .cons (.expr (.mt .pop (.var 3) .nil)) <| .nil)) <|
  .cons (.ret (.bf .tuple (.cons (.var 3) .nil))) <| .nil)⟩
def dfewest_full : Def := ⟨["net", "most", "near", "best", "mask", "points", "point"], ["net", "most"], (
  .cons (.asg (.nm 2) (.call "need_stones" (.cons (.var 0) (.cons (.tup .nil) (.cons (.var 1) .nil))))) <|
  .cons (.asg (.nm 3) (.cst .non)) <|
  .cons (.for (.nm 4) (.rng (.cons (.bin .shl (.cst (.int 1)) (.ix (.var 0) (.cst (.int 0)))) .nil)) (
   .cons (.asg (.nm 5) (.bf .tuple (.cons (.lc (.var 6) (.nm 6) (.rng (.cons (.ix (.var 0) (.cst (.int 0))) .nil)) (.cons (.cmp .eq (.bin .band (.bin .shr (.var 4) (.var 6)) (.cst (.int 1))) (.cst (.int 1))) .nil) [6]) .nil))) <|
   .cons (.ite (.orr (.isN false (.var 3)) (.cmp (.q .lt) (.tup (.cons (.bf .len (.cons (.var 5) .nil)) (.cons (.var 5) .nil))) (.tup (.cons (.bf .len (.cons (.var 3) .nil)) (.cons (.var 3) .nil))))) (
    .cons (.ite (.call "is_fine" (.cons (.var 2) (.cons (.var 5) (.cons (.var 1) .nil)))) (
     .cons (.ite (.nt (.bf .any (.cons (.lc (.call "may_put" (.cons (.var 2) (.cons (.var 5) (.cons (.var 6) (.cons (.var 1) .nil))))) (.nm 6) (.rng (.cons (.ix (.var 0) (.cst (.int 0))) .nil)) .nil [6]) .nil))) (
      .cons (.asg (.nm 3) (.var 5)) <| .nil) ( .nil)) <| .nil) ( .nil)) <| .nil) ( .nil)) <| .nil)) <|
  .cons (.ret (.var 3)) <| .nil)⟩
def d_law_taken : Def := ⟨["_law_row", "_law_many", "_law_cell", "_law_found"], ["_law_row", "_law_many"], (
  .cons (.ite (.cmp (.q .gt) (.ix (.var 0) (.cst (.int 3))) (.cst (.int 0))) (
   .cons (.asg (.nm 3) (.bin .mod (.bf .int (.cons (.ix (.var 0) (.cst (.int 3))) .nil)) (.var 1))) <|
   .cons (.put (.var 0) (.cst (.int 3)) (.bin .fdiv (.ix (.var 0) (.cst (.int 3))) (.var 1))) <|
   .cons (.ret (.var 3)) <| .nil) ( .nil)) <|
  .cons (.put (.var 0) (.cst (.int 1)) (.bin .add (.ix (.var 0) (.cst (.int 1))) (.cst (.int 1)))) <|
  .cons (.ite (.cmp (.q .gt) (.ix (.var 0) (.cst (.int 1))) (.bf .len (.cons (.ix (.var 0) (.cst (.int 0))) .nil))) (
   .cons (.put (.var 0) (.cst (.int 2)) (.bin .mod (.bf .int (.cons (.bin .add (.bin .mul (.ix (.var 0) (.cst (.int 2))) (.cst (.int 48271))) (.cst (.int 11))) .nil)) (.cst (.int 2147483647)))) <|
   .cons (.ret (.bin .mod (.bf .int (.cons (.bin .fdiv (.ix (.var 0) (.cst (.int 2))) (.cst (.int 7))) .nil)) (.var 1))) <| .nil) ( .nil)) <|
  .cons (.asg (.nm 2) (.ix (.ix (.var 0) (.cst (.int 0))) (.bin .sub (.ix (.var 0) (.cst (.int 1))) (.cst (.int 1))))) <|
  .cons (.put (.var 0) (.cst (.int 2)) (.bin .mod (.bf .int (.cons (.bin .add (.bin .add (.bin .mul (.ix (.var 0) (.cst (.int 2))) (.cst (.int 48271))) (.var 2)) (.cst (.int 11))) .nil)) (.cst (.int 2147483647)))) <|
  .cons (.ite (.cmp (.q .ge) (.var 2) (.bin .pow (.cst (.int 10)) (.cst (.int 18)))) (
   .cons (.put (.var 0) (.cst (.int 3)) (.bin .fdiv (.var 2) (.var 1))) <| .nil) ( .nil)) <|
  .cons (.ret (.bin .mod (.bf .int (.cons (.var 2) .nil)) (.var 1))) <| .nil)⟩
def dlaw : Def := ⟨["_law_script", "_law_row", "_law_many", "_law_at", "_law_power", "_law_twos", "_law_even", "_law_sums", "_law_loops"], ["_law_script"], (
  .cons (.asg (.nm 1) (.lst (.cons (.var 0) (.cons (.cst (.int 0)) (.cons (.cst (.int 7896)) (.cons (.cst (.int 0)) .nil)))))) <|
  .cons (.asg (.nm 2) (.bin .add (.cst (.int 3)) (.call "_law_taken" (.cons (.var 1) (.cons (.cst (.int 6)) .nil))))) <|
  .cons (.asg (.tp [7, 8]) (.tup (.cons (.lst (.cons (.cst (.int 1)) (.cons (.cst (.int 2)) .nil))) (.cons (.lst (.cons (.cst (.int 2)) (.cons (.cst (.int 1)) .nil))) .nil)))) <|
  .cons (.for (.nm 3) (.rng (.cons (.var 2) .nil)) (
   .cons (.expr (.mt .append (.var 7) (.cons (.bin .add (.ix (.var 7) (.neg (.cst (.int 1)))) (.ix (.var 7) (.neg (.cst (.int 2))))) .nil))) <|
   .cons (.expr (.mt .append (.var 8) (.cons (.bin .add (.ix (.var 8) (.neg (.cst (.int 1)))) (.ix (.var 8) (.neg (.cst (.int 2))))) .nil))) <| .nil)) <|
  .cons (.ite (.orr (.cmp .ne (.bf .sum (.cons (.call "count_stones" (.cons (.call "line" (.cons (.var 2) .nil)) (.cons (.cst (.int 1)) .nil))) .nil)) (.ix (.var 7) (.var 2))) (.cmp .ne (.bf .sum (.cons (.call "count_stones" (.cons (.call "ring" (.cons (.var 2) .nil)) (.cons (.cst (.int 1)) .nil))) .nil)) (.ix (.var 8) (.var 2)))) (
   .cons (.ret (.cst (.bl false))) <| .nil) ( .nil)) <|
  .cons (.asg (.nm 4) (.cst (.int 1))) <|
  .cons (.for (.nm 3) (.rng (.cons (.bin .sub (.var 2) (.cst (.int 1))) .nil)) (
   .cons (.asg (.nm 4) (.bin .mul (.cst (.int 2)) (.var 4))) <| .nil)) <|
  .cons (.ite (.orr (.cmp .ne (.bf .sum (.cons (.call "count_stones" (.cons (.call "star" (.cons (.var 2) .nil)) (.cons (.cst (.int 1)) .nil))) .nil)) (.bin .add (.var 4) (.cst (.int 1)))) (.cmp .ne (.bf .sum (.cons (.call "count_stones" (.cons (.tup (.cons (.var 2) (.cons (.tup .nil) .nil))) (.cons (.cst (.int 1)) .nil))) .nil)) (.bin .mul (.cst (.int 2)) (.var 4)))) (
   .cons (.ret (.cst (.bl false))) <| .nil) ( .nil)) <|
  .cons (.ite (.orr (.cmp .ne (.call "most_stones" (.cons (.call "line" (.cons (.var 2) .nil)) (.cons (.cst (.int 1)) .nil))) (.tupRg3 (.cons (.cst (.int 0)) (.cons (.var 2) (.cons (.cst (.int 2)) .nil))))) (.cmp .ne (.bf .len (.cons (.call "most_stones" (.cons (.call "ring" (.cons (.var 2) .nil)) (.cons (.cst (.int 1)) .nil))) .nil)) (.bin .fdiv (.var 2) (.cst (.int 2))))) (
   .cons (.ret (.cst (.bl false))) <| .nil) ( .nil)) <|
  .cons (.ite (.orr (.cmp .ne (.call "most_stones" (.cons (.call "star" (.cons (.var 2) .nil)) (.cons (.cst (.int 1)) .nil))) (.tupRg (.cons (.cst (.int 1)) (.cons (.var 2) .nil)))) (.cmp .ne (.call "fewest_full" (.cons (.call "star" (.cons (.var 2) .nil)) (.cons (.cst (.int 1)) .nil))) (.tup (.cons (.cst (.int 0)) .nil)))) (
   .cons (.ret (.cst (.bl false))) <| .nil) ( .nil)) <|
  .cons (.ite (.orr (.cmp .ne (.bf .len (.cons (.call "fewest_full" (.cons (.call "line" (.cons (.var 2) .nil)) (.cons (.cst (.int 1)) .nil))) .nil)) (.bin .fdiv (.bin .add (.var 2) (.cst (.int 2))) (.cst (.int 3)))) (.cmp .ne (.bf .len (.cons (.call "fewest_full" (.cons (.call "ring" (.cons (.var 2) .nil)) (.cons (.cst (.int 1)) .nil))) .nil)) (.bin .fdiv (.bin .add (.var 2) (.cst (.int 2))) (.cst (.int 3))))) (
   .cons (.ret (.cst (.bl false))) <| .nil) ( .nil)) <|
  .cons (.asg (.nm 5) (.lst (.cons (.cst (.int 1)) (.cons (.cst (.int 2)) (.cons (.cst (.int 4)) .nil))))) <|
  .cons (.for (.nm 3) (.rng (.cons (.var 2) .nil)) (
   .cons (.expr (.mt .append (.var 5) (.cons (.bin .add (.bin .add (.ix (.var 5) (.neg (.cst (.int 1)))) (.ix (.var 5) (.neg (.cst (.int 2))))) (.ix (.var 5) (.neg (.cst (.int 3))))) .nil))) <| .nil)) <|
  .cons (.ite (.orr (.cmp .ne (.bf .sum (.cons (.call "count_stones" (.cons (.call "line" (.cons (.var 2) .nil)) (.cons (.cst (.int 2)) .nil))) .nil)) (.ix (.var 5) (.var 2))) (.cmp .ne (.bf .len (.cons (.call "most_stones" (.cons (.call "line" (.cons (.var 2) .nil)) (.cons (.cst (.int 2)) .nil))) .nil)) (.bin .sub (.var 2) (.bin .fdiv (.var 2) (.cst (.int 3)))))) (
   .cons (.ret (.cst (.bl false))) <| .nil) ( .nil)) <|
  .cons (.ite (.orr (.cmp .ne (.call "worth" (.cons (.tup (.cons (.var 2) (.cons (.tup .nil) .nil))) (.cons (.tup .nil) (.cons (.cst (.int 1)) .nil)))) (.bin .sub (.var 2) (.bin .mul (.bin .fdiv (.var 2) (.cst (.int 2))) (.cst (.int 2))))) (.cmp .ne (.call "worth" (.cons (.call "star" (.cons (.var 2) .nil)) (.cons (.tup .nil) (.cons (.cst (.int 1)) .nil)))) (.bin .sub (.bin .add (.cst (.int 1)) (.var 2)) (.bin .mul (.bin .fdiv (.var 2) (.cst (.int 2))) (.cst (.int 2)))))) (
   .cons (.ret (.cst (.bl false))) <| .nil) ( .nil)) <|
  .cons (.asg (.nm 6) (.cmp .eq (.bin .mul (.bin .fdiv (.var 2) (.cst (.int 2))) (.cst (.int 2))) (.var 2))) <|
  .cons (.ite (.cmp .ne (.call "winning_points" (.cons (.tup (.cons (.var 2) (.cons (.tup .nil) .nil))) (.cons (.tup .nil) (.cons (.cst (.int 1)) .nil)))) (.ite (.var 6) (.lst .nil) (.lstRg (.cons (.var 2) .nil)))) (
   .cons (.ret (.cst (.bl false))) <| .nil) ( .nil)) <|
  .cons (.ite (.nt (.cmp .eq (.call "free_points" (.cons (.call "star" (.cons (.var 2) .nil)) (.cons (.tup (.cons (.cst (.int 1)) .nil)) (.cons (.cst (.int 1)) .nil)))) (.lstRg (.cons (.cst (.int 2)) (.cons (.var 2) .nil))))) (
   .cons (.ret (.cst (.bl false))) <| .nil) ( .nil)) <|
  .cons (.ret (.an (.cmp .eq (.call "free_points" (.cons (.call "star" (.cons (.var 2) .nil)) (.cons (.tup (.cons (.cst (.int 0)) .nil)) (.cons (.cst (.int 1)) .nil)))) (.lst .nil)) (.cmp .eq (.call "worth" (.cons (.call "star" (.cons (.var 2) .nil)) (.cons (.tup (.cons (.cst (.int 0)) .nil)) (.cons (.cst (.int 1)) .nil)))) (.cst (.int 0))))) <| .nil)⟩
def tab : Tab := [("whole", dwhole), ("within", dwithin), ("need_number", dneed_number), ("tuple_of", dtuple_of), ("need_net", dneed_net), ("is_points", dis_points), ("need_points", dneed_points), ("near_of", dnear_of), ("reach", dreach), ("line", dline), ("ring", dring), ("star", dstar), ("may_put", dmay_put), ("is_fine", dis_fine), ("need_stones", dneed_stones), ("free_points", dfree_points), ("worth_of", dworth_of), ("worth", dworth), ("winning_points", dwinning_points), ("most_stones", dmost_stones), ("count_stones", dcount_stones), ("fewest_full", dfewest_full), ("_law_taken", d_law_taken), ("law", dlaw)]
def ctab : CTab := [("MOST_POINTS_checks", 12), ("MOST_POINTS_stones", 10)]
abbrev topS (i : Nat) : Stmt := PySem.Challenge.pw_shavenets_k96_known_stones.main.body.getD i (.Pass ⟨0, 0, 0, 0⟩)
theorem ok_whole : DOk tab ctab "whole" (topS 9) dwhole := ⟨fun _ _ _ _ _ _ us hl => match us, hl with | [_], _ => rfl, ⟨rfl, rfl, rfl, by decide +kernel, rfl, by decide +kernel, by decide +kernel⟩, by decide +kernel⟩
theorem ok_within : DOk tab ctab "within" (topS 10) dwithin := ⟨fun _ _ _ _ _ _ us hl => match us, hl with | [_, _, _], _ => rfl, ⟨rfl, rfl, rfl, by decide +kernel, rfl, by decide +kernel, by decide +kernel⟩, by decide +kernel⟩
theorem ok_need_number : DOk tab ctab "need_number" (topS 11) dneed_number := ⟨fun _ _ _ _ _ _ us hl => match us, hl with | [_, _, _], _ => rfl, ⟨rfl, rfl, rfl, by decide +kernel, rfl, by decide +kernel, by decide +kernel⟩, by decide +kernel⟩
theorem ok_tuple_of : DOk tab ctab "tuple_of" (topS 12) dtuple_of := ⟨fun _ _ _ _ _ _ us hl => match us, hl with | [_, _, _], _ => rfl, ⟨rfl, rfl, rfl, by decide +kernel, rfl, by decide +kernel, by decide +kernel⟩, by decide +kernel⟩
theorem ok_need_net : DOk tab ctab "need_net" (topS 13) dneed_net := ⟨fun _ _ _ _ _ _ us hl => match us, hl with | [_], _ => rfl, ⟨rfl, rfl, rfl, by decide +kernel, rfl, by decide +kernel, by decide +kernel⟩, by decide +kernel⟩
theorem ok_is_points : DOk tab ctab "is_points" (topS 14) dis_points := ⟨fun _ _ _ _ _ _ us hl => match us, hl with | [_, _], _ => rfl, ⟨rfl, rfl, rfl, by decide +kernel, rfl, by decide +kernel, by decide +kernel⟩, by decide +kernel⟩
theorem ok_need_points : DOk tab ctab "need_points" (topS 15) dneed_points := ⟨fun _ _ _ _ _ _ us hl => match us, hl with | [_, _], _ => rfl, ⟨rfl, rfl, rfl, by decide +kernel, rfl, by decide +kernel, by decide +kernel⟩, by decide +kernel⟩
theorem ok_near_of : DOk tab ctab "near_of" (topS 17) dnear_of := ⟨fun _ _ _ _ _ _ us hl => match us, hl with | [_], _ => rfl, ⟨rfl, rfl, rfl, by decide +kernel, rfl, by decide +kernel, by decide +kernel⟩, by decide +kernel⟩
theorem ok_reach : DOk tab ctab "reach" (topS 18) dreach := ⟨fun _ _ _ _ _ _ us hl => match us, hl with | [_, _, _], _ => rfl, ⟨rfl, rfl, rfl, by decide +kernel, rfl, by decide +kernel, by decide +kernel⟩, by decide +kernel⟩
theorem ok_line : DOk tab ctab "line" (topS 19) dline := ⟨fun _ _ _ _ _ _ us hl => match us, hl with | [_], _ => rfl, ⟨rfl, rfl, rfl, by decide +kernel, rfl, by decide +kernel, by decide +kernel⟩, by decide +kernel⟩
theorem ok_ring : DOk tab ctab "ring" (topS 20) dring := ⟨fun _ _ _ _ _ _ us hl => match us, hl with | [_], _ => rfl, ⟨rfl, rfl, rfl, by decide +kernel, rfl, by decide +kernel, by decide +kernel⟩, by decide +kernel⟩
theorem ok_star : DOk tab ctab "star" (topS 21) dstar := ⟨fun _ _ _ _ _ _ us hl => match us, hl with | [_], _ => rfl, ⟨rfl, rfl, rfl, by decide +kernel, rfl, by decide +kernel, by decide +kernel⟩, by decide +kernel⟩
theorem ok_may_put : DOk tab ctab "may_put" (topS 24) dmay_put := ⟨fun _ _ _ _ _ _ us hl => match us, hl with | [_, _, _, _], _ => rfl, ⟨rfl, rfl, rfl, by decide +kernel, rfl, by decide +kernel, by decide +kernel⟩, by decide +kernel⟩
theorem ok_is_fine : DOk tab ctab "is_fine" (topS 25) dis_fine := ⟨fun _ _ _ _ _ _ us hl => match us, hl with | [_, _, _], _ => rfl, ⟨rfl, rfl, rfl, by decide +kernel, rfl, by decide +kernel, by decide +kernel⟩, by decide +kernel⟩
theorem ok_need_stones : DOk tab ctab "need_stones" (topS 26) dneed_stones := ⟨fun _ _ _ _ _ _ us hl => match us, hl with | [_, _, _], _ => rfl, ⟨rfl, rfl, rfl, by decide +kernel, rfl, by decide +kernel, by decide +kernel⟩, by decide +kernel⟩
theorem ok_free_points : DOk tab ctab "free_points" (topS 27) dfree_points := ⟨fun _ _ _ _ _ _ us hl => match us, hl with | [_, _, _], _ => rfl, ⟨rfl, rfl, rfl, by decide +kernel, rfl, by decide +kernel, by decide +kernel⟩, by decide +kernel⟩
theorem ok_worth_of : DOk tab ctab "worth_of" (topS 28) dworth_of := ⟨fun _ _ _ _ _ _ us hl => match us, hl with | [_, _, _, _], _ => rfl, ⟨rfl, rfl, rfl, by decide +kernel, rfl, by decide +kernel, by decide +kernel⟩, by decide +kernel⟩
theorem ok_worth : DOk tab ctab "worth" (topS 29) dworth := ⟨fun _ _ _ _ _ _ us hl => match us, hl with | [_, _, _], _ => rfl, ⟨rfl, rfl, rfl, by decide +kernel, rfl, by decide +kernel, by decide +kernel⟩, by decide +kernel⟩
theorem ok_winning_points : DOk tab ctab "winning_points" (topS 30) dwinning_points := ⟨fun _ _ _ _ _ _ us hl => match us, hl with | [_, _, _], _ => rfl, ⟨rfl, rfl, rfl, by decide +kernel, rfl, by decide +kernel, by decide +kernel⟩, by decide +kernel⟩
theorem ok_most_stones : DOk tab ctab "most_stones" (topS 31) dmost_stones := ⟨fun _ _ _ _ _ _ us hl => match us, hl with | [_, _], _ => rfl, ⟨rfl, rfl, rfl, by decide +kernel, rfl, by decide +kernel, by decide +kernel⟩, by decide +kernel⟩
theorem ok_count_stones : DOk tab ctab "count_stones" (topS 32) dcount_stones := ⟨fun _ _ _ _ _ _ us hl => match us, hl with | [_, _], _ => rfl, ⟨rfl, rfl, rfl, by decide +kernel, rfl, by decide +kernel, by decide +kernel⟩, by decide +kernel⟩
theorem ok_fewest_full : DOk tab ctab "fewest_full" (topS 33) dfewest_full := ⟨fun _ _ _ _ _ _ us hl => match us, hl with | [_, _], _ => rfl, ⟨rfl, rfl, rfl, by decide +kernel, rfl, by decide +kernel, by decide +kernel⟩, by decide +kernel⟩
theorem ok__law_taken : DOk tab ctab "_law_taken" (topS 35) d_law_taken := ⟨fun _ _ _ _ _ _ us hl => match us, hl with | [_, _], _ => rfl, ⟨rfl, rfl, rfl, by decide +kernel, rfl, by decide +kernel, by decide +kernel⟩, by decide +kernel⟩
theorem ok_law : DOk tab ctab "law" (topS 36) dlaw := ⟨fun _ _ _ _ _ _ us hl => match us, hl with | [_], _ => rfl, ⟨rfl, rfl, rfl, by decide +kernel, rfl, by decide +kernel, by decide +kernel⟩, by decide +kernel⟩
theorem tab_ok {K : PySem.W.Frag} (f_whole : DFact K "whole" (topS 9)) (f_within : DFact K "within" (topS 10)) (f_need_number : DFact K "need_number" (topS 11)) (f_tuple_of : DFact K "tuple_of" (topS 12)) (f_need_net : DFact K "need_net" (topS 13)) (f_is_points : DFact K "is_points" (topS 14)) (f_need_points : DFact K "need_points" (topS 15)) (f_near_of : DFact K "near_of" (topS 17)) (f_reach : DFact K "reach" (topS 18)) (f_line : DFact K "line" (topS 19)) (f_ring : DFact K "ring" (topS 20)) (f_star : DFact K "star" (topS 21)) (f_may_put : DFact K "may_put" (topS 24)) (f_is_fine : DFact K "is_fine" (topS 25)) (f_need_stones : DFact K "need_stones" (topS 26)) (f_free_points : DFact K "free_points" (topS 27)) (f_worth_of : DFact K "worth_of" (topS 28)) (f_worth : DFact K "worth" (topS 29)) (f_winning_points : DFact K "winning_points" (topS 30)) (f_most_stones : DFact K "most_stones" (topS 31)) (f_count_stones : DFact K "count_stones" (topS 32)) (f_fewest_full : DFact K "fewest_full" (topS 33)) (f__law_taken : DFact K "_law_taken" (topS 35)) (f_law : DFact K "law" (topS 36)) : ∀ p ∈ tab, ∃ st, DFact K p.1 st ∧ DOk tab ctab p.1 st p.2 :=
  List.forall_mem_cons.mpr ⟨⟨_, f_whole, ok_whole⟩, List.forall_mem_cons.mpr ⟨⟨_, f_within, ok_within⟩, List.forall_mem_cons.mpr ⟨⟨_, f_need_number, ok_need_number⟩, List.forall_mem_cons.mpr ⟨⟨_, f_tuple_of, ok_tuple_of⟩, List.forall_mem_cons.mpr ⟨⟨_, f_need_net, ok_need_net⟩, List.forall_mem_cons.mpr ⟨⟨_, f_is_points, ok_is_points⟩, List.forall_mem_cons.mpr ⟨⟨_, f_need_points, ok_need_points⟩, List.forall_mem_cons.mpr ⟨⟨_, f_near_of, ok_near_of⟩, List.forall_mem_cons.mpr ⟨⟨_, f_reach, ok_reach⟩, List.forall_mem_cons.mpr ⟨⟨_, f_line, ok_line⟩, List.forall_mem_cons.mpr ⟨⟨_, f_ring, ok_ring⟩, List.forall_mem_cons.mpr ⟨⟨_, f_star, ok_star⟩, List.forall_mem_cons.mpr ⟨⟨_, f_may_put, ok_may_put⟩, List.forall_mem_cons.mpr ⟨⟨_, f_is_fine, ok_is_fine⟩, List.forall_mem_cons.mpr ⟨⟨_, f_need_stones, ok_need_stones⟩, List.forall_mem_cons.mpr ⟨⟨_, f_free_points, ok_free_points⟩, List.forall_mem_cons.mpr ⟨⟨_, f_worth_of, ok_worth_of⟩, List.forall_mem_cons.mpr ⟨⟨_, f_worth, ok_worth⟩, List.forall_mem_cons.mpr ⟨⟨_, f_winning_points, ok_winning_points⟩, List.forall_mem_cons.mpr ⟨⟨_, f_most_stones, ok_most_stones⟩, List.forall_mem_cons.mpr ⟨⟨_, f_count_stones, ok_count_stones⟩, List.forall_mem_cons.mpr ⟨⟨_, f_fewest_full, ok_fewest_full⟩, List.forall_mem_cons.mpr ⟨⟨_, f__law_taken, ok__law_taken⟩, List.forall_mem_cons.mpr ⟨⟨_, f_law, ok_law⟩, (fun _ h => nomatch h)⟩⟩⟩⟩⟩⟩⟩⟩⟩⟩⟩⟩⟩⟩⟩⟩⟩⟩⟩⟩⟩⟩⟩⟩
theorem ctab_ok {K : PySem.W.Frag} {t0 : Tok} {t1 : Tok} (c0 : PySem.W.nsIn K mainGlobals "MOST_POINTS_checks" = some (some (.int 12 t0))) (c1 : PySem.W.nsIn K mainGlobals "MOST_POINTS_stones" = some (some (.int 10 t1))) : ∀ p ∈ ctab, ∃ t, PySem.W.nsIn K mainGlobals p.1 = some (some (.int p.2 t)) :=
  List.forall_mem_cons.mpr ⟨⟨_, c0⟩, List.forall_mem_cons.mpr ⟨⟨_, c1⟩, (fun _ h => nomatch h)⟩⟩
end K96

set_option Elab.async false
set_option linter.all false
set_option maxRecDepth 100000
set_option maxHeartbeats 4000000
namespace K96
open PySem DP
theorem has_k96 : LB.Has (prgOf tab ctab) := ⟨rfl, rfl, rfl, rfl, rfl, rfl, rfl, rfl, rfl, rfl, rfl, rfl, rfl, rfl, rfl, rfl, rfl, rfl, rfl, rfl, rfl, rfl, rfl, rfl, rfl⟩
theorem fx_all : ∀ n, 3 ≤ n → n ≤ 8 → LB.Fx n := fun n h1 h2 => by
  have : n = 3 ∨ n = 4 ∨ n = 5 ∨ n = 6 ∨ n = 7 ∨ n = 8 := by omega
  rcases this with rfl | rfl | rfl | rfl | rfl | rfl
  · exact LB.fx3
  · exact LB.fx4
  · exact LB.fx5
  · exact LB.fx6
  · exact LB.fx7
  · exact LB.fx8
theorem law_ok : ∀ ns : List Int, ns.length ≤ 63 → (∀ z ∈ ns, Builtin.Int.intBits z ≤ 1048576) → callW (prgOf tab ctab) (30 + 1) "law" [.rol (ns.map PV.int)] (fun _ => none) (fun v _ => v = .bl true) noX := fun ns _ _ =>
  LB.law_s (k := 12) has_k96 (d := LB.K96dlaw) rfl rfl fx_all fun _ => rfl
end K96

set_option Elab.async false
set_option linter.all false
set_option maxRecDepth 100000
set_option maxHeartbeats 4000000
open PySem PySem.W PyProof.Rows
set_option maxHeartbeats 0 in
theorem PySem.Challenge.cw_shavenets_k96_known_stones_holds : PySem.Challenge.rw_shavenets_k96_known_stones.Holds := by
  w_on; o_law; k_head; (case hw => w_witness2)
  k_fill
  refine L2.walk_ofB (l := PySem.Challenge.rw_shavenets_k96_known_stones) (n := 63) (k := 30 + 1) (x := "_law_script") (CX := fun w => L2.CX (PySem.Challenge.rw_shavenets_k96_known_stones).prog w) (sp := fun w => DP.spEnd _) rfl (by decide) rfl ⟨rfl, by decide, by decide⟩ (fun w h Y => PySem.W.kIn_of Y) ?F (fun w H a ns h1 hb ho hs => ⟨a, ns, rfl, h1, hb, ho, hs, fun _ => rfl⟩) (fun w H s e s1 hx => DP.cx_false hx)
  case F =>
    intro w mg fa h KX G hmg
    refine' DP.all_end (T := K96.tab) (CT := K96.ctab) 30 KX G hmg (K96.tab_ok ?f_whole ?f_within ?f_need_number ?f_tuple_of ?f_need_net ?f_is_points ?f_need_points ?f_near_of ?f_reach ?f_line ?f_ring ?f_star ?f_may_put ?f_is_fine ?f_need_stones ?f_free_points ?f_worth_of ?f_worth ?f_winning_points ?f_most_stones ?f_count_stones ?f_fewest_full ?f__law_taken ?f_law) (K96.ctab_ok ?c0 ?c1) (DP.blt_ok ?b0 ?b1 ?b2 ?b3 ?b4 ?b5 ?b6 ?b7 ?b8 ?b9 ?b10 ?b11 ?b12 ?b13 ?b14 ?b15 ?b16) rfl rfl K96.law_ok
    (case c0 => k_is)
    (case c1 => k_is)
    (case b0 => k_is)
    (case b1 => k_is)
    (case b2 => k_is)
    (case b3 => k_is)
    (case b4 => k_is)
    (case b5 => k_is)
    (case b6 => k_is)
    (case b7 => k_is)
    (case b8 => k_is)
    (case b9 => k_is)
    (case b10 => k_is)
    (case b11 => k_is)
    (case b12 => k_is)
    (case b13 => k_is)
    (case b14 => k_is)
    (case b15 => k_is)
    (case b16 => k_is)
    (case f_whole => refine' DP.dfact_mk ?a ?l ?c ?k; (case a => k_is); (case l => k_is); (case c => k_is); (case k => k_is))
    (case f_within => refine' DP.dfact_mk ?a ?l ?c ?k; (case a => k_is); (case l => k_is); (case c => k_is); (case k => k_is))
    (case f_need_number => refine' DP.dfact_mk ?a ?l ?c ?k; (case a => k_is); (case l => k_is); (case c => k_is); (case k => k_is))
    (case f_tuple_of => refine' DP.dfact_mk ?a ?l ?c ?k; (case a => k_is); (case l => k_is); (case c => k_is); (case k => k_is))
    (case f_need_net => refine' DP.dfact_mk ?a ?l ?c ?k; (case a => k_is); (case l => k_is); (case c => k_is); (case k => k_is))
    (case f_is_points => refine' DP.dfact_mk ?a ?l ?c ?k; (case a => k_is); (case l => k_is); (case c => k_is); (case k => k_is))
    (case f_need_points => refine' DP.dfact_mk ?a ?l ?c ?k; (case a => k_is); (case l => k_is); (case c => k_is); (case k => k_is))
    (case f_near_of => refine' DP.dfact_mk ?a ?l ?c ?k; (case a => k_is); (case l => k_is); (case c => k_is); (case k => k_is))
    (case f_reach => refine' DP.dfact_mk ?a ?l ?c ?k; (case a => k_is); (case l => k_is); (case c => k_is); (case k => k_is))
    (case f_line => refine' DP.dfact_mk ?a ?l ?c ?k; (case a => k_is); (case l => k_is); (case c => k_is); (case k => k_is))
    (case f_ring => refine' DP.dfact_mk ?a ?l ?c ?k; (case a => k_is); (case l => k_is); (case c => k_is); (case k => k_is))
    (case f_star => refine' DP.dfact_mk ?a ?l ?c ?k; (case a => k_is); (case l => k_is); (case c => k_is); (case k => k_is))
    (case f_may_put => refine' DP.dfact_mk ?a ?l ?c ?k; (case a => k_is); (case l => k_is); (case c => k_is); (case k => k_is))
    (case f_is_fine => refine' DP.dfact_mk ?a ?l ?c ?k; (case a => k_is); (case l => k_is); (case c => k_is); (case k => k_is))
    (case f_need_stones => refine' DP.dfact_mk ?a ?l ?c ?k; (case a => k_is); (case l => k_is); (case c => k_is); (case k => k_is))
    (case f_free_points => refine' DP.dfact_mk ?a ?l ?c ?k; (case a => k_is); (case l => k_is); (case c => k_is); (case k => k_is))
    (case f_worth_of => refine' DP.dfact_mk ?a ?l ?c ?k; (case a => k_is); (case l => k_is); (case c => k_is); (case k => k_is))
    (case f_worth => refine' DP.dfact_mk ?a ?l ?c ?k; (case a => k_is); (case l => k_is); (case c => k_is); (case k => k_is))
    (case f_winning_points => refine' DP.dfact_mk ?a ?l ?c ?k; (case a => k_is); (case l => k_is); (case c => k_is); (case k => k_is))
    (case f_most_stones => refine' DP.dfact_mk ?a ?l ?c ?k; (case a => k_is); (case l => k_is); (case c => k_is); (case k => k_is))
    (case f_count_stones => refine' DP.dfact_mk ?a ?l ?c ?k; (case a => k_is); (case l => k_is); (case c => k_is); (case k => k_is))
    (case f_fewest_full => refine' DP.dfact_mk ?a ?l ?c ?k; (case a => k_is); (case l => k_is); (case c => k_is); (case k => k_is))
    (case f__law_taken => refine' DP.dfact_mk ?a ?l ?c ?k; (case a => k_is); (case l => k_is); (case c => k_is); (case k => k_is))
    (case f_law => refine' DP.dfact_mk ?a ?l ?c ?k; (case a => k_is); (case l => k_is); (case c => k_is); (case k => k_is))
