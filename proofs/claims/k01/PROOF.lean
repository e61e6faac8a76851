import PyProof.Rows.All
import Wide.All
import OpenK.AllK
import Wide.FinOn
import HandS.ForMost
import HandS.Walk
import HandS.Star
import HandS.IsInst
import HandS.TupAny
import HandS.TupMul
import HandS.Zip
import HandS.Wide
import HandS.Conv
import HandS.NoneIn
import KE.DatumOrd
import PyProof.Rows.RowBridgeK
import PyProof.P3In
import PySem.Challenge.RW_noroadback_k01_whole_roots_and_words_tha
set_option Elab.async false
set_option linter.all false
set_option maxRecDepth 100000
/-! Sm: a layer of plain functions over HandS. Data D (tuples are values), own objects by number, results R. -/
namespace Sm
open PySem PySem.Spec PyProof.Rows L2

inductive D where
  | non | bl (b : Bool) | int (i : Int) | str (x : Str) | tup (l : List D) | ref (n : Nat) | ro (l : List D) | ty (n : String)
inductive O where
  | lst (l : List D) | dic (l : List (Key × D))
mutual
def D.eqb : D → D → Bool
  | .non, .non => true
  | .bl a, .bl b => a == b
  | .int a, .int b => a == b
  | .str a, .str b => decide (a = b)
  | .tup a, .tup b => D.eqbL a b
  | .ref a, .ref b => a == b
  | .ro a, .ro b => D.eqbL a b
  | .ty a, .ty b => decide (a = b)
  | _, _ => false
def D.eqbL : List D → List D → Bool
  | [], [] => true
  | a :: l, b :: k => D.eqb a b && D.eqbL l k
  | _, _ => false
end
mutual
theorem D.eqb_eq : ∀ (a b : D), D.eqb a b = true → a = b
  | .non, b, h => by cases b <;> first | rfl | (simp [D.eqb] at h)
  | .bl x, b, h => by cases b <;> simp_all [D.eqb]
  | .int x, b, h => by cases b <;> simp_all [D.eqb]
  | .str x, b, h => by cases b <;> simp_all [D.eqb]
  | .ref x, b, h => by cases b <;> simp_all [D.eqb]
  | .ty x, b, h => by cases b <;> simp_all [D.eqb]
  | .tup x, b, h => by
    cases b with
    | tup y => rw [D.eqbL_eq x y (by simpa [D.eqb] using h)]
    | _ => simp [D.eqb] at h
  | .ro x, b, h => by
    cases b with
    | ro y => rw [D.eqbL_eq x y (by simpa [D.eqb] using h)]
    | _ => simp [D.eqb] at h
theorem D.eqbL_eq : ∀ (a b : List D), D.eqbL a b = true → a = b
  | [], b, h => by cases b <;> first | rfl | (simp [D.eqbL] at h)
  | a :: l, b, h => by
    cases b with
    | nil => simp [D.eqbL] at h
    | cons c k =>
      simp only [D.eqbL, Bool.and_eq_true] at h
      rw [D.eqb_eq a c h.1, D.eqbL_eq l k h.2]
end
mutual
theorem D.eqb_refl : ∀ (a : D), D.eqb a a = true
  | .non => rfl
  | .bl x => by simp [D.eqb]
  | .int x => by simp [D.eqb]
  | .str x => by simp [D.eqb]
  | .ref x => by simp [D.eqb]
  | .ty x => by simp [D.eqb]
  | .tup x => by simp only [D.eqb]; exact D.eqbL_refl x
  | .ro x => by simp only [D.eqb]; exact D.eqbL_refl x
theorem D.eqbL_refl : ∀ (a : List D), D.eqbL a a = true
  | [] => rfl
  | a :: l => by simp only [D.eqbL, Bool.and_eq_true]; exact ⟨D.eqb_refl a, D.eqbL_refl l⟩
end
instance : DecidableEq D := fun a b => if h : D.eqb a b = true then .isTrue (D.eqb_eq a b h) else .isFalse fun e => h (e ▸ D.eqb_refl a)
def O.eqb : O → O → Bool
  | .lst a, .lst b => decide (a = b)
  | .dic a, .dic b => decide (a = b)
  | _, _ => false
instance : DecidableEq O := fun a b => if h : O.eqb a b = true then .isTrue (by cases a <;> cases b <;> simp_all [O.eqb]) else .isFalse fun e => h (by subst e; cases a <;> simp [O.eqb])
abbrev Hh := List O
abbrev Lo := List (Option D)
structure Ex where
  id : Nat
  fs : List (Str × D)
inductive R (α : Type) where
  | ok (a : α) (h : Hh) | ex (x : Ex) (h : Hh) | bad
def R.bind {α β : Type} (r : R α) (k : α → Hh → R β) : R β :=
  match r with
  | .ok a h => k a h
  | .ex x h => .ex x h
  | .bad => .bad
@[simp] theorem R.bind_ok {α β : Type} (a : α) (h : Hh) (k : α → Hh → R β) : (R.ok a h).bind k = k a h := rfl
@[simp] theorem R.bind_ex {α β : Type} (x : Ex) (h : Hh) (k : α → Hh → R β) : (R.ex x h : R α).bind k = .ex x h := rfl
@[simp] theorem R.bind_bad {α β : Type} (k : α → Hh → R β) : (R.bad : R α).bind k = .bad := rfl

/-- the surroundings: the written part, the classes of exceptions by number, what is wished of exceptions -/
structure Wd where
  K : PySem.W.Frag
  ct : Nat → Value
  E : XK

def RoL (K : PySem.W.Frag) (H : Hp) (a : Addr) (xs : List V) : Prop :=
  (∃ o, H a = some (.frz o (.lst xs))) ∨
    ∃ (o : Obj) (its : Array Value) (n : Nat), K.lookup a = some o ∧ o.cls = .type "list" ∧ o.dict = none ∧ o.data = .seq its n ∧ its.size ≤ sizeLine ∧ Vals xs its.toList
theorem RoL.sq {K : PySem.W.Frag} {H : Hp} {a : Addr} {xs : List V} (h : RoL K H a xs) : SqL K H a xs := by
  rcases h with ⟨o, h⟩ | h
  · exact .inl (.inr ⟨o, h⟩)
  · exact .inr h

mutual
inductive Rep (K : PySem.W.Frag) (m : List Addr) (H : Hp) : D → V → Prop
  | non : Rep K m H .non .non
  | bl (b : Bool) : Rep K m H (.bl b) (.bl b)
  | int (i : Int) : Rep K m H (.int i) (.int i)
  | str (x : Str) : Rep K m H (.str x) (.str x)
  | ty (x : String) : Rep K m H (.ty x) (.ty x)
  | tup {a : Addr} {xs : List V} {l : List D} : SqT K H a xs → RepL K m H l xs → Rep K m H (.tup l) (.ref a)
  | ro {a : Addr} {xs : List V} {l : List D} : RoL K H a xs → RepL K m H l xs → Rep K m H (.ro l) (.ref a)
  | ref {n : Nat} {a : Addr} : m[n]? = some a → Rep K m H (.ref n) (.ref a)
inductive RepL (K : PySem.W.Frag) (m : List Addr) (H : Hp) : List D → List V → Prop
  | nil : RepL K m H [] []
  | cons {d : D} {l : List D} {v : V} {xs : List V} : Rep K m H d v → RepL K m H l xs → RepL K m H (d :: l) (v :: xs)
end

/-- what never changes stays -/
structure Ext (H H' : Hp) : Prop where
  tup : ∀ a xs, H a = some (.tup xs) → H' a = some (.tup xs)
  frz : ∀ a o u, H a = some (.frz o u) → H' a = some (.frz o u)
theorem Ext.refl (H : Hp) : Ext H H := ⟨fun _ _ h => h, fun _ _ _ h => h⟩
theorem Ext.trans {H H1 H2 : Hp} (a : Ext H H1) (b : Ext H1 H2) : Ext H H2 := ⟨fun c x h => b.tup c x (a.tup c x h), fun c o u h => b.frz c o u (a.frz c o u h)⟩
theorem Ext.new {H : Hp} {p : Addr} {o : HO} (hp : H p = none) : Ext H (upd H p o) :=
  ⟨fun a xs h => by rw [upd_ne (ne_of_none h hp)]; exact h, fun a u x h => by rw [upd_ne (ne_of_none h hp)]; exact h⟩
theorem Ext.sqT {K : PySem.W.Frag} {H H' : Hp} (e : Ext H H') {a : Addr} {xs : List V} (h : SqT K H a xs) : SqT K H' a xs := by
  rcases h with (h | ⟨o, h⟩) | h
  · exact .inl (.inl (e.tup _ _ h))
  · exact .inl (.inr ⟨o, e.frz _ _ _ h⟩)
  · exact .inr h
theorem Ext.roL {K : PySem.W.Frag} {H H' : Hp} (e : Ext H H') {a : Addr} {xs : List V} (h : RoL K H a xs) : RoL K H' a xs := by
  rcases h with ⟨o, h⟩ | h
  · exact .inl ⟨o, e.frz _ _ _ h⟩
  · exact .inr h
theorem pre_get {α : Type} {m m' : List α} (p : m <+: m') {n : Nat} {a : α} (h : m[n]? = some a) : m'[n]? = some a := by
  obtain ⟨t, rfl⟩ := p
  have := (List.getElem?_eq_some_iff.mp h).1
  rw [List.getElem?_append_left this]
  exact h
mutual
theorem Rep.mono {K : PySem.W.Frag} {m m' : List Addr} {H H' : Hp} (p : m <+: m') (e : Ext H H') : ∀ {d : D} {v : V}, Rep K m H d v → Rep K m' H' d v
  | _, _, .non => .non
  | _, _, .bl b => .bl b
  | _, _, .int i => .int i
  | _, _, .str x => .str x
  | _, _, .ty x => .ty x
  | _, _, .tup h r => .tup (e.sqT h) (RepL.mono p e r)
  | _, _, .ro h r => .ro (e.roL h) (RepL.mono p e r)
  | _, _, .ref h => .ref (pre_get p h)
theorem RepL.mono {K : PySem.W.Frag} {m m' : List Addr} {H H' : Hp} (p : m <+: m') (e : Ext H H') : ∀ {l : List D} {xs : List V}, RepL K m H l xs → RepL K m' H' l xs
  | _, _, .nil => .nil
  | _, _, .cons a r => .cons (Rep.mono p e a) (RepL.mono p e r)
end
section
variable {K : PySem.W.Frag} {m : List Addr} {H : Hp}
theorem RepL.length : ∀ {l : List D} {xs : List V}, RepL K m H l xs → l.length = xs.length
  | _, _, .nil => rfl
  | _, _, .cons _ r => by rw [List.length_cons, List.length_cons, RepL.length r]
theorem RepL.append : ∀ {l k : List D} {xs ys : List V}, RepL K m H l xs → RepL K m H k ys → RepL K m H (l ++ k) (xs ++ ys)
  | _, _, _, _, .nil, s => s
  | _, _, _, _, .cons a r, s => .cons a (RepL.append r s)
theorem RepL.get : ∀ {l : List D} {xs : List V} {i : Nat} {d : D}, RepL K m H l xs → l[i]? = some d → ∃ v, xs[i]? = some v ∧ Rep K m H d v
  | _, _, _, _, .nil, e => by simp at e
  | _, _, 0, _, .cons a _, e => by simp at e; subst e; exact ⟨_, rfl, a⟩
  | _, _, i + 1, _, .cons _ r, e => by
    obtain ⟨v, h1, h2⟩ := RepL.get (i := i) r (by simpa using e)
    exact ⟨v, by simpa using h1, h2⟩
theorem RepL.take : ∀ {l : List D} {xs : List V} (n : Nat), RepL K m H l xs → RepL K m H (l.take n) (xs.take n)
  | _, _, 0, _ => .nil
  | _, _, _ + 1, .nil => .nil
  | _, _, n + 1, .cons a r => .cons a (RepL.take n r)
theorem RepL.drop : ∀ {l : List D} {xs : List V} (n : Nat), RepL K m H l xs → RepL K m H (l.drop n) (xs.drop n)
  | _, _, 0, r => r
  | _, _, _ + 1, .nil => .nil
  | _, _, n + 1, .cons _ r => RepL.drop n r
theorem RepL.set {d : D} {v : V} (r : Rep K m H d v) : ∀ {l : List D} {xs : List V} (i : Nat), RepL K m H l xs → RepL K m H (l.set i d) (xs.set i v)
  | _, _, _, .nil => .nil
  | _, _, 0, .cons _ t => .cons r t
  | _, _, i + 1, .cons a t => .cons a (RepL.set r i t)
theorem RepL.dropLast {l : List D} {xs : List V} (r : RepL K m H l xs) : RepL K m H l.dropLast xs.dropLast := by
  rw [List.dropLast_eq_take, List.dropLast_eq_take, ← r.length]
  exact r.take _
theorem RepL.reverse : ∀ {l : List D} {xs : List V}, RepL K m H l xs → RepL K m H l.reverse xs.reverse
  | _, _, .nil => .nil
  | _, _, .cons a r => by
    rw [List.reverse_cons, List.reverse_cons]
    exact (RepL.reverse r).append (.cons a .nil)
theorem RepL.replicate {l : List D} {xs : List V} (r : RepL K m H l xs) : ∀ n : Nat, RepL K m H (List.replicate n l).flatten (List.replicate n xs).flatten
  | 0 => .nil
  | n + 1 => by
    rw [List.replicate_succ, List.replicate_succ, List.flatten_cons, List.flatten_cons]
    exact r.append (RepL.replicate r n)
theorem RepL.nil_iff {l : List D} {xs : List V} (r : RepL K m H l xs) : l = [] ↔ xs = [] := by
  cases r <;> simp
/-- ints -/
theorem RepL.ints : ∀ (ns : List Int), RepL K m H (ns.map D.int) (ns.map V.int)
  | [] => .nil
  | n :: ns => .cons (.int n) (RepL.ints ns)
theorem RepL.toInts : ∀ {ns : List Int} {xs : List V}, RepL K m H (ns.map D.int) xs → xs = ns.map V.int
  | [], _, .nil => rfl
  | n :: ns, _, .cons a r => by
    cases a
    rw [RepL.toInts (ns := ns) r]
    rfl
theorem RepL.toBls : ∀ {ns : List Bool} {xs : List V}, RepL K m H (ns.map D.bl) xs → xs = ns.map V.bl
  | [], _, .nil => rfl
  | n :: ns, _, .cons a r => by
    cases a
    rw [RepL.toBls (ns := ns) r]
    rfl
end

inductive KRep (K : PySem.W.Frag) (m : List Addr) (H : Hp) : List (Key × D) → List (Key × V) → Prop
  | nil : KRep K m H [] []
  | cons {k : Key} {d : D} {l : List (Key × D)} {v : V} {xs : List (Key × V)} : Rep K m H d v → KRep K m H l xs → KRep K m H ((k, d) :: l) ((k, v) :: xs)
theorem KRep.mono {K : PySem.W.Frag} {m m' : List Addr} {H H' : Hp} (p : m <+: m') (e : Ext H H') : ∀ {l : List (Key × D)} {xs : List (Key × V)}, KRep K m H l xs → KRep K m' H' l xs
  | _, _, .nil => .nil
  | _, _, .cons a r => .cons (a.mono p e) (KRep.mono p e r)

def ORep (K : PySem.W.Frag) (m : List Addr) (H : Hp) : O → Addr → Prop
  | .lst l, a => ∃ xs, H a = some (.lst xs) ∧ RepL K m H l xs
  | .dic l, a => ∃ xs, H a = some (.dK xs) ∧ KRep K m H l xs
theorem ORep.ofL {K : PySem.W.Frag} {m : List Addr} {H : Hp} {l : List D} {xs : List V} {a : Addr} (h : H a = some (.lst xs)) (r : RepL K m H l xs) : ORep K m H (.lst l) a := ⟨xs, h, r⟩
theorem ORep.some {K : PySem.W.Frag} {m : List Addr} {H : Hp} {o : O} {a : Addr} (r : ORep K m H o a) : ∃ u, H a = some u ∧ (∀ xs, u ≠ .tup xs) ∧ ∀ o x, u ≠ .frz o x := by
  cases o with
  | lst l => obtain ⟨xs, h, _⟩ := r; exact ⟨_, h, (fun _ q => by cases q), (fun _ _ q => by cases q)⟩
  | dic l => obtain ⟨xs, h, _⟩ := r; exact ⟨_, h, (fun _ q => by cases q), (fun _ _ q => by cases q)⟩
/-- the object at a is as it was -/
theorem ORep.stay {K : PySem.W.Frag} {m m' : List Addr} {H H' : Hp} {o : O} {a : Addr} (r : ORep K m H o a) (p : m <+: m') (e : Ext H H') (ha : H' a = H a) : ORep K m' H' o a := by
  cases o with
  | lst l => obtain ⟨xs, h, q⟩ := r; exact ⟨xs, ha.trans h, q.mono p e⟩
  | dic l => obtain ⟨xs, h, q⟩ := r; exact ⟨xs, ha.trans h, q.mono p e⟩

structure HRel (K : PySem.W.Frag) (m : List Addr) (h : Hh) (H : Hp) : Prop where
  len : m.length = h.length
  nd : m.Nodup
  obj : ∀ (n : Nat) (a : Addr) (o : O), m[n]? = some a → h[n]? = some o → ORep K m H o a
section
variable {K : PySem.W.Frag} {m : List Addr} {h : Hh} {H : Hp}
theorem HRel.notin (x : HRel K m h H) {p : Addr} (hp : H p = none) : p ∉ m := fun q => by
  obtain ⟨n, hn, e⟩ := List.getElem_of_mem q
  obtain ⟨u, hu, _⟩ := (x.obj n p (h[n]'(by rw [← x.len]; exact hn)) (by rw [List.getElem?_eq_getElem hn, e]) (List.getElem?_eq_getElem _)).some
  rw [hp] at hu; cases hu
theorem HRel.get (x : HRel K m h H) {n : Nat} {a : Addr} (ha : m[n]? = some a) : ∃ o, h[n]? = some o ∧ ORep K m H o a := by
  have hn : n < m.length := (List.getElem?_eq_some_iff.mp ha).1
  have hn2 : n < h.length := by rw [← x.len]; exact hn
  exact ⟨h[n], List.getElem?_eq_getElem hn2, x.obj n a _ ha (List.getElem?_eq_getElem hn2)⟩
/-- an untracked thing is laid -/
theorem HRel.laid (x : HRel K m h H) {p : Addr} {u : HO} (hp : H p = none) : HRel K m h (upd H p u) :=
  ⟨x.len, x.nd, fun n a o ha ho => (x.obj n a o ha ho).stay (List.prefix_refl _) (Ext.new hp) (upd_ne fun e => x.notin hp (e ▸ List.mem_of_getElem? ha))⟩
/-- an own object is laid -/
theorem HRel.alloc (x : HRel K m h H) {p : Addr} {u : HO} {o : O} (hp : H p = none) (r : ORep K (m ++ [p]) (upd H p u) o p) : HRel K (m ++ [p]) (h ++ [o]) (upd H p u) := by
  refine ⟨by rw [List.length_append, List.length_append, x.len]; rfl, ?_, fun n a o' ha ho => ?_⟩
  · rw [List.nodup_append]
    refine ⟨x.nd, by simp, fun a ha b hb => ?_⟩
    rw [List.mem_singleton] at hb
    subst hb
    exact fun e => x.notin hp (e ▸ ha)
  · by_cases hn : n < m.length
    · rw [List.getElem?_append_left hn] at ha
      rw [List.getElem?_append_left (by rw [← x.len]; exact hn)] at ho
      exact (x.obj n a o' ha ho).stay (List.prefix_append _ _) (Ext.new hp) (upd_ne fun e => x.notin hp (e ▸ List.mem_of_getElem? ha))
    · have hl : n = m.length := by
        have := (List.getElem?_eq_some_iff.mp ha).1
        rw [List.length_append, List.length_singleton] at this
        omega
      subst hl
      rw [List.getElem?_append_right (Nat.le_refl _), Nat.sub_self] at ha
      rw [x.len, List.getElem?_append_right (Nat.le_refl _), Nat.sub_self] at ho
      cases ha; cases ho
      exact r
theorem alloc_get (m : List Addr) (p : Addr) (h : m.length = n) : (m ++ [p])[n]? = some p := by
  subst h
  rw [List.getElem?_append_right (Nat.le_refl _), Nat.sub_self]
  rfl
theorem HRel.ext_at (x : HRel K m h H) {n : Nat} {a : Addr} {u : HO} (ha : m[n]? = some a) : Ext H (upd H a u) := by
  obtain ⟨o, ho, r⟩ := x.get ha
  obtain ⟨w, hw, h1, h2⟩ := r.some
  refine ⟨fun b xs q => ?_, fun b o' y q => ?_⟩
  · rw [upd_ne (ne_of q hw (fun e => h1 xs e.symm))]; exact q
  · rw [upd_ne (ne_of q hw (fun e => h2 o' y e.symm))]; exact q
/-- an own object is changed -/
theorem HRel.write (x : HRel K m h H) {n : Nat} {a : Addr} {u : HO} {o : O} (ha : m[n]? = some a) (r : ORep K m (upd H a u) o a) : HRel K m (h.set n o) (upd H a u) := by
  have e := x.ext_at (u := u) ha
  refine ⟨by rw [List.length_set]; exact x.len, x.nd, fun k b o' hb ho => ?_⟩
  by_cases hk : k = n
  · subst hk
    rw [ha] at hb; cases hb
    rw [List.getElem?_set_self (by rw [← x.len]; exact (List.getElem?_eq_some_iff.mp ha).1)] at ho
    cases ho
    exact r
  · rw [List.getElem?_set_ne (Ne.symm hk)] at ho
    refine (x.obj k b o' hb ho).stay (List.prefix_refl _) e (upd_ne fun q => hk ?_)
    subst q
    exact (List.getElem?_inj (List.getElem?_eq_some_iff.mp hb).1 x.nd).mp (hb.trans ha.symm)
theorem HRel.lst (x : HRel K m h H) {n : Nat} {l : List D} {v : V} (r : Rep K m H (.ref n) v) (ho : h[n]? = some (.lst l)) : ∃ a xs, v = .ref a ∧ m[n]? = some a ∧ H a = some (.lst xs) ∧ RepL K m H l xs := by
  cases r with
  | ref ha =>
    obtain ⟨xs, h1, h2⟩ := x.obj _ _ _ ha ho
    exact ⟨_, xs, rfl, ha, h1, h2⟩
end

/-- the slots -/
structure LRel (K : PySem.W.Frag) (m : List Addr) (H : Hp) (l : Lo) (σ : L2.St) : Prop where
  len : l.length = σ.length
  at_ : ∀ (i : Nat) (d : D), l[i]? = some (some d) → ∃ v, σ[i]? = some (some v) ∧ Rep K m H d v
section
variable {K : PySem.W.Frag} {m m' : List Addr} {H H' : Hp} {l : Lo} {σ : L2.St}
theorem LRel.mono (x : LRel K m H l σ) (p : m <+: m') (e : Ext H H') : LRel K m' H' l σ :=
  ⟨x.len, fun i d q => let ⟨v, h1, h2⟩ := x.at_ i d q; ⟨v, h1, h2.mono p e⟩⟩
theorem LRel.set (x : LRel K m H l σ) {d : D} {v : V} (i : Nat) (r : Rep K m H d v) : LRel K m H (l.set i (some d)) (σ.set i (some v)) := by
  refine ⟨by rw [List.length_set, List.length_set]; exact x.len, fun j d' q => ?_⟩
  by_cases hj : i = j
  · subst hj
    have hl : i < l.length := by
      have := (List.getElem?_eq_some_iff.mp q).1
      rwa [List.length_set] at this
    rw [List.getElem?_set_self hl] at q
    cases q
    exact ⟨v, List.getElem?_set_self (by rw [← x.len]; exact hl), r⟩
  · rw [List.getElem?_set_ne hj] at q
    rw [List.getElem?_set_ne hj]
    exact x.at_ j d' q
theorem LRel.wipe1 (x : LRel K m H l σ) (i : Nat) : LRel K m H (l.set i none) (σ.set i none) := by
  refine ⟨by rw [List.length_set, List.length_set]; exact x.len, fun j d' q => ?_⟩
  by_cases hj : i = j
  · subst hj
    have hl : i < l.length := by
      have := (List.getElem?_eq_some_iff.mp q).1
      rwa [List.length_set] at this
    rw [List.getElem?_set_self hl] at q
    cases q
  · rw [List.getElem?_set_ne hj] at q
    rw [List.getElem?_set_ne hj]
    exact x.at_ j d' q
end

/-! ### results -/
def XRel (W : Wd) (m : List Addr) (H : Hp) (x : Ex) (c : Value) (d : Option Addr) : Prop :=
  c = W.ct x.id ∧ (x.fs = [] ∨ ∃ dd us, d = some dd ∧ H dd = some (.xd us) ∧ us.map (·.1) = x.fs.map (·.1) ∧ RepL W.K m H (x.fs.map (·.2)) (us.map (·.2)))
def okR {α : Type} (W : Wd) (m : List Addr) (H : Hp) (P : α → Hh → List Addr → Hp → Prop) : R α → Prop
  | .ok a h' => ∀ H' m', m <+: m' → Ext H H' → HRel W.K m' h' H' → P a h' m' H'
  | .ex x h' => ∀ H' m' c d, m <+: m' → Ext H H' → HRel W.K m' h' H' → XRel W m' H' x c d → W.E c d H'
  | .bad => False
section
variable {α β : Type} {W : Wd} {m m' : List Addr} {H H' : Hp}
theorem okR.imp {P P' : α → Hh → List Addr → Hp → Prop} {r : R α} (q : okR W m H P r)
    (k : ∀ a h' m' H', m <+: m' → Ext H H' → HRel W.K m' h' H' → P a h' m' H' → P' a h' m' H') : okR W m H P' r := by
  cases r with
  | ok a h' => exact fun H' m' p e x => k a h' m' H' p e x (q H' m' p e x)
  | ex x h' => exact q
  | bad => exact q
theorem okR.up {P : α → Hh → List Addr → Hp → Prop} {r : R α} (q : okR W m H P r) (p : m <+: m') (e : Ext H H') : okR W m' H' P r := by
  cases r with
  | ok a h' => exact fun H2 m2 p2 e2 x => q H2 m2 (p.trans p2) (e.trans e2) x
  | ex x h' => exact fun H2 m2 c d p2 e2 y z => q H2 m2 c d (p.trans p2) (e.trans e2) y z
  | bad => exact q
theorem okR.bind {P : β → Hh → List Addr → Hp → Prop} {r : R α} {k : α → Hh → R β} (q : okR W m H P (r.bind k)) : okR W m H (fun a h' m' H' => okR W m' H' P (k a h')) r := by
  cases r with
  | ok a h' => exact fun H' m' p e x => okR.up q p e
  | ex x h' => exact q
  | bad => exact q
theorem okR.here {P : α → Hh → List Addr → Hp → Prop} {a : α} {h : Hh} (q : okR W m H P (.ok a h)) (x : HRel W.K m h H) : P a h m H := q H m (List.prefix_refl _) (Ext.refl _) x
end

/-! ### readings -/
abbrev FE := Lo → Hh → R D
abbrev FT := Lo → Hh → R Bool
abbrev FA := Lo → Hh → R (List D)
inductive Fl where
  | nx | bk | ct | rt (d : D)
abbrev FS := Lo → Hh → R (Fl × Lo)
abbrev FF := List D → Hh → R D

section
variable (W : Wd)
/-- values at the end -/
def pV (Q : VK) : D → Hh → List Addr → Hp → Prop := fun d _ m H => ∀ v, Rep W.K m H d v → Q v H
def rdE (f : FE) : TE := fun σ H Q => ∃ m l h, LRel W.K m H l σ ∧ HRel W.K m h H ∧ okR W m H (pV W Q) (f l h)
def rdT (f : FT) : TT := fun σ H Q => ∃ m l h, LRel W.K m H l σ ∧ HRel W.K m h H ∧ okR W m H (fun b _ _ H' => Q b H') (f l h)
def rdA (f : FA) : TA := fun σ H Q => ∃ m l h, LRel W.K m H l σ ∧ HRel W.K m h H ∧ okR W m H (fun ds _ m' H' => ∀ vs, RepL W.K m' H' ds vs → Q vs H') (f l h)
def pS (De : Ends) : Fl × Lo → Hh → List Addr → Hp → Prop := fun r _ m H => match r.1 with
  | .nx => ∀ σ, LRel W.K m H r.2 σ → De.nx σ H
  | .bk => ∀ σ, LRel W.K m H r.2 σ → De.bk σ H
  | .ct => ∀ σ, LRel W.K m H r.2 σ → De.ct σ H
  | .rt d => ∀ v, Rep W.K m H d v → De.rt v H
def rdS (f : FS) : TS := fun De σ H => ∃ m l h, LRel W.K m H l σ ∧ HRel W.K m h H ∧ okR W m H (pS W De) (f l h)
/-- by values -/
def rd1 (o : D → Hh → R D) : V → Hp → VK → Prop := fun x H Q => ∃ m h d, HRel W.K m h H ∧ Rep W.K m H d x ∧ okR W m H (pV W Q) (o d h)
def rd2 (o : D → D → Hh → R D) : R2 := fun x y H Q => ∃ m h d e, HRel W.K m h H ∧ Rep W.K m H d x ∧ Rep W.K m H e y ∧ okR W m H (pV W Q) (o d e h)
def rdN (o : List D → Hh → R D) : List V → Hp → VK → Prop := fun xs H Q => ∃ m h ds, HRel W.K m h H ∧ RepL W.K m H ds xs ∧ okR W m H (pV W Q) (o ds h)
def rdM (o : D → List D → Hh → R D) : V → List V → Hp → VK → Prop := fun x xs H Q => ∃ m h d ds, HRel W.K m h H ∧ Rep W.K m H d x ∧ RepL W.K m H ds xs ∧ okR W m H (pV W Q) (o d ds h)
/-- a def's promise -/
def spF (n : Nat) (F : FF) : List V → Hp → VK → XK → Prop := fun xs H Q _ => ∃ m h ds, ds.length = n ∧ HRel W.K m h H ∧ RepL W.K m H ds xs ∧ okR W m H (pV W Q) (F ds h)
end
theorem PE.weak {X : Cx} {e : Expr} {t t' : TE} (h : PE X e t) (k : ∀ σ H Q, t' σ H Q → t σ H Q) : PE X e t' := ⟨fun pins s σ H Q I q => h.run pins s σ H Q I (k σ H Q q)⟩
theorem PT.weak {X : Cx} {e : Expr} {t t' : TT} (h : PT X e t) (k : ∀ σ H Q, t' σ H Q → t σ H Q) : PT X e t' := ⟨fun pins s σ H Q I q => h.run pins s σ H Q I (k σ H Q q)⟩
theorem PW.weak {X : Cx} {e : Expr} {t t' : TT} (h : PW X e t) (k : ∀ σ H Q, t' σ H Q → t σ H Q) : PW X e t' := ⟨fun wh pins s σ H Q I q => h.run wh pins s σ H Q I (k σ H Q q)⟩
theorem PA.weak {X : Cx} {e : List Expr} {t t' : TA} (h : PA X e t) (k : ∀ σ H Q, t' σ H Q → t σ H Q) : PA X e t' := ⟨fun pos pins s σ H Q I q => h.run pos pins s σ H Q I (k σ H Q q)⟩
theorem PS.weak {X : Cx} {e : Stmt} {t t' : TS} (h : PS X e t) (k : ∀ De σ H, t' De σ H → t De σ H) : PS X e t' := ⟨fun pins s σ H De I q => h.run pins s σ H De I (k De σ H q)⟩
theorem PSs.weak {X : Cx} {e : List Stmt} {t t' : TS} (h : PSs X e t) (k : ∀ De σ H, t' De σ H → t De σ H) : PSs X e t' := ⟨fun pins s σ H De I q => h.run pins s σ H De I (k De σ H q)⟩
theorem OpR.weak {X : Cx} {f : Value → Value → Sem Value} {r r' : R2} (h : OpR X f r) (k : ∀ x y H Q, r' x y H Q → r x y H Q) : OpR X f r' := fun pins s σ H x y v u Q I rx ry q => h pins s σ H x y v u Q I rx ry (k _ _ _ _ q)
theorem CallR.weak {X : Cx} {f : Value} {r r' : List V → Hp → VK → Prop} (h : CallR X f r) (k : ∀ x H Q, r' x H Q → r x H Q) : CallR X f r' := fun pins s σ H xs us Q I rx q => h pins s σ H xs us Q I rx (k _ _ _ q)

/-! ### expressions -/
def sz : Nat := 16777216
theorem sz_line {n : Nat} (h : n ≤ sz) : n ≤ sizeLine := by rw [sizeLine_eq]; exact h
theorem sz_lt {n : Nat} (h : n < sz) : n < sizeLine := by rw [sizeLine_eq]; exact h
def eVar (i : Nat) : FE := fun l h => match l[i]? with
  | some (some d) => .ok d h
  | _ => .bad
def eC (d : D) : FE := fun _ h => .ok d h
def eUn (o : D → Hh → R D) (f : FE) : FE := fun l h => (f l h).bind o
def eBin (o : D → D → Hh → R D) (f g : FE) : FE := fun l h => (f l h).bind fun x h1 => (g l h1).bind fun y h2 => o x y h2
def aNil : FA := fun _ h => .ok [] h
def aCons (f : FE) (g : FA) : FA := fun l h => (f l h).bind fun x h1 => (g l h1).bind fun xs h2 => .ok (x :: xs) h2
def itemsOf (d : D) (h : Hh) : R (List D) := match d with
  | .tup l => .ok l h
  | .ro l => .ok l h
  | .ref n => match h[n]? with
    | some (.lst l) => .ok l h
    | _ => .bad
  | _ => .bad
def aStar (f : FE) (g : FA) : FA := fun l h => (f l h).bind fun x h1 => (itemsOf x h1).bind fun ys h1 => (g l h1).bind fun xs h2 => .ok (ys ++ xs) h2
def eTup (a : FA) : FE := fun l h => (a l h).bind fun xs h1 => if xs.length ≤ sz then .ok (.tup xs) h1 else .bad
def eLst (a : FA) : FE := fun l h => (a l h).bind fun xs h1 => if xs.length ≤ sz then .ok (.ref h1.length) (h1 ++ [.lst xs]) else .bad
def eCall (o : FF) (a : FA) : FE := fun l h => (a l h).bind o
def eMeth (o : D → List D → Hh → R D) (f : FE) (a : FA) : FE := fun l h => (f l h).bind fun x h1 => (a l h1).bind fun xs h2 => o x xs h2
def asB (d : D) (h : Hh) : R Bool := match d with
  | .bl b => .ok b h
  | _ => .bad
def tB (f : FE) : FT := fun l h => (f l h).bind asB
def tNot (f : FT) : FT := fun l h => (f l h).bind fun b h1 => .ok (!b) h1
def tAnd (f g : FT) : FT := fun l h => (f l h).bind fun b h1 => if b = true then g l h1 else .ok false h1
def tOr (f g : FT) : FT := fun l h => (f l h).bind fun b h1 => if b = true then .ok true h1 else g l h1
def eIf (c : FT) (f g : FE) : FE := fun l h => (c l h).bind fun b h1 => if b = true then f l h1 else g l h1
def eNot (f : FE) : FE := fun l h => (f l h).bind fun d h1 => (asB d h1).bind fun b h2 => .ok (.bl (!b)) h2
def eAnd (f g : FE) : FE := fun l h => (f l h).bind fun d h1 => (asB d h1).bind fun b h2 => if b = true then g l h2 else .ok (.bl false) h2
def eOr (f g : FE) : FE := fun l h => (f l h).bind fun d h1 => (asB d h1).bind fun b h2 => if b = true then .ok (.bl true) h2 else g l h2
def eChain (o o' : D → D → Hh → R D) (f g k : FE) : FE := fun l h => (f l h).bind fun x h1 => (g l h1).bind fun y h2 => (o x y h2).bind fun z h3 => (asB z h3).bind fun b h4 => if b = true then (k l h4).bind fun w h5 => o' y w h5 else .ok (.bl false) h4

section
variable {W : Wd} {X : Cx}
theorem okR.val {m : List Addr} {h : Hh} {H : Hp} {Q : VK} {d : D} {v : V} (q : okR W m H (pV W Q) (.ok d h)) (x : HRel W.K m h H) (r : Rep W.K m H d v) : Q v H := q.here x v r
theorem okR.asB {m : List Addr} {h : Hh} {H : Hp} {d : D} {v : V} {P : Bool → Hh → List Addr → Hp → Prop} (q : okR W m H P (Sm.asB d h)) (x : HRel W.K m h H) (r : Rep W.K m H d v) : ∃ b, d = .bl b ∧ v = .bl b ∧ P b h m H := by
  cases r with
  | bl b => exact ⟨b, rfl, rfl, q.here x⟩
  | _ => exact q.elim
theorem se_var (i : Nat) {x : Str} {pos : Pos} (hN : X.N[i]? = some x := by rfl) (hv : Vis X.env.scope x := by first | exact Or.inl rfl | exact Or.inr (Or.inl rfl) | exact Or.inr (Or.inr rfl)) (hd : (x == ("__debug__" : Str)) = false := by decide)
    (hcd : (x == ("__classdict__" : Str)) = false := by decide) : PE X (.Name x pos) (rdE W (eVar i)) := by
  refine PE.weak (pe_var hN hv hd hcd) fun σ H Q ⟨m, l, h, hl, hh, q⟩ => ?_
  unfold eVar at q
  split at q
  · rename_i d e
    obtain ⟨v, h1, h2⟩ := hl.at_ i d e
    exact ⟨v, h1, q.val hh h2⟩
  · exact q.elim
theorem se_const {e : Expr} {v : V} {d : D} (h : PE X e (tC v)) (r : ∀ (K : PySem.W.Frag) (m : List Addr) (H : Hp), Rep K m H d v) : PE X e (rdE W (eC d)) :=
  PE.weak h fun σ H Q ⟨m, l, h, hl, hh, q⟩ => q.val hh (r _ m H)
theorem se_int {i j pos} : PE X (.Constant (.int i) j pos) (rdE W (eC (.int i))) := se_const pe_int fun _ _ _ => .int i
theorem se_bl {i j pos} : PE X (.Constant (.bool i) j pos) (rdE W (eC (.bl i))) := se_const pe_bl fun _ _ _ => .bl i
theorem se_non {j pos} : PE X (.Constant .none j pos) (rdE W (eC .non)) := se_const pe_non fun _ _ _ => .non
theorem se_str {x j pos} : PE X (.Constant (.str x) j pos) (rdE W (eC (.str x))) := se_const pe_str fun _ _ _ => .str x
theorem se_un {op : UnaryOp} {o : D → Hh → R D} {f : FE} {a : Expr} {pos : Pos} (ho : UnR X (unaryOp op) (rd1 W o)) (ha : PE X a (rdE W f)) : PE X (.UnaryOp op a pos) (rdE W (eUn o f)) :=
  PE.weak (pe_un ho ha) fun σ H Q ⟨m, l, h, hl, hh, q⟩ => ⟨m, l, h, hl, hh, q.bind.imp fun d h1 m1 H1 p e x q v r => ⟨m1, h1, d, x, r, q⟩⟩
/-- two in a row -/
theorem two {f g : FE} {σ : L2.St} {H : Hp} {α : Type} {P : α → Hh → List Addr → Hp → Prop} {o : D → D → Hh → R α} {m : List Addr} {l : Lo} {h : Hh} (hl : LRel W.K m H l σ) (hh : HRel W.K m h H) (q : okR W m H P ((f l h).bind fun x h1 => (g l h1).bind fun y h2 => o x y h2))
    {Q : V → V → Hp → Prop} (k : ∀ m h H x y d e, LRel W.K m H l σ → HRel W.K m h H → Rep W.K m H d x → Rep W.K m H e y → okR W m H P (o d e h) → Q x y H) : rdE W f σ H fun x H1 => rdE W g σ H1 fun y H2 => Q x y H2 :=
  ⟨m, l, h, hl, hh, q.bind.imp fun d h1 m1 H1 p e x q v r => ⟨m1, l, h1, hl.mono p e, x, q.bind.imp fun d2 h2 m2 H2 p2 e2 x2 q2 v2 r2 =>
    k m2 h2 H2 v v2 d d2 ((hl.mono p e).mono p2 e2) x2 (r.mono p2 e2) r2 q2⟩⟩
theorem se_bin {op : Operator} {o : D → D → Hh → R D} {f g : FE} {a b : Expr} {pos : Pos} (ho : OpR X (binaryOp op) (rd2 W o)) (ha : PE X a (rdE W f)) (hb : PE X b (rdE W g)) : PE X (.BinOp a op b pos) (rdE W (eBin o f g)) :=
  PE.weak (pe_op ho ha hb) fun σ H Q ⟨m, l, h, hl, hh, q⟩ => two hl hh q fun m h H x y d e _ hh rx ry q => ⟨m, h, d, e, hh, rx, ry, q⟩
theorem se_cmp {op : CmpOp} {o : D → D → Hh → R D} {f g : FE} {a b : Expr} {pos : Pos} (ho : OpR X (compareOp op) (rd2 W o)) (ha : PE X a (rdE W f)) (hb : PE X b (rdE W g)) (hm : behindInMarks op b = false) : PE X (.Compare a [op] [b] pos) (rdE W (eBin o f g)) :=
  PE.weak (pe_cmpR ho ha hb hm) fun σ H Q ⟨m, l, h, hl, hh, q⟩ => two hl hh q fun m h H x y d e _ hh rx ry q => ⟨m, h, d, e, hh, rx, ry, q⟩
theorem se_chain {op op' : CmpOp} {o o' : D → D → Hh → R D} {f g k : FE} {a b c : Expr} {pos : Pos} (ho : OpR X (compareOp op) (rd2 W o)) (ho' : OpR X (compareOp op') (rd2 W o')) (ha : PE X a (rdE W f)) (hb : PE X b (rdE W g)) (hc : PE X c (rdE W k)) (hm : lastMarks [op, op'] [b, c] = false) : PE X (.Compare a [op, op'] [b, c] pos) (rdE W (eChain o o' f g k)) := by
  refine PE.weak (pe_chain ho ho' ha hb hc hm) fun σ H Q ⟨m, l, h, hl, hh, q⟩ => two hl hh q fun m h H x y d e hl hh rx ry q => ?_
  refine ⟨m, h, d, e, hh, rx, ry, q.bind.imp fun z h3 m3 H3 p3 e3 x3 q3 v3 r3 => ?_⟩
  obtain ⟨b, e1, e2, q4⟩ := (q3.bind).asB x3 r3
  refine ⟨b, e2, ?_⟩
  cases b with
  | true =>
    simp only [if_true] at q4 ⊢
    exact ⟨m3, l, h3, hl.mono p3 e3, x3, q4.bind.imp fun w h5 m5 H5 p5 e5 x5 q5 v5 r5 => ⟨m5, h5, e, w, x5, (ry.mono p3 e3).mono p5 e5, r5, q5⟩⟩
  | false =>
    simp only [Bool.false_eq_true, if_false] at q4 ⊢
    exact q4.val x3 (.bl false)
theorem sa_nil : PA X [] (rdA W aNil) := PA.weak pa_nil fun σ H Q ⟨m, l, h, hl, hh, q⟩ => q.here hh [] .nil
theorem sa_cons {e : Expr} {es : List Expr} {f : FE} {g : FA} (ha : PE X e (rdE W f)) (hr : PA X es (rdA W g)) (hs : starEach (e :: es) X.env = (false, eval e X.env) :: starEach es X.env := by rfl) : PA X (e :: es) (rdA W (aCons f g)) :=
  PA.weak (pa_cons ha hr hs) fun σ H Q ⟨m, l, h, hl, hh, q⟩ => ⟨m, l, h, hl, hh, q.bind.imp fun d h1 m1 H1 p e x q v r =>
    ⟨m1, l, h1, hl.mono p e, x, q.bind.imp fun ds h2 m2 H2 p2 e2 x2 q2 vs rs => q2.here x2 (v :: vs) (.cons (r.mono p2 e2) rs)⟩⟩
theorem okR.items {m : List Addr} {h : Hh} {H : Hp} {d : D} {v : V} {P : List D → Hh → List Addr → Hp → Prop} (q : okR W m H P (itemsOf d h)) (x : HRel W.K m h H) (r : Rep W.K m H d v) :
    ∃ a xs l, v = .ref a ∧ (SqT W.K H a xs ∨ SqL W.K H a xs) ∧ RepL W.K m H l xs ∧ P l h m H := by
  cases r with
  | tup hq rl => exact ⟨_, _, _, rfl, .inl hq, rl, q.here x⟩
  | ro hq rl => exact ⟨_, _, _, rfl, .inr hq.sq, rl, q.here x⟩
  | @ref n a hn =>
    unfold itemsOf at q
    simp only at q
    split at q
    · rename_i l e
      obtain ⟨a', xs, e1, _, e3, rl⟩ := x.lst (.ref hn) e
      exact ⟨a', xs, l, e1, .inr (SqL.of e3), rl, q.here x⟩
    · exact q.elim
  | _ => exact q.elim
theorem sa_star {e : Expr} {es : List Expr} {p : Pos} {f : FE} {g : FA} (hK : X.K = W.K) (ha : PE X e (rdE W f)) (hr : PA X es (rdA W g)) (hs : starEach (.Starred e p :: es) X.env = (true, eval e X.env) :: starEach es X.env := by rfl) : PA X (.Starred e p :: es) (rdA W (aStar f g)) := by
  refine PA.weak (StX.pa_star ha hr hs) fun σ H Q ⟨m, l, h, hl, hh, q⟩ => ⟨m, l, h, hl, hh, q.bind.imp fun d h1 m1 H1 p e x q v r => ?_⟩
  obtain ⟨a, xs, k, e1, hq, rl, q2⟩ := (q.bind).items x r
  rw [hK]
  exact ⟨a, xs, e1, hq, m1, l, h1, hl.mono p e, x, q2.bind.imp fun ds h2 m2 H2 p2 e2 x2 q2 vs rs => q2.here x2 (xs ++ vs) ((rl.mono p2 e2).append rs)⟩
theorem se_tup {es : List Expr} {x1} {pos : Pos} {a : FA} (h : PA X es (rdA W a)) : PE X (.Tuple es x1 pos) (rdE W (eTup a)) := by
  refine PE.weak (pe_tup h) fun σ H Q ⟨m, l, h, hl, hh, q⟩ => ⟨m, l, h, hl, hh, q.bind.imp fun ds h1 m1 H1 p e x q vs r => ?_⟩
  split at q
  · rename_i hz
    refine ⟨by rw [← r.length]; exact sz_line hz, fun t ht => ?_⟩
    exact q _ m1 (List.prefix_refl _) (Ext.new ht) (x.laid ht) _ (.tup (SqT.of upd_same) (r.mono (List.prefix_refl _) (Ext.new ht)))
  · exact q.elim
theorem se_lst {es : List Expr} {pos : Pos} {a : FA} (h : PA X es (rdA W a)) : PE X (.List es pos) (rdE W (eLst a)) := by
  refine PE.weak (pe_lst h) fun σ H Q ⟨m, l, h, hl, hh, q⟩ => ⟨m, l, h, hl, hh, q.bind.imp fun ds h1 m1 H1 p e x q vs r => ?_⟩
  split at q
  · rename_i hz
    refine ⟨by rw [← r.length]; exact sz_line hz, fun t ht => ?_⟩
    have pre := List.prefix_append m1 [t]
    have ex : Ext H1 (upd H1 t (.lst vs)) := Ext.new ht
    exact q _ (m1 ++ [t]) pre ex (x.alloc ht ⟨vs, upd_same, r.mono pre ex⟩) _ (.ref (alloc_get m1 t x.len))
  · exact q.elim
/-- an and of tests, tests of values -/
theorem st_val {e : Expr} {f : FE} (h : PE X e (rdE W f)) (hp : ∀ t : TE, PE X e t → PT X e (tTest t)) : PT X e (rdT W (tB f)) := by
  refine PT.weak (hp _ h) fun σ H Q ⟨m, l, h, hl, hh, q⟩ => ⟨m, l, h, hl, hh, q.bind.imp fun d h1 m1 H1 p e x q v r => ?_⟩
  obtain ⟨b, e1, e2, q2⟩ := q.asB x r
  exact ⟨b, e2, q2⟩
end
end Sm
namespace Sm
open PySem PySem.Spec PyProof.Rows L2
variable {W : Wd} {X : Cx}
/-! ### tests -/
theorem st_v {e : Expr} {f : FE} (h : PE X e (rdE W f)) (he : ∀ whole, isTrue e X.env whole = (do let v ← whole; standAt e.pos; holding [v] (truthy v)) := by intro _; rfl) : PT X e (rdT W (tB f)) := by
  refine PT.weak (pt_val h he) fun σ H Q ⟨m, l, h, hl, hh, q⟩ => ⟨m, l, h, hl, hh, q.bind.imp fun d h1 m1 H1 p e x q v r => ?_⟩
  obtain ⟨b, e1, e2, q2⟩ := q.asB x r
  exact ⟨b, e2, q2⟩
theorem st_cmp {op : CmpOp} {o : D → D → Hh → R D} {f g : FE} {a b : Expr} {pos : Pos} (ho : OpR X (compareOp op) (rd2 W o)) (ha : PE X a (rdE W f)) (hb : PE X b (rdE W g)) (hm : behindInMarks op b = false) : PT X (.Compare a [op] [b] pos) (rdT W (tB (eBin o f g))) := by
  refine PT.weak (pt_cmpR ho ha hb hm) fun σ H Q ⟨m, l, h, hl, hh, q⟩ => ?_
  refine ⟨m, l, h, hl, hh, q.bind.bind.imp fun d h1 m1 H1 p e x q v r => ⟨m1, l, h1, hl.mono p e, x, ?_⟩⟩
  refine q.bind.imp fun d2 h2 m2 H2 p2 e2 x2 q2 v2 r2 => ⟨m2, h2, d, d2, x2, r.mono p2 e2, r2, q2.imp fun d3 h3 m3 H3 p3 e3 x3 q3 v3 r3 => ?_⟩
  obtain ⟨b, e1, e2, q4⟩ := q3.asB x3 r3
  exact ⟨b, e2, q4⟩
theorem st_chain {op op' : CmpOp} {o o' : D → D → Hh → R D} {f g k : FE} {a b c : Expr} {pos : Pos} (ho : OpR X (compareOp op) (rd2 W o)) (ho' : OpR X (compareOp op') (rd2 W o')) (ha : PE X a (rdE W f)) (hb : PE X b (rdE W g)) (hc : PE X c (rdE W k)) (hm : lastMarks [op, op'] [b, c] = false) :
    PT X (.Compare a [op, op'] [b, c] pos) (rdT W (tB (eChain o o' f g k))) := by
  refine PT.weak (pt_chain ho ho' ha hb hc hm) fun σ H Q ⟨m, l, h, hl, hh, q⟩ => ?_
  refine ⟨m, l, h, hl, hh, q.bind.bind.imp fun x h1 m1 H1 p1 e1 x1 q1 v1 r1 => ⟨m1, l, h1, hl.mono p1 e1, x1, ?_⟩⟩
  refine q1.bind.imp fun y h2 m2 H2 p2 e2 x2 q2 v2 r2 => ⟨m2, h2, x, y, x2, r1.mono p2 e2, r2, ?_⟩
  refine q2.bind.imp fun z h3 m3 H3 p3 e3 x3 q3 v3 r3 => ?_
  obtain ⟨b, eb, ev, q4⟩ := (q3.bind).asB x3 r3
  refine ⟨b, ev, ?_⟩
  cases b with
  | true =>
    simp only [if_true] at q4 ⊢
    refine ⟨m3, l, h3, ((hl.mono p1 e1).mono p2 e2).mono p3 e3, x3, ?_⟩
    refine q4.bind.imp fun w h5 m5 H5 p5 e5 x5 q5 v5 r5 => ⟨m5, h5, y, w, x5, (r2.mono p3 e3).mono p5 e5, r5, q5.imp fun d6 h6 m6 H6 p6 e6 x6 q6 v6 r6 => ?_⟩
    obtain ⟨b, e1, e2, q7⟩ := q6.asB x6 r6
    exact ⟨b, e2, q7⟩
  | false =>
    simp only [Bool.false_eq_true, if_false] at q4 ⊢
    obtain ⟨b, e1, _, q5⟩ := (q4.here x3).asB x3 (.bl false)
    cases e1
    exact ⟨false, rfl, q5⟩
theorem st_not {a : Expr} {pos : Pos} {f : FT} (ha : PT X a (rdT W f)) : PT X (.UnaryOp .Not a pos) (rdT W (tNot f)) :=
  PT.weak (pt_not ha) fun σ H Q ⟨m, l, h, hl, hh, q⟩ => ⟨m, l, h, hl, hh, q.bind.imp fun b h1 m1 H1 p e x q => q.here x⟩
theorem sw_and1 {a : Expr} {pos : Pos} {f : FT} (ha : PT X a (rdT W f)) : PW X (.BoolOp .And [a] pos) (rdT W f) := pw_and1 ha
theorem sw_or1 {a : Expr} {pos : Pos} {f : FT} (ha : PT X a (rdT W f)) : PW X (.BoolOp .Or [a] pos) (rdT W f) := pw_or1 ha
theorem sw_and {a b : Expr} {rest : List Expr} {pos : Pos} {f g : FT} (ha : PT X a (rdT W f)) (hb : PW X (.BoolOp .And (b :: rest) pos) (rdT W g)) : PW X (.BoolOp .And (a :: b :: rest) pos) (rdT W (tAnd f g)) := by
  refine PW.weak (pw_and ha hb) fun σ H Q ⟨m, l, h, hl, hh, q⟩ => ⟨m, l, h, hl, hh, q.bind.imp fun b h1 m1 H1 p e x q => ?_⟩
  cases b with
  | true => simp only [if_true] at q ⊢; exact ⟨m1, l, h1, hl.mono p e, x, q⟩
  | false => simp only [Bool.false_eq_true, if_false] at q ⊢; exact q.here x
theorem sw_or {a b : Expr} {rest : List Expr} {pos : Pos} {f g : FT} (ha : PT X a (rdT W f)) (hb : PW X (.BoolOp .Or (b :: rest) pos) (rdT W g)) : PW X (.BoolOp .Or (a :: b :: rest) pos) (rdT W (tOr f g)) := by
  refine PW.weak (pw_or ha hb) fun σ H Q ⟨m, l, h, hl, hh, q⟩ => ⟨m, l, h, hl, hh, q.bind.imp fun b h1 m1 H1 p e x q => ?_⟩
  cases b with
  | false => simp only [Bool.false_eq_true, if_false] at q ⊢; exact ⟨m1, l, h1, hl.mono p e, x, q⟩
  | true => simp only [if_true] at q ⊢; exact q.here x
theorem se_ifExp {c a b : Expr} {pos : Pos} {k : FT} {f g : FE} (hc : PT X c (rdT W k)) (ha : PE X a (rdE W f)) (hb : PE X b (rdE W g)) : PE X (.IfExp c a b pos) (rdE W (eIf k f g)) := by
  refine PE.weak (pe_ifExp hc ha hb) fun σ H Q ⟨m, l, h, hl, hh, q⟩ => ⟨m, l, h, hl, hh, q.bind.imp fun b h1 m1 H1 p e x q => ?_⟩
  cases b with
  | true => simp only [if_true] at q ⊢; exact ⟨m1, l, h1, hl.mono p e, x, q⟩
  | false => simp only [Bool.false_eq_true, if_false] at q ⊢; exact ⟨m1, l, h1, hl.mono p e, x, q⟩
theorem se_one {op} {a : Expr} {pos : Pos} {f : FE} (h : PE X a (rdE W f)) : PE X (.BoolOp op [a] pos) (rdE W f) := pe_one h
theorem se_and {a b : Expr} {rest : List Expr} {pos : Pos} {f g : FE} (ha : PE X a (rdE W f)) (hb : PE X (.BoolOp .And (b :: rest) pos) (rdE W g)) : PE X (.BoolOp .And (a :: b :: rest) pos) (rdE W (eAnd f g)) := by
  refine PE.weak (pe_and ha hb) fun σ H Q ⟨m, l, h, hl, hh, q⟩ => ⟨m, l, h, hl, hh, q.bind.imp fun d h1 m1 H1 p e x q v r => ?_⟩
  obtain ⟨b, e1, e2, q2⟩ := q.bind.asB x r
  refine ⟨b, e2, ?_⟩
  cases b with
  | true => simp only [if_true] at q2 ⊢; exact ⟨m1, l, h1, hl.mono p e, x, q2⟩
  | false => simp only [Bool.false_eq_true, if_false] at q2 ⊢; exact q2.val x (.bl _)
theorem se_or {a b : Expr} {rest : List Expr} {pos : Pos} {f g : FE} (ha : PE X a (rdE W f)) (hb : PE X (.BoolOp .Or (b :: rest) pos) (rdE W g)) : PE X (.BoolOp .Or (a :: b :: rest) pos) (rdE W (eOr f g)) := by
  refine PE.weak (pe_or ha hb) fun σ H Q ⟨m, l, h, hl, hh, q⟩ => ⟨m, l, h, hl, hh, q.bind.imp fun d h1 m1 H1 p e x q v r => ?_⟩
  obtain ⟨b, e1, e2, q2⟩ := q.bind.asB x r
  refine ⟨b, e2, ?_⟩
  cases b with
  | false => simp only [Bool.false_eq_true, if_false] at q2 ⊢; exact ⟨m1, l, h1, hl.mono p e, x, q2⟩
  | true => simp only [if_true] at q2 ⊢; exact q2.val x (.bl _)
theorem se_not {a : Expr} {pos : Pos} {f : FE} (ha : PE X a (rdE W f)) : PE X (.UnaryOp .Not a pos) (rdE W (eNot f)) := by
  refine PE.weak (pe_not ha) fun σ H Q ⟨m, l, h, hl, hh, q⟩ => ⟨m, l, h, hl, hh, q.bind.imp fun d h1 m1 H1 p e x q v r => ?_⟩
  obtain ⟨b, e1, e2, q2⟩ := q.bind.asB x r
  exact ⟨b, e2, q2.val x (.bl _)⟩

/-! ### calls -/
theorem se_callB {o : FF} {a : FA} {id : String} {x : Str} {p pos : Pos} {e : Expr} {es : List Expr} (hc : CallR X (.builtin id) (rdN W o)) (hg : Gl X x) (hm : X.mg x = none) (hv : bootBuiltins x = some (.builtin id)) (ha : PA X (e :: es) (rdA W a))
    (hn : x ≠ "__name__" := by decide) (hdb : (x == ("__debug__" : Str)) = false := by decide) (he : starEach (e :: es) X.env = (false, eval e X.env) :: starEach es X.env := by rfl) (hpl : (backTo pos (starEach es X.env)).any (·.1) = false := by rfl) :
    PE X (.Call (.Name x p) (e :: es) [] pos) (rdE W (eCall o a)) :=
  PE.weak (pe_callB hc hg hm hv ha hn hdb he hpl) fun σ H Q ⟨m, l, h, hl, hh, q⟩ => ⟨m, l, h, hl, hh, q.bind.imp fun ds h1 m1 H1 p e x q vs r => ⟨m1, h1, ds, x, r, q⟩⟩
theorem se_callTy {o : FF} {a : FA} {id : String} {x : Str} {p pos : Pos} {e : Expr} {es : List Expr} (hc : CallR X (.type id) (rdN W o)) (hg : Gl X x) (hm : X.mg x = none) (hv : bootBuiltins x = some (.type id)) (ha : PA X (e :: es) (rdA W a))
    (hn : x ≠ "__name__" := by decide) (hdb : (x == ("__debug__" : Str)) = false := by decide) (he : starEach (e :: es) X.env = (false, eval e X.env) :: starEach es X.env := by rfl) (hpl : (backTo pos (starEach es X.env)).any (·.1) = false := by rfl) :
    PE X (.Call (.Name x p) (e :: es) [] pos) (rdE W (eCall o a)) :=
  PE.weak (pe_callTy hc hg hm hv ha hn hdb he hpl) fun σ H Q ⟨m, l, h, hl, hh, q⟩ => ⟨m, l, h, hl, hh, q.bind.imp fun ds h1 m1 H1 p e x q vs r => ⟨m1, h1, ds, x, r, q⟩⟩
/-- a def of the text -/
theorem se_call {CX : CXT} {k n : Nat} {f : Addr} {fd : FuncData} {ps : List Str} {o : FF} {a : FA} {x : Str} {p pos : Pos} {e : Expr} {es : List Expr} (F : FnOk X.prog X.w X.K X.mg X.base CX k f fd ps (spF W n o)) (hr : Room k X.A) (hg : Gl X x) (hm : X.mg x = some (.ref f))
    (hk : PySem.W.keepIn X.K (.ref f) = true) (hb : Binds X.K fd ps []) (hx : Passes CX X W.E) (ha : PA X (e :: es) (rdA W a)) (hn : ∀ l h ds h', a l h = .ok ds h' → ds.length = n) (hdb : (x == ("__debug__" : Str)) = false := by decide)
    (he : starEach (e :: es) X.env = (false, eval e X.env) :: starEach es X.env := by rfl) (hpl : (backTo pos (starEach es X.env)).any (·.1) = false := by rfl) : PE X (.Call (.Name x p) (e :: es) [] pos) (rdE W (eCall o a)) := by
  refine PE.weak (pe_call F hr hg hm hk hb .nil hx ha hdb he hpl) fun σ H Q ⟨m, l, h, hl, hh, q⟩ => ⟨m, l, h, hl, hh, ?_⟩
  unfold eCall at q
  cases ea : a l h with
  | ok ds h1 =>
    rw [ea] at q
    intro H1 m1 p e x vs r
    refine ⟨m1, h1, ds, hn _ _ _ _ ea, x, ?_, okR.up q p e⟩
    rw [List.append_nil]
    exact r
  | ex z h1 => rw [ea] at q; exact q
  | bad => rw [ea] at q; exact q
theorem se_call0 {CX : CXT} {k : Nat} {f : Addr} {fd : FuncData} {ps : List Str} {o : FF} {x : Str} {p pos : Pos} (F : FnOk X.prog X.w X.K X.mg X.base CX k f fd ps (spF W 0 o)) (hr : Room k X.A) (hg : Gl X x) (hm : X.mg x = some (.ref f))
    (hk : PySem.W.keepIn X.K (.ref f) = true) (hb : Binds X.K fd ps []) (hx : Passes CX X W.E) (hdb : (x == ("__debug__" : Str)) = false := by decide) : PE X (.Call (.Name x p) [] [] pos) (rdE W (eCall o aNil)) :=
  PE.weak (pe_call0 F hr hg hm hk hb .nil hx hdb) fun σ H Q ⟨m, l, h, hl, hh, q⟩ => ⟨m, h, [], rfl, hh, .nil, q⟩
theorem len_aNil : ∀ l h ds h', aNil l h = .ok ds h' → ds.length = 0 := by
  intro l h ds h' e
  cases e
  rfl
theorem len_aCons {f : FE} {g : FA} {n : Nat} (hg : ∀ l h ds h', g l h = .ok ds h' → ds.length = n) : ∀ l h ds h', aCons f g l h = .ok ds h' → ds.length = n + 1 := by
  intro l h ds h' e
  unfold aCons at e
  cases e1 : f l h with
  | ok d h1 =>
    rw [e1] at e
    simp only [R.bind_ok] at e
    cases e2 : g l h1 with
    | ok xs h2 =>
      rw [e2] at e
      simp only [R.bind_ok, R.ok.injEq] at e
      obtain ⟨rfl, _⟩ := e
      rw [List.length_cons, hg _ _ _ _ e2]
    | ex x h2 => rw [e2] at e; cases e
    | bad => rw [e2] at e; cases e
  | ex x h2 => rw [e1] at e; cases e
  | bad => rw [e1] at e; cases e

/-! ### methods of built-in types -/
def eBM (c : D → Hh → Bool) (o : D → List D → Hh → R D) (f : FE) (a : FA) : FE := fun l h => (f l h).bind fun x h1 => if c x h1 = true then (a l h1).bind fun xs h2 => o x xs h2 else .bad
def isLst (d : D) (h : Hh) : Bool := match d with
  | .ref n => match h[n]? with
    | some (.lst _) => true
    | _ => false
  | .ro _ => true
  | _ => false
def isDic (d : D) (h : Hh) : Bool := match d with
  | .ref n => match h[n]? with
    | some (.dic _) => true
    | _ => false
  | _ => false
def TyC (K : PySem.W.Frag) (T : String) (c : D → Hh → Bool) : Prop := ∀ m h H d x, HRel K m h H → Rep K m H d x → c d h = true → tyV K T x H
theorem tyc_lst {K : PySem.W.Frag} : TyC K "list" isLst := by
  intro m h H d x hh r e
  unfold isLst at e
  split at e
  · split at e
    · rename_i l e2
      obtain ⟨a, xs, rfl, _, h1, _⟩ := hh.lst r e2
      exact Or.inl ⟨rfl, xs, SqL.of h1⟩
    · cases e
  · cases r with
    | ro hq rl => exact Or.inl ⟨rfl, _, hq.sq⟩
  · cases e
theorem se_bm {T id : String} {name : Str} {c : D → Hh → Bool} {o : D → List D → Hh → R D} {f : FE} {a : FA} {ob e : Expr} {es : List Expr} {apos cpos : Pos} (pa : PlainAttrs T) (slot : Slot T name id) (hty : typeOf (.builtin id) = pure (.type "method_descriptor")) (hc : TyC X.K T c)
    (hK : X.K = W.K) (hm : MtR X id (rdM W o)) (ho : PE X ob (rdE W f)) (ha : PA X (e :: es) (rdA W a))
    (hbase : attributeBase ob name X.env (eval ob X.env) = eval ob X.env := by rfl)
    (hfew : ((backTo cpos (starEach (e :: es) X.env)).all (fun x => !x.1) && (backToKw cpos (keywordEach [] X.env)).all (fun x => x.1.isSome)
      && decide ((e :: es).length + ([] : List Keyword).length + (if ([] : List Keyword).isEmpty then 0 else 1) < 30)) = true := by rfl)
    (hline : (apos.endLine == cpos.line) = true := by rfl) (hs : starEach (e :: es) X.env = (false, eval e X.env) :: starEach es X.env := by rfl) (hplain : (backTo cpos (starEach es X.env)).any (·.1) = false := by rfl) :
    PE X (.Call (.Attribute ob name apos) (e :: es) [] cpos) (rdE W (eBM c o f a)) := by
  refine PE.weak (pe_bm pa slot hty hm ho ha hbase hfew hline hs hplain) fun σ H Q ⟨m, l, h, hl, hh, q⟩ => ⟨m, l, h, hl, hh, q.bind.imp fun d h1 m1 H1 p e x q v r => ?_⟩
  split at q
  · rename_i ht
    exact ⟨hc m1 h1 H1 d v (hK ▸ x) (hK ▸ r) ht, m1, l, h1, hl.mono p e, x, q.bind.imp fun ds h2 m2 H2 p2 e2 x2 q2 vs rs => ⟨m2, h2, d, ds, x2, r.mono p2 e2, rs, q2⟩⟩
  · exact q.elim
theorem se_bm0 {T id : String} {name : Str} {c : D → Hh → Bool} {o : D → List D → Hh → R D} {f : FE} {ob : Expr} {apos cpos : Pos} (pa : PlainAttrs T) (slot : Slot T name id) (hty : typeOf (.builtin id) = pure (.type "method_descriptor")) (hc : TyC X.K T c)
    (hK : X.K = W.K) (hm : MtR X id (rdM W o)) (ho : PE X ob (rdE W f))
    (hbase : attributeBase ob name X.env (eval ob X.env) = eval ob X.env := by rfl) (hline : (apos.endLine == cpos.line) = true := by rfl) : PE X (.Call (.Attribute ob name apos) [] [] cpos) (rdE W (eBM c o f aNil)) := by
  refine PE.weak (pe_bm0 pa slot hty hm ho hbase hline) fun σ H Q ⟨m, l, h, hl, hh, q⟩ => ⟨m, l, h, hl, hh, q.bind.imp fun d h1 m1 H1 p e x q v r => ?_⟩
  split at q
  · rename_i ht
    exact ⟨hc m1 h1 H1 d v (hK ▸ x) (hK ▸ r) ht, m1, h1, d, [], x, r, .nil, q⟩
  · exact q.elim

/-! ### subscripts and slices -/
theorem se_ix {o : D → D → Hh → R D} {f g : FE} {a b : Expr} {pos : Pos} (hr : IxR X (rd2 W o)) (ha : PE X a (rdE W f)) (hb : PE X b (rdE W g)) (hs : PlainIx b) : PE X (.Subscript a b pos) (rdE W (eBin o f g)) :=
  PE.weak (pe_ix hr ha hb hs) fun σ H Q ⟨m, l, h, hl, hh, q⟩ => two hl hh q fun m h H x y d e _ hh rx ry q => ⟨m, h, d, e, hh, rx, ry, q⟩
abbrev FP := Lo → Hh → R (Option Int)
def pNo : FP := fun _ h => .ok none h
def asI (d : D) (h : Hh) : R Int := match d with
  | .int i => .ok i h
  | _ => .bad
def pAt (f : FE) : FP := fun l h => (f l h).bind fun d h1 => (asI d h1).bind fun i h2 => .ok (some i) h2
theorem okR.asI {m : List Addr} {h : Hh} {H : Hp} {d : D} {v : V} {P : Int → Hh → List Addr → Hp → Prop} (q : okR W m H P (Sm.asI d h)) (x : HRel W.K m h H) (r : Rep W.K m H d v) : ∃ b, d = .int b ∧ v = .int b ∧ P b h m H := by
  cases r with
  | int b => exact ⟨b, rfl, rfl, q.here x⟩
  | _ => exact q.elim
def rdP (W : Wd) (f : FP) : TO := fun σ H Q => ∃ m l h, LRel W.K m H l σ ∧ HRel W.K m h H ∧ okR W m H (fun b _ _ H' => Q b H') (f l h)
theorem PO.weak {X : Cx} {e : Option Expr} {t t' : TO} (h : PO X e t) (k : ∀ σ H Q, t' σ H Q → t σ H Q) : PO X e t' := ⟨fun pins s σ H Q I q => h.run pins s σ H Q I (k σ H Q q)⟩
theorem sp_no : PO X none (rdP W pNo) := PO.weak po_none fun σ H Q ⟨m, l, h, hl, hh, q⟩ => q.here hh
theorem sp_at {e : Expr} {f : FE} (h : PE X e (rdE W f)) : PO X (some e) (rdP W (pAt f)) := by
  refine PO.weak (po_some h) fun σ H Q ⟨m, l, h, hl, hh, q⟩ => ⟨m, l, h, hl, hh, q.bind.imp fun d h1 m1 H1 p e x q v r => ?_⟩
  obtain ⟨i, _, e2, q2⟩ := q.bind.asI x r
  exact ⟨i, e2, q2.here x⟩
/-- a slice by values -/
def rdSl (W : Wd) (o : D → Option Int → Option Int → Hh → R D) : V → Option Int → Option Int → Hp → VK → Prop := fun x lo hi H Q => ∃ m h d, HRel W.K m h H ∧ Rep W.K m H d x ∧ okR W m H (pV W Q) (o d lo hi h)
def eSl (o : D → Option Int → Option Int → Hh → R D) (f : FE) (a b : FP) : FE := fun l h => (f l h).bind fun x h1 => (a l h1).bind fun lo h2 => (b l h2).bind fun hi h3 => o x lo hi h3
theorem se_slice {o : D → Option Int → Option Int → Hh → R D} {f : FE} {a b : FP} {e : Expr} {lo hi : Option Expr} {pos p2 : Pos} (hr : SlR X (rdSl W o)) (he : PE X e (rdE W f)) (hl : PO X lo (rdP W a)) (hu : PO X hi (rdP W b)) : PE X (.Subscript e (.Slice lo hi none p2) pos) (rdE W (eSl o f a b)) :=
  PE.weak (pe_slice hr he hl hu) fun σ H Q ⟨m, l, h, hl, hh, q⟩ => ⟨m, l, h, hl, hh, q.bind.imp fun d h1 m1 H1 p e x q v r =>
    ⟨m1, l, h1, hl.mono p e, x, q.bind.imp fun lo h2 m2 H2 p2 e2 x2 q2 => ⟨m2, l, h2, (hl.mono p e).mono p2 e2, x2, q2.bind.imp fun hi h3 m3 H3 p3 e3 x3 q3 => ⟨m3, h3, d, x3, (r.mono p2 e2).mono p3 e3, q3⟩⟩⟩⟩

/-! ### what is walked -/
structure Src where
  items : List D
  good : Hh → Bool
abbrev FI := Lo → Hh → R Src
def srcOf (d : D) (h : Hh) : R Src := match d with
  | .tup xs => .ok ⟨xs, fun _ => true⟩ h
  | .ro xs => .ok ⟨xs, fun _ => true⟩ h
  | .ref n => match h[n]? with
    | some (.lst xs) => .ok ⟨xs, fun h => decide (h[n]? = some (.lst xs))⟩ h
    | _ => .bad
  | _ => .bad
def iSeq (f : FE) : FI := fun l h => (f l h).bind srcOf
def Walks (W : Wd) (m0 : List Addr) (H0 : Hp) (s : Src) (J : It) : Prop :=
  Walk J s.items.length (fun H => ∃ m h, m0 <+: m ∧ Ext H0 H ∧ HRel W.K m h H ∧ s.good h = true)
    (fun i H x H' => ∀ m h, m0 <+: m → Ext H0 H → HRel W.K m h H → s.good h = true → ∃ d, s.items[i]? = some d ∧ Ext H H' ∧ HRel W.K m h H' ∧ Rep W.K m H' d x)
def pI (W : Wd) (Q : It → Hp → Prop) : Src → Hh → List Addr → Hp → Prop := fun s _ m H => ∀ J, Walks W m H s J → Q J H
def rdI (W : Wd) (it : FI) : TI := fun σ H Q => ∃ m l h, LRel W.K m H l σ ∧ HRel W.K m h H ∧ okR W m H (pI W Q) (it l h)
theorem PI.weak {tg e : Expr} {t t' : TI} (h : PI X tg e t) (k : ∀ σ H Q, t' σ H Q → t σ H Q) : PI X tg e t' := ⟨fun pins s σ H Q I q => h.run pins s σ H Q I (k σ H Q q)⟩
/-- a list or a tuple -/
theorem pi_either {tg l : Expr} {tl : TE} (hl : PE X l tl) : PI X tg l (fun σ H R => tl σ H fun x H1 => ∃ a, x = .ref a ∧ ((∃ xs, SqL X.K H1 a xs ∧ R (Itl X.K a) H1) ∨ ∃ xs, SqT X.K H1 a xs ∧ R (Itt X.K a) H1)) := by
  refine ⟨fun pins s σ H R I h => thn (hl.run pins s σ H _ I h) fun v s1 ⟨x, H1, I1, r1, a, e, q1⟩ => ?_⟩
  subst e
  cases r1
  have fr : ∀ b ∈ [s1.heap.objs.size], FpOk X pins H1 b := fun b hb => by
    rw [List.mem_singleton.mp hb]
    exact I1.fpOk (Nat.le_refl _) (I1.hok.fresh (Nat.le_refl _))
  rcases q1 with ⟨xs, hq, q⟩ | ⟨xs, hq, q⟩
  · obtain ⟨its, _, p, _⟩ := I1.list hq
    exact wpAny_pyIter_list p.isList ⟨_, _, _, _, H1, rfl, I1.kept (t' := s1.toks) fun b o e => Heap.get?_push_of_some _ e, turn_list a _, ⟨_, Heap.get?_push_size _ rfl, rfl, rfl⟩, fr, q⟩
  · obtain ⟨its, _, p, _⟩ := I1.tuple hq
    exact wpAny_pyIter_tuple (show s1.heap.IsTuple a its.toArray from p) ⟨_, _, _, _, H1, rfl, I1.kept (t' := s1.toks) fun b o e => Heap.get?_push_of_some _ e, turn_tuple a _, ⟨_, Heap.get?_push_size _ rfl, rfl, rfl⟩, fr, q⟩
theorem walks_tup {m0 : List Addr} {H0 : Hp} {a : Addr} {xs : List V} {l : List D} (hq : SqT W.K H0 a xs) (rl : RepL W.K m0 H0 l xs) : Walks W m0 H0 ⟨l, fun _ => true⟩ (Itt W.K a) := by
  unfold Walks
  simp only
  rw [rl.length]
  refine walk_tup.mono (fun H ⟨m, h, p, e, _⟩ => e.sqT hq) fun i H x H' hi ⟨m', h', p', e', _⟩ ⟨hH, hx⟩ m h p e hh _ => ?_
  subst hH
  obtain ⟨d, hd⟩ : ∃ d, l[i]? = some d := ⟨l[i]'(by rw [rl.length]; exact hi), List.getElem?_eq_getElem _⟩
  obtain ⟨v, hv, r⟩ := rl.get hd
  rw [hx] at hv
  cases hv
  exact ⟨d, hd, Ext.refl _, hh, r.mono p e⟩
theorem walks_ro {m0 : List Addr} {H0 : Hp} {a : Addr} {xs : List V} {l : List D} (hq : RoL W.K H0 a xs) (rl : RepL W.K m0 H0 l xs) : Walks W m0 H0 ⟨l, fun _ => true⟩ (Itl W.K a) := by
  unfold Walks
  simp only
  rw [rl.length]
  refine walk_list.mono (fun H ⟨m, h, p, e, _⟩ => (e.roL hq).sq) fun i H x H' hi ⟨m', h', p', e', _⟩ ⟨hH, hx⟩ m h p e hh _ => ?_
  subst hH
  obtain ⟨d, hd⟩ : ∃ d, l[i]? = some d := ⟨l[i]'(by rw [rl.length]; exact hi), List.getElem?_eq_getElem _⟩
  obtain ⟨v, hv, r⟩ := rl.get hd
  rw [hx] at hv
  cases hv
  exact ⟨d, hd, Ext.refl _, hh, r.mono p e⟩
theorem walks_lst {m0 : List Addr} {H0 : Hp} {a : Addr} {n : Nat} {l : List D} (ha : m0[n]? = some a) : Walks W m0 H0 ⟨l, fun h => decide (h[n]? = some (.lst l))⟩ (Itl W.K a) := by
  have key : ∀ {m h H}, m0 <+: m → HRel W.K m h H → decide (h[n]? = some (O.lst l)) = true → ∃ xs, H a = some (.lst xs) ∧ RepL W.K m H l xs := fun {m h H} p hh g => hh.obj n a _ (pre_get p ha) (of_decide_eq_true g)
  refine ⟨fun i H hi ⟨m, h, p, e, hh, g⟩ => ?_, fun H ⟨m, h, p, e, hh, g⟩ => ?_, fun i H x H' hi ⟨m', h', p', e', hh', g'⟩ ⟨hH, hx⟩ m h p e hh g => ?_⟩
  · obtain ⟨xs, h1, rl⟩ := key p hh g
    have hi' : i < xs.length := by rw [← rl.length]; exact hi
    exact ⟨xs, xs[i], SqL.of h1, List.getElem?_eq_getElem hi'⟩
  · obtain ⟨xs, h1, rl⟩ := key p hh g
    exact ⟨xs, SqL.of h1, by rw [← rl.length]; exact Nat.le_refl _⟩
  · subst hH
    obtain ⟨xs, h1, rl⟩ := key p hh g
    obtain ⟨d, hd⟩ : ∃ d, l[i]? = some d := ⟨l[i]'hi, List.getElem?_eq_getElem _⟩
    obtain ⟨v, hv, r⟩ := rl.get hd
    rw [hx xs (SqL.of h1)] at hv
    cases hv
    exact ⟨d, hd, Ext.refl _, hh, r⟩
theorem si_seq {tg e : Expr} {f : FE} (hK : X.K = W.K) (he : PE X e (rdE W f)) : PI X tg e (rdI W (iSeq f)) := by
  refine PI.weak (pi_either he) fun σ H Q ⟨m, l, h, hl, hh, q⟩ => ⟨m, l, h, hl, hh, q.bind.imp fun d h1 m1 H1 p e x q v r => ?_⟩
  rw [hK]
  cases r with
  | tup hq rl => exact ⟨_, rfl, .inr ⟨_, hq, q.here x _ (walks_tup hq rl)⟩⟩
  | ro hq rl => exact ⟨_, rfl, .inl ⟨_, hq.sq, q.here x _ (walks_ro hq rl)⟩⟩
  | @ref n a hn =>
    unfold srcOf at q
    simp only at q
    split at q
    · rename_i k e
      obtain ⟨xs, h2, rl⟩ := x.obj n a _ hn e
      exact ⟨a, rfl, .inl ⟨xs, SqL.of h2, q.here x _ (walks_lst hn)⟩⟩
    · exact q.elim
  | _ => exact q.elim
/-- ranges -/
def rngL (lo : Int) (n : Nat) : List D := (List.range n).map fun i => .int (lo + (i : Nat))
def inR (i : Int) : Bool := decide (i.natAbs ≤ 4000000000000000000)
def rng1 (ds : List D) (h : Hh) : R Src := match ds with
  | [.int j] => if inR j = true then .ok ⟨rngL 0 j.toNat, fun _ => true⟩ h else .bad
  | _ => .bad
def rng2 (ds : List D) (h : Hh) : R Src := match ds with
  | [.int i, .int j] => if inR i = true ∧ inR j = true then .ok ⟨rngL i (j - i).toNat, fun _ => true⟩ h else .bad
  | _ => .bad
def iRange1 (a : FA) : FI := fun l h => (a l h).bind rng1
def iRange2 (a : FA) : FI := fun l h => (a l h).bind rng2
theorem walks_range {m0 : List Addr} {H0 : Hp} {lo : Int} {n : Nat} : Walks W m0 H0 ⟨rngL lo n, fun _ => true⟩ (Itr lo n) := by
  have hl : (rngL lo n).length = n := by unfold rngL; rw [List.length_map, List.length_range]
  unfold Walks
  simp only
  rw [hl]
  refine walk_range.mono (fun _ _ => trivial) fun i H x H' hi _ ⟨hH, hx⟩ m h p e hh _ => ?_
  subst hH hx
  refine ⟨.int (lo + (i : Nat)), ?_, Ext.refl _, hh, .int _⟩
  unfold rngL
  rw [List.getElem?_map, List.getElem?_range hi]
  rfl
theorem inR_iff {i : Int} (h : inR i = true) : -(2 ^ 62) ≤ i ∧ i < 2 ^ 62 := by
  have h := of_decide_eq_true h
  exact ⟨by omega, by omega⟩
theorem si_range1 {tg a : Expr} {ta : FA} {p pos : Pos} (hg : Gl X "range") (hm : X.mg "range" = none) (ha : PA X [a] (rdA W ta)) (hs : starEach [a] X.env = [(false, eval a X.env)] := by rfl) : PI X tg (.Call (.Name "range" p) [a] [] pos) (rdI W (iRange1 ta)) := by
  refine PI.weak (pi_range1 hg hm ha hs) fun σ H Q ⟨m, l, h, hl, hh, q⟩ => ⟨m, l, h, hl, hh, q.bind.imp fun ds h1 m1 H1 p e x q vs r => ?_⟩
  unfold rng1 at q
  split at q
  · rename_i j
    split at q
    · rename_i hj
      cases r with
      | cons a b =>
        cases a
        cases b
        obtain ⟨h1, h2⟩ := inR_iff hj
        exact ⟨j, rfl, h1, h2, q.here x _ walks_range⟩
    · exact q.elim
  · exact q.elim
theorem si_range2 {tg a b : Expr} {ta : FA} {p pos : Pos} (hg : Gl X "range") (hm : X.mg "range" = none) (ha : PA X [a, b] (rdA W ta)) (hs : starEach [a, b] X.env = [(false, eval a X.env), (false, eval b X.env)] := by rfl) (hs2 : starEach [b] X.env = [(false, eval b X.env)] := by rfl) :
    PI X tg (.Call (.Name "range" p) [a, b] [] pos) (rdI W (iRange2 ta)) := by
  refine PI.weak (pi_range2 hg hm ha hs hs2) fun σ H Q ⟨m, l, h, hl, hh, q⟩ => ⟨m, l, h, hl, hh, q.bind.imp fun ds h1 m1 H1 p e x q vs r => ?_⟩
  unfold rng2 at q
  split at q
  · rename_i i j
    split at q
    · rename_i hj
      cases r with
      | cons a b =>
        cases a
        cases b with
        | cons a b =>
          cases a
          cases b
          obtain ⟨h1, h2⟩ := inR_iff hj.1
          obtain ⟨h3, h4⟩ := inR_iff hj.2
          exact ⟨i, j, rfl, ⟨h1, h2, h3, h4⟩, q.here x _ walks_range⟩
    · exact q.elim
  · exact q.elim

/-! ### targets -/
def Off (ws : List Nat) (σ σ' : L2.St) : Prop := σ'.length = σ.length ∧ ∀ i, i ∉ ws → σ'[i]? = σ[i]?
theorem Off.refl (ws : List Nat) (σ : L2.St) : Off ws σ σ := ⟨rfl, fun _ _ => rfl⟩
theorem Off.trans {ws us : List Nat} {σ τ υ : L2.St} (a : Off ws σ τ) (b : Off us τ υ) : Off (ws ++ us) σ υ :=
  ⟨b.1.trans a.1, fun i hi => (b.2 i fun h => hi (List.mem_append_right _ h)).trans (a.2 i fun h => hi (List.mem_append_left _ h))⟩
abbrev FG := D → Lo → Hh → R Lo
abbrev FGs := List D → Lo → Hh → R Lo
def pG (W : Wd) (ws : List Nat) (σ : L2.St) (Q : L2.St → Hp → Prop) : Lo → Hh → List Addr → Hp → Prop := fun l _ m H => ∀ σ', LRel W.K m H l σ' → Off ws σ σ' → Q σ' H
def rdG (W : Wd) (ws : List Nat) (g : FG) : TG := fun v σ H Q => ∃ m l h d, LRel W.K m H l σ ∧ HRel W.K m h H ∧ Rep W.K m H d v ∧ okR W m H (pG W ws σ Q) (g d l h)
def rdGs (W : Wd) (ws : List Nat) (g : FGs) : TGs := fun vs σ H Q => ∃ m l h ds, LRel W.K m H l σ ∧ HRel W.K m h H ∧ RepL W.K m H ds vs ∧ okR W m H (pG W ws σ Q) (g ds l h)
theorem PG.weak {tg : Expr} {t t' : TG} (h : PG X tg t) (k : ∀ v σ H Q, t' v σ H Q → t v σ H Q) : PG X tg t' := ⟨fun pins s σ H v u Q I r q => h.run pins s σ H v u Q I r (k v σ H Q q)⟩
theorem PGs.weak {tg : List Expr} {t t' : TGs} (h : PGs X tg t) (k : ∀ v σ H Q, t' v σ H Q → t v σ H Q) : PGs X tg t' := ⟨fun pins s σ H v u Q I r q => h.run pins s σ H v u Q I r (k v σ H Q q)⟩
theorem PG.or {tg : Expr} {t t' : TG} (h : PG X tg t) (h' : PG X tg t') : PG X tg (fun v σ H Q => t v σ H Q ∨ t' v σ H Q) := ⟨fun pins s σ H v u Q I r q => q.elim (h.run pins s σ H v u Q I r) (h'.run pins s σ H v u Q I r)⟩
def gNm (i : Nat) : FG := fun d l h => .ok (l.set i (some d)) h
def gNo : FGs := fun ds l h => match ds with
  | [] => .ok l h
  | _ => .bad
def gCo (g : FG) (k : FGs) : FGs := fun ds l h => match ds with
  | d :: r => (g d l h).bind fun l1 h1 => k r l1 h1
  | [] => .bad
def gTp (n : Nat) (k : FGs) : FG := fun d l h => (itemsOf d h).bind fun ds h1 => if ds.length = n then k ds l h1 else .bad
theorem sg_name {i : Nat} {x : Str} {pos : Pos} (hN : X.N.Nodup) (hi : X.N[i]? = some x) (hx : Loc X.env.scope x) (hf : X.fn x = true ∨ X.env.scope.names.lookup x = some .local := by first | exact .inl rfl | exact .inr rfl | assumption) : PG X (.Name x pos) (rdG W [i] (gNm i)) :=
  PG.weak (pg_name hN hi hx hf) fun v σ H Q ⟨m, l, h, d, hl, hh, r, q⟩ => q.here hh _ (hl.set i r) ⟨List.length_set .., fun j hj => List.getElem?_set_ne fun e => hj (by rw [e]; exact List.mem_singleton_self _)⟩
theorem sgs_nil : PGs X [] (rdGs W [] gNo) := PGs.weak pgs_nil fun vs σ H Q ⟨m, l, h, ds, hl, hh, r, q⟩ => by
  cases r with
  | nil => exact ⟨rfl, q.here hh σ hl (Off.refl _ _)⟩
  | cons _ _ => exact q.elim
theorem sgs_cons {e : Expr} {es : List Expr} {ws us : List Nat} {g : FG} {k : FGs} (h1 : PG X e (rdG W ws g)) (h2 : PGs X es (rdGs W us k))
    (hs : (assignEach (e :: es) X.env).map (·.2) = assign e X.env :: (assignEach es X.env).map (·.2) := by rfl) : PGs X (e :: es) (rdGs W (ws ++ us) (gCo g k)) :=
  PGs.weak (pgs_cons h1 h2 hs) fun vs σ H Q ⟨m, l, h, ds, hl, hh, r, q⟩ => by
    cases r with
    | nil => exact q.elim
    | cons a b =>
      refine ⟨_, _, rfl, m, l, h, _, hl, hh, a, q.bind.imp fun l1 h1 m1 H1 p e x q σ1 hl1 o1 => ⟨m1, l1, h1, _, hl1, x, b.mono p e, q.imp fun l2 h2 m2 H2 p2 e2 x2 q2 σ2 hl2 o2 => q2 σ2 hl2 (o1.trans o2)⟩⟩
theorem sg_tup {es : List Expr} {k : Nat} {pos : Pos} {ws : List Nat} {g : FGs} {n : Nat} (hK : X.K = W.K) (hc : X.calm = true) (h : PGs X es (rdGs W ws g)) (hn : (assignEach es X.env).length = n := by rfl) (hst : (assignEach es X.env).findIdx? (·.1) = none := by rfl) : PG X (.Tuple es k pos) (rdG W ws (gTp n g)) := by
  refine PG.weak (PG.or (pg_tup hc h hn hst) (pg_unl hc h hn hst)) fun v σ H Q ⟨m, l, h, d, hl, hh, r, q⟩ => ?_
  obtain ⟨a, xs, ds, e1, hq, rl, q2⟩ := q.bind.items hh r
  split at q2
  · rename_i e
    rw [hK]
    rcases hq with hq | hq
    · exact .inl ⟨a, xs, e1, hq, by rw [← rl.length]; exact e, m, l, h, ds, hl, hh, rl, q2⟩
    · exact .inr ⟨a, xs, e1, hq, by rw [← rl.length]; exact e, m, l, h, ds, hl, hh, rl, q2⟩
  · exact q2.elim
/-- o[i] = .. -/
def gSb (s : D → D → D → Hh → R Unit) (f g : FE) : FG := fun d l h => (f l h).bind fun o h1 => (g l h1).bind fun i h2 => (s o i d h2).bind fun _ h3 => .ok l h3
def rdSet (W : Wd) (s : D → D → D → Hh → R Unit) : TSet := fun o i v H Q => ∃ m h od id d, HRel W.K m h H ∧ Rep W.K m H od o ∧ Rep W.K m H id i ∧ Rep W.K m H d v ∧ okR W m H (fun _ _ _ H' => Q H') (s od id d h)
theorem sg_sub {o i : Expr} {pos : Pos} {f g : FE} {t : D → D → D → Hh → R Unit} (ho : PE X o (rdE W f)) (hi : PE X i (rdE W g)) (hs : PSet X (rdSet W t))
    (ha : ∀ v, assign (.Subscript o i pos) X.env v = (do
      let ov ← holding [v] (eval o X.env)
      let iv ← holding [v, ov] (eval i X.env)
      standAt pos
      holding [v, ov, iv] (setItem ov iv v)
      release [v, ov, iv] []) := by intro _; rfl) : PG X (.Subscript o i pos) (rdG W [] (gSb t f g)) := by
  refine PG.weak (pg_sub ho hi hs ha) fun v σ H Q ⟨m, l, h, d, hl, hh, r, q⟩ => ?_
  refine ⟨m, l, h, hl, hh, q.bind.imp fun od h1 m1 H1 p1 e1 x1 q1 vo ro => ⟨m1, l, h1, hl.mono p1 e1, x1, q1.bind.imp fun id h2 m2 H2 p2 e2 x2 q2 vi ri => ?_⟩⟩
  exact ⟨m2, h2, od, id, d, x2, ro.mono p2 e2, ri, (r.mono p1 e1).mono p2 e2, q2.bind.imp fun _ h3 m3 H3 p3 e3 x3 q3 => q3.here x3 σ (((hl.mono p1 e1).mono p2 e2).mono p3 e3) (Off.refl _ _)⟩

/-! ### statements -/
def sPass : FS := fun l h => .ok (.nx, l) h
def sBreak : FS := fun l h => .ok (.bk, l) h
def sCont : FS := fun l h => .ok (.ct, l) h
def sBad : FS := fun _ _ => .bad
def sSeq (f g : FS) : FS := fun l h => (f l h).bind fun r h1 => match r.1 with
  | .nx => g r.2 h1
  | _ => .ok r h1
def sEx (f : FE) : FS := fun l h => (f l h).bind fun _ h1 => .ok (.nx, l) h1
def sRet (f : FE) : FS := fun l h => (f l h).bind fun d h1 => .ok (.rt d, l) h1
def sIf (c : FT) (f g : FS) : FS := fun l h => (c l h).bind fun b h1 => if b = true then f l h1 else g l h1
def sAsg (f : FE) (g : FG) : FS := fun l h => (f l h).bind fun d h1 => (g d l h1).bind fun l1 h2 => .ok (.nx, l1) h2
def sAug (i : Nat) (o : D → D → Hh → R D) (f : FE) : FS := fun l h => match l[i]? with
  | some (some x) => (f l h).bind fun y h1 => (o x y h1).bind fun z h2 => .ok (.nx, l.set i (some z)) h2
  | _ => .bad
theorem sss_nil : PSs X [] (rdS W sPass) := PSs.weak pss_nil fun De σ H ⟨m, l, h, hl, hh, q⟩ => q.here hh σ hl
theorem ss_pass {pos : Pos} : PS X (.Pass pos) (rdS W sPass) := PS.weak ps_pass fun De σ H ⟨m, l, h, hl, hh, q⟩ => q.here hh σ hl
theorem ss_break {pos : Pos} : PS X (.Break pos) (rdS W sBreak) := PS.weak ps_break fun De σ H ⟨m, l, h, hl, hh, q⟩ => q.here hh σ hl
theorem ss_cont {pos : Pos} : PS X (.Continue pos) (rdS W sCont) := PS.weak ps_continue fun De σ H ⟨m, l, h, hl, hh, q⟩ => q.here hh σ hl
theorem ss_bad {st : Stmt} : PS X st (rdS W sBad) := PS.weak ps_never fun De σ H ⟨m, l, h, hl, hh, q⟩ => q.elim
theorem pS_nx {De : Ends} {nx : L2.St → Hp → Prop} {m : List Addr} {H : Hp} {r : Fl × Lo} {h : Hh} (q : pS W { De with nx := nx } r h m H) (hr : r.1 = .nx) : ∀ σ, LRel W.K m H r.2 σ → nx σ H := by
  unfold pS at q
  rw [hr] at q
  exact q
theorem sss_cons {st : Stmt} {rest : List Stmt} {f g : FS} (h1 : PS X st (rdS W f)) (h2 : PSs X rest (rdS W g)) : PSs X (st :: rest) (rdS W (sSeq f g)) := by
  refine PSs.weak (pss_cons h1 h2) fun De σ H ⟨m, l, h, hl, hh, q⟩ => ⟨m, l, h, hl, hh, q.bind.imp fun r h1 m1 H1 p e x q => ?_⟩
  obtain ⟨fl, l1⟩ := r
  cases fl with
  | nx => exact fun σ1 hl1 => ⟨m1, l1, h1, hl1, x, q⟩
  | bk => exact q.here x
  | ct => exact q.here x
  | rt d => exact q.here x
theorem sss_one {st : Stmt} {f : FS} (h1 : PS X st (rdS W f)) : PSs X [st] (rdS W f) := pss_one h1
theorem ss_expr {e : Expr} {pos : Pos} {f : FE} (he : PE X e (rdE W f)) (hs : swapsWith e none pos.line X.env = pure false := by rfl) : PS X (.Expr e pos) (rdS W (sEx f)) :=
  PS.weak (ps_expr he hs) fun De σ H ⟨m, l, h, hl, hh, q⟩ => ⟨m, l, h, hl, hh, q.bind.imp fun d h1 m1 H1 p e x q v r => q.here x σ (hl.mono p e)⟩
theorem ss_ret {e : Expr} {pos : Pos} {f : FE} (he : PE X e (rdE W f)) : PS X (.Return (some e) pos) (rdS W (sRet f)) :=
  PS.weak (ps_ret he) fun De σ H ⟨m, l, h, hl, hh, q⟩ => ⟨m, l, h, hl, hh, q.bind.imp fun d h1 m1 H1 p e x q v r => q.here x v r⟩
theorem ss_retN {pos : Pos} : PS X (.Return none pos) (rdS W (sRet (eC .non))) :=
  PS.weak ps_retN fun De σ H ⟨m, l, h, hl, hh, q⟩ => q.here hh .non .non
theorem ss_if {c : Expr} {a b : List Stmt} {pos : Pos} {k : FT} {f g : FS} (hc : PT X c (rdT W k)) (ha : PSs X a (rdS W f)) (hb : PSs X b (rdS W g)) : PS X (.If c a b pos) (rdS W (sIf k f g)) := by
  refine PS.weak (ps_if hc ha hb) fun De σ H ⟨m, l, h, hl, hh, q⟩ => ⟨m, l, h, hl, hh, q.bind.imp fun b h1 m1 H1 p e x q => ?_⟩
  cases b with
  | true => simp only [if_true] at q ⊢; exact ⟨m1, l, h1, hl.mono p e, x, q⟩
  | false => simp only [Bool.false_eq_true, if_false] at q ⊢; exact ⟨m1, l, h1, hl.mono p e, x, q⟩
theorem asg_rd {De : Ends} {σ : L2.St} {H : Hp} {ws : List Nat} {f : FE} {g : FG} (q : rdS W (sAsg f g) De σ H) : tAsg (rdE W f) (rdG W ws g) De σ H := by
  obtain ⟨m, l, h, hl, hh, q⟩ := q
  exact ⟨m, l, h, hl, hh, q.bind.imp fun d h1 m1 H1 p e x q v r => ⟨m1, l, h1, d, hl.mono p e, x, r, q.bind.imp fun l2 h2 m2 H2 p2 e2 x2 q2 σ2 hl2 _ => q2.here x2 σ2 hl2⟩⟩
theorem ss_asg {tg e : Expr} {pos : Pos} {f : FE} {ws : List Nat} {g : FG} (he : PE X e (rdE W f)) (hg : PG X tg (rdG W ws g)) (hs : swapsWithSole [tg] e pos.line X.env = pure false := by rfl) (hw : swappedStores [tg] e X.env = pure none := by rfl)
    (h1 : (assignEach [tg] X.env).map (·.2) = [assign tg X.env] := by rfl) : PS X (.Assign [tg] e pos) (rdS W (sAsg f g)) :=
  PS.weak (ps_asg he hg hs hw h1) fun De σ H q => asg_rd q
theorem ss_set {i : Nat} {x : Str} {e : Expr} {f : FE} {pos' pos : Pos} (hN : X.N.Nodup) (hi : X.N[i]? = some x) (hx : Loc X.env.scope x) (he : PE X e (rdE W f)) (hs : swapsWith e (some (.Name x pos')) pos.line X.env = pure false := by rfl) (hf : X.fn x = true ∨ X.env.scope.names.lookup x = some .local := by first | exact .inl rfl | exact .inr rfl | assumption) :
    PS X (.Assign [.Name x pos'] e pos) (rdS W (sAsg f (gNm i))) :=
  PS.weak (ps_set hN hi hx he hs hf) fun De σ H ⟨m, l, h, hl, hh, q⟩ => ⟨m, l, h, hl, hh, q.bind.imp fun d h1 m1 H1 p e x q v r => by
    have q' : okR W m1 H1 (pS W De) (.ok (.nx, l.set i (some d)) h1) := q
    exact q'.here x _ ((hl.mono p e).set i r)⟩
/-- a, b = x, y -/
def sPar (i j : Nat) (a : FA) : FS := fun l h => (a l h).bind fun ds h1 => match ds with
  | [v, w] => .ok (.nx, (l.set i (some v)).set j (some w)) h1
  | _ => .bad
theorem ss_par {i j : Nat} {x y : Str} {a b : Expr} {ta : FA} {px py pt pos : Pos} {kt k2 pt2} (hc : X.calm = true) (hN : X.N.Nodup) (hi : X.N[i]? = some x) (hj : X.N[j]? = some y) (hij : i ≠ j)
    (hx : X.env.scope.names.lookup x = some .local) (hy : X.env.scope.names.lookup y = some .local) (ha : PA X [a, b] (rdA W ta))
    (hw : swappedStores [.Tuple [.Name x px, .Name y py] kt pt] (.Tuple [a, b] k2 pt2) X.env = pure (some [x, y]))
    (hs : swapsWithSole [.Tuple [.Name x px, .Name y py] kt pt] (.Tuple [a, b] k2 pt2) pos.line X.env = pure false := by rfl) :
    PS X (.Assign [.Tuple [.Name x px, .Name y py] kt pt] (.Tuple [a, b] k2 pt2) pos) (rdS W (sPar i j ta)) := by
  refine PS.weak (ps_par hc hN hi hj hij hx hy ha hw hs) fun De σ H ⟨m, l, h, hl, hh, q⟩ => ⟨m, l, h, hl, hh, q.bind.imp fun ds h1 m1 H1 p e x q vs r => ?_⟩
  split at q
  · cases r with
    | cons a r =>
      cases r with
      | cons b r =>
        cases r
        exact ⟨_, _, rfl, q.here x _ (((hl.mono p e).set i a).set j b)⟩
  · exact q.elim
def rdIp (W : Wd) (o : D → D → Hh → R D) : TIp := rd2 W o
theorem ss_aug {i : Nat} {x : Str} {e : Expr} {f : FE} {op : Operator} {o : D → D → Hh → R D} {pos' pos : Pos} (hN : X.N.Nodup) (hi : X.N[i]? = some x) (hx : Loc X.env.scope x) (he : PE X e (rdE W f)) (ho : PIp X op (rdIp W o)) (hf : X.fn x = true ∨ X.env.scope.names.lookup x = some .local := by first | exact .inl rfl | exact .inr rfl | assumption) :
    PS X (.AugAssign (.Name x pos') op e pos) (rdS W (sAug i o f)) := by
  refine PS.weak (ps_aug hN hi hx he ho hf) fun De σ H ⟨m, l, h, hl, hh, q⟩ => ?_
  unfold sAug at q
  split at q
  · rename_i d ed
    obtain ⟨v, h1, r⟩ := hl.at_ i d ed
    exact ⟨v, h1, m, l, h, hl, hh, q.bind.imp fun d2 h2 m2 H2 p2 e2 x2 q2 v2 r2 => ⟨m2, h2, d, d2, x2, r.mono p2 e2, r2, q2.bind.imp fun z h3 m3 H3 p3 e3 x3 q3 v3 r3 => q3.here x3 _ (((hl.mono p2 e2).mono p3 e3).set i r3)⟩⟩
  · exact q.elim

/-! ### for and while -/
def loop (good : Hh → Bool) (g : FG) (b : FS) : List D → Lo → Hh → R (Fl × Lo)
  | [], l, h => if good h = true then .ok (.nx, l) h else .bad
  | d :: ds, l, h => if good h = true then (g d l h).bind fun l1 h1 => (b l1 h1).bind fun r h2 => match r.1 with
      | .nx => loop good g b ds r.2 h2
      | .ct => loop good g b ds r.2 h2
      | .bk => .ok (.nx, r.2) h2
      | .rt v => .ok (.rt v, r.2) h2
    else .bad
def sFor (it : FI) (g : FG) (b : FS) : FS := fun l h => (it l h).bind fun s h1 => loop s.good g b s.items l h1
theorem loop_good {good : Hh → Bool} {g : FG} {b : FS} {m : List Addr} {H : Hp} {P : Fl × Lo → Hh → List Addr → Hp → Prop} : ∀ {ds : List D} {l : Lo} {h : Hh}, okR W m H P (loop good g b ds l h) → good h = true := by
  intro ds l h q
  cases ds <;> (unfold loop at q; split at q; assumption; exact q.elim)
theorem for_rd {De : Ends} {σ : L2.St} {H : Hp} {ws : List Nat} {it : FI} {g : FG} {b : FS} (q : rdS W (sFor it g b) De σ H) : tFor (rdI W it) (rdG W ws g) (rdS W b) De σ H := by
  obtain ⟨m, l, h, hl, hh, q⟩ := q
  refine ⟨m, l, h, hl, hh, q.bind.imp fun s h1 m1 H1 p1 e1 x1 q1 J w => ?_⟩
  refine for_it w (fun i σ' H' => ∃ m l h, m1 <+: m ∧ Ext H1 H' ∧ LRel W.K m H' l σ' ∧ HRel W.K m h H' ∧ okR W m H' (pS W De) (loop s.good g b (s.items.drop i) l h)) ?_ ?_ ?_ ?_
  · exact ⟨m1, l, h1, List.prefix_refl _, Ext.refl _, hl.mono p1 e1, x1, q1⟩
  · rintro i σ' H' hi ⟨m, l, h, p, e, hl, hh, q⟩
    exact ⟨m, h, p, e, hh, loop_good q⟩
  · rintro i x σ' H' H2 hi ⟨m, l, h, p, e, hl, hh, q⟩ y
    obtain ⟨d, hd, e2, hh2, r⟩ := y m h p e hh (loop_good q)
    have ed : s.items.drop i = d :: s.items.drop (i + 1) := by
      obtain ⟨h1, h2⟩ := List.getElem?_eq_some_iff.mp hd
      rw [← h2]
      exact List.drop_eq_getElem_cons h1
    rw [ed] at q
    unfold loop at q
    split at q
    · refine ⟨m, l, h, d, hl.mono (List.prefix_refl _) e2, hh2, r, (q.up (List.prefix_refl _) e2).bind.imp fun l1 h1 m3 H3 p3 e3 x3 q3 σ3 hl3 _ => ⟨m3, l1, h1, hl3, x3, q3.bind.imp fun fr h4 m4 H4 p4 e4 x4 q4 => ?_⟩⟩
      obtain ⟨fl, l4⟩ := fr
      have pp : m1 <+: m4 := (p.trans p3).trans p4
      have ee : Ext H1 H4 := ((e.trans e2).trans e3).trans e4
      cases fl with
      | nx => exact fun σ4 hl4 => ⟨m4, l4, h4, pp, ee, hl4, x4, q4⟩
      | ct => exact fun σ4 hl4 => ⟨m4, l4, h4, pp, ee, hl4, x4, q4⟩
      | bk => exact q4.here x4
      | rt v => exact q4.here x4
    · exact q.elim
  · rintro σ' H' ⟨m, l, h, p, e, hl, hh, q⟩
    rw [List.drop_length] at q
    unfold loop at q
    split at q
    · exact q.here hh σ' hl
    · exact q.elim
theorem ss_for {tg iter : Expr} {body : List Stmt} {pos : Pos} {ws : List Nat} {it : FI} {g : FG} {b : FS} (hp : PassesOwn (model X.prog X.w) X.A X.env X.xe) (hc : X.calm = true) (hi : PI X tg iter (rdI W it)) (hg : PG X tg (rdG W ws g)) (hb : PSs X body (rdS W b))
    (hs : ∀ x, foldedSetIterable iter X.env x = pure x := by intro _; rfl) : PS X (.For tg iter body [] pos) (rdS W (sFor it g b)) :=
  PS.weak (ps_for hp hc hi hg hb hs) fun De σ H q => for_rd q
def wloop (c : FT) (b : FS) : Nat → Lo → Hh → R (Fl × Lo)
  | 0, _, _ => .bad
  | n + 1, l, h => (c l h).bind fun t h1 => if t = true then (b l h1).bind fun r h2 => match r.1 with
      | .nx => wloop c b n r.2 h2
      | .ct => wloop c b n r.2 h2
      | .bk => .ok (.nx, r.2) h2
      | .rt v => .ok (.rt v, r.2) h2
    else .ok (.nx, l) h1
def sWhile (c : FT) (b : FS) : FS := wloop c b 1000000000000
theorem while_rd {De : Ends} {σ : L2.St} {H : Hp} {c : FT} {b : FS} (q : rdS W (sWhile c b) De σ H) : tWhile (rdT W c) (rdS W b) De σ H := by
  obtain ⟨m, l, h, hl, hh, q⟩ := q
  refine ⟨fun n σ' H' => ∃ m l h, LRel W.K m H' l σ' ∧ HRel W.K m h H' ∧ okR W m H' (pS W De) (wloop c b n l h), ⟨_, m, l, h, hl, hh, q⟩, ?_⟩
  rintro n σ' H' ⟨m, l, h, hl, hh, q⟩
  cases n with
  | zero => exact q.elim
  | succ n =>
    refine ⟨m, l, h, hl, hh, q.bind.imp fun t h1 m1 H1 p1 e1 x1 q1 => ?_⟩
    cases t with
    | false =>
      simp only [Bool.false_eq_true, if_false] at q1 ⊢
      exact q1.here x1 σ' (hl.mono p1 e1)
    | true =>
      simp only [if_true] at q1 ⊢
      refine ⟨fun σ2 H2 => ∃ m l h, LRel W.K m H2 l σ2 ∧ HRel W.K m h H2 ∧ okR W m H2 (pS W De) (wloop c b n l h), fun σ2 H2 q => ⟨n, Nat.lt_succ_self _, q⟩, m1, l, h1, hl.mono p1 e1, x1, q1.bind.imp fun fr h4 m4 H4 p4 e4 x4 q4 => ?_⟩
      obtain ⟨fl, l4⟩ := fr
      cases fl with
      | nx => exact fun σ4 hl4 => ⟨m4, l4, h4, hl4, x4, q4⟩
      | ct => exact fun σ4 hl4 => ⟨m4, l4, h4, hl4, x4, q4⟩
      | bk => exact q4.here x4
      | rt v => exact q4.here x4
theorem ss_while {c : Expr} {body : List Stmt} {pos : Pos} {k : FT} {b : FS} (hp : PassesOwn (model X.prog X.w) X.A X.env X.xe) (hc : PT X c (rdT W k)) (hb : PSs X body (rdS W b)) : PS X (.While c body [] pos) (rdS W (sWhile k b)) :=
  PS.weak (ps_while hp hc hb) fun De σ H q => while_rd q

/-! ### list comprehensions -/
def compL (good : Hh → Bool) (g : FG) (t : FT) (e : FE) (k : Nat) (l : Lo) : List D → Hh → R Unit
  | [], h => if good h = true then .ok () h else .bad
  | d :: ds, h => if good h = true then (g d l h).bind fun l1 h1 => (t l1 h1).bind fun b h2 => if b = true then (e l1 h2).bind fun y h3 => match h3[k]? with
        | some (.lst acc) => if acc.length < sz then compL good g t e k l ds (h3.set k (.lst (acc ++ [y]))) else .bad
        | _ => .bad
      else compL good g t e k l ds h2
    else .bad
def wipeL (l : Lo) : List Nat → Lo
  | [] => l
  | v :: vs => (wipeL l vs).set v none
def eLc (it : FI) (g : FG) (t : FT) (e : FE) (vs : List Nat) : FE := fun l h => (it l h).bind fun s h1 => (compL s.good g t e h1.length (wipeL l vs) s.items (h1 ++ [.lst []])).bind fun _ h2 => .ok (.ref h1.length) h2
theorem LRel.wipe {m : List Addr} {H : Hp} {l : Lo} {σ : L2.St} (x : LRel W.K m H l σ) : ∀ vs, LRel W.K m H (wipeL l vs) (wipe σ vs)
  | [] => x
  | v :: vs => (LRel.wipe x vs).wipe1 v
theorem wipe_get {σ : L2.St} {i : Nat} : ∀ {vs : List Nat}, (wipe σ vs)[i]? = if i ∈ vs ∧ i < σ.length then some none else σ[i]?
  | [] => by simp [wipe]
  | v :: vs => by
    unfold wipe
    rw [List.getElem?_set, wipe_length, wipe_get (vs := vs)]
    by_cases hv : v = i
    · subst hv
      by_cases hl : v < σ.length
      · simp [hl]
      · simp [hl]
    · simp only [hv, if_false, List.mem_cons]
      have : (i = v ∨ i ∈ vs) ↔ i ∈ vs := ⟨fun h => h.elim (fun e => absurd e.symm hv) id, .inr⟩
      simp only [this]
theorem wipe_off {σ τ : L2.St} {vs : List Nat} (o : Off vs (wipe σ vs) τ) : wipe τ vs = wipe σ vs := by
  have hlen : τ.length = σ.length := o.1.trans (wipe_length _ _)
  refine List.ext_getElem? fun i => ?_
  rw [wipe_get, wipe_get]
  by_cases hi : i ∈ vs
  · by_cases hl : i < σ.length
    · rw [if_pos ⟨hi, by rw [hlen]; exact hl⟩, if_pos ⟨hi, hl⟩]
    · rw [if_neg (fun q => hl (by rw [← hlen]; exact q.2)), if_neg (fun q => hl q.2), List.getElem?_eq_none (by omega), List.getElem?_eq_none (by omega)]
  · rw [if_neg (fun q => hi q.1), if_neg (fun q => hi q.1), o.2 i hi, wipe_get, if_neg (fun q => hi q.1)]
theorem compL_good {good : Hh → Bool} {g : FG} {t : FT} {e : FE} {k : Nat} {l : Lo} {m : List Addr} {H : Hp} {P : Unit → Hh → List Addr → Hp → Prop} : ∀ {ds : List D} {h : Hh}, okR W m H P (compL good g t e k l ds h) → good h = true := by
  intro ds h q
  cases ds <;> (unfold compL at q; split at q; assumption; exact q.elim)
theorem lc_rd {σ : L2.St} {H : Hp} {Q : VK} {vs : List Nat} {it : FI} {g : FG} {t : FT} {f : FE} (q : rdE W (eLc it g t f vs) σ H Q) : tLc (rdI W it) (rdG W vs g) (rdT W t) (rdE W f) vs σ H Q := by
  obtain ⟨m, l, h, hl, hh, q⟩ := q
  refine ⟨m, l, h, hl, hh, q.bind.imp fun s h1 m1 H1 p1 e1 x1 q1 J w Da hD => ?_⟩
  have pre := List.prefix_append m1 [Da]
  have ex : Ext H1 (upd H1 Da (.lst [])) := Ext.new hD
  have hk : (m1 ++ [Da])[h1.length]? = some Da := alloc_get m1 Da x1.len
  refine lc_it w (fun i H' => ∃ m h, m1 ++ [Da] <+: m ∧ Ext (upd H1 Da (.lst [])) H' ∧ HRel W.K m h H' ∧ okR W m H' (fun _ _ _ H2 => Q (.ref Da) H2) (compL s.good g t f h1.length (wipeL l vs) (s.items.drop i) h)) ?_ ?_ ?_ ?_
  · refine ⟨m1 ++ [Da], h1 ++ [.lst []], List.prefix_refl _, Ext.refl _, x1.alloc hD (ORep.ofL upd_same .nil), ?_⟩
    refine ((q1.up pre ex).bind).imp fun _ h2 m2 H2 p2 e2 x2 q2 => ?_
    exact q2.here x2 _ (.ref (pre_get p2 hk))
  · rintro i H' hi ⟨m, h, p, e, hh, q⟩
    exact ⟨m, h, pre.trans p, ex.trans e, hh, compL_good q⟩
  · rintro i x H' H2 hi ⟨m, h, p, e, hh, q⟩ y
    obtain ⟨d, hd, e2, hh2, r⟩ := y m h (pre.trans p) (ex.trans e) hh (compL_good q)
    have ed : s.items.drop i = d :: s.items.drop (i + 1) := by
      obtain ⟨h1, h2⟩ := List.getElem?_eq_some_iff.mp hd
      rw [← h2]
      exact List.drop_eq_getElem_cons h1
    have hl2 : LRel W.K m H2 (wipeL l vs) (wipe σ vs) := ((((hl.mono p1 e1).mono pre ex).mono p e).mono (List.prefix_refl _) e2).wipe vs
    rw [ed] at q
    unfold compL at q
    split at q
    · refine ⟨m, _, h, d, hl2, hh2, r, (q.up (List.prefix_refl _) e2).bind.imp fun l3 h3 m3 H3 p3 e3 x3 q3 σ3 hl3 o3 => ⟨wipe_off o3, m3, l3, h3, hl3, x3, q3.bind.imp fun b h4 m4 H4 p4 e4 x4 q4 => ?_⟩⟩
      cases b with
      | false =>
        simp only [Bool.false_eq_true, if_false] at q4 ⊢
        exact ⟨m4, h4, (p.trans p3).trans p4, ((e.trans e2).trans e3).trans e4, x4, q4⟩
      | true =>
        simp only [if_true] at q4 ⊢
        refine ⟨m4, l3, h4, hl3.mono p4 e4, x4, q4.bind.imp fun y h5 m5 H5 p5 e5 x5 q5 yv ry => ?_⟩
        have pp : m1 ++ [Da] <+: m5 := ((p.trans p3).trans p4).trans p5
        have ee : Ext (upd H1 Da (.lst [])) H5 := (((e.trans e2).trans e3).trans e4).trans e5
        have hk5 := pre_get pp hk
        split at q5
        · rename_i acc ea
          split at q5
          · rename_i hz
            obtain ⟨xs, hx, rl⟩ := x5.obj _ _ _ hk5 ea
            have ew : Ext H5 (upd H5 Da (.lst (xs ++ [yv]))) := x5.ext_at hk5
            have rl2 := (rl.append (.cons ry .nil)).mono (List.prefix_refl m5) ew
            exact ⟨xs, hx, by rw [← rl.length]; exact sz_lt hz, m5, _, pp, ee.trans ew, x5.write hk5 (ORep.ofL upd_same rl2), q5.up (List.prefix_refl _) ew⟩
          · exact q5.elim
        · exact q5.elim
    · exact q.elim
  · rintro H' ⟨m, h, p, e, hh, q⟩
    rw [List.drop_length] at q
    unfold compL at q
    split at q
    · exact q.here hh
    · exact q.elim
def tYs : FT := fun _ h => .ok true h
theorem PTs.weak {ifs : List Expr} {t t' : TT} (h : PTs X ifs t) (k : ∀ σ H Q, t' σ H Q → t σ H Q) : PTs X ifs t' := ⟨fun pins s σ H Q I q => h.run pins s σ H Q I (k σ H Q q)⟩
theorem sts_nil : PTs X [] (rdT W tYs) := PTs.weak pts_nil fun σ H Q ⟨m, l, h, hl, hh, q⟩ => q.here hh
theorem sts_one {c : Expr} {t : FT} (h : PT X c (rdT W t)) : PTs X [c] (rdT W t) := pts_one h
theorem se_lc {elt tg iter : Expr} {ifs : List Expr} {scope : Scope} {own : List (Str × Nat)} {pos : Pos} {it : FI} {g : FG} {t : FT} {f : FE} (hc : X.calm = true) (hN : X.N.Nodup) (hi : PI X tg iter (rdI W it)) (ok : BlkOk X.N X.env.scope scope own)
    (hg : ∀ (s : Shared) (H : Hp) (C : Addr) (cl : List (Str × Addr)) (fp : List Addr), PG (X.blk s H scope (compEnvC scope cl C X.env) fp) tg (rdG W (own.map (·.2)) g)) (ht : ∀ (s : Shared) (H : Hp) (C : Addr) (cl : List (Str × Addr)) (fp : List Addr), PTs (X.blk s H scope (compEnvC scope cl C X.env) fp) ifs (rdT W t))
    (he : ∀ (s : Shared) (H : Hp) (C : Addr) (cl : List (Str × Addr)) (fp : List Addr), PE (X.blk s H scope (compEnvC scope cl C X.env) fp) elt (rdE W f)) (hs : ∀ x, foldedSetIterable iter X.env x = pure x := by intro _; rfl) :
    PE X (.ListComp elt [⟨tg, iter, ifs, 0⟩] scope pos) (rdE W (eLc it g t f (own.map (·.2)))) :=
  PE.weak (pe_lc hc hN hi ok hg ht he hs) fun σ H Q q => lc_rd q
theorem ss_setLc {i : Nat} {y : Str} {py : Pos} {elt tg iter : Expr} {ifs : List Expr} {scope : Scope} {own : List (Str × Nat)} {pos spos : Pos} {it : FI} {g : FG} {t : FT} {f : FE} (hc : X.calm = true) (hN : X.N.Nodup) (hy : X.N[i]? = some y) (hyl : X.env.scope.names.lookup y = some .local)
    (hsw : swapsWith (.ListComp elt [⟨tg, iter, ifs, 0⟩] scope pos) (some (.Name y py)) spos.line X.env = pure true) (hi : PI X tg iter (rdI W it)) (ok : BlkOk X.N X.env.scope scope own)
    (hg : ∀ (s : Shared) (H : Hp) (C : Addr) (cl : List (Str × Addr)) (fp : List Addr), PG (X.blk s H scope (compEnvC scope cl C X.env) fp) tg (rdG W (own.map (·.2)) g)) (ht : ∀ (s : Shared) (H : Hp) (C : Addr) (cl : List (Str × Addr)) (fp : List Addr), PTs (X.blk s H scope (compEnvC scope cl C X.env) fp) ifs (rdT W t))
    (he : ∀ (s : Shared) (H : Hp) (C : Addr) (cl : List (Str × Addr)) (fp : List Addr), PE (X.blk s H scope (compEnvC scope cl C X.env) fp) elt (rdE W f)) (hs : ∀ x, foldedSetIterable iter X.env x = pure x := by intro _; rfl) :
    PS X (.Assign [.Name y py] (.ListComp elt [⟨tg, iter, ifs, 0⟩] scope pos) spos) (rdS W (sAsg (eLc it g t f (own.map (·.2))) (gNm i))) :=
  PS.weak (ps_setLc hc hN hy hyl hsw hi ok hg ht he hs) fun De σ H ⟨m, l, h, hl, hh, q⟩ => lc_rd ⟨m, l, h, hl, hh, q.bind.imp fun d h1 m1 H1 p e x q v r => by
    have q' : okR W m1 H1 (pS W De) (.ok (.nx, l.set i (some d)) h1) := q
    exact q'.here x _ ((hl.mono p e).set i r)⟩
end Sm
namespace Sm
open PySem PySem.Spec PyProof.Rows L2
variable {W : Wd} {X : Cx}
/-! ### a def's body -/
mutual
def D.pure : D → Bool
  | .ref _ => false
  | .tup l => D.pureL l
  | .ro l => D.pureL l
  | _ => true
def D.pureL : List D → Bool
  | [] => true
  | d :: l => D.pure d && D.pureL l
end
def O.pure : O → Bool
  | .lst l => D.pureL l
  | .dic l => D.pureL (l.map (·.2))
mutual
theorem Rep.pure {K : PySem.W.Frag} {m m' : List Addr} {H : Hp} : ∀ {d : D} {v : V}, Rep K m H d v → D.pure d = true → Rep K m' H d v
  | _, _, .non, _ => .non
  | _, _, .bl b, _ => .bl b
  | _, _, .int i, _ => .int i
  | _, _, .str x, _ => .str x
  | _, _, .ty x, _ => .ty x
  | _, _, .tup h r, e => .tup h (RepL.pure r (by simpa [D.pure] using e))
  | _, _, .ro h r, e => .ro h (RepL.pure r (by simpa [D.pure] using e))
  | _, _, .ref h, e => by simp [D.pure] at e
theorem RepL.pure {K : PySem.W.Frag} {m m' : List Addr} {H : Hp} : ∀ {d : List D} {v : List V}, RepL K m H d v → D.pureL d = true → RepL K m' H d v
  | _, _, .nil, _ => .nil
  | _, _, .cons a r, e => by
    simp only [D.pureL, Bool.and_eq_true] at e
    exact .cons (Rep.pure a e.1) (RepL.pure r e.2)
end
mutual
theorem Rep.back {K : PySem.W.Frag} {m m' : List Addr} {H H' : Hp} (p : m <+: m') : ∀ {d : D} {v w : V}, Rep K m' H' d v → Rep K m H d w → Rep K m H' d v
  | _, _, _, .non, _ => .non
  | _, _, _, .bl b, _ => .bl b
  | _, _, _, .int i, _ => .int i
  | _, _, _, .str x, _ => .str x
  | _, _, _, .ty x, _ => .ty x
  | _, _, _, .tup h r, .tup _ r' => .tup h (RepL.back p r r')
  | _, _, _, .ro h r, .ro _ r' => .ro h (RepL.back p r r')
  | _, _, _, .ref h, .ref h' => by
    have := pre_get p h'
    rw [h] at this
    cases this
    exact .ref h'
theorem RepL.back {K : PySem.W.Frag} {m m' : List Addr} {H H' : Hp} (p : m <+: m') : ∀ {d : List D} {v w : List V}, RepL K m' H' d v → RepL K m H d w → RepL K m H' d v
  | _, _, _, .nil, _ => .nil
  | _, _, _, .cons a r, .cons a' r' => .cons (Rep.back p a a') (RepL.back p r r')
end
theorem KRep.back {K : PySem.W.Frag} {m m' : List Addr} {H H' : Hp} (p : m <+: m') : ∀ {d : List (Key × D)} {v w : List (Key × V)}, KRep K m' H' d v → KRep K m H d w → KRep K m H' d v
  | _, _, _, .nil, _ => .nil
  | _, _, _, .cons a r, .cons a' r' => .cons (Rep.back p a a') (KRep.back p r r')
theorem KRep.pure {K : PySem.W.Frag} {m m' : List Addr} {H : Hp} : ∀ {d : List (Key × D)} {v : List (Key × V)}, KRep K m H d v → D.pureL (d.map (·.2)) = true → KRep K m' H d v
  | _, _, .nil, _ => .nil
  | _, _, .cons a r, e => by
    simp only [List.map_cons, D.pureL, Bool.and_eq_true] at e
    exact .cons (Rep.pure a e.1) (KRep.pure r e.2)
theorem ORep.back {K : PySem.W.Frag} {m m' : List Addr} {H H' : Hp} {o : O} {a b : Addr} (p : m <+: m') (r : ORep K m' H' o a) (r' : ORep K m H o b) : ORep K m H' o a := by
  cases o with
  | lst l => obtain ⟨xs, h, q⟩ := r; obtain ⟨ys, _, q'⟩ := r'; exact ⟨xs, h, q.back p q'⟩
  | dic l => obtain ⟨xs, h, q⟩ := r; obtain ⟨ys, _, q'⟩ := r'; exact ⟨xs, h, q.back p q'⟩
theorem ORep.pure {K : PySem.W.Frag} {m m' : List Addr} {H : Hp} {o : O} {a : Addr} (r : ORep K m' H o a) (e : O.pure o = true) : ORep K m H o a := by
  cases o with
  | lst l => obtain ⟨xs, h, q⟩ := r; exact ⟨xs, h, q.pure e⟩
  | dic l => obtain ⟨xs, h, q⟩ := r; exact ⟨xs, h, q.pure e⟩
def gcR (h0 : Hh) (d : D) (h : Hh) : R D := if D.pure d = true ∧ (h.take h0.length = h0 ∨ (h.take h0.length).all O.pure = true) then .ok d (h.take h0.length) else .ok d h
def fin (h0 : Hh) (r : R (Fl × Lo)) : R D := match r with
  | .ok (.rt d, _) h => gcR h0 d h
  | .ok (.nx, _) h => gcR h0 .non h
  | .ok _ _ => .bad
  | .ex x h => .ex x h
  | .bad => .bad
def mkF (n N : Nat) (b : FS) : FF := fun ds h => if ds.length = n then fin h (b (ds.map some ++ List.replicate (N - n) none) h) else .bad
theorem gc_ok {m : List Addr} {h0 h : Hh} {H : Hp} {Q : VK} {d : D} (x : HRel W.K m h0 H) (q : okR W m H (pV W Q) (gcR h0 d h)) : okR W m H (pV W Q) (.ok d h) := by
  unfold gcR at q
  split at q
  · rename_i c
    obtain ⟨hp, hc⟩ := c
    intro H' m' p e y v r
    have hlen : m.length ≤ m'.length := p.length_le
    have hx := x.len
    have hy := y.len
    have tl : (h.take h0.length).length = h0.length := by rw [List.length_take]; omega
    refine q H' m (List.prefix_refl _) e ⟨by rw [tl]; exact hx, x.nd, fun n a o ha ho => ?_⟩ v (r.pure hp)
    have hn : n < h0.length := by rw [← hx]; exact (List.getElem?_eq_some_iff.mp ha).1
    have ho' : h[n]? = some o := by
      rw [List.getElem?_take] at ho
      rw [if_pos hn] at ho
      exact ho
    have big := y.obj n a o (pre_get p ha) ho'
    rcases hc with hc | hc
    · obtain ⟨o0, h1, h2⟩ := x.get ha
      have : o0 = o := by
        rw [hc, h1] at ho
        exact Option.some.inj ho
      subst this
      exact big.back p h2
    · exact big.pure (List.all_eq_true.mp hc o (List.mem_of_getElem? ho))
  · exact q
theorem LRel.atStart {K : PySem.W.Frag} {m : List Addr} {H : Hp} {ds : List D} {vs : List V} (r : RepL K m H ds vs) (N : List Str) : LRel K m H (ds.map some ++ List.replicate (N.length - vs.length) none) (L2.start N vs) := by
  refine ⟨?_, fun i d e => ?_⟩
  · unfold L2.start
    simp only [List.length_append, List.length_map, List.length_replicate, r.length]
  · have hi : i < (ds.map some).length := by
      by_cases hi : i < (ds.map some).length
      · exact hi
      · rw [List.getElem?_append_right (by omega)] at e
        have := List.mem_of_getElem? e
        rw [List.mem_replicate] at this
        cases this.2
    rw [List.getElem?_append_left hi, List.getElem?_map] at e
    cases e2 : ds[i]? with
    | none => rw [e2] at e; cases e
    | some d' =>
      rw [e2] at e
      cases e
      obtain ⟨v, hv, rv⟩ := r.get e2
      refine ⟨v, ?_, rv⟩
      unfold L2.start
      rw [List.getElem?_append_left (by rw [List.length_map]; exact (List.getElem?_eq_some_iff.mp hv).1), List.getElem?_map, hv]
      rfl
theorem body_rd {m : List Addr} {h : Hh} {H : Hp} {Q : VK} {b : FS} {ds : List D} {vs : List V} {n : Nat} {N : List Str} (hn : ds.length = n) (x : HRel W.K m h H) (r : RepL W.K m H ds vs) (q : okR W m H (pV W Q) (mkF n N.length b ds h)) :
    rdS W b { nx := fun _ H' => Q .non H', rt := Q } (L2.start N vs) H := by
  have hl := LRel.atStart r N
  rw [← r.length, hn] at hl
  refine ⟨m, _, h, hl, x, ?_⟩
  unfold mkF at q
  rw [if_pos hn] at q
  cases e : b (ds.map some ++ List.replicate (N.length - n) none) h with
  | ok fr h' =>
    rw [e] at q
    obtain ⟨fl, l⟩ := fr
    cases fl with
    | rt d => exact fun H' m' p e y v rv => gc_ok x q H' m' p e y v rv
    | nx => exact fun H' m' p e y σ _ => gc_ok x q H' m' p e y .non .non
    | bk => exact q.elim
    | ct => exact q.elim
  | ex z h' => rw [e] at q; exact q
  | bad => rw [e] at q; exact q
section
variable {P : Program} {w : World} {K : PySem.W.Frag} {mg : Str → Option Value} {base : Heap}
theorem sok {x qual : Str} {st : Stmt} {f : Addr} {fd : FuncData} {N ps : List Str} {k : Nat} {b : FS} (hK : W.K = K) (F : Fun K x qual st f fd) (S : FnScope N ps (defScope st))
    (hbody : ∀ (cdv : Value) (A : Around) (outer : List Env) (s : Shared) (H : Hp) (E : XK), Room k (A.deeper (envOfC qual (defScope st) s.heap.objs.size f cdv)) →
      PSs (cxOf CX0 P w K mg base N qual (defScope st) f cdv A outer s H E).nox (defBody st) (rdS W b)) : FnOk P w K mg base CX0 (k + 1) f fd ps (spF W ps.length (mkF ps.length N.length b)) := by
  refine F.ok S (fun vs H Q E ⟨m, h, ds, hn, x, r, q⟩ => by rw [← r.length]; exact hn) fun cdv A outer s H vs Q E hr ⟨m, h, ds, hn, x, r, q⟩ => ⟨_, hbody cdv A outer s H E hr, body_rd hn x r q⟩
end

/-! ### new things as answers -/
theorem okR.newT {m : List Addr} {h : Hh} {H : Hp} {Q : VK} {l : List D} {xs : List V} (q : okR W m H (pV W Q) (.ok (.tup l) h)) (x : HRel W.K m h H) (r : RepL W.K m H l xs) {p : Addr} (hp : H p = none) : Q (.ref p) (upd H p (.tup xs)) :=
  q _ m (List.prefix_refl _) (Ext.new hp) (x.laid hp) _ (.tup (SqT.of upd_same) (r.mono (List.prefix_refl _) (Ext.new hp)))
theorem okR.newL {m : List Addr} {h : Hh} {H : Hp} {Q : VK} {l : List D} {xs : List V} (q : okR W m H (pV W Q) (.ok (.ref h.length) (h ++ [.lst l]))) (x : HRel W.K m h H) (r : RepL W.K m H l xs) {p : Addr} (hp : H p = none) : Q (.ref p) (upd H p (.lst xs)) :=
  q _ (m ++ [p]) (List.prefix_append m [p]) (Ext.new hp) (x.alloc hp (ORep.ofL upd_same (r.mono (List.prefix_append m [p]) (Ext.new hp)))) _ (.ref (alloc_get m p x.len))
theorem okR.wrL {m : List Addr} {h : Hh} {H : Hp} {α : Type} {P : α → Hh → List Addr → Hp → Prop} {n : Nat} {a : Addr} {l : List D} {xs : List V} {d : α} (q : okR W m H P (.ok d (h.set n (.lst l)))) (x : HRel W.K m h H) (ha : m[n]? = some a) (r : RepL W.K m H l xs) : P d (h.set n (.lst l)) m (upd H a (.lst xs)) :=
  q _ m (List.prefix_refl _) (x.ext_at ha) (x.write ha (ORep.ofL upd_same (r.mono (List.prefix_refl _) (x.ext_at ha))))

/-! ### ints -/
@[irreducible] def BIG : Nat := 2 ^ 4000
theorem BIG_eq : BIG = 2 ^ 4000 := by unfold BIG; rfl
def oAdd (d e : D) (h : Hh) : R D := match d, e with
  | .int i, .int j => .ok (.int (i + j)) h
  | .str x, .str y => if x.length + y.length ≤ sz then .ok (.str (x ++ y)) h else .bad
  | .tup a, .tup b => if a.length + b.length ≤ sz then .ok (.tup (a ++ b)) h else .bad
  | .ref a, .ref b => match h[a]?, h[b]? with
    | some (.lst x), some (.lst y) => if x.length + y.length ≤ sz then .ok (.ref h.length) (h ++ [.lst (x ++ y)]) else .bad
    | _, _ => .bad
  | _, _ => .bad
def oSub (d e : D) (h : Hh) : R D := match d, e with
  | .int i, .int j => .ok (.int (i - j)) h
  | _, _ => .bad
def oMul (d e : D) (h : Hh) : R D := match d, e with
  | .int i, .int j => if i.natAbs < BIG ∧ j.natAbs < BIG then .ok (.int (i * j)) h else .bad
  | .tup a, .int k => if k ≤ 1000 ∧ -1000 ≤ k ∧ a.length ≤ 1000 then .ok (.tup (List.replicate k.toNat a).flatten) h else .bad
  | .ref n, .int k => match h[n]? with
    | some (.lst x) => if k ≤ 1000 ∧ -1000 ≤ k ∧ x.length ≤ 1000 then .ok (.ref h.length) (h ++ [.lst (List.replicate k.toNat x).flatten]) else .bad
    | _ => .bad
  | _, _ => .bad
def oDiv (d e : D) (h : Hh) : R D := match d, e with
  | .int i, .int j => if j ≠ 0 ∧ j.natAbs < BIG then .ok (.int (i.fdiv j)) h else .bad
  | _, _ => .bad
def oMod (d e : D) (h : Hh) : R D := match d, e with
  | .int i, .int j => if j ≠ 0 then .ok (.int (i.fmod j)) h else .bad
  | _, _ => .bad
def oPow (d e : D) (h : Hh) : R D := match d, e with
  | .int i, .int j => if 0 ≤ j ∧ j ≤ 4000 ∧ i.natAbs < BIG then .ok (.int (i ^ j.toNat)) h else .bad
  | _, _ => .bad
def oNeg (d : D) (h : Hh) : R D := match d with
  | .int i => .ok (.int (-i)) h
  | _ => .bad
theorem big_log {i : Int} (h : i.natAbs < BIG) : i.natAbs.log2 < 4000 := PySem.Flt.log2_lt_of (by decide) (BIG_eq ▸ h)
theorem sop_sub : OpR X (binaryOp .Sub) (rd2 W oSub) := OpR.weak op_sub fun x y H Q ⟨m, h, d, e, hh, rx, ry, q⟩ => by
  unfold oSub at q
  split at q
  · cases rx; cases ry; exact ⟨_, _, rfl, rfl, q.val hh (.int _)⟩
  · exact q.elim
theorem sop_neg : UnR X (unaryOp .USub) (rd1 W oNeg) := fun pins s σ H x v Q I rx ⟨m, h, d, hh, r, q⟩ => by
  unfold oNeg at q
  split at q
  · cases r; exact un_neg pins s σ H _ v Q I rx ⟨_, rfl, q.val hh (.int _)⟩
  · exact q.elim
theorem int_op {f : Value → Value → Sem Value} {C : Int → Int → Prop} {g : Int → Int → Int} (h : ∀ (i j : Int) (t u : Tok) (s : Shared) (Q : Value → Shared → Prop), C i j → (∀ tk tk', Q (.int (g i j) tk) { s with toks := tk' }) → wpAny (model X.prog X.w) X.A (f (.int i t) (.int j u)) Q X.xe s) : OpR X f (rI C fun i j => .int (g i j)) := by
  intro pins s σ H x y v u Q I rx ry hr
  obtain ⟨i, j, rfl, rfl, hc, q⟩ := hr
  obtain ⟨t, rfl⟩ := rx
  obtain ⟨t', rfl⟩ := ry
  exact h i j t t' s _ hc fun tk tk' => ⟨.int _, H, I.tok _, ⟨_, rfl⟩, q⟩
theorem op_divB : OpR X (binaryOp .FloorDiv) (rI (fun _ j => j ≠ 0 ∧ j.natAbs < BIG) fun i j => .int (i.fdiv j)) :=
  int_op fun i j t u s Q hc q => floordiv_int hc.1 (q _ _) (.inl (PyProof.noPylong_of_log2 (Nat.lt_trans (big_log hc.2) (by decide))))
theorem sop_div : OpR X (binaryOp .FloorDiv) (rd2 W oDiv) := OpR.weak op_divB fun x y H Q ⟨m, h, d, e, hh, rx, ry, q⟩ => by
  unfold oDiv at q
  split at q
  · split at q
    · rename_i c
      cases rx; cases ry; exact ⟨_, _, rfl, rfl, c, q.val hh (.int _)⟩
    · exact q.elim
  · exact q.elim
theorem sop_mod : OpR X (binaryOp .Mod) (rd2 W oMod) := OpR.weak op_modN fun x y H Q ⟨m, h, d, e, hh, rx, ry, q⟩ => by
  unfold oMod at q
  split at q
  · split at q
    · rename_i c
      cases rx; cases ry; exact ⟨_, _, rfl, rfl, c, q.val hh (.int _)⟩
    · exact q.elim
  · exact q.elim
theorem op_powB : OpR X (binaryOp .Pow) (rI (fun i j => 0 ≤ j ∧ j ≤ 4000 ∧ i.natAbs < BIG) fun i j => .int (i ^ j.toNat)) :=
  int_op fun i j t u s Q hc q => pow_int hc.1 (by
    have h1 : Builtin.Int.intBits i ≤ 4000 := PyProof.Rows.intBits_le (BIG_eq ▸ hc.2.2)
    have h2 : ((Builtin.Int.intBits i : Nat) : Int) * j ≤ 4000 * j := Int.mul_le_mul_of_nonneg_right (by omega) hc.1
    have h3 := hc.2.1
    omega) (q _ _)
theorem sop_pow : OpR X (binaryOp .Pow) (rd2 W oPow) := OpR.weak op_powB fun x y H Q ⟨m, h, d, e, hh, rx, ry, q⟩ => by
  unfold oPow at q
  split at q
  · split at q
    · rename_i c
      cases rx; cases ry; exact ⟨_, _, rfl, rfl, c, q.val hh (.int _)⟩
    · exact q.elim
  · exact q.elim
theorem SqT.same {K : PySem.W.Frag} {H : Hp} {a : Addr} {xs : List V} (h : SqT K H a xs) : SqT K H a xs := h
theorem sop_add (hK : X.K = W.K) : OpR X (binaryOp .Add) (rd2 W oAdd) := OpR.weak (((op_add (X := X)).or op_add_str).or (op_catA.or op_cat)) fun x y H Q ⟨m, h, d, e, hh, rx, ry, q⟩ => by
  unfold oAdd at q
  split at q
  · cases rx; cases ry; exact .inl (.inl ⟨_, _, rfl, rfl, q.val hh (.int _)⟩)
  · split at q
    · rename_i c
      cases rx; cases ry; exact .inl (.inr ⟨_, _, rfl, rfl, sz_line c, q.val hh (.str _)⟩)
    · exact q.elim
  · split at q
    · rename_i a b c
      refine .inr (.inl ?_)
      rw [hK]
      cases rx with
      | tup h1 r1 =>
        cases ry with
        | tup h2 r2 =>
          refine ⟨_, _, _, _, rfl, rfl, h1, h2, by rw [← r1.length, ← r2.length]; exact sz_line c, fun e => ?_, fun _ e => ?_, fun _ _ p hp => ?_⟩
          · have : a = [] := r1.nil_iff.mpr e
            subst this
            exact q.val hh (.tup h2 r2)
          · have : b = [] := r2.nil_iff.mpr e
            subst this
            rw [List.append_nil] at q
            exact q.val hh (.tup h1 r1)
          · exact q.newT hh (r1.append r2) hp
    · exact q.elim
  · split at q
    · split at q
      · rename_i h1 h2 c
        obtain ⟨a', xs, e1, m1, H1, r1⟩ := hh.lst rx h1
        obtain ⟨b', ys, e2, m2, H2, r2⟩ := hh.lst ry h2
        refine .inr (.inr ⟨a', b', xs, ys, e1, e2, H1, H2, by rw [← r1.length, ← r2.length]; exact sz_line c, fun p hp => ?_⟩)
        have pre := List.prefix_append m [p]
        have ex : Ext H (upd H p (.lst (xs ++ ys))) := Ext.new hp
        exact q _ (m ++ [p]) pre ex (hh.alloc hp (ORep.ofL upd_same ((r1.append r2).mono pre ex))) _ (.ref (alloc_get m p hh.len))
      · exact q.elim
    · exact q.elim
  · exact q.elim
end Sm
namespace Sm
open PySem PySem.Spec PyProof.Rows L2
variable {W : Wd} {X : Cx}
/-! ### products -/
section
variable {prog : Program} {w : World} {A : Around} {E : Value → Shared → Prop} {s : Shared}
/-- t * 1, () * k: t itself -/
theorem tuple_mulSame (l : Addr) (items : Array Value) (n : Nat) (dd : Option Addr) (sl : Array (Option Value)) (x : Int) (u : Tok) (c0 : (decide (x < -(2 ^ 63)) || decide (x ≥ 2 ^ 63)) = false) (c1 : (items.isEmpty || x == 1) = true) :
    Meets (Builtin.«tuple.__mul__» ⟨[.ref l, .int x u], []⟩) (fun _ R s => s.heap.get? l = some { cls := .type "tuple", dict := dd, data := .seq items n, slots := sl } ∧ R (.ok (.ret (Value.ref l))) s) :=
  .of_wp fun prog w A R s h => by
    obtain ⟨hp, g, d, tk, os⟩ := s
    obtain ⟨hl, h⟩ := h
    have f1 := AutoSeq1.idx_int
    wp_walk using wpAny_loadPart' hl
    repeat (first
      | (refine wpAny_ite_false (decide_eq_false (by rw [c0]; exact Bool.false_ne_true)) ?_; wp_walk using wpAny_loadPart' hl)
      | (refine wpAny_ite_true (decide_eq_true (by rw [c1])) ?_; wp_walk using wpAny_loadPart' hl)
      | (rw [c1]; wp_walk using wpAny_loadPart' hl))
    exact ⟨_, rfl, h⟩
/-- t * k, k not above nought: the empty tuple, laid -/
theorem tuple_mulNil (l : Addr) (items : Array Value) (n : Nat) (dd : Option Addr) (sl : Array (Option Value)) (x : Int) (u : Tok) (c0 : (decide (x < -(2 ^ 63)) || decide (x ≥ 2 ^ 63)) = false) (c1 : (items.isEmpty || x == 1) = false) (c2 : (decide (x ≤ 0) || items.isEmpty) = true) :
    Meets (Builtin.«tuple.__mul__» ⟨[.ref l, .int x u], []⟩) (fun _ R s => s.heap.get? l = some { cls := .type "tuple", dict := dd, data := .seq items n, slots := sl } ∧
      R (.ok (.ret (Value.ref s.heap.objs.size))) { s with heap := s.heap.push { cls := Value.type "tuple", data := Data.seq #[] }, toks := s.toks }) :=
  .of_wp fun prog w A R s h => by
    obtain ⟨hp, g, d, tk, os⟩ := s
    obtain ⟨hl, h⟩ := h
    have f1 := AutoSeq1.idx_int
    wp_walk using wpAny_loadPart' hl
    repeat (first
      | (refine wpAny_ite_false (decide_eq_false (by rw [c0]; exact Bool.false_ne_true)) ?_; wp_walk using wpAny_loadPart' hl)
      | (refine wpAny_ite_false (decide_eq_false (by rw [c1]; exact Bool.false_ne_true)) ?_; wp_walk using wpAny_loadPart' hl)
      | (refine wpAny_ite_true (decide_eq_true (by rw [c2])) ?_; wp_walk using wpAny_loadPart' hl))
    exact ⟨_, rfl, h⟩
end
/-- t * k, any k to a thousand -/
def rRepA (K : PySem.W.Frag) : R2 := fun x y H Q => ∃ l k xs, x = .ref l ∧ y = .int k ∧ SqT K H l xs ∧ k ≤ 1000 ∧ xs.length ≤ 1000 ∧
  ((xs = [] ∨ k = 1) ∧ -(2 ^ 63) ≤ k ∧ Q (.ref l) H ∨ ¬ (xs = [] ∨ k = 1) ∧ -(2 ^ 63) ≤ k ∧ ∀ p, H p = none → Q (.ref p) (upd H p (.tup (List.replicate k.toNat xs).flatten)))
theorem op_repA : OpR X (binaryOp .Mult) (rRepA X.K) := by
  intro pins s σ H x y v u Q I rx ry h
  obtain ⟨l, k, xs, rfl, rfl, hT, h2, hz, hc⟩ := h
  have hv : v = .ref l := rx
  subst hv
  obtain ⟨t, rfl⟩ := id ry
  obtain ⟨its, r, ⟨⟨cls, dd, data, sl⟩, ho, hcl, n, hd⟩, hs⟩ := I.tuple hT
  simp only at hcl hd
  subst hcl hd
  have emp : its.toArray.isEmpty = decide (xs = []) := by
    cases r <;> simp
  rcases hc with ⟨c, hk, q⟩ | ⟨c, hk, q⟩
  · have c0 : (decide (k < -(2 ^ 63)) || decide (k ≥ 2 ^ 63)) = false := by
      rw [decide_eq_false (by omega), decide_eq_false (by omega)]; rfl
    have c1 : (its.toArray.isEmpty || k == 1) = true := by
      rw [emp]
      rcases c with c | c
      · rw [decide_eq_true c]; rfl
      · rw [c]; simp
    exact wpAny_binaryOp_repeat_ref (T := "tuple") (U := "int") (by decide) ⟨_, ho, rfl⟩ (fun s' => typeIs_int s' k t) noFill_tuple_mul F.fills_int_mul F.slot_int_rmul repeat_tuple F.slot_int_index.lookup
      (call_meets F.slot_int_rmul (typeIs_int s k t) F.entry_int_rmul (F.args_int_rmul_2 _ _) (int_rmul_tuple k t l its.toArray n dd sl)
        ⟨ho, rfl, ⟨_, ho, rfl⟩, call_meets F.slot_tuple_mul ⟨_, ho, rfl⟩ F.entry_tuple_mul (F.args_tuple_mul_2 _ _) (tuple_mulSame l its.toArray n dd sl k t c0 c1) ⟨ho, ⟨.ref l, H, I, rfl, q⟩⟩⟩)
  · by_cases hk2 : 2 ≤ k
    · exact op_repT pins s σ H _ _ _ _ Q I rx ry ⟨l, k, xs, rfl, rfl, hT, fun e => c (.inl e), hk2, h2, hz, q⟩
    · have c0 : (decide (k < -(2 ^ 63)) || decide (k ≥ 2 ^ 63)) = false := by
        rw [decide_eq_false (by omega), decide_eq_false (by omega)]; rfl
      have h1 : k ≠ 1 := fun e => c (.inr e)
      have c1 : (its.toArray.isEmpty || k == 1) = false := by
        rw [emp, decide_eq_false (fun e => c (.inl e)), Bool.false_or]
        exact beq_eq_false_iff_ne.mpr h1
      have c2 : (decide (k ≤ 0) || its.toArray.isEmpty) = true := by
        rw [decide_eq_true (show k ≤ 0 by omega)]; rfl
      refine wpAny_binaryOp_repeat_ref (T := "tuple") (U := "int") (by decide) ⟨_, ho, rfl⟩ (fun s' => typeIs_int s' k t) noFill_tuple_mul F.fills_int_mul F.slot_int_rmul repeat_tuple F.slot_int_index.lookup
        (call_meets F.slot_int_rmul (typeIs_int s k t) F.entry_int_rmul (F.args_int_rmul_2 _ _) (int_rmul_tuple k t l its.toArray n dd sl)
          ⟨ho, rfl, ⟨_, ho, rfl⟩, call_meets F.slot_tuple_mul ⟨_, ho, rfl⟩ F.entry_tuple_mul (F.args_tuple_mul_2 _ _) (tuple_mulNil l its.toArray n dd sl k t c0 c1 c2) ⟨ho, ?_⟩⟩)
      have q0 := q _ (I.hok.fresh (Nat.le_refl _))
      rw [show k.toNat = 0 by omega] at q0
      exact ⟨.ref s.heap.objs.size, _, I.laid (t' := s.toks) (o := .tup []) (fun b ob q => Heap.get?_push_of_some _ q) (Nat.le_refl _) ⟨Nat.zero_le _, [], .nil, IsTup.new _ _⟩, rfl, q0⟩
theorem op_mulB : OpR X (binaryOp .Mult) (rI (fun i j => i.natAbs < BIG ∧ j.natAbs < BIG) fun i j => .int (i * j)) :=
  int_op fun i j t u s Q hc q => mul_int (q _ _) (CMulW.ok (by
    have h1 := big_log hc.1
    have h2 := big_log hc.2
    unfold CMulW
    omega))
theorem sop_mul (hK : X.K = W.K) : OpR X (binaryOp .Mult) (rd2 W oMul) := OpR.weak (op_mulB.or (op_repA.or op_rep)) fun x y H Q ⟨m, h, d, e, hh, rx, ry, q⟩ => by
  unfold oMul at q
  split at q
  · split at q
    · rename_i c
      cases rx; cases ry; exact .inl ⟨_, _, rfl, rfl, c, q.val hh (.int _)⟩
    · exact q.elim
  · split at q
    · rename_i l k c
      refine .inr (.inl ?_)
      rw [hK]
      cases ry
      cases rx with
      | tup h1 r1 =>
        refine ⟨_, k, _, rfl, rfl, h1, c.1, by rw [← r1.length]; exact c.2.2, ?_⟩
        by_cases hc : l = [] ∨ k = 1
        · have e : (List.replicate k.toNat l).flatten = l := by
            rcases hc with hc | hc
            · subst hc; simp
            · subst hc; simp
          rw [e] at q
          exact .inl ⟨hc.imp (fun e => r1.nil_iff.mp e) id, by omega, q.val hh (.tup h1 r1)⟩
        · exact .inr ⟨fun e => hc (e.imp (fun e => r1.nil_iff.mpr e) id), by omega, fun p hp => q.newT hh (r1.replicate _) hp⟩
    · exact q.elim
  · rename_i n k
    split at q
    · split at q
      · rename_i l e c
        cases ry
        obtain ⟨a', xs, e1, m1, H1, r1⟩ := hh.lst rx e
        refine .inr (.inr ⟨a', _, xs, e1, rfl, H1, by omega, by omega, ?_, fun p hp => q.newL hh (r1.replicate _) hp⟩)
        rw [← r1.length, sizeLine_eq]
        have : l.length * k.toNat ≤ 1000 * 1000 := Nat.mul_le_mul c.2.2 (by omega)
        omega
      · exact q.elim
    · exact q.elim
  · exact q.elim
end Sm
namespace Sm
open PySem PySem.Spec PyProof.Rows L2
variable {W : Wd} {X : Cx}
/-! ### comparisons of ints -/
def oLt (d e : D) (h : Hh) : R D := match d, e with
  | .int i, .int j => .ok (.bl (decide (i < j))) h
  | _, _ => .bad
def oLe (d e : D) (h : Hh) : R D := match d, e with
  | .int i, .int j => .ok (.bl (decide (i ≤ j))) h
  | _, _ => .bad
def oGt (d e : D) (h : Hh) : R D := match d, e with
  | .int i, .int j => .ok (.bl (decide (j < i))) h
  | _, _ => .bad
def oGe (d e : D) (h : Hh) : R D := match d, e with
  | .int i, .int j => .ok (.bl (decide (j ≤ i))) h
  | _, _ => .bad
theorem sop_lt : OpR X (compareOp .Lt) (rd2 W oLt) := OpR.weak op_lt fun x y H Q ⟨m, h, d, e, hh, rx, ry, q⟩ => by
  unfold oLt at q
  split at q
  · cases rx; cases ry; exact ⟨_, _, rfl, rfl, q.val hh (.bl _)⟩
  · exact q.elim
theorem sop_le : OpR X (compareOp .LtE) (rd2 W oLe) := OpR.weak op_le fun x y H Q ⟨m, h, d, e, hh, rx, ry, q⟩ => by
  unfold oLe at q
  split at q
  · cases rx; cases ry; exact ⟨_, _, rfl, rfl, q.val hh (.bl _)⟩
  · exact q.elim
theorem sop_gt : OpR X (compareOp .Gt) (rd2 W oGt) := OpR.weak op_gt fun x y H Q ⟨m, h, d, e, hh, rx, ry, q⟩ => by
  unfold oGt at q
  split at q
  · cases rx; cases ry; exact ⟨_, _, rfl, rfl, q.val hh (.bl _)⟩
  · exact q.elim
theorem sop_ge : OpR X (compareOp .GtE) (rd2 W oGe) := OpR.weak op_ge fun x y H Q ⟨m, h, d, e, hh, rx, ry, q⟩ => by
  unfold oGe at q
  split at q
  · cases rx; cases ry; exact ⟨_, _, rfl, rfl, q.val hh (.bl _)⟩
  · exact q.elim

/-! ### == of data -/
mutual
def dep : PyData → Nat
  | .list xs => depL xs + 1
  | .tuple xs => depL xs + 1
  | _ => 0
def depL : List PyData → Nat
  | [] => 0
  | x :: xs => max (dep x) (depL xs)
end
def allP (f : D → Option PyData) : List D → Option (List PyData)
  | [] => some []
  | d :: l => match f d, allP f l with
    | some x, some xs => some (x :: xs)
    | _, _ => none
def toP (h : Hh) : Nat → D → Option PyData
  | _, .non => some .none
  | _, .bl b => some (.bool b)
  | _, .int i => some (.int i)
  | _, .str x => if PyData.strOk x = true then some (.str x) else none
  | n + 1, .tup l => (allP (toP h n) l).map .tuple
  | n + 1, .ro l => (allP (toP h n) l).map .list
  | n + 1, .ref k => match h[k]? with
    | some (.lst l) => (allP (toP h n) l).map .list
    | _ => none
  | _, _ => none
def pEq (d e : D) (h : Hh) : R Bool := match toP h 8 d, toP h 8 e with
  | some a, some b => .ok (PyData.eqv a b) h
  | _, _ => .bad
def oEq (d e : D) (h : Hh) : R D := (pEq d e h).bind fun b h => .ok (.bl b) h
def oNe (d e : D) (h : Hh) : R D := (pEq d e h).bind fun b h => .ok (.bl (!b)) h
theorem allP_can {f : D → Option PyData} {c : PyData → Bool} {g : List PyData → Bool} (h0 : g [] = true) (h1 : ∀ x xs, g (x :: xs) = (c x && g xs)) (hf : ∀ d x, f d = some x → c x = true) : ∀ {l : List D} {xs : List PyData}, allP f l = some xs → g xs = true
  | [], xs, e => by
    simp only [allP, Option.some.injEq] at e
    subst e
    exact h0
  | d :: l, xs, e => by
    unfold allP at e
    cases e1 : f d with
    | none => rw [e1] at e; cases e
    | some x =>
      cases e2 : allP f l with
      | none => rw [e1, e2] at e; cases e
      | some r =>
        rw [e1, e2] at e
        cases e
        rw [h1, hf d x e1, allP_can h0 h1 hf e2]
        rfl
theorem toP_can {h : Hh} : ∀ (n : Nat) (d : D) (x : PyData), toP h n d = some x → PyData.canLay0 x = true
  | n, .non, x, e => by cases n <;> (simp only [toP, Option.some.injEq] at e; subst e; rfl)
  | n, .bl b, x, e => by cases n <;> (simp only [toP, Option.some.injEq] at e; subst e; rfl)
  | n, .int b, x, e => by cases n <;> (simp only [toP, Option.some.injEq] at e; subst e; rfl)
  | n, .str b, x, e => by
    have e' : (if PyData.strOk b = true then some (PyData.str b) else none) = some x := by cases n <;> simpa [toP] using e
    split at e'
    · rename_i c
      cases e'
      simpa [PyData.canLay0] using c
    · cases e'
  | 0, .tup l, x, e => by simp [toP] at e
  | 0, .ro l, x, e => by simp [toP] at e
  | 0, .ref l, x, e => by simp [toP] at e
  | 0, .ty l, x, e => by simp [toP] at e
  | n + 1, .ty l, x, e => by simp [toP] at e
  | n + 1, .tup l, x, e => by
    simp only [toP, Option.map_eq_some_iff] at e
    obtain ⟨xs, e1, e2⟩ := e
    subst e2
    have := allP_can (c := PyData.canLay0) (g := PyData.canLayAll0) rfl (fun _ _ => rfl) (fun d x => toP_can n d x) e1
    simpa [PyData.canLay0] using this
  | n + 1, .ro l, x, e => by
    simp only [toP, Option.map_eq_some_iff] at e
    obtain ⟨xs, e1, e2⟩ := e
    subst e2
    have := allP_can (c := PyData.canLay0) (g := PyData.canLayAll0) rfl (fun _ _ => rfl) (fun d x => toP_can n d x) e1
    simpa [PyData.canLay0] using this
  | n + 1, .ref k, x, e => by
    simp only [toP] at e
    split at e
    · simp only [Option.map_eq_some_iff] at e
      obtain ⟨xs, e1, e2⟩ := e
      subst e2
      have := allP_can (c := PyData.canLay0) (g := PyData.canLayAll0) rfl (fun _ _ => rfl) (fun d x => toP_can n d x) e1
      simpa [PyData.canLay0] using this
    · cases e
theorem toP_dep {h : Hh} : ∀ (n : Nat) (d : D) (x : PyData), toP h n d = some x → decide (PyData.depth x ≤ n) = true
  | n, .non, x, e => by cases n <;> (simp only [toP, Option.some.injEq] at e; subst e; simp [PyData.depth])
  | n, .bl b, x, e => by cases n <;> (simp only [toP, Option.some.injEq] at e; subst e; simp [PyData.depth])
  | n, .int b, x, e => by cases n <;> (simp only [toP, Option.some.injEq] at e; subst e; simp [PyData.depth])
  | n, .str b, x, e => by
    have e' : (if PyData.strOk b = true then some (PyData.str b) else none) = some x := by cases n <;> simpa [toP] using e
    split at e'
    · cases e'
      simp [PyData.depth]
    · cases e'
  | 0, .tup l, x, e => by simp [toP] at e
  | 0, .ro l, x, e => by simp [toP] at e
  | 0, .ref l, x, e => by simp [toP] at e
  | 0, .ty l, x, e => by simp [toP] at e
  | n + 1, .ty l, x, e => by simp [toP] at e
  | n + 1, .tup l, x, e => by
    simp only [toP, Option.map_eq_some_iff] at e
    obtain ⟨xs, e1, e2⟩ := e
    subst e2
    have := allP_can (c := fun x => decide (PyData.depth x ≤ n)) (g := fun xs => decide (PyData.depthAll xs ≤ n)) (by simp [PyData.depthAll]) (fun _ _ => by simp [PyData.depthAll, Nat.max_le, Bool.decide_and]) (fun d x => toP_dep n d x) e1
    (have h9 := of_decide_eq_true this; refine decide_eq_true ?_; simp only [PyData.depth]; omega)
  | n + 1, .ro l, x, e => by
    simp only [toP, Option.map_eq_some_iff] at e
    obtain ⟨xs, e1, e2⟩ := e
    subst e2
    have := allP_can (c := fun x => decide (PyData.depth x ≤ n)) (g := fun xs => decide (PyData.depthAll xs ≤ n)) (by simp [PyData.depthAll]) (fun _ _ => by simp [PyData.depthAll, Nat.max_le, Bool.decide_and]) (fun d x => toP_dep n d x) e1
    (have h9 := of_decide_eq_true this; refine decide_eq_true ?_; simp only [PyData.depth]; omega)
  | n + 1, .ref k, x, e => by
    simp only [toP] at e
    split at e
    · simp only [Option.map_eq_some_iff] at e
      obtain ⟨xs, e1, e2⟩ := e
      subst e2
      have := allP_can (c := fun x => decide (PyData.depth x ≤ n)) (g := fun xs => decide (PyData.depthAll xs ≤ n)) (by simp [PyData.depthAll]) (fun _ _ => by simp [PyData.depthAll, Nat.max_le, Bool.decide_and]) (fun d x => toP_dep n d x) e1
      (have h9 := of_decide_eq_true this; refine decide_eq_true ?_; simp only [PyData.depth]; omega)
    · cases e
theorem toP_shaped {h : Hh} {d : D} {x : PyData} (e : toP h 8 d = some x) : SeqAt.shaped x = true := by
  unfold SeqAt.shaped
  rw [toP_can 8 d x e, Bool.true_and]
  have := of_decide_eq_true (toP_dep 8 d x e)
  exact decide_eq_true (by omega)
theorem allP_dp {K : PySem.W.Frag} {m : List Addr} {H : Hp} {f : D → Option PyData} (hf : ∀ d v x, Rep K m H d v → f d = some x → Dp K H v x) : ∀ {l : List D} {vs : List V} {xs : List PyData}, RepL K m H l vs → allP f l = some xs → DpAll K H vs xs
  | _, _, xs, .nil, e => by
    simp only [allP, Option.some.injEq] at e
    subst e
    exact .nil
  | _, _, xs, .cons (d := d) (l := l) a r, e => by
    unfold allP at e
    cases e1 : f d with
    | none => rw [e1] at e; cases e
    | some x =>
      cases e2 : allP f l with
      | none => rw [e1, e2] at e; cases e
      | some s =>
        rw [e1, e2] at e
        cases e
        exact .cons (hf _ _ _ a e1) (allP_dp hf r e2)
theorem toP_dp {m : List Addr} {h : Hh} {H : Hp} {K : PySem.W.Frag} (hh : HRel K m h H) : ∀ (n : Nat) (d : D) (v : V) (x : PyData), Rep K m H d v → toP h n d = some x → Dp K H v x
  | n, .non, v, x, r, e => by cases r; cases n <;> (simp only [toP, Option.some.injEq] at e; subst e; exact .non)
  | n, .bl b, v, x, r, e => by cases r; cases n <;> (simp only [toP, Option.some.injEq] at e; subst e; exact .bl b)
  | n, .int b, v, x, r, e => by cases r; cases n <;> (simp only [toP, Option.some.injEq] at e; subst e; exact .int b)
  | n, .str b, v, x, r, e => by
    have e' : (if PyData.strOk b = true then some (PyData.str b) else none) = some x := by cases n <;> simpa [toP] using e
    cases r
    split at e'
    · cases e'
      exact .str b
    · cases e'
  | 0, .tup l, v, x, r, e => by simp [toP] at e
  | 0, .ro l, v, x, r, e => by simp [toP] at e
  | 0, .ref l, v, x, r, e => by simp [toP] at e
  | 0, .ty l, v, x, r, e => by simp [toP] at e
  | n + 1, .ty l, v, x, r, e => by simp [toP] at e
  | n + 1, .tup l, v, x, r, e => by
    simp only [toP, Option.map_eq_some_iff] at e
    obtain ⟨xs, e1, e2⟩ := e
    subst e2
    cases r with
    | tup h1 r1 => exact .tup h1 (allP_dp (fun d v x => toP_dp hh n d v x) r1 e1)
  | n + 1, .ro l, v, x, r, e => by
    simp only [toP, Option.map_eq_some_iff] at e
    obtain ⟨xs, e1, e2⟩ := e
    subst e2
    cases r with
    | ro h1 r1 => exact .lst h1.sq (allP_dp (fun d v x => toP_dp hh n d v x) r1 e1)
  | n + 1, .ref k, v, x, r, e => by
    simp only [toP] at e
    split at e
    · rename_i l el
      simp only [Option.map_eq_some_iff] at e
      obtain ⟨xs, e1, e2⟩ := e
      subst e2
      obtain ⟨a, ys, rfl, _, h1, r1⟩ := hh.lst r el
      exact .lst (SqL.of h1) (allP_dp (fun d v x => toP_dp hh n d v x) r1 e1)
    · cases e
theorem sop_eq (hK : X.K = W.K) (hu : X.A.units + 64 < cLine) : OpR X (compareOp .Eq) (rd2 W oEq) := OpR.weak (op_eqD hu) fun x y H Q ⟨m, h, d, e, hh, rx, ry, q⟩ => by
  unfold oEq pEq at q
  split at q
  · rename_i a b ea eb
    rw [hK]
    exact ⟨a, b, toP_dp hh 8 d x a rx ea, toP_dp hh 8 e y b ry eb, toP_shaped ea, toP_shaped eb, q.val hh (.bl _)⟩
  · exact q.elim
theorem sop_ne (hK : X.K = W.K) (hu : X.A.units + 64 < cLine) : OpR X (compareOp .NotEq) (rd2 W oNe) := OpR.weak (op_neD hu) fun x y H Q ⟨m, h, d, e, hh, rx, ry, q⟩ => by
  unfold oNe pEq at q
  split at q
  · rename_i a b ea eb
    rw [hK]
    exact ⟨a, b, toP_dp hh 8 d x a rx ea, toP_dp hh 8 e y b ry eb, toP_shaped ea, toP_shaped eb, q.val hh (.bl _)⟩
  · exact q.elim

/-! ### builtins -/
def fLen (ds : List D) (h : Hh) : R D := match ds with
  | [.tup l] => .ok (.int l.length) h
  | [.ro l] => .ok (.int l.length) h
  | [.str x] => if x.length ≤ sz then .ok (.int x.length) h else .bad
  | [.ref n] => match h[n]? with
    | some (.lst l) => .ok (.int l.length) h
    | _ => .bad
  | _ => .bad
theorem one_rep {K : PySem.W.Frag} {m : List Addr} {H : Hp} {d : D} {xs : List V} (r : RepL K m H [d] xs) : ∃ v, xs = [v] ∧ Rep K m H d v := by
  cases r with
  | cons a r => cases r; exact ⟨_, rfl, a⟩
theorem two_rep {K : PySem.W.Frag} {m : List Addr} {H : Hp} {d e : D} {xs : List V} (r : RepL K m H [d, e] xs) : ∃ v w, xs = [v, w] ∧ Rep K m H d v ∧ Rep K m H e w := by
  cases r with
  | cons a r =>
    obtain ⟨w, rfl, b⟩ := one_rep r
    exact ⟨_, _, rfl, a, b⟩
theorem sc_len (hK : X.K = W.K) : CallR X (.builtin "len") (rdN W fLen) := CallR.weak call_len fun xs H Q ⟨m, h, ds, hh, r, q⟩ => by
  unfold fLen at q
  rw [hK]
  split at q
  · obtain ⟨v, rfl, rv⟩ := one_rep r
    cases rv with
    | tup h1 r1 => exact ⟨_, _, rfl, .inr ⟨_, h1, rfl⟩, by rw [← r1.length]; exact q.val hh (.int _)⟩
  · obtain ⟨v, rfl, rv⟩ := one_rep r
    cases rv with
    | ro h1 r1 => exact ⟨_, _, rfl, .inl ⟨_, h1.sq, rfl⟩, by rw [← r1.length]; exact q.val hh (.int _)⟩
  · split at q
    · rename_i c
      obtain ⟨v, rfl, rv⟩ := one_rep r
      cases rv
      exact ⟨_, _, rfl, ⟨sz_line c, rfl⟩, q.val hh (.int _)⟩
    · exact q.elim
  · split at q
    · rename_i e
      obtain ⟨v, rfl, rv⟩ := one_rep r
      obtain ⟨a, ys, rfl, _, h1, r1⟩ := hh.lst rv e
      exact ⟨_, _, rfl, .inl ⟨_, SqL.of h1, rfl⟩, by rw [← r1.length]; exact q.val hh (.int _)⟩
    · exact q.elim
  · exact q.elim
def fAbs (ds : List D) (h : Hh) : R D := match ds with
  | [.int i] => .ok (.int (if i < 0 then -i else i)) h
  | _ => .bad
theorem sc_abs : CallR X (.builtin "abs") (rdN W fAbs) := CallR.weak call_abs fun xs H Q ⟨m, h, ds, hh, r, q⟩ => by
  unfold fAbs at q
  split at q
  · obtain ⟨v, rfl, rv⟩ := one_rep r
    cases rv
    exact ⟨_, rfl, q.val hh (.int _)⟩
  · exact q.elim
def fMax2 (ds : List D) (h : Hh) : R D := match ds with
  | [.int i, .int j] => .ok (.int (if j > i then j else i)) h
  | _ => .bad
def fMin2 (ds : List D) (h : Hh) : R D := match ds with
  | [.int i, .int j] => .ok (.int (if j < i then j else i)) h
  | _ => .bad
theorem sc_max2 (hc : X.calm = true) : CallR X (.builtin "max") (rdN W fMax2) := CallR.weak (call_max2 hc) fun xs H Q ⟨m, h, ds, hh, r, q⟩ => by
  unfold fMax2 at q
  split at q
  · obtain ⟨v, w, rfl, rv, rw_⟩ := two_rep r
    cases rv
    cases rw_
    exact ⟨_, _, rfl, q.val hh (.int _)⟩
  · exact q.elim
theorem sc_min2 (hc : X.calm = true) : CallR X (.builtin "min") (rdN W fMin2) := CallR.weak (call_min2 hc) fun xs H Q ⟨m, h, ds, hh, r, q⟩ => by
  unfold fMin2 at q
  split at q
  · obtain ⟨v, w, rfl, rv, rw_⟩ := two_rep r
    cases rv
    cases rw_
    exact ⟨_, _, rfl, q.val hh (.int _)⟩
  · exact q.elim
def fInt (ds : List D) (h : Hh) : R D := match ds with
  | [.int i] => .ok (.int i) h
  | [.bl k] => .ok (.int (if k then 1 else 0)) h
  | _ => .bad
theorem sc_int : CallR X (.type "int") (rdN W fInt) := CallR.weak call_int1 fun xs H Q ⟨m, h, ds, hh, r, q⟩ => by
  unfold fInt at q
  split at q
  · obtain ⟨v, rfl, rv⟩ := one_rep r
    cases rv
    exact .inl ⟨_, rfl, q.val hh (.int _)⟩
  · obtain ⟨v, rfl, rv⟩ := one_rep r
    cases rv
    exact .inr ⟨_, rfl, q.val hh (.int _)⟩
  · exact q.elim
def fTuple (ds : List D) (h : Hh) : R D := match ds with
  | [.tup l] => .ok (.tup l) h
  | [.ro l] => .ok (.tup l) h
  | [.ref n] => match h[n]? with
    | some (.lst l) => .ok (.tup l) h
    | _ => .bad
  | _ => .bad
theorem sc_tuple (hK : X.K = W.K) : CallR X (.type "tuple") (rdN W fTuple) := CallR.weak call_tuple_of fun xs H Q ⟨m, h, ds, hh, r, q⟩ => by
  unfold fTuple at q
  rw [hK]
  split at q
  · obtain ⟨v, rfl, rv⟩ := one_rep r
    cases rv with
    | tup h1 r1 => exact ⟨_, _, rfl, .inr ⟨h1, q.val hh (.tup h1 r1)⟩⟩
  · obtain ⟨v, rfl, rv⟩ := one_rep r
    cases rv with
    | ro h1 r1 => exact ⟨_, _, rfl, .inl ⟨h1.sq, fun p hp => q.newT hh r1 hp⟩⟩
  · split at q
    · rename_i e
      obtain ⟨v, rfl, rv⟩ := one_rep r
      obtain ⟨a, ys, rfl, _, h1, r1⟩ := hh.lst rv e
      exact ⟨_, _, rfl, .inl ⟨SqL.of h1, fun p hp => q.newT hh r1 hp⟩⟩
    · exact q.elim
  · exact q.elim
def fList (ds : List D) (h : Hh) : R D := match ds with
  | [d] => (itemsOf d h).bind fun l h => .ok (.ref h.length) (h ++ [.lst l])
  | _ => .bad
theorem sc_list (hK : X.K = W.K) : CallR X (.type "list") (rdN W fList) := CallR.weak call_list_of fun xs H Q ⟨m, h, ds, hh, r, q⟩ => by
  unfold fList at q
  rw [hK]
  split at q
  · obtain ⟨v, rfl, rv⟩ := one_rep r
    obtain ⟨a, ys, l, rfl, hq, rl, q2⟩ := q.bind.items hh rv
    exact ⟨_, _, rfl, hq.symm, fun p hp => q2.newL hh rl hp⟩
  · exact q.elim
def asBs : List D → Option (List Bool)
  | [] => some []
  | .bl b :: l => (asBs l).map (b :: ·)
  | _ :: _ => none
def asIs : List D → Option (List Int)
  | [] => some []
  | .int b :: l => (asIs l).map (b :: ·)
  | _ :: _ => none
theorem asBs_eq : ∀ {l : List D} {bs : List Bool}, asBs l = some bs → l = bs.map D.bl
  | [], bs, e => by simp only [asBs, Option.some.injEq] at e; subst e; rfl
  | .bl b :: l, bs, e => by
    simp only [asBs, Option.map_eq_some_iff] at e
    obtain ⟨r, e1, e2⟩ := e
    subst e2
    rw [asBs_eq e1]
    rfl
  | .non :: l, bs, e | .int _ :: l, bs, e | .str _ :: l, bs, e | .tup _ :: l, bs, e | .ref _ :: l, bs, e | .ro _ :: l, bs, e | .ty _ :: l, bs, e => by simp [asBs] at e
theorem asIs_eq : ∀ {l : List D} {bs : List Int}, asIs l = some bs → l = bs.map D.int
  | [], bs, e => by simp only [asIs, Option.some.injEq] at e; subst e; rfl
  | .int b :: l, bs, e => by
    simp only [asIs, Option.map_eq_some_iff] at e
    obtain ⟨r, e1, e2⟩ := e
    subst e2
    rw [asIs_eq e1]
    rfl
  | .non :: l, bs, e | .bl _ :: l, bs, e | .str _ :: l, bs, e | .tup _ :: l, bs, e | .ref _ :: l, bs, e | .ro _ :: l, bs, e | .ty _ :: l, bs, e => by simp [asIs] at e
@[simp] theorem asBs_map (bs : List Bool) : asBs (bs.map D.bl) = some bs := by
  induction bs with
  | nil => rfl
  | cons b bs ih => simp [asBs, ih]
@[simp] theorem asIs_map (bs : List Int) : asIs (bs.map D.int) = some bs := by
  induction bs with
  | nil => rfl
  | cons b bs ih => simp [asIs, ih]
def lstOf (d : D) (h : Hh) : Option (List D) := match d with
  | .ro l => some l
  | .ref n => match h[n]? with
    | some (.lst l) => some l
    | _ => none
  | _ => none
theorem lstOf_rep {K : PySem.W.Frag} {m : List Addr} {h : Hh} {H : Hp} {d : D} {v : V} {l : List D} (hh : HRel K m h H) (r : Rep K m H d v) (e : lstOf d h = some l) : ∃ a xs, v = .ref a ∧ SqL K H a xs ∧ RepL K m H l xs := by
  cases r with
  | ro h1 r1 =>
    simp only [lstOf, Option.some.injEq] at e
    subst e
    exact ⟨_, _, rfl, h1.sq, r1⟩
  | @ref n a hn =>
    simp only [lstOf] at e
    split at e
    · rename_i k ek
      cases e
      obtain ⟨b, ys, e1, _, h1, r1⟩ := hh.lst (.ref hn) ek
      exact ⟨b, ys, e1, SqL.of h1, r1⟩
    · cases e
  | _ => simp [lstOf] at e
def fAll (ds : List D) (h : Hh) : R D := match ds with
  | [d] => match (lstOf d h).bind asBs with
    | some bs => .ok (.bl (bs.all id)) h
    | none => .bad
  | _ => .bad
def fAny (ds : List D) (h : Hh) : R D := match ds with
  | [d] => match (lstOf d h).bind asBs with
    | some bs => .ok (.bl (bs.any id)) h
    | none => .bad
  | _ => .bad
theorem bools_of {K : PySem.W.Frag} {m : List Addr} {h : Hh} {H : Hp} {d : D} {v : V} {bs : List Bool} (hh : HRel K m h H) (r : Rep K m H d v) (e : (lstOf d h).bind asBs = some bs) : ∃ a, v = .ref a ∧ SqL K H a (bs.map V.bl) := by
  rw [Option.bind_eq_some_iff] at e
  obtain ⟨l, e1, e2⟩ := e
  obtain ⟨a, xs, e3, h1, r1⟩ := lstOf_rep hh r e1
  rw [asBs_eq e2] at r1
  exact ⟨a, e3, r1.toBls ▸ h1⟩
theorem ints_of {K : PySem.W.Frag} {m : List Addr} {h : Hh} {H : Hp} {d : D} {v : V} {bs : List Int} (hh : HRel K m h H) (r : Rep K m H d v) (e : (lstOf d h).bind asIs = some bs) : ∃ a, v = .ref a ∧ SqL K H a (bs.map V.int) := by
  rw [Option.bind_eq_some_iff] at e
  obtain ⟨l, e1, e2⟩ := e
  obtain ⟨a, xs, e3, h1, r1⟩ := lstOf_rep hh r e1
  rw [asIs_eq e2] at r1
  exact ⟨a, e3, r1.toInts ▸ h1⟩
theorem sc_all (hK : X.K = W.K) (hc : X.calm = true) : CallR X (.builtin "all") (rdN W fAll) := CallR.weak (cr_all hc) fun xs H Q ⟨m, h, ds, hh, r, q⟩ => by
  unfold fAll at q
  split at q
  · obtain ⟨v, rfl, rv⟩ := one_rep r
    split at q
    · rename_i bs e
      obtain ⟨a, rfl, h1⟩ := bools_of hh rv e
      exact ⟨a, bs, rfl, hK ▸ h1, q.val hh (.bl _)⟩
    · exact q.elim
  · exact q.elim
theorem sc_any (hK : X.K = W.K) (hc : X.calm = true) : CallR X (.builtin "any") (rdN W fAny) := CallR.weak (cr_any hc) fun xs H Q ⟨m, h, ds, hh, r, q⟩ => by
  unfold fAny at q
  split at q
  · obtain ⟨v, rfl, rv⟩ := one_rep r
    split at q
    · rename_i bs e
      obtain ⟨a, rfl, h1⟩ := bools_of hh rv e
      exact ⟨a, bs, rfl, hK ▸ h1, q.val hh (.bl _)⟩
    · exact q.elim
  · exact q.elim
def fSum (ds : List D) (h : Hh) : R D := match ds with
  | [d] => match (lstOf d h).bind asIs with
    | some ns => .ok (.int ns.sum) h
    | none => .bad
  | _ => .bad
theorem sc_sum (hK : X.K = W.K) (hc : X.calm = true) : CallR X (.builtin "sum") (rdN W fSum) := CallR.weak (cr_sum hc) fun xs H Q ⟨m, h, ds, hh, r, q⟩ => by
  unfold fSum at q
  split at q
  · obtain ⟨v, rfl, rv⟩ := one_rep r
    split at q
    · rename_i bs e
      obtain ⟨a, rfl, h1⟩ := ints_of hh rv e
      exact ⟨a, bs, rfl, hK ▸ h1, q.val hh (.int _)⟩
    · exact q.elim
  · exact q.elim
/-- isinstance of built-in classes -/
def tyNm (d : D) (h : Hh) : Option String := match d with
  | .non => some "NoneType"
  | .bl _ => some "bool"
  | .int _ => some "int"
  | .str _ => some "str"
  | .tup _ => some "tuple"
  | .ref n => match h[n]? with
    | some (.lst _) => some "list"
    | some (.dic _) => some "dict"
    | none => none
  | _ => none
def subTy (a b : String) : Option Bool := if a = b then some true else match b with
  | "int" => some (decide (a = "bool"))
  | "bool" => some false
  | "str" => some false
  | "tuple" => some false
  | "list" => some false
  | "dict" => some false
  | _ => none
def tyNms : List String := ["NoneType", "bool", "int", "str", "tuple", "list", "dict"]
theorem subTy_kit : ∀ a ∈ tyNms, ∀ b ∈ tyNms.tail, ∀ r, subTy a b = some r → kitB a b = some r := by decide +kernel
def fIsi (ds : List D) (h : Hh) : R D := match ds with
  | [d, .ty n] => match tyNm d h with
    | some a => if n ∈ tyNms.tail then match subTy a n with
      | some r => .ok (.bl r) h
      | none => .bad else .bad
    | none => .bad
  | _ => .bad
theorem tyNm_ok {K : PySem.W.Frag} {m : List Addr} {h : Hh} {H : Hp} {d : D} {v : V} {a : String} (hh : HRel K m h H) (r : Rep K m H d v) (e : tyNm d h = some a) : a ∈ tyNms ∧ TyX K H v (.type a) := by
  cases r with
  | non => simp only [tyNm, Option.some.injEq] at e; subst e; exact ⟨by decide, .base .non⟩
  | bl b => simp only [tyNm, Option.some.injEq] at e; subst e; exact ⟨by decide, .base (.bl b)⟩
  | int b => simp only [tyNm, Option.some.injEq] at e; subst e; exact ⟨by decide, .base (.int b)⟩
  | str b => simp only [tyNm, Option.some.injEq] at e; subst e; exact ⟨by decide, .base (.str b)⟩
  | tup h1 r1 =>
    simp only [tyNm, Option.some.injEq] at e
    subst e
    refine ⟨by decide, ?_⟩
    rcases h1 with (h1 | ⟨o, h1⟩) | ⟨o, its, n, h1, h2, _⟩
    · exact .base (.tup h1)
    · exact .fTuple h1
    · exact .kTuple h1 h2
  | ro _ _ => simp [tyNm] at e
  | ty _ => simp [tyNm] at e
  | @ref n b hn =>
    simp only [tyNm] at e
    split at e
    · rename_i l el
      cases e
      obtain ⟨xs, h1, _⟩ := hh.obj n b _ hn el
      exact ⟨by decide, .base (.lst h1)⟩
    · rename_i l el
      cases e
      obtain ⟨xs, h1, _⟩ := hh.obj n b _ hn el
      exact ⟨by decide, .base (.dK h1)⟩
    · cases e
theorem sc_isi (hK : X.K = W.K) : CallR X (.builtin "isinstance") (rdN W fIsi) := CallR.weak call_isi fun xs H Q ⟨m, h, ds, hh, r, q⟩ => by
  unfold fIsi at q
  split at q
  · obtain ⟨v, w, rfl, rv, rw_⟩ := two_rep r
    cases rw_
    split at q
    · rename_i a ea
      split at q
      · rename_i hn
        split at q
        · rename_i b eb
          obtain ⟨ha, ht⟩ := tyNm_ok hh rv ea
          exact ⟨_, _, _, _, b, rfl, .ty _, hK ▸ ht, kit_ty (subTy_kit a ha _ hn b eb), q.val hh (.bl _)⟩
        · exact q.elim
      · exact q.elim
    · exact q.elim
  · exact q.elim
theorem se_ty {x : Str} {n : String} {pos : Pos} (hg : Gl X x) (hm : X.mg x = none) (hv : bootBuiltins x = some (.type n)) (hn : x ≠ "__name__" := by decide) (hd : (x == ("__debug__" : Str)) = false := by decide) : PE X (.Name x pos) (rdE W (eC (.ty n))) :=
  se_const (pe_bltn (v := .ty n) hg hm hv rfl hn hd) fun _ _ _ => .ty n
theorem se_glob {x : Str} {v : V} {d : D} {u : Value} {pos : Pos} (hg : Gl X x) (hm : X.mg x = some u) (r : RelV v u) (rd : ∀ (K : PySem.W.Frag) (m : List Addr) (H : Hp), Rep K m H d v) (hd : (x == ("__debug__" : Str)) = false := by decide) : PE X (.Name x pos) (rdE W (eC d)) :=
  se_const (pe_glob hg hm r hd) rd
end Sm
namespace Sm
open PySem PySem.Spec PyProof.Rows L2
variable {W : Wd} {X : Cx}
/-! ### methods of lists -/
def oAppend (d : D) (ds : List D) (h : Hh) : R D := match d, ds with
  | .ref n, [x] => match h[n]? with
    | some (.lst l) => if l.length < sz then .ok .non (h.set n (.lst (l ++ [x]))) else .bad
    | _ => .bad
  | _, _ => .bad
def oPop (d : D) (ds : List D) (h : Hh) : R D := match d, ds with
  | .ref n, [] => match h[n]? with
    | some (.lst l) => match l.getLast? with
      | some x => .ok x (h.set n (.lst l.dropLast))
      | none => .bad
    | _ => .bad
  | _, _ => .bad
def oExtend (d : D) (ds : List D) (h : Hh) : R D := match d, ds with
  | .ref n, [.ref k] => match h[n]?, h[k]? with
    | some (.lst l), some (.lst r) => if l.length + r.length ≤ sz then .ok .non (h.set n (.lst (l ++ r))) else .bad
    | _, _ => .bad
  | _, _ => .bad
theorem MtR.weak {id : String} {r r' : V → List V → Hp → VK → Prop} (h : MtR X id r) (k : ∀ x xs H Q, r' x xs H Q → r x xs H Q) : MtR X id r' := fun pins s σ H x xs v us Q I rx rs q => h pins s σ H x xs v us Q I rx rs (k _ _ _ _ q)
theorem sm_append : MtR X "list.append" (rdM W oAppend) := MtR.weak mt_append fun x xs H Q ⟨m, h, d, ds, hh, rx, rs, q⟩ => by
  unfold oAppend at q
  split at q
  · split at q
    · rename_i l el
      split at q
      · rename_i c
        obtain ⟨v, rfl, rv⟩ := one_rep rs
        obtain ⟨a, ys, rfl, ha, h1, r1⟩ := hh.lst rx el
        exact ⟨a, ys, v, rfl, rfl, h1, by rw [← r1.length]; exact sz_lt c, q.wrL hh ha (r1.append (.cons rv .nil)) _ .non⟩
      · exact q.elim
    · exact q.elim
  · exact q.elim
theorem sm_pop : MtR X "list.pop" (rdM W oPop) := MtR.weak mt_pop fun x xs H Q ⟨m, h, d, ds, hh, rx, rs, q⟩ => by
  unfold oPop at q
  split at q
  · split at q
    · rename_i l el
      split at q
      · rename_i y ey
        cases rs
        obtain ⟨a, ys, rfl, ha, h1, r1⟩ := hh.lst rx el
        rw [List.getLast?_eq_getElem?] at ey
        obtain ⟨v, hv, rv⟩ := r1.get ey
        rw [r1.length] at hv
        exact ⟨a, ys, v, rfl, rfl, h1, hv, q.wrL hh ha r1.dropLast _ (rv.mono (List.prefix_refl _) (hh.ext_at ha))⟩
      · exact q.elim
    · exact q.elim
  · exact q.elim
theorem sm_extend : MtR X "list.extend" (rdM W oExtend) := MtR.weak mt_extend fun x xs H Q ⟨m, h, d, ds, hh, rx, rs, q⟩ => by
  unfold oExtend at q
  split at q
  · split at q
    · rename_i l el r er
      split at q
      · rename_i c
        obtain ⟨v, rfl, rv⟩ := one_rep rs
        obtain ⟨a, ys, rfl, ha, h1, r1⟩ := hh.lst rx ‹_›
        obtain ⟨b, zs, rfl, hb, h2, r2⟩ := hh.lst rv ‹_›
        exact ⟨a, b, ys, zs, rfl, rfl, h1, h2, by rw [← r1.length, ← r2.length]; exact sz_line c, q.wrL hh ha (r1.append r2) _ .non⟩
      · exact q.elim
    · exact q.elim
  · exact q.elim
/-! ### subscripts -/
def oIx (d e : D) (h : Hh) : R D := match d, e with
  | .tup l, .int i => match atI l i with
    | some x => .ok x h
    | none => .bad
  | .ro l, .int i => match atI l i with
    | some x => .ok x h
    | none => .bad
  | .ref n, .int i => match h[n]? with
    | some (.lst l) => match atI l i with
      | some x => .ok x h
      | none => .bad
    | _ => .bad
  | .str z, .int i => if z.length ≤ sz then match atI z.cps.toList i with
      | some c => .ok (.str ⟨#[c]⟩) h
      | none => .bad else .bad
  | _, _ => .bad
theorem RepL.atI {K : PySem.W.Frag} {m : List Addr} {H : Hp} {l : List D} {xs : List V} {i : Int} {d : D} (r : RepL K m H l xs) (e : L2.atI l i = some d) : ∃ v, L2.atI xs i = some v ∧ Rep K m H d v := by
  unfold L2.atI at e ⊢
  rw [Option.bind_eq_some_iff] at e
  obtain ⟨j, e1, e2⟩ := e
  obtain ⟨v, h1, h2⟩ := r.get e2
  refine ⟨v, ?_, h2⟩
  rw [← r.length, e1]
  exact h1
theorem sx_ix (hK : X.K = W.K) : IxR X (rd2 W oIx) := fun value slice pins s σ H x y v u Q I rx ry ⟨m, h, d, e, hh, dx, dy, q⟩ hs => by
  refine ix_seq value slice pins s σ H x y v u Q I rx ry ?_ hs
  unfold oIx at q
  unfold rIx
  rw [hK]
  split at q
  · split at q
    · rename_i z ez
      cases dy
      cases dx with
      | tup h1 r1 =>
        obtain ⟨w, hw, rw_⟩ := r1.atI ez
        exact .inr (.inl ⟨_, _, _, w, rfl, rfl, h1, hw, q.val hh rw_⟩)
    · exact q.elim
  · split at q
    · rename_i z ez
      cases dy
      cases dx with
      | ro h1 r1 =>
        obtain ⟨w, hw, rw_⟩ := r1.atI ez
        exact .inl ⟨_, _, _, w, rfl, rfl, h1.sq, hw, q.val hh rw_⟩
    · exact q.elim
  · split at q
    · rename_i l el
      split at q
      · rename_i z ez
        cases dy
        obtain ⟨a, ys, rfl, ha, h1, r1⟩ := hh.lst dx el
        obtain ⟨w, hw, rw_⟩ := r1.atI ez
        exact .inl ⟨_, _, _, w, rfl, rfl, SqL.of h1, hw, q.val hh rw_⟩
      · exact q.elim
    · exact q.elim
  · split at q
    · rename_i hz
      split at q
      · rename_i c ec
        cases dx
        cases dy
        exact .inr (.inr ⟨_, _, c, rfl, rfl, sz_line hz, ec, q.val hh (.str _)⟩)
      · exact q.elim
    · exact q.elim
  · exact q.elim
def oSet (o i d : D) (h : Hh) : R Unit := match o, i with
  | .ref n, .int k => match h[n]? with
    | some (.lst l) => match ixN l.length k with
      | some j => .ok () (h.set n (.lst (l.set j d)))
      | none => .bad
    | _ => .bad
  | _, _ => .bad
theorem sx_set : PSet X (rdSet W oSet) := fun pins s σ H o i v ov iv u Q I ro ri rv ⟨m, h, od, id, d, hh, dx, dy, dz, q⟩ => by
  refine set_list pins s σ H o i v ov iv u Q I ro ri rv ?_
  unfold oSet at q
  split at q
  · split at q
    · rename_i l el
      split at q
      · rename_i j ej
        cases dy
        obtain ⟨a, ys, rfl, ha, h1, r1⟩ := hh.lst dx el
        exact ⟨a, ys, _, j, rfl, rfl, h1, by rw [← r1.length]; exact ej, q.wrL hh ha (r1.set dz j)⟩
      · exact q.elim
    · exact q.elim
  · exact q.elim
/-! ### slices -/
def cutD (xs : List D) (lo hi : Option Int) : List D := (xs.drop (HT.sIx xs.length 0 lo)).take (HT.sIx xs.length xs.length hi - HT.sIx xs.length 0 lo)
theorem RepL.cut {K : PySem.W.Frag} {m : List Addr} {H : Hp} {l : List D} {xs : List V} (r : RepL K m H l xs) (lo hi : Option Int) : RepL K m H (cutD l lo hi) (cutV xs lo hi) := by
  unfold cutD cutV
  rw [r.length]
  exact (r.drop _).take _
theorem cutD_whole {l : List D} {lo hi : Option Int} (h : HT.sIx l.length 0 lo = 0 ∧ HT.sIx l.length l.length hi = l.length) : cutD l lo hi = l := by
  unfold cutD
  rw [h.1, h.2]
  simp
def oSl (d : D) (lo hi : Option Int) (h : Hh) : R D := match d with
  | .tup l => .ok (.tup (cutD l lo hi)) h
  | .ro l => .ok (.ref h.length) (h ++ [.lst (cutD l lo hi)])
  | .ref n => match h[n]? with
    | some (.lst l) => .ok (.ref h.length) (h ++ [.lst (cutD l lo hi)])
    | _ => .bad
  | _ => .bad
theorem SlR.weak {r r' : V → Option Int → Option Int → Hp → VK → Prop} (h : SlR X r) (k : ∀ x lo hi H Q, r' x lo hi H Q → r x lo hi H Q) : SlR X r' := fun pins s σ H x v vl vu lo hi sl Q I rx hs pl pu q => h pins s σ H x v vl vu lo hi sl Q I rx hs pl pu (k _ _ _ _ _ q)
theorem sx_sl (hK : X.K = W.K) : SlR X (rdSl W oSl) := SlR.weak (sl_tupA.or sl_list) fun x lo hi H Q ⟨m, h, d, hh, dx, q⟩ => by
  unfold oSl at q
  rw [hK]
  split at q
  · rename_i l
    cases dx with
    | tup h1 r1 =>
      refine .inl ⟨_, _, rfl, h1, fun e => ?_, fun _ p hp => q.newT hh (r1.cut lo hi) hp⟩
      rw [← r1.length] at e
      rw [cutD_whole e] at q
      exact q.val hh (.tup h1 r1)
  · cases dx with
    | ro h1 r1 => exact .inr ⟨_, _, rfl, h1.sq, fun p hp => q.newL hh (r1.cut lo hi) hp⟩
  · split at q
    · rename_i l el
      obtain ⟨a, ys, rfl, ha, h1, r1⟩ := hh.lst dx el
      exact .inr ⟨_, _, rfl, SqL.of h1, fun p hp => q.newL hh (r1.cut lo hi) hp⟩
    · exact q.elim
  · exact q.elim
/-! ### x[::-1] -/
theorem fm_all {α β : Type} {f : α → Option β} {g : α → β} : ∀ {l : List α}, (∀ k ∈ l, f k = some (g k)) → l.filterMap f = l.map g
  | [], _ => rfl
  | a :: l, h => by
    rw [List.filterMap_cons, h a List.mem_cons_self, List.map_cons, fm_all fun k hk => h k (List.mem_cons_of_mem _ hk)]
theorem rev_pick (xs : Array Value) : ((List.range xs.size).filterMap fun (k : Nat) => xs[(((xs.size : Int) - 1) + (k : Int) * (-1)).toNat]?).toArray = xs.toList.reverse.toArray := by
  congr 1
  refine List.ext_getElem? fun i => ?_
  have e : ((List.range xs.size).filterMap fun (k : Nat) => xs[(((xs.size : Int) - 1) + (k : Int) * (-1)).toNat]?) = (List.range xs.size).map fun (k : Nat) => xs.toList.reverse[k]?.getD .none := by
    refine fm_all fun k hk => ?_
    have hk' := List.mem_range.mp hk
    have : (((xs.size : Int) - 1) + (k : Int) * (-1)).toNat = xs.size - 1 - k := by omega
    rw [this]
    have h2 : xs.toList.reverse[k]? = xs[xs.size - 1 - k]? := by
      rw [List.getElem?_reverse (by simpa using hk')]
      simp
    rw [h2, Array.getElem?_eq_getElem (by omega)]
    rfl
  rw [e, List.getElem?_map]
  by_cases hi : i < xs.size
  · rw [List.getElem?_range hi]
    have : i < xs.toList.reverse.length := by simpa using hi
    simp only [Option.map_some]
    rw [List.getElem?_eq_getElem this]
    rfl
  · rw [List.getElem?_eq_none (by simpa using hi), List.getElem?_eq_none (by simpa using hi)]
    rfl
section
variable {prog : Program} {w : World} {A : Around} {E : Value → Shared → Prop} {s : Shared}
open HT in
theorem slice_back {sl : Addr} {vl vu vs : Value} {n : Nat} {Q : Int × Int × Nat → Shared → Prop} (hs : s.heap.IsSliceOf sl vl vu vs) (pl : IsPart vl none) (pu : IsPart vu none) (ps : IsPart vs (some (-1)))
    (h : Q ((n : Int) - 1, -1, n) s) : wpAny (model prog w) A (Builtin.Slice.sliceApplied (.ref sl) (pure (n : Int))) Q E s := by
  obtain ⟨os, hos, hcs, hds⟩ := id hs
  unfold Builtin.Slice.sliceApplied Builtin.Slice.sliceFields
  refine wpAny_bind (wpAny_bind (wpAny_field hos hds (x := vl) rfl (wpAny_bind (wpAny_field hos hds (x := vu) rfl (wpAny_bind (wpAny_field hos hds (x := vs) rfl (wpAny_pure ?_)))))))
  refine wpAny_bind (slicePart_ ps ?_)
  show wpAny _ _ (if ((-1 : Int) == 0) = true then _ else _) _ _ s
  rw [if_neg (by decide)]
  refine wpAny_bind (slicePart_ pl (wpAny_bind (slicePart_ pu (wpAny_bind (wpAny_pure ?_)))))
  show wpAny _ _ (match Builtin.Slice.sliceAdjust none none (-1) (n : Int) with | (lo, hi) => pure (lo, (-1 : Int), Builtin.Slice.slicePlaces lo hi (-1))) _ _ s
  have e : Builtin.Slice.sliceAdjust none none (-1) (n : Int) = ((n : Int) - 1, -1) := by
    unfold Builtin.Slice.sliceAdjust
    simp
  rw [e]
  show wpAny _ _ (pure ((n : Int) - 1, (-1 : Int), Builtin.Slice.slicePlaces ((n : Int) - 1) (-1) (-1))) _ _ s
  have e2 : Builtin.Slice.slicePlaces ((n : Int) - 1) (-1) (-1) = n := by
    unfold Builtin.Slice.slicePlaces
    simp
    try (split <;> omega)
  rw [e2]
  exact wpAny_pure h
open HT in
theorem getItem_tuple_back {t sl : Addr} {items : Array Value} {vl vu vs : Value} {Q : Value → Shared → Prop} (ht : IsTup s.heap t items) (hs : s.heap.IsSliceOf sl vl vu vs) (pl : IsPart vl none) (pu : IsPart vu none) (ps : IsPart vs (some (-1)))
    (h : Q (.ref s.heap.objs.size) { s with heap := s.heap.push { cls := .type "tuple", data := .seq items.toList.reverse.toArray } }) (hsz : items.size ≤ sizeLine) : wpAny (model prog w) A (getItem (.ref t) (.ref sl)) Q E s := by
  have htake : sizeOk (.seq items.toList.reverse.toArray) := by
    show items.toList.reverse.toArray.size ≤ sizeLine
    simpa using hsz
  obtain ⟨os, hos, hcs, hds⟩ := id hs
  have hTs : s.TypeIs (.ref sl) "slice" := ⟨os, hos, hcs⟩
  unfold getItem
  try with_reducible refine wpAny_holding ?_
  first | refine wpAny_bind (wpAny_pure ?_) | skip
  refine wpAny_bind (wpAny_sequenceKey ht.typeIs (by decide) ?_)
  refine wpAny_bind (wpAny_callSpecial?_slot (name := Str.ofString "__getitem__") ht.typeIs PyProof.Rows.slot_tuple_getitem (wpAny_call_entry PyProof.Rows.slot_tuple_getitem ht.typeIs entry_tuple_getitem ?_ (args_tuple_getitem _ _)))
  show wpAny _ _ (Builtin.Tuple.tupleItemsOf (.ref t) >>= _) _ _ s
  refine wpAny_bind (tupleItemsOf_ ht (wpAny_bind (wpAny_typeOf hTs ?_)))
  rw [if_pos (by decide)]
  refine wpAny_bind (slice_back hs pl pu ps ?_)
  have hno : ¬ (((((items.size : Int) - 1) == 0) && ((-1 : Int) == 1) && (items.size == items.size)) = true) := by simp
  show wpAny _ _ (if ((((items.size : Int) - 1) == 0) && ((-1 : Int) == 1) && (items.size == items.size)) = true then _ else _) _ _ s
  rw [if_neg hno, rev_pick]
  first
    | exact wpAny_bind (m := Builtin.Tuple.tupleExact _) (wpAny_newObj_type (wpAny_pure ⟨_, rfl, wpAny_pure h⟩) htake)
    | exact wpAny_bind (m := Builtin.Tuple.tupleExact _) (wpAny_newObj_type (wpAny_bind (wpAny_pure (wpAny_pure ⟨_, rfl, wpAny_pure h⟩))) htake)
    | exact wpAny_bind (wpAny_bind (m := Builtin.Tuple.tupleExact _) (wpAny_newObj_type (wpAny_pure (wpAny_pure ⟨_, rfl, wpAny_pure h⟩)) htake))
    | exact wpAny_bind (wpAny_bind (m := Builtin.Tuple.tupleExact _) (wpAny_newObj_type (wpAny_pure ⟨_, rfl, wpAny_pure h⟩) htake))
end
def oRev (d : D) (h : Hh) : R D := match d with
  | .tup l => .ok (.tup l.reverse) h
  | .ro l => .ok (.ref h.length) (h ++ [.lst l.reverse])
  | .ref n => match h[n]? with
    | some (.lst l) => .ok (.ref h.length) (h ++ [.lst l.reverse])
    | _ => .bad
  | _ => .bad
theorem vals_rev : ∀ {xs : List V} {us : List Value}, Vals xs us → Vals xs.reverse us.reverse
  | _, _, .nil => .nil
  | _, _, .cons a r => by
    rw [List.reverse_cons, List.reverse_cons]
    exact (vals_rev r).append (.cons a .nil)
theorem pe_back {e : Expr} {te : TE} {k : Nat} {p1 p2 p3 pos : Pos} (he : PE X e te) : PE X (.Subscript e (.Slice none none (some (.UnaryOp .USub (.Constant (.int 1) k p1) p2)) p3) pos)
    (fun σ H Q => te σ H fun x H1 => ∃ a xs, x = .ref a ∧ ((SqL X.K H1 a xs ∧ ∀ p, H1 p = none → Q (.ref p) (upd H1 p (.lst xs.reverse))) ∨ (SqT X.K H1 a xs ∧ ∀ p, H1 p = none → Q (.ref p) (upd H1 p (.tup xs.reverse))))) := by
  refine ⟨fun pins s σ H Q I h => Subscript_ (thn (he.run pins s σ H _ I h) fun v s1 ⟨x, H1, I1, r1, a, xs, ex, q1⟩ => ?_)⟩
  subst ex
  cases r1
  have hst : PO X (some (.UnaryOp .USub (.Constant (.int 1) k p1) p2)) (tPart (tUn (rU fun i => .int (-i)) (tC (.int 1)))) := po_some (pe_un un_neg pe_int)
  refine wpAny_Slice (thn (po_none.run pins s1 σ H1 (fun o H2 => o = none ∧ H2 = H1) I1 ⟨rfl, rfl⟩) fun vl s2 ⟨l, H2, I2, pl, el, e2⟩ => ?_)
  subst el e2
  refine thn (po_none.run pins s2 σ H2 (fun o H3 => o = none ∧ H3 = H2) I2 ⟨rfl, rfl⟩) fun vu s3 ⟨u, H3, I3, pu, eu, e3⟩ => ?_
  subst eu e3
  refine thn (hst.run pins s3 σ H3 (fun o H4 => o = some (-1) ∧ H4 = H3) I3 ⟨1, rfl, -1, rfl, rfl, rfl⟩) fun vs s4 ⟨o, H4, I4, ps, eo, e4⟩ => ?_
  subst eo e4
  have I5 : Inv X pins σ H4 { s4 with heap := s4.heap.push { cls := .type "slice", data := .fields #[vl, vu, vs] } } := I4.kept (t' := s4.toks) fun b ob q => Heap.get?_push_of_some _ q
  rcases q1 with ⟨hx, q⟩ | ⟨hx, q⟩
  · obtain ⟨its, r, ht, hz⟩ := I5.list hx
    have hlen := r.length
    refine tail_any (ops := [.ref a, .ref s4.heap.objs.size]) ht.isList.typeIs (PySem.slot_list_getitem.lookup) (wpAny_getItem_list_slice ht.isList (Heap.IsSliceOf.new _ vl vu vs) pl pu ps (by decide) ?_ (by rw [List.size_toArray]; omega)) (by with_unfolding_all rfl)
    rw [PySem.W.krv_pick]
    exact ⟨.ref _, _, I5.laid (t' := s4.toks) (o := .lst xs.reverse) (fun b ob q => Heap.get?_push_of_some _ q) (Nat.le_refl _) ⟨by rw [List.length_reverse]; exact hz, _, 0, vals_rev r, Heap.get?_push_size _ rfl⟩, rfl, q _ (I5.hok.fresh (Nat.le_refl _))⟩
  · obtain ⟨its, r, ht, hz⟩ := I5.tuple hx
    have hlen := r.length
    refine tail_any (ops := [.ref a, .ref s4.heap.objs.size]) ht.typeIs PyProof.Rows.slot_tuple_getitem.lookup (getItem_tuple_back ht (Heap.IsSliceOf.new _ vl vu vs) pl pu ps ?_ (by rw [List.size_toArray]; omega)) (by with_unfolding_all rfl)
    exact ⟨.ref _, _, I5.laid (t' := s4.toks) (o := .tup xs.reverse) (fun b ob q => Heap.get?_push_of_some _ q) (Nat.le_refl _) ⟨by rw [List.length_reverse]; exact hz, _, vals_rev r, IsTup.new _ _⟩, rfl, q _ (I5.hok.fresh (Nat.le_refl _))⟩
theorem se_rev {e : Expr} {f : FE} {k : Nat} {p1 p2 p3 pos : Pos} (hK : X.K = W.K) (he : PE X e (rdE W f)) : PE X (.Subscript e (.Slice none none (some (.UnaryOp .USub (.Constant (.int 1) k p1) p2)) p3) pos) (rdE W (eUn oRev f)) := by
  refine PE.weak (pe_back he) fun σ H Q ⟨m, l, h, hl, hh, q⟩ => ⟨m, l, h, hl, hh, q.bind.imp fun d h1 m1 H1 p e x q v r => ?_⟩
  unfold oRev at q
  rw [hK]
  split at q
  · cases r with
    | tup h2 r2 => exact ⟨_, _, rfl, .inr ⟨h2, fun p hp => q.newT x r2.reverse hp⟩⟩
  · cases r with
    | ro h2 r2 => exact ⟨_, _, rfl, .inl ⟨h2.sq, fun p hp => q.newL x r2.reverse hp⟩⟩
  · split at q
    · rename_i l el
      obtain ⟨a, ys, rfl, ha, h2, r2⟩ := x.lst r el
      exact ⟨_, _, rfl, .inl ⟨SqL.of h2, fun p hp => q.newL x r2.reverse hp⟩⟩
    · exact q.elim
  · exact q.elim
/-! ### zip -/
def pairs : List D → List D → List D
  | a :: l, b :: k => .tup [a, b] :: pairs l k
  | _, _ => []
def fZip (ds : List D) (h : Hh) : R Src := match ds with
  | [.tup a, .tup b] => .ok ⟨pairs a b, fun _ => true⟩ h
  | [.ref n, .ref k] => match h[n]?, h[k]? with
    | some (.lst a), some (.lst b) => .ok ⟨pairs a b, fun h => decide (h[n]? = some (.lst a) ∧ h[k]? = some (.lst b))⟩ h
    | _, _ => .bad
  | _ => .bad
def iZip (a : FA) : FI := fun l h => (a l h).bind fZip
theorem pairs_len : ∀ (a b : List D), (pairs a b).length = min a.length b.length
  | [], _ => by simp [pairs]
  | _ :: _, [] => by simp [pairs]
  | a :: l, b :: k => by simp only [pairs, List.length_cons, pairs_len l k]; omega
theorem pairs_get : ∀ (a b : List D) (i : Nat) (x y : D), a[i]? = some x → b[i]? = some y → (pairs a b)[i]? = some (.tup [x, y])
  | [], _, _, _, _, h, _ => by simp at h
  | _ :: _, [], _, _, _, _, h => by simp at h
  | a :: l, b :: k, 0, x, y, h, h' => by simp at h h'; subst h h'; rfl
  | a :: l, b :: k, i + 1, x, y, h, h' => pairs_get l k i x y (by simpa using h) (by simpa using h')
theorem pair_step {K : PySem.W.Frag} {m : List Addr} {h : Hh} {H : Hp} {a b : List D} {xs ys : List V} {i : Nat} {x y : V} {T : Addr} (hh : HRel K m h H) (r1 : RepL K m H a xs) (r2 : RepL K m H b ys) (hx : xs[i]? = some x) (hy : ys[i]? = some y) (hT : H T = none) :
    ∃ d, (pairs a b)[i]? = some d ∧ Ext H (upd H T (.tup [x, y])) ∧ HRel K m h (upd H T (.tup [x, y])) ∧ Rep K m (upd H T (.tup [x, y])) d (.ref T) := by
  have h1 : i < a.length := by rw [r1.length]; exact (List.getElem?_eq_some_iff.mp hx).1
  have h2 : i < b.length := by rw [r2.length]; exact (List.getElem?_eq_some_iff.mp hy).1
  obtain ⟨v, hv, rv⟩ := r1.get (List.getElem?_eq_getElem h1)
  obtain ⟨u, hu, ru⟩ := r2.get (List.getElem?_eq_getElem h2)
  rw [hx] at hv
  rw [hy] at hu
  cases hv
  cases hu
  exact ⟨_, pairs_get a b i _ _ (List.getElem?_eq_getElem h1) (List.getElem?_eq_getElem h2), Ext.new hT, hh.laid hT, .tup (SqT.of upd_same) (.cons (rv.mono (List.prefix_refl _) (Ext.new hT)) (.cons (ru.mono (List.prefix_refl _) (Ext.new hT)) .nil))⟩
theorem walks_zipT {m0 : List Addr} {H0 : Hp} {a b : List D} {p q : Addr} {xs ys : List V} (h1 : SqT W.K H0 p xs) (h2 : SqT W.K H0 q ys) (r1 : RepL W.K m0 H0 a xs) (r2 : RepL W.K m0 H0 b ys) : Walks W m0 H0 ⟨pairs a b, fun _ => true⟩ (RZ.ItzT W.K p q) := by
  have hn : (pairs a b).length = min xs.length ys.length := by rw [pairs_len, r1.length, r2.length]
  refine ⟨fun i H hi ⟨m, h, pm, e, hh, _⟩ => ?_, fun H ⟨m, h, pm, e, hh, _⟩ => ⟨xs, ys, e.sqT h1, e.sqT h2, by simp only [hn]; omega⟩, fun i H x H' hi ⟨m', h', p', e', hh', _⟩ ⟨T, u, v, hx, hT, hH, hu, hv⟩ m h pm e hh _ => ?_⟩
  · have hi' : i < min xs.length ys.length := by rw [← hn]; exact hi
    exact ⟨xs, ys, _, _, e.sqT h1, e.sqT h2, List.getElem?_eq_getElem (by omega), List.getElem?_eq_getElem (by omega)⟩
  · subst hx hH
    exact pair_step hh (r1.mono pm e) (r2.mono pm e) (hu xs (e.sqT h1)) (hv ys (e.sqT h2)) hT
theorem walks_zipL {m0 : List Addr} {H0 : Hp} {a b : List D} {p q : Addr} {n k : Nat} (h1 : m0[n]? = some p) (h2 : m0[k]? = some q) : Walks W m0 H0 ⟨pairs a b, fun h => decide (h[n]? = some (.lst a) ∧ h[k]? = some (.lst b))⟩ (Itz W.K p q) := by
  have key : ∀ {m h H}, m0 <+: m → HRel W.K m h H → decide (h[n]? = some (O.lst a) ∧ h[k]? = some (O.lst b)) = true → ∃ xs ys, H p = some (.lst xs) ∧ RepL W.K m H a xs ∧ H q = some (.lst ys) ∧ RepL W.K m H b ys := fun {m h H} pm hh g => by
    obtain ⟨g1, g2⟩ := of_decide_eq_true g
    obtain ⟨xs, e1, r1⟩ := hh.obj n p _ (pre_get pm h1) g1
    obtain ⟨ys, e2, r2⟩ := hh.obj k q _ (pre_get pm h2) g2
    exact ⟨xs, ys, e1, r1, e2, r2⟩
  have hn : ∀ {m H xs ys}, RepL W.K m H a xs → RepL W.K m H b ys → (pairs a b).length = min xs.length ys.length := fun r1 r2 => by rw [pairs_len, r1.length, r2.length]
  refine ⟨fun i H hi ⟨m, h, pm, e, hh, g⟩ => ?_, fun H ⟨m, h, pm, e, hh, g⟩ => ?_, fun i H x H' hi ⟨m', h', p', e', hh', _⟩ ⟨T, u, v, hx, hT, hH, hu, hv⟩ m h pm e hh g => ?_⟩
  · obtain ⟨xs, ys, e1, r1, e2, r2⟩ := key pm hh g
    have hi' : i < min xs.length ys.length := by rw [← hn r1 r2]; exact hi
    exact ⟨xs, ys, _, _, SqL.of e1, SqL.of e2, List.getElem?_eq_getElem (by omega), List.getElem?_eq_getElem (by omega)⟩
  · obtain ⟨xs, ys, e1, r1, e2, r2⟩ := key pm hh g
    exact ⟨xs, ys, SqL.of e1, SqL.of e2, by simp only [hn r1 r2]; omega⟩
  · obtain ⟨xs, ys, e1, r1, e2, r2⟩ := key pm hh g
    subst hx hH
    exact pair_step hh r1 r2 (hu xs (SqL.of e1)) (hv ys (SqL.of e2)) hT
theorem si_zip {e e2 : Expr} {ta : FA} {p pos tpos : Pos} {elts : List Expr} {kk : Nat} (hK : X.K = W.K) (hg : Gl X "zip") (hm : X.mg "zip" = none) (ha : PA X [e, e2] (rdA W ta))
    (hs : starEach [e, e2] X.env = (false, eval e X.env) :: starEach [e2] X.env := by rfl) (hpl : (backTo pos (starEach [e2] X.env)).any (·.1) = false := by rfl) :
    PI X (.Tuple elts kk tpos) (.Call (.Name "zip" p) [e, e2] [] pos) (rdI W (iZip ta)) := by
  refine PI.weak (RZ.pi_zipA hg hm ha hs hpl) fun σ H Q ⟨m, l, h, hl, hh, q⟩ => ⟨m, l, h, hl, hh, q.bind.imp fun ds h1 m1 H1 p e x q vs r => ?_⟩
  unfold fZip at q
  rw [hK]
  split at q
  · obtain ⟨v, w, rfl, rv, rw_⟩ := two_rep r
    cases rv with
    | tup g1 r1 =>
      cases rw_ with
      | tup g2 r2 => exact ⟨_, _, _, _, rfl, .inr ⟨g1, g2, q.here x _ (walks_zipT g1 g2 r1 r2)⟩⟩
  · split at q
    · obtain ⟨v, w, rfl, rv, rw_⟩ := two_rep r
      obtain ⟨a, xs, rfl, ha, g1, r1⟩ := x.lst rv ‹_›
      obtain ⟨b, ys, rfl, hb, g2, r2⟩ := x.lst rw_ ‹_›
      exact ⟨_, _, _, _, rfl, .inl ⟨SqL.of g1, SqL.of g2, q.here x _ (walks_zipL ha hb)⟩⟩
    · exact q.elim
  · exact q.elim
end Sm
namespace Sm
open PySem PySem.Spec PyProof.Rows L2
variable {W : Wd} {X : Cx}
/-! ### defs of the text, by name -/
def spR (W : Wd) (o : FF) : Sp := fun xs H Q _ => ∃ m h ds, HRel W.K m h H ∧ RepL W.K m H ds xs ∧ okR W m H (pV W Q) (o ds h)
structure DefOk (P : Program) (w : World) (K : PySem.W.Frag) (mg : Str → Option Value) (base : Heap) (W : Wd) (k : Nat) (x : Str) (o : FF) : Prop where
  ex : ∃ f, mg x = some (.ref f) ∧ PySem.W.keepIn K (.ref f) = true ∧ FnR P w K mg base CX0 k f (spR W o)
section
variable {P : Program} {w : World} {K : PySem.W.Frag} {mg : Str → Option Value} {base : Heap}
/-- what stands of a def behind the top -/
structure DefAt (K : PySem.W.Frag) (mg : Str → Option Value) (x : Str) (st : Stmt) : Prop where
  ex : ∃ (f : Addr) (fd : FuncData), mg x = some (.ref f) ∧ Fun K x x st f fd
theorem defOk {x : Str} {st : Stmt} {N ps : List Str} {k : Nat} {b : FS} (hK : W.K = K) (T : DefAt K mg x st) (S : FnScope N ps (defScope st))
    (hb : ∀ (kV doc pm : Value) (an : Option Addr) (cdv ct : Value) (us : List Value), us.length = ps.length → bindArgs (PySem.W.fnOf x x (defArgs st) (defBody st) (defScope st) .none kV doc pm an cdv ct) ⟨us, []⟩ = pure (ps.zip us))
    (hbody : ∀ (f : Addr) (cdv : Value) (A : Around) (outer : List Env) (s : Shared) (H : Hp) (E : XK), Room k (A.deeper (envOfC x (defScope st) s.heap.objs.size f cdv)) →
      PSs (cxOf CX0 P w K mg base N x (defScope st) f cdv A outer s H E).nox (defBody st) (rdS W b)) : DefOk P w K mg base W (k + 1) x (mkF ps.length N.length b) := by
  obtain ⟨f, fd, hm, F⟩ := T.ex
  have G := sok (W := W) (P := P) (w := w) (mg := mg) (base := base) hK F S fun cdv A outer s H E hr => hbody f cdv A outer s H E hr
  refine ⟨f, hm, F.kp, (G.raw (F.binds hb) .nil).imp fun vs H Q E ⟨m, h, ds, hh, r, q⟩ => ?_⟩
  rw [List.append_nil]
  refine ⟨m, h, ds, ?_, hh, r, q⟩
  unfold mkF at q
  split at q
  · assumption
  · exact q.elim
/-- def f(a, .., *v) -/
def mkFs (n N : Nat) (b : FS) : FF := fun ds h => if n ≤ ds.length ∧ (ds.drop n).length ≤ sz then mkF (n + 1) N b (ds.take n ++ [.tup (ds.drop n)]) h else .bad
theorem defOks {x pv : Str} {st : Stmt} {N ps : List Str} {k : Nat} {b : FS} (hK : W.K = K) (T : DefAt K mg x st) (S : FnScope N (ps ++ [pv]) (defScope st))
    (hb : ∀ (kV doc pm : Value) (an : Option Addr) (cdv ct : Value) (us rest : List Value), us.length = ps.length → bindArgs (PySem.W.fnOf x x (defArgs st) (defBody st) (defScope st) .none kV doc pm an cdv ct) ⟨us ++ rest, []⟩ = (newTuple rest >>= fun t => pure (ps.zip us ++ [(pv, t)])))
    (hbody : ∀ (f : Addr) (cdv : Value) (A : Around) (outer : List Env) (s : Shared) (H : Hp) (E : XK), Room k (A.deeper (envOfC x (defScope st) s.heap.objs.size f cdv)) →
      PSs (cxOf CX0 P w K mg base N x (defScope st) f cdv A outer s H E).nox (defBody st) (rdS W b)) : DefOk P w K mg base W (k + 1) x (mkFs ps.length N.length b) := by
  obtain ⟨f, fd, hm, F⟩ := T.ex
  obtain ⟨oc, od, kV, doc, pm, an, cdv, ct, osl, rfl, lk, hcd⟩ := F.ex
  refine ⟨f, hm, F.kp, FnR.imp (StX.fn_star (sp := spF W (ps.length + 1) (mkF (ps.length + 1) N.length b)) lk hcd S (fun _ _ _ _ _ _ _ _ _ _ _ z => z) (hb kV doc pm an cdv ct) fun A outer s H vs Q E hr ⟨m, h, ds, hn, x, r, q⟩ => ⟨_, (hbody f cdv A outer s H E hr).nox, body_rd hn x r q⟩) fun vs H Q E ⟨m, h, ds, hh, r, q⟩ => ?_⟩
  unfold mkFs at q
  split at q
  · rename_i c
    have hl := r.length
    have c2 := c.2
    rw [List.length_drop] at c2
    refine ⟨vs.take ps.length, vs.drop ps.length, (List.take_append_drop _ _).symm, by rw [List.length_take]; omega, by rw [List.length_drop, sizeLine_eq]; unfold sz at c2; omega, fun p hp => ?_⟩
    have ex : Ext H (upd H p (.tup (vs.drop ps.length))) := Ext.new hp
    refine ⟨m, h, ds.take ps.length ++ [.tup (ds.drop ps.length)], by rw [List.length_append, List.length_take, List.length_singleton]; omega, hh.laid hp, ?_, q.up (List.prefix_refl _) ex⟩
    exact ((r.take _).mono (List.prefix_refl _) ex).append (.cons (.tup (SqT.of upd_same) ((r.drop _).mono (List.prefix_refl _) ex)) .nil)
  · exact q.elim
end
theorem se_def {k : Nat} {o : FF} {a : FA} {x : Str} {p pos : Pos} {e : Expr} {es : List Expr} (G : DefOk X.prog X.w X.K X.mg X.base W k x o) (hr : Room k X.A) (hg : Gl X x) (hx : Passes CX0 X E0) (ha : PA X (e :: es) (rdA W a)) (hdb : (x == ("__debug__" : Str)) = false := by decide)
    (he : starEach (e :: es) X.env = (false, eval e X.env) :: starEach es X.env := by rfl) (hpl : (backTo pos (starEach es X.env)).any (·.1) = false := by rfl) : PE X (.Call (.Name x p) (e :: es) [] pos) (rdE W (eCall o a)) := by
  obtain ⟨f, hm, hk, F⟩ := G.ex
  refine ⟨fun pins s σ H Q I ⟨m, l, h, hl, hh, q⟩ => wpAny_Call_Name_kw (ld_glob I hg hm ?_ hdb)⟩
  refine PySem.W.callWith_K (h₀ := X.base) I.ok.mod.kin hk (thn (ha.run pos pins s σ H (fun vs H1 => spR W o vs H1 Q E0) I ⟨m, l, h, hl, hh, q.bind.imp fun ds h1 m1 H1 p e x q vs r => ⟨m1, h1, ds, x, r, q⟩⟩) fun us s1 ⟨vs, H1, I1, r, q⟩ => ⟨I1.kIn, ?_⟩) he hpl
  exact wpAny_call (run_fnR F hr hx I1 r q)
theorem se_def0 {k : Nat} {o : FF} {x : Str} {p pos : Pos} (G : DefOk X.prog X.w X.K X.mg X.base W k x o) (hr : Room k X.A) (hg : Gl X x) (hx : Passes CX0 X E0) (hdb : (x == ("__debug__" : Str)) = false := by decide) : PE X (.Call (.Name x p) [] [] pos) (rdE W (eCall o aNil)) := by
  obtain ⟨f, hm, hk, F⟩ := G.ex
  refine ⟨fun pins s σ H Q I ⟨m, l, h, hl, hh, q⟩ => wpAny_Call_Name_kw (ld_glob I hg hm ?_ hdb)⟩
  exact PySem.W.callWith_K0 I.kIn hk (wpAny_call (run_fnR (us := []) (E := E0) F hr hx I .nil ⟨m, h, [], hh, .nil, q⟩))
/-! ### {} -/
def eDic0 : FE := fun _ h => .ok (.ref h.length) (h ++ [.dic []])
theorem se_dic0 {pos : Pos} : PE X (.Dict [] [] pos) (rdE W eDic0) := PE.weak pe_dnewK fun σ H Q ⟨m, l, h, hl, hh, q⟩ p hp =>
  q _ (m ++ [p]) (List.prefix_append m [p]) (Ext.new hp) (hh.alloc hp ⟨[], upd_same, .nil⟩) _ (.ref (alloc_get m p hh.len))
/-! ### in place -/
def iAdd (d e : D) (h : Hh) : R D := match d, e with
  | .int i, .int j => .ok (.int (i + j)) h
  | _, _ => .bad
theorem sip_add : PIp X .Add (rdIp W iAdd) := fun pins s σ H x y v u Q I rx ry ⟨m, h, d, e, hh, dx, dy, q⟩ => by
  refine ip_add pins s σ H x y v u Q I rx ry ?_
  unfold iAdd at q
  split at q
  · cases dx; cases dy; exact ⟨_, _, rfl, rfl, q.val hh (.int _)⟩
  · exact q.elim
theorem sip_sub : PIp X .Sub (rdIp W oSub) := fun pins s σ H x y v u Q I rx ry ⟨m, h, d, e, hh, dx, dy, q⟩ => by
  refine ip_sub pins s σ H x y v u Q I rx ry ?_
  unfold oSub at q
  split at q
  · cases dx; cases dy; exact ⟨_, _, rfl, rfl, q.val hh (.int _)⟩
  · exact q.elim
def iMul (d e : D) (h : Hh) : R D := match d, e with
  | .int i, .int j => if i.natAbs < BIG ∧ j.natAbs < BIG then .ok (.int (i * j)) h else .bad
  | _, _ => .bad
theorem sip_mul : PIp X .Mult (rdIp W iMul) := fun pins s σ H x y v u Q I rx ry ⟨m, h, d, e, hh, dx, dy, q⟩ => by
  unfold iMul at q
  split at q
  · split at q
    · rename_i c
      cases dx; cases dy
      obtain ⟨t, rfl⟩ := rx
      obtain ⟨t', rfl⟩ := ry
      refine imul_int ⟨.int _, H, I.tok _, ⟨_, rfl⟩, q.val hh (.int _)⟩ (CMulW.ok ?_)
      have h1 := big_log c.1
      have h2 := big_log c.2
      unfold CMulW
      omega
    · exact q.elim
  · exact q.elim
/-! ### the law -/
theorem roL_of {K : PySem.W.Frag} {H : Hp} {a : Addr} {xs : List V} (hO : Only H) (h : SqL K H a xs) : RoL K H a xs := by
  rcases h with (h | ⟨o, h⟩) | h
  · rcases hO a with q | ⟨o, ys, q⟩
    · rw [q] at h; cases h
    · rw [q] at h; cases h
  · exact .inl ⟨o, h⟩
  · exact .inr h
def W0 (K : PySem.W.Frag) : Wd := ⟨K, fun _ => .none, E0⟩
/-- what the law is to be: True at every script -/
def LawOk (F : FF) : Prop := ∀ ns : List Int, ns.length ≤ 63 → ∃ h, F [.ro (ns.map D.int)] [] = .ok (.bl true) h
theorem law_sp {K : PySem.W.Frag} {F : FF} (hF : LawOk F) {H : Hp} {a : Addr} {ns : List Int} (hl : ns.length ≤ 63) (hO : Only H) (hS : SqL K H a (ns.map V.int)) : spF (W0 K) 1 F [.ref a] H (fun v _ => v = .bl true) (fun _ _ _ => False) := by
  obtain ⟨h, e⟩ := hF ns hl
  refine ⟨[], [], [.ro (ns.map D.int)], rfl, ⟨rfl, List.nodup_nil, fun n a o ha => by simp at ha⟩, .cons (.ro (roL_of hO hS) (RepL.ints ns)) .nil, ?_⟩
  rw [e]
  intro H' m' _ _ _ v r
  cases r
  rfl
theorem se_gint {x : Str} {i : Int} {pos : Pos} (hg : Gl X x) (hm : ∃ t, X.mg x = some (.int i t)) (hd : (x == ("__debug__" : Str)) = false := by decide) : PE X (.Name x pos) (rdE W (eC (.int i))) := by
  obtain ⟨t, hm⟩ := hm
  exact se_glob hg hm (v := .int i) ⟨t, rfl⟩ (fun _ _ _ => .int i) hd
theorem se_gstr {x : Str} {i : Str} {pos : Pos} (hg : Gl X x) (hm : ∃ t, X.mg x = some (.str i t)) (hd : (x == ("__debug__" : Str)) = false := by decide) : PE X (.Name x pos) (rdE W (eC (.str i))) := by
  obtain ⟨t, hm⟩ := hm
  exact se_glob hg hm (v := .str i) ⟨t, rfl⟩ (fun _ _ _ => .str i) hd
abbrev inOf {K : PySem.W.Frag} {h : Heap} (_ : K.In h) : PySem.W.Frag := K
theorem at_mk {K : PySem.W.Frag} {mg : Str → Option Value} {h : Heap} {x : Str} {st : Stmt} {f : Addr} {oc kV dc pm cd ct : Value} {od an : Option Addr} {sl : Array (Option Value)} (X : K.In h) (G : h.Ns mainGlobals mg)
    (a : PySem.W.nsIn K mainGlobals x = some (some (.ref f))) (l : K.lookup f = some ⟨oc, od, .func (PySem.W.fnOf x x (defArgs st) (defBody st) (defScope st) .none kV dc pm an cd ct), sl⟩)
    (c : PySem.W.codeIn K cd x = true) (k : PySem.W.keepIn K (.ref f) = true) : DefAt K mg x st := ⟨f, _, PySem.W.mg_of X G a, fun_mk l c k⟩
theorem int_mk {K : PySem.W.Frag} {mg : Str → Option Value} {h : Heap} {x : Str} {i : Int} {t : Tok} (X : K.In h) (G : h.Ns mainGlobals mg) (a : PySem.W.nsIn K mainGlobals x = some (some (.int i t))) : ∃ t, mg x = some (.int i t) := ⟨t, PySem.W.mg_of X G a⟩
theorem str_mk {K : PySem.W.Frag} {mg : Str → Option Value} {h : Heap} {x i : Str} {t : Tok} (X : K.In h) (G : h.Ns mainGlobals mg) (a : PySem.W.nsIn K mainGlobals x = some (some (.str i t))) : ∃ t, mg x = some (.str i t) := ⟨t, PySem.W.mg_of X G a⟩
/-! ### the built-ins' places -/
theorem bt_len : bootBuiltins "len" = some (.builtin "len") := by decide +kernel
theorem bt_abs : bootBuiltins "abs" = some (.builtin "abs") := by decide +kernel
theorem bt_min : bootBuiltins "min" = some (.builtin "min") := by decide +kernel
theorem bt_max : bootBuiltins "max" = some (.builtin "max") := by decide +kernel
theorem bt_all : bootBuiltins "all" = some (.builtin "all") := by decide +kernel
theorem bt_any : bootBuiltins "any" = some (.builtin "any") := by decide +kernel
theorem bt_sum : bootBuiltins "sum" = some (.builtin "sum") := by decide +kernel
theorem bt_isinstance : bootBuiltins "isinstance" = some (.builtin "isinstance") := by decide +kernel
theorem bt_int : bootBuiltins "int" = some (.type "int") := by decide +kernel
theorem bt_bool : bootBuiltins "bool" = some (.type "bool") := by decide +kernel
theorem bt_str : bootBuiltins "str" = some (.type "str") := by decide +kernel
theorem bt_tuple : bootBuiltins "tuple" = some (.type "tuple") := by decide +kernel
theorem bt_list : bootBuiltins "list" = some (.type "list") := by decide +kernel
theorem bt_dict : bootBuiltins "dict" = some (.type "dict") := by decide +kernel
theorem bt_sorted : bootBuiltins "sorted" = some (.builtin "sorted") := by decide +kernel
end Sm
namespace Sm
open PySem L2
/-! ### the combinators, as simp sees them -/
@[simp] theorem eVar_ap (i : Nat) (l : Lo) (h : Hh) : eVar i l h = match l[i]? with | some (some d) => .ok d h | _ => .bad := rfl
@[simp] theorem eC_ap (d : D) (l : Lo) (h : Hh) : eC d l h = .ok d h := rfl
@[simp] theorem eUn_ap (o : D → Hh → R D) (f : FE) (l : Lo) (h : Hh) : eUn o f l h = (f l h).bind o := rfl
@[simp] theorem eBin_ap (o : D → D → Hh → R D) (f g : FE) (l : Lo) (h : Hh) : eBin o f g l h = (f l h).bind fun x h1 => (g l h1).bind fun y h2 => o x y h2 := rfl
@[simp] theorem aNil_ap (l : Lo) (h : Hh) : aNil l h = .ok [] h := rfl
@[simp] theorem aCons_ap (f : FE) (g : FA) (l : Lo) (h : Hh) : aCons f g l h = (f l h).bind fun x h1 => (g l h1).bind fun xs h2 => .ok (x :: xs) h2 := rfl
@[simp] theorem aStar_ap (f : FE) (g : FA) (l : Lo) (h : Hh) : aStar f g l h = (f l h).bind fun x h1 => (itemsOf x h1).bind fun ys h1 => (g l h1).bind fun xs h2 => .ok (ys ++ xs) h2 := rfl
@[simp] theorem itemsOf_tup (l : List D) (h : Hh) : itemsOf (.tup l) h = .ok l h := rfl
@[simp] theorem eTup_ap (a : FA) (l : Lo) (h : Hh) : eTup a l h = (a l h).bind fun xs h1 => if xs.length ≤ sz then .ok (.tup xs) h1 else .bad := rfl
@[simp] theorem eLst_ap (a : FA) (l : Lo) (h : Hh) : eLst a l h = (a l h).bind fun xs h1 => if xs.length ≤ sz then .ok (.ref h1.length) (h1 ++ [.lst xs]) else .bad := rfl
@[simp] theorem eCall_ap (o : FF) (a : FA) (l : Lo) (h : Hh) : eCall o a l h = (a l h).bind o := rfl
@[simp] theorem eBM_ap (c : D → Hh → Bool) (o : D → List D → Hh → R D) (f : FE) (a : FA) (l : Lo) (h : Hh) : eBM c o f a l h = (f l h).bind fun x h1 => if c x h1 = true then (a l h1).bind fun xs h2 => o x xs h2 else .bad := rfl
@[simp] theorem asB_bl (b : Bool) (h : Hh) : asB (.bl b) h = .ok b h := rfl
@[simp] theorem asI_int (b : Int) (h : Hh) : asI (.int b) h = .ok b h := rfl
@[simp] theorem tB_ap (f : FE) (l : Lo) (h : Hh) : tB f l h = (f l h).bind asB := rfl
@[simp] theorem tNot_ap (f : FT) (l : Lo) (h : Hh) : tNot f l h = (f l h).bind fun b h1 => .ok (!b) h1 := rfl
@[simp] theorem tAnd_ap (f g : FT) (l : Lo) (h : Hh) : tAnd f g l h = (f l h).bind fun b h1 => if b = true then g l h1 else .ok false h1 := rfl
@[simp] theorem tOr_ap (f g : FT) (l : Lo) (h : Hh) : tOr f g l h = (f l h).bind fun b h1 => if b = true then .ok true h1 else g l h1 := rfl
@[simp] theorem eIf_ap (c : FT) (f g : FE) (l : Lo) (h : Hh) : eIf c f g l h = (c l h).bind fun b h1 => if b = true then f l h1 else g l h1 := rfl
@[simp] theorem eNot_ap (f : FE) (l : Lo) (h : Hh) : eNot f l h = (f l h).bind fun d h1 => (asB d h1).bind fun b h2 => .ok (.bl (!b)) h2 := rfl
@[simp] theorem eAnd_ap (f g : FE) (l : Lo) (h : Hh) : eAnd f g l h = (f l h).bind fun d h1 => (asB d h1).bind fun b h2 => if b = true then g l h2 else .ok (.bl false) h2 := rfl
@[simp] theorem eOr_ap (f g : FE) (l : Lo) (h : Hh) : eOr f g l h = (f l h).bind fun d h1 => (asB d h1).bind fun b h2 => if b = true then .ok (.bl true) h2 else g l h2 := rfl
@[simp] theorem eChain_ap (o o' : D → D → Hh → R D) (f g k : FE) (l : Lo) (h : Hh) : eChain o o' f g k l h = (f l h).bind fun x h1 => (g l h1).bind fun y h2 => (o x y h2).bind fun z h3 => (asB z h3).bind fun b h4 => if b = true then (k l h4).bind fun w h5 => o' y w h5 else .ok (.bl false) h4 := rfl
@[simp] theorem pNo_ap (l : Lo) (h : Hh) : pNo l h = .ok none h := rfl
@[simp] theorem pAt_ap (f : FE) (l : Lo) (h : Hh) : pAt f l h = (f l h).bind fun d h1 => (asI d h1).bind fun i h2 => .ok (some i) h2 := rfl
@[simp] theorem eSl_ap (o : D → Option Int → Option Int → Hh → R D) (f : FE) (a b : FP) (l : Lo) (h : Hh) : eSl o f a b l h = (f l h).bind fun x h1 => (a l h1).bind fun lo h2 => (b l h2).bind fun hi h3 => o x lo hi h3 := rfl
@[simp] theorem gNm_ap (i : Nat) (d : D) (l : Lo) (h : Hh) : gNm i d l h = .ok (l.set i (some d)) h := rfl
@[simp] theorem gNo_ap (l : Lo) (h : Hh) : gNo [] l h = .ok l h := rfl
@[simp] theorem gCo_ap (g : FG) (k : FGs) (d : D) (r : List D) (l : Lo) (h : Hh) : gCo g k (d :: r) l h = (g d l h).bind fun l1 h1 => k r l1 h1 := rfl
@[simp] theorem gTp_ap (n : Nat) (k : FGs) (d : D) (l : Lo) (h : Hh) : gTp n k d l h = (itemsOf d h).bind fun ds h1 => if ds.length = n then k ds l h1 else .bad := rfl
@[simp] theorem gSb_ap (s : D → D → D → Hh → R Unit) (f g : FE) (d : D) (l : Lo) (h : Hh) : gSb s f g d l h = (f l h).bind fun o h1 => (g l h1).bind fun i h2 => (s o i d h2).bind fun _ h3 => .ok l h3 := rfl
@[simp] theorem sPass_ap (l : Lo) (h : Hh) : sPass l h = .ok (.nx, l) h := rfl
@[simp] theorem sBreak_ap (l : Lo) (h : Hh) : sBreak l h = .ok (.bk, l) h := rfl
@[simp] theorem sCont_ap (l : Lo) (h : Hh) : sCont l h = .ok (.ct, l) h := rfl
@[simp] theorem sBad_ap (l : Lo) (h : Hh) : sBad l h = .bad := rfl
@[simp] theorem sSeq_ap (f g : FS) (l : Lo) (h : Hh) : sSeq f g l h = (f l h).bind fun r h1 => match r.1 with | .nx => g r.2 h1 | _ => .ok r h1 := rfl
@[simp] theorem sEx_ap (f : FE) (l : Lo) (h : Hh) : sEx f l h = (f l h).bind fun _ h1 => .ok (.nx, l) h1 := rfl
@[simp] theorem sRet_ap (f : FE) (l : Lo) (h : Hh) : sRet f l h = (f l h).bind fun d h1 => .ok (.rt d, l) h1 := rfl
@[simp] theorem sIf_ap (c : FT) (f g : FS) (l : Lo) (h : Hh) : sIf c f g l h = (c l h).bind fun b h1 => if b = true then f l h1 else g l h1 := rfl
@[simp] theorem sAsg_ap (f : FE) (g : FG) (l : Lo) (h : Hh) : sAsg f g l h = (f l h).bind fun d h1 => (g d l h1).bind fun l1 h2 => .ok (.nx, l1) h2 := rfl
@[simp] theorem sAug_ap (i : Nat) (o : D → D → Hh → R D) (f : FE) (l : Lo) (h : Hh) : sAug i o f l h = match l[i]? with | some (some x) => (f l h).bind fun y h1 => (o x y h1).bind fun z h2 => .ok (.nx, l.set i (some z)) h2 | _ => .bad := rfl
@[simp] theorem sPar_ap (i j : Nat) (a : FA) (l : Lo) (h : Hh) : sPar i j a l h = (a l h).bind fun ds h1 => match ds with | [v, w] => .ok (.nx, (l.set i (some v)).set j (some w)) h1 | _ => .bad := rfl
@[simp] theorem sFor_ap (it : FI) (g : FG) (b : FS) (l : Lo) (h : Hh) : sFor it g b l h = (it l h).bind fun s h1 => loop s.good g b s.items l h1 := rfl
@[simp] theorem iSeq_ap (f : FE) (l : Lo) (h : Hh) : iSeq f l h = (f l h).bind srcOf := rfl
@[simp] theorem srcOf_tup (l : List D) (h : Hh) : srcOf (.tup l) h = .ok ⟨l, fun _ => true⟩ h := rfl
@[simp] theorem iRange1_ap (a : FA) (l : Lo) (h : Hh) : iRange1 a l h = (a l h).bind rng1 := rfl
@[simp] theorem iRange2_ap (a : FA) (l : Lo) (h : Hh) : iRange2 a l h = (a l h).bind rng2 := rfl
@[simp] theorem iZip_ap (a : FA) (l : Lo) (h : Hh) : iZip a l h = (a l h).bind fZip := rfl
@[simp] theorem fZip_tup (a b : List D) (h : Hh) : fZip [.tup a, .tup b] h = .ok ⟨pairs a b, fun _ => true⟩ h := rfl
@[simp] theorem eLc_ap (it : FI) (g : FG) (t : FT) (e : FE) (vs : List Nat) (l : Lo) (h : Hh) : eLc it g t e vs l h = (it l h).bind fun s h1 => (compL s.good g t e h1.length (wipeL l vs) s.items (h1 ++ [.lst []])).bind fun _ h2 => .ok (.ref h1.length) h2 := rfl
@[simp] theorem tYs_ap (l : Lo) (h : Hh) : tYs l h = .ok true h := rfl
@[simp] theorem wipeL_nil (l : Lo) : wipeL l [] = l := rfl
@[simp] theorem wipeL_cons (l : Lo) (v : Nat) (vs : List Nat) : wipeL l (v :: vs) = (wipeL l vs).set v none := rfl
@[simp] theorem eDic0_ap (l : Lo) (h : Hh) : eDic0 l h = .ok (.ref h.length) (h ++ [.dic []]) := rfl
/-! ### operators at known kinds -/
@[simp] theorem oAdd_int (i j : Int) (h : Hh) : oAdd (.int i) (.int j) h = .ok (.int (i + j)) h := rfl
@[simp] theorem oAdd_tup (a b : List D) (h : Hh) : oAdd (.tup a) (.tup b) h = if a.length + b.length ≤ sz then .ok (.tup (a ++ b)) h else .bad := rfl
@[simp] theorem oSub_int (i j : Int) (h : Hh) : oSub (.int i) (.int j) h = .ok (.int (i - j)) h := rfl
@[simp] theorem oMul_int (i j : Int) (h : Hh) : oMul (.int i) (.int j) h = if i.natAbs < BIG ∧ j.natAbs < BIG then .ok (.int (i * j)) h else .bad := rfl
@[simp] theorem oMul_tup (a : List D) (k : Int) (h : Hh) : oMul (.tup a) (.int k) h = if k ≤ 1000 ∧ -1000 ≤ k ∧ a.length ≤ 1000 then .ok (.tup (List.replicate k.toNat a).flatten) h else .bad := rfl
@[simp] theorem oDiv_int (i j : Int) (h : Hh) : oDiv (.int i) (.int j) h = if j ≠ 0 ∧ j.natAbs < BIG then .ok (.int (i.fdiv j)) h else .bad := rfl
@[simp] theorem oMod_int (i j : Int) (h : Hh) : oMod (.int i) (.int j) h = if j ≠ 0 then .ok (.int (i.fmod j)) h else .bad := rfl
@[simp] theorem oPow_int (i j : Int) (h : Hh) : oPow (.int i) (.int j) h = if 0 ≤ j ∧ j ≤ 4000 ∧ i.natAbs < BIG then .ok (.int (i ^ j.toNat)) h else .bad := rfl
@[simp] theorem oNeg_int (i : Int) (h : Hh) : oNeg (.int i) h = .ok (.int (-i)) h := rfl
@[simp] theorem oLt_int (i j : Int) (h : Hh) : oLt (.int i) (.int j) h = .ok (.bl (decide (i < j))) h := rfl
@[simp] theorem oLe_int (i j : Int) (h : Hh) : oLe (.int i) (.int j) h = .ok (.bl (decide (i ≤ j))) h := rfl
@[simp] theorem oGt_int (i j : Int) (h : Hh) : oGt (.int i) (.int j) h = .ok (.bl (decide (j < i))) h := rfl
@[simp] theorem oGe_int (i j : Int) (h : Hh) : oGe (.int i) (.int j) h = .ok (.bl (decide (j ≤ i))) h := rfl
@[simp] theorem iAdd_int (i j : Int) (h : Hh) : iAdd (.int i) (.int j) h = .ok (.int (i + j)) h := rfl
@[simp] theorem fLen_tup (l : List D) (h : Hh) : fLen [.tup l] h = .ok (.int l.length) h := rfl
@[simp] theorem fLen_ro (l : List D) (h : Hh) : fLen [.ro l] h = .ok (.int l.length) h := rfl
@[simp] theorem fAbs_int (i : Int) (h : Hh) : fAbs [.int i] h = .ok (.int (if i < 0 then -i else i)) h := rfl
@[simp] theorem fMax2_int (i j : Int) (h : Hh) : fMax2 [.int i, .int j] h = .ok (.int (if j > i then j else i)) h := rfl
@[simp] theorem fMin2_int (i j : Int) (h : Hh) : fMin2 [.int i, .int j] h = .ok (.int (if j < i then j else i)) h := rfl
@[simp] theorem fInt_int (i : Int) (h : Hh) : fInt [.int i] h = .ok (.int i) h := rfl
@[simp] theorem fInt_bl (i : Bool) (h : Hh) : fInt [.bl i] h = .ok (.int (if i then 1 else 0)) h := rfl
@[simp] theorem fTuple_tup (l : List D) (h : Hh) : fTuple [.tup l] h = .ok (.tup l) h := rfl
@[simp] theorem oIx_tup (l : List D) (i : Int) (h : Hh) : oIx (.tup l) (.int i) h = match atI l i with | some x => .ok x h | none => .bad := rfl
@[simp] theorem oIx_ro (l : List D) (i : Int) (h : Hh) : oIx (.ro l) (.int i) h = match atI l i with | some x => .ok x h | none => .bad := rfl
@[simp] theorem oSl_tup (l : List D) (lo hi : Option Int) (h : Hh) : oSl (.tup l) lo hi h = .ok (.tup (cutD l lo hi)) h := rfl
@[simp] theorem oRev_tup (l : List D) (h : Hh) : oRev (.tup l) h = .ok (.tup l.reverse) h := rfl
@[simp] theorem fTuple_ref (n : Nat) (h : Hh) : fTuple [.ref n] h = match h[n]? with | some (.lst l) => .ok (.tup l) h | _ => .bad := rfl
@[simp] theorem fLen_ref (n : Nat) (h : Hh) : fLen [.ref n] h = match h[n]? with | some (.lst l) => .ok (.int l.length) h | _ => .bad := rfl
@[simp] theorem fAll_ap (d : D) (h : Hh) : fAll [d] h = match (lstOf d h).bind asBs with | some bs => .ok (.bl (bs.all id)) h | none => .bad := rfl
@[simp] theorem fAny_ap (d : D) (h : Hh) : fAny [d] h = match (lstOf d h).bind asBs with | some bs => .ok (.bl (bs.any id)) h | none => .bad := rfl
@[simp] theorem fSum_ap (d : D) (h : Hh) : fSum [d] h = match (lstOf d h).bind asIs with | some ns => .ok (.int ns.sum) h | none => .bad := rfl
@[simp] theorem lstOf_ref (n : Nat) (h : Hh) : lstOf (.ref n) h = match h[n]? with | some (.lst l) => some l | _ => none := rfl
@[simp] theorem fList_ap (d : D) (h : Hh) : fList [d] h = (itemsOf d h).bind fun l h => .ok (.ref h.length) (h ++ [.lst l]) := rfl
@[simp] theorem itemsOf_ref (n : Nat) (h : Hh) : itemsOf (.ref n) h = match h[n]? with | some (.lst l) => .ok l h | _ => .bad := rfl
@[simp] theorem srcOf_ref (n : Nat) (h : Hh) : srcOf (.ref n) h = match h[n]? with | some (.lst xs) => .ok ⟨xs, fun h => decide (h[n]? = some (.lst xs))⟩ h | _ => .bad := rfl
@[simp] theorem isLst_ref (n : Nat) (h : Hh) : isLst (.ref n) h = match h[n]? with | some (.lst _) => true | _ => false := rfl
@[simp] theorem oAppend_ap (n : Nat) (x : D) (h : Hh) : oAppend (.ref n) [x] h = match h[n]? with | some (.lst l) => if l.length < sz then .ok .non (h.set n (.lst (l ++ [x]))) else .bad | _ => .bad := rfl
@[simp] theorem oPop_ap (n : Nat) (h : Hh) : oPop (.ref n) [] h = match h[n]? with | some (.lst l) => (match l.getLast? with | some x => .ok x (h.set n (.lst l.dropLast)) | none => .bad) | _ => .bad := rfl
@[simp] theorem oIx_ref (n : Nat) (i : Int) (h : Hh) : oIx (.ref n) (.int i) h = match h[n]? with | some (.lst l) => (match atI l i with | some x => .ok x h | none => .bad) | _ => .bad := rfl
@[simp] theorem oSet_ap (n : Nat) (k : Int) (d : D) (h : Hh) : oSet (.ref n) (.int k) d h = match h[n]? with | some (.lst l) => (match ixN l.length k with | some j => .ok () (h.set n (.lst (l.set j d))) | none => .bad) | _ => .bad := rfl
@[simp] theorem oAdd_ref (a b : Nat) (h : Hh) : oAdd (.ref a) (.ref b) h = match h[a]?, h[b]? with | some (.lst x), some (.lst y) => if x.length + y.length ≤ sz then .ok (.ref h.length) (h ++ [.lst (x ++ y)]) else .bad | _, _ => .bad := rfl
/-! ### the heap's end -/
@[simp] theorem get_end (h : Hh) (x : O) (g : Hh) : (h ++ x :: g)[h.length]? = some x := by
  rw [List.getElem?_append_right (Nat.le_refl _), Nat.sub_self]; rfl
@[simp] theorem get_end1 (h : Hh) (x y : O) (g : Hh) : (h ++ x :: y :: g)[h.length + 1]? = some y := by
  rw [List.getElem?_append_right (by omega), Nat.add_sub_cancel_left]; rfl
@[simp] theorem get_end2 (h : Hh) (x y z : O) (g : Hh) : (h ++ x :: y :: z :: g)[h.length + 2]? = some z := by
  rw [List.getElem?_append_right (by omega), Nat.add_sub_cancel_left]; rfl
@[simp] theorem set_end (h : Hh) (x y : O) (g : Hh) : (h ++ x :: g).set h.length y = h ++ y :: g := by
  rw [List.set_append_right _ _ (Nat.le_refl _), Nat.sub_self]; rfl
@[simp] theorem set_end1 (h : Hh) (x y z : O) (g : Hh) : (h ++ x :: z :: g).set (h.length + 1) y = h ++ x :: y :: g := by
  rw [List.set_append_right _ _ (by omega), Nat.add_sub_cancel_left]; rfl
/-! ### the ends of defs -/
mutual
theorem D.pureL_all : ∀ (l : List D), D.pureL l = l.all D.pure
  | [] => rfl
  | d :: l => by simp only [D.pureL, List.all_cons, D.pureL_all l]
end
@[simp] theorem pureL_ints (ns : List Int) : D.pureL (ns.map D.int) = true := by
  induction ns with
  | nil => rfl
  | cons n ns ih => simp [D.pureL, D.pure, ih]
@[simp] theorem pure_tup (l : List D) : D.pure (.tup l) = D.pureL l := by simp [D.pure]
@[simp] theorem pure_int (i : Int) : D.pure (.int i) = true := by simp [D.pure]
@[simp] theorem pure_bl (i : Bool) : D.pure (.bl i) = true := by simp [D.pure]
@[simp] theorem pure_str (i : Str) : D.pure (.str i) = true := by simp [D.pure]
@[simp] theorem pure_non : D.pure .non = true := by simp [D.pure]
@[simp] theorem pureL_nil : D.pureL [] = true := by simp [D.pureL]
@[simp] theorem pureL_cons (d : D) (l : List D) : D.pureL (d :: l) = (D.pure d && D.pureL l) := by simp [D.pureL]
@[simp] theorem pureL_app (a b : List D) : D.pureL (a ++ b) = (D.pureL a && D.pureL b) := by simp [D.pureL_all]
@[simp] theorem pureL_rev (a : List D) : D.pureL a.reverse = D.pureL a := by simp [D.pureL_all]
theorem pureL_sub {a b : List D} (h : D.pureL b = true) (hs : ∀ d ∈ a, d ∈ b) : D.pureL a = true := by
  rw [D.pureL_all] at h ⊢
  exact List.all_eq_true.mpr fun d hd => List.all_eq_true.mp h d (hs d hd)
@[simp] theorem fin_rt (h0 : Hh) (d : D) (l : Lo) (h : Hh) : fin h0 (.ok (.rt d, l) h) = gcR h0 d h := rfl
@[simp] theorem fin_nx (h0 : Hh) (l : Lo) (h : Hh) : fin h0 (.ok (.nx, l) h) = gcR h0 .non h := rfl
theorem gc_app {h : Hh} {d : D} (g : Hh) (p : D.pure d = true) : gcR h d (h ++ g) = .ok d h := by
  unfold gcR
  rw [List.take_left]
  simp [p]
@[simp] theorem gc_app' (h : Hh) (d : D) (g : Hh) : gcR h d (h ++ g) = if D.pure d = true then .ok d h else .ok d (h ++ g) := by
  unfold gcR
  rw [List.take_left]
  simp
@[simp] theorem gc_same (h : Hh) (d : D) : gcR h d h = .ok d h := by
  unfold gcR
  simp
theorem gc_len {h h' : Hh} {d : D} (e : h'.length = h.length) : gcR h d h' = .ok d h' := by
  unfold gcR
  rw [List.take_of_length_le (by omega)]
  split <;> rfl
@[simp] theorem gc_set (h : Hh) (d : D) (n : Nat) (o : O) : gcR h d (h.set n o) = .ok d (h.set n o) := gc_len (by rw [List.length_set])
theorem gc_setapp {h : Hh} {d : D} {n : Nat} {o : O} {g : Hh} (p : D.pure d = true) (q : (h.set n o).all O.pure = true) : gcR h d (h.set n o ++ g) = .ok d (h.set n o) := by
  unfold gcR
  have e : (h.set n o ++ g).take h.length = h.set n o := by
    have : h.length = (h.set n o).length := by rw [List.length_set]
    rw [this, List.take_left]
  rw [e, if_pos ⟨p, .inr q⟩]
@[simp] theorem mkF_ap (n N : Nat) (b : FS) (ds : List D) (h : Hh) : mkF n N b ds h = if ds.length = n then fin h (b (ds.map some ++ List.replicate (N - n) none) h) else .bad := rfl
@[simp] theorem mkFs_ap (n N : Nat) (b : FS) (ds : List D) (h : Hh) : mkFs n N b ds h = if n ≤ ds.length ∧ (ds.drop n).length ≤ sz then mkF (n + 1) N b (ds.take n ++ [.tup (ds.drop n)]) h else .bad := rfl
theorem sz_eq : sz = 16777216 := rfl
@[simp] theorem loop_nil (good : Hh → Bool) (g : FG) (b : FS) (l : Lo) (h : Hh) : loop good g b [] l h = if good h = true then .ok (.nx, l) h else .bad := rfl
@[simp] theorem loop_cons (good : Hh → Bool) (g : FG) (b : FS) (d : D) (ds : List D) (l : Lo) (h : Hh) : loop good g b (d :: ds) l h = if good h = true then (g d l h).bind fun l1 h1 => (b l1 h1).bind fun r h2 => match r.1 with
      | .nx => loop good g b ds r.2 h2
      | .ct => loop good g b ds r.2 h2
      | .bk => .ok (.nx, r.2) h2
      | .rt v => .ok (.rt v, r.2) h2
    else .bad := rfl
@[simp] theorem compL_nil (good : Hh → Bool) (g : FG) (t : FT) (e : FE) (k : Nat) (l : Lo) (h : Hh) : compL good g t e k l [] h = if good h = true then .ok () h else .bad := rfl
@[simp] theorem compL_cons (good : Hh → Bool) (g : FG) (t : FT) (e : FE) (k : Nat) (l : Lo) (d : D) (ds : List D) (h : Hh) : compL good g t e k l (d :: ds) h = if good h = true then (g d l h).bind fun l1 h1 => (t l1 h1).bind fun b h2 => if b = true then (e l1 h2).bind fun y h3 => match h3[k]? with
        | some (.lst acc) => if acc.length < sz then compL good g t e k l ds (h3.set k (.lst (acc ++ [y]))) else .bad
        | _ => .bad
      else compL good g t e k l ds h2
    else .bad := rfl
/-- a comprehension whose items are reckoned without a trace -/
theorem comp_pure {g : FG} {t : FT} {e : FE} {l : Lo} {h : Hh} {f : D → D} {p : D → Bool} : ∀ (items acc : List D), acc.length + items.length ≤ sz → (∀ d ∈ items, ∀ a, ∃ l1, g d l (h ++ [.lst a]) = .ok l1 (h ++ [.lst a]) ∧ t l1 (h ++ [.lst a]) = .ok (p d) (h ++ [.lst a]) ∧ (p d = true → e l1 (h ++ [.lst a]) = .ok (f d) (h ++ [.lst a]))) →
    compL (fun _ => true) g t e h.length l items (h ++ [.lst acc]) = .ok () (h ++ [.lst (acc ++ (items.filter p).map f)])
  | [], acc, _, _ => by simp
  | d :: ds, acc, hz, hel => by
    obtain ⟨l1, h1, h2, h3⟩ := hel d List.mem_cons_self acc
    rw [List.length_cons] at hz
    simp only [compL_cons, if_true, h1, R.bind_ok, h2]
    cases hp : p d with
    | true =>
      simp only [if_true, h3 hp, R.bind_ok, get_end]
      rw [if_pos (by omega), set_end, comp_pure ds (acc ++ [f d]) (by rw [List.length_append, List.length_singleton]; omega) fun d hd h' => hel d (List.mem_cons_of_mem _ hd) h']
      simp [hp]
    | false =>
      simp only [Bool.false_eq_true, if_false]
      rw [comp_pure ds acc (by omega) fun d hd h' => hel d (List.mem_cons_of_mem _ hd) h']
      simp [hp]
theorem comp_map {g : FG} {e : FE} {l : Lo} {h : Hh} (f : D → D) (items : List D) (hz : items.length ≤ sz) (hel : ∀ d ∈ items, ∀ a, ∃ l1, g d l (h ++ [.lst a]) = .ok l1 (h ++ [.lst a]) ∧ e l1 (h ++ [.lst a]) = .ok (f d) (h ++ [.lst a])) :
    compL (fun _ => true) g tYs e h.length l items (h ++ [.lst []]) = .ok () (h ++ [.lst (items.map f)]) := by
  rw [comp_pure (t := tYs) (f := f) (p := fun _ => true) items [] (by simpa using hz) fun d hd h' => let ⟨l1, h1, h2⟩ := hel d hd h'; ⟨l1, h1, rfl, fun _ => h2⟩]
  rw [List.filter_eq_self.mpr (fun _ _ => rfl)]
  rfl
theorem comp_filter {g : FG} {t : FT} {e : FE} {l : Lo} {h : Hh} (f : D → D) (p : D → Bool) (items : List D) (hz : items.length ≤ sz) (hel : ∀ d ∈ items, ∀ a, ∃ l1, g d l (h ++ [.lst a]) = .ok l1 (h ++ [.lst a]) ∧ t l1 (h ++ [.lst a]) = .ok (p d) (h ++ [.lst a]) ∧ (p d = true → e l1 (h ++ [.lst a]) = .ok (f d) (h ++ [.lst a]))) :
    compL (fun _ => true) g t e h.length l items (h ++ [.lst []]) = .ok () (h ++ [.lst ((items.filter p).map f)]) := comp_pure items [] (by simpa using hz) hel
@[simp] theorem asBs_fun {α : Type} (f : α → Bool) (l : List α) : asBs (l.map fun d => D.bl (f d)) = some (l.map f) := by
  induction l with
  | nil => rfl
  | cons b bs ih => simp [asBs, ih]
@[simp] theorem asIs_fun {α : Type} (f : α → Int) (l : List α) : asIs (l.map fun d => D.int (f d)) = some (l.map f) := by
  induction l with
  | nil => rfl
  | cons b bs ih => simp [asIs, ih]
/-! ### == at known kinds -/
@[simp] theorem toP_int (h : Hh) (n : Nat) (i : Int) : toP h n (.int i) = some (.int i) := by cases n <;> rfl
@[simp] theorem toP_bl (h : Hh) (n : Nat) (i : Bool) : toP h n (.bl i) = some (.bool i) := by cases n <;> rfl
@[simp] theorem toP_non (h : Hh) (n : Nat) : toP h n .non = some .none := by cases n <;> rfl
@[simp] theorem toP_ref (h : Hh) (n k : Nat) : toP h (n + 1) (.ref k) = match h[k]? with | some (.lst l) => (allP (toP h n) l).map .list | _ => none := rfl
@[simp] theorem toP_tup (h : Hh) (n : Nat) (l : List D) : toP h (n + 1) (.tup l) = (allP (toP h n) l).map .tuple := rfl
@[simp] theorem allP_ints (h : Hh) (n : Nat) (ns : List Int) : allP (toP h n) (ns.map D.int) = some (ns.map PyData.int) := by
  induction ns with
  | nil => rfl
  | cons i ns ih => simp [allP, ih]
@[simp] theorem eqvAll_ints : ∀ (a b : List Int), PyData.eqvAll (a.map PyData.int) (b.map PyData.int) = decide (a = b)
  | [], [] => by simp [PyData.eqvAll]
  | [], _ :: _ => by simp [PyData.eqvAll]
  | _ :: _, [] => by simp [PyData.eqvAll]
  | x :: a, y :: b => by
    have := eqvAll_ints a b
    simp only [List.map_cons, PyData.eqvAll, PyData.eqv, this]
    by_cases h1 : x = y <;> by_cases h2 : a = b <;> simp [h1, h2]
/-- a tuple of tints -/
abbrev tints (ns : List Int) : D := .tup (ns.map D.int)
@[simp] theorem pEq_ints (a b : List Int) (h : Hh) : pEq (.tup (a.map D.int)) (.tup (b.map D.int)) h = .ok (decide (a = b)) h := by
  unfold pEq
  rw [show (8 : Nat) = 7 + 1 from rfl, toP_tup, toP_tup, allP_ints, allP_ints]
  simp [PyData.eqv]
@[simp] theorem pEq_ints_nil (a : List Int) (h : Hh) : pEq (.tup (a.map D.int)) (.tup []) h = .ok (decide (a = [])) h := pEq_ints a [] h
@[simp] theorem pEq_nil_ints (a : List Int) (h : Hh) : pEq (.tup []) (.tup (a.map D.int)) h = .ok (decide ([] = a)) h := pEq_ints [] a h
@[simp] theorem pEq_int (a b : Int) (h : Hh) : pEq (.int a) (.int b) h = .ok (decide (a = b)) h := by
  simp [pEq, PyData.eqv]
  by_cases e : a = b <;> simp [e]
@[simp] theorem pEq_bl (a b : Bool) (h : Hh) : pEq (.bl a) (.bl b) h = .ok (a == b) h := by
  simp [pEq, PyData.eqv]
@[simp] theorem oEq_ap (d e : D) (h : Hh) : oEq d e h = (pEq d e h).bind fun b h => .ok (.bl b) h := rfl
@[simp] theorem oNe_ap (d e : D) (h : Hh) : oNe d e h = (pEq d e h).bind fun b h => .ok (.bl (!b)) h := rfl
/-- a list of the heap against the empty list written -/
theorem pEq_lst {h : Hh} {a b : Nat} {x y : List Int} (ha : h[a]? = some (.lst (x.map D.int))) (hb : h[b]? = some (.lst (y.map D.int))) : pEq (.ref a) (.ref b) h = .ok (decide (x = y)) h := by
  unfold pEq
  rw [show (8 : Nat) = 7 + 1 from rfl, toP_ref, toP_ref, ha, hb]
  simp only [allP_ints, Option.map_some]
  simp [PyData.eqv]
@[simp] theorem atI_last' {x : List D} {y : D} : atI (x ++ [y]) (-1) = some y := atI_last x y
theorem cutD_from {l : List D} {i : Int} (h : 0 ≤ i) : cutD l (some i) none = l.drop i.toNat := by
  obtain ⟨k, rfl⟩ : ∃ k : Nat, i = k := ⟨i.toNat, by omega⟩
  unfold cutD
  rw [HT.sIx_nat, HT.sIx_none, Int.toNat_natCast]
  by_cases hk : k ≤ l.length
  · rw [Nat.min_eq_left hk, List.take_of_length_le (by rw [List.length_drop]; omega)]
  · rw [Nat.min_eq_right (by omega), List.drop_of_length_le (Nat.le_refl _), List.drop_of_length_le (by omega)]
    simp
theorem cutD_to {l : List D} {i : Int} (h : 0 ≤ i) : cutD l none (some i) = l.take i.toNat := by
  obtain ⟨k, rfl⟩ : ∃ k : Nat, i = k := ⟨i.toNat, by omega⟩
  unfold cutD
  rw [HT.sIx_nat, HT.sIx_none, Int.toNat_natCast, List.drop_zero, Nat.sub_zero]
  by_cases hk : k ≤ l.length
  · rw [Nat.min_eq_left hk]
  · rw [Nat.min_eq_right (by omega), List.take_of_length_le (Nat.le_refl _), List.take_of_length_le (by omega)]
theorem cutD_mid {l : List D} {i j : Int} (h : 0 ≤ i) (h' : 0 ≤ j) : cutD l (some i) (some j) = (l.drop i.toNat).take (j.toNat - i.toNat) := by
  obtain ⟨k, rfl⟩ : ∃ k : Nat, i = k := ⟨i.toNat, by omega⟩
  obtain ⟨m, rfl⟩ : ∃ k : Nat, j = k := ⟨j.toNat, by omega⟩
  unfold cutD
  rw [HT.sIx_nat, HT.sIx_nat, Int.toNat_natCast, Int.toNat_natCast]
  by_cases hk : k ≤ l.length
  · rw [Nat.min_eq_left hk]
    by_cases hm : m ≤ l.length
    · rw [Nat.min_eq_left hm]
    · rw [Nat.min_eq_right (by omega), List.take_of_length_le (by rw [List.length_drop]; omega), List.take_of_length_le (by rw [List.length_drop]; omega)]
  · rw [show min k l.length = l.length by omega, List.drop_of_length_le (Nat.le_refl _), List.drop_of_length_le (by omega)]
    simp
theorem atI_pos {α : Type} {l : List α} {i : Int} (h : 0 ≤ i) (h2 : i < l.length) : atI l i = l[i.toNat]? := by
  unfold atI ixN
  rw [if_pos h, if_pos h2]
  rfl
theorem atI_neg {α : Type} {l : List α} {i : Int} (h : i < 0) (h2 : -(l.length : Int) ≤ i) : atI l i = l[(i + l.length).toNat]? := by
  unfold atI ixN
  rw [if_neg (by omega), if_pos h2]
  rfl
theorem pEq_lst_nil {h : Hh} {a b : Nat} {x : List D} (ha : h[a]? = some (.lst x)) (hb : h[b]? = some (.lst [])) (hx : ∃ y, allP (toP h 7) x = some y) : pEq (.ref a) (.ref b) h = .ok (decide (x = [])) h := by
  obtain ⟨y, hy⟩ := hx
  unfold pEq
  rw [show (8 : Nat) = 7 + 1 from rfl, toP_ref, toP_ref, ha, hb]
  simp only [hy]
  cases x with
  | nil =>
    simp [allP] at hy
    subst hy
    simp [allP, PyData.eqv, PyData.eqvAll]
  | cons d l =>
    unfold allP at hy
    split at hy
    · cases hy
      simp [allP, PyData.eqv, PyData.eqvAll]
    · cases hy
theorem last_ints (s : List Int) (y : Int) : atI (List.map D.int s ++ [D.int y]) (-1) = some (D.int y) := atI_last _ _
theorem lt_BIG {n : Nat} (h : n < 18446744073709551616) : n < BIG := by
  rw [BIG_eq]
  exact Nat.lt_of_lt_of_le h (by
    have : (18446744073709551616 : Nat) = 2 ^ 64 := by decide
    rw [this]
    exact Nat.pow_le_pow_right (by decide) (by decide))
theorem small_BIG {i : Int} (h : i.natAbs < 18446744073709551616) : i.natAbs < BIG := lt_BIG h
theorem mul_small {i j : Int} (h : Hh) (h1 : i.natAbs < 18446744073709551616) (h2 : j.natAbs < 18446744073709551616) : oMul (.int i) (.int j) h = .ok (.int (i * j)) h := by
  rw [oMul_int, if_pos ⟨lt_BIG h1, lt_BIG h2⟩]
end Sm
namespace Sm
open PySem L2
@[simp] theorem atI_0 {α : Type} (a : α) (l : List α) : atI (a :: l) 0 = some a := by
  rw [atI_pos (by decide) (by simp)]; rfl
@[simp] theorem atI_1 {α : Type} (a b : α) (l : List α) : atI (a :: b :: l) 1 = some b := by
  rw [atI_pos (by decide) (by simp; omega)]; rfl
@[simp] theorem atI_2 {α : Type} (a b c : α) (l : List α) : atI (a :: b :: c :: l) 2 = some c := by
  rw [atI_pos (by decide) (by simp; omega)]; rfl
@[simp] theorem atI_3 {α : Type} (a b c d : α) (l : List α) : atI (a :: b :: c :: d :: l) 3 = some d := by
  rw [atI_pos (by decide) (by simp; omega)]; rfl
theorem inR_of {i : Int} (h1 : -1000000000 ≤ i) (h2 : i ≤ 1000000000) : inR i = true := by
  unfold inR
  exact decide_eq_true (by omega)
@[simp] theorem ixN_30 : ixN 3 0 = some 0 := by decide
@[simp] theorem ixN_31 : ixN 3 1 = some 1 := by decide
@[simp] theorem ixN_32 : ixN 3 2 = some 2 := by decide
/-- a list of three ints that is drawn from -/
def SackAt (i : Nat) (k : Int) (h : Hh) : Prop := ∃ a b c : Int, h[i]? = some (.lst [.int a, .int b, .int c]) ∧ 0 ≤ a ∧ a.natAbs < BIG ∧ b.natAbs < 1208925819614629174706176 ∧ 0 ≤ c ∧ c ≤ k
theorem SackAt.lt {i : Nat} {k : Int} {h : Hh} (s : SackAt i k h) : i < h.length := by
  obtain ⟨a, b, c, e, _⟩ := s
  exact (List.getElem?_eq_some_iff.mp e).1
theorem SackAt.mono {i : Nat} {k j : Int} {h : Hh} (s : SackAt i k h) (hk : k ≤ j) : SackAt i j h := by
  obtain ⟨a, b, c, e, e1, e2, e3, e4, e5⟩ := s
  exact ⟨a, b, c, e, e1, e2, e3, e4, by omega⟩
theorem SackAt.app {i : Nat} {k : Int} {h : Hh} (s : SackAt i k h) (g : Hh) : SackAt i k (h ++ g) := by
  have hl := s.lt
  obtain ⟨a, b, c, e, r⟩ := s
  exact ⟨a, b, c, by rw [List.getElem?_append_left hl]; exact e, r⟩
theorem set_app_lt {h g : Hh} {i : Nat} {o : O} (hi : i < h.length) : (h ++ g).set i o = h.set i o ++ g := by
  rw [List.set_append_left _ _ hi]
theorem fmod_pos {a b : Int} (h : 0 < b) : a.fmod b = a % b := Int.fmod_eq_emod_of_nonneg a (by omega)
theorem fdiv_pos {a b : Int} (h : 0 < b) : a.fdiv b = a / b := Int.fdiv_eq_ediv_of_nonneg a (by omega)
theorem div_BIG {a b : Int} (h0 : 0 ≤ a) (h : a.natAbs < BIG) (hb : 0 < b) : 0 ≤ a / b ∧ (a / b).natAbs < BIG := by
  have h1 : 0 ≤ a / b := Int.ediv_nonneg h0 (by omega)
  have h2 : a / b ≤ a := Int.ediv_le_self b h0
  exact ⟨h1, Nat.lt_of_le_of_lt (by omega) h⟩
/-- what a def that draws gives back, over whatever stands behind -/
structure Drew (i : Nat) (k t : Int) (h : Hh) (x : Hh → R D) (r : Int) (o : O) : Prop where
  eq : ∀ g, x (h ++ g) = .ok (.int r) (h.set i o ++ g)
  lo : 0 ≤ r
  hi : r < t
  at_ : SackAt i (k + 1) (h.set i o)
  pu : O.pure o = true
theorem Drew.eq0 {i : Nat} {k t : Int} {h : Hh} {x : Hh → R D} {r : Int} {o : O} (d : Drew i k t h x r o) : x h = .ok (.int r) (h.set i o) := by
  have := d.eq []
  simpa using this
theorem SackAt.same {i : Nat} {k : Int} {h : Hh} (s : SackAt i k h) : ∃ o, h.set i o = h ∧ O.pure o = true := by
  have hl := s.lt
  obtain ⟨a, b, c, e, _⟩ := s
  refine ⟨_, ?_, show O.pure (.lst [.int a, .int b, .int c]) = true by simp [O.pure]⟩
  refine List.ext_getElem? fun j => ?_
  rw [List.getElem?_set]
  split
  · rename_i e1
    rw [← e1, e]
  · rfl
theorem len_end {h g : Hh} {i : Nat} {o x : O} : (h.set i o ++ x :: g)[h.length]? = some x := by
  have := get_end (h.set i o) x g
  rwa [List.length_set] at this
theorem len_set {h g : Hh} {i : Nat} {o x y : O} : (h.set i o ++ x :: g).set h.length y = h.set i o ++ y :: g := by
  have := set_end (h.set i o) x y g
  rwa [List.length_set] at this
theorem all_set {h : Hh} {i : Nat} {o : O} (hp : h.all O.pure = true) (ho : O.pure o = true) : (h.set i o).all O.pure = true := by
  refine List.all_eq_true.mpr fun x hx => ?_
  rcases List.mem_or_eq_of_mem_set hx with hx | rfl
  · exact List.all_eq_true.mp hp x hx
  · exact ho
theorem sack_pure (a b c : Int) : O.pure (.lst [.int a, .int b, .int c]) = true := by simp [O.pure]
end Sm
namespace Sm
open PySem L2
@[simp] theorem gc_ref (h h' : Hh) (n : Nat) : gcR h (.ref n) h' = .ok (.ref n) h' := by
  unfold gcR
  simp [D.pure]
theorem gc_kept {h g : Hh} {d : D} {i : Nat} {o : O} : gcR (h ++ g) d (h.set i o ++ g) = .ok d (h.set i o ++ g) := gc_len (by simp)
theorem get_endk (h l : Hh) (k : Nat) : (h ++ l)[h.length + k]? = l[k]? := by
  rw [List.getElem?_append_right (by omega), Nat.add_sub_cancel_left]
theorem comp_goodF {g : FG} {t : FT} {e : FE} {l : Lo} {h : Hh} {good : Hh → Bool} {f : D → D} {p : D → Bool} : ∀ (items acc : List D), acc.length + items.length ≤ sz → (∀ a, good (h ++ [.lst a]) = true) → (∀ d ∈ items, ∀ a, ∃ l1, g d l (h ++ [.lst a]) = .ok l1 (h ++ [.lst a]) ∧ t l1 (h ++ [.lst a]) = .ok (p d) (h ++ [.lst a]) ∧ (p d = true → e l1 (h ++ [.lst a]) = .ok (f d) (h ++ [.lst a]))) →
    compL good g t e h.length l items (h ++ [.lst acc]) = .ok () (h ++ [.lst (acc ++ (items.filter p).map f)])
  | [], acc, _, hg, _ => by simp [hg]
  | d :: ds, acc, hz, hg, hel => by
    obtain ⟨l1, h1, h2, h3⟩ := hel d List.mem_cons_self acc
    rw [List.length_cons] at hz
    simp only [compL_cons, hg, if_true, h1, R.bind_ok, h2]
    cases hp : p d with
    | true =>
      simp only [if_true, h3 hp, R.bind_ok, get_end]
      rw [if_pos (by omega), set_end, comp_goodF ds (acc ++ [f d]) (by rw [List.length_append, List.length_singleton]; omega) hg fun d hd h' => hel d (List.mem_cons_of_mem _ hd) h']
      simp [hp]
    | false =>
      simp only [Bool.false_eq_true, if_false]
      rw [comp_goodF ds acc (by omega) hg fun d hd h' => hel d (List.mem_cons_of_mem _ hd) h']
      simp [hp]
end Sm
/-! Sm: least and greatest of one list, `is None` -/
namespace Sm
open PySem PySem.Spec PyProof.Rows L2
variable {W : Wd} {X : Cx}
theorem DpAll.at_ {K : PySem.W.Frag} {H : Hp} : ∀ {vs : List V} {ds : List PyData} {i : Nat} {v : V}, DpAll K H vs ds → vs[i]? = some v → ∃ d, ds[i]? = some d ∧ Dp K H v d
  | _, _, 0, _, .cons h _, e => by cases e; exact ⟨_, rfl, h⟩
  | _, _, i + 1, _, .cons _ h, e => DpAll.at_ (i := i) h e
  | _, _, i, _, .nil, e => by cases i <;> cases e
theorem Vals.at_ {vs : List V} {us : List Value} {i : Nat} {u : Value} (r : Vals vs us) (e : us[i]? = some u) : ∃ v, vs[i]? = some v ∧ RelV v u := by
  have hl := r.length
  have hi := (List.getElem?_eq_some_iff.mp e).1
  obtain ⟨u', e', rv⟩ := r.get (i := i) (x := vs[i]'(by omega)) (List.getElem?_eq_getElem (by omega))
  rw [e] at e'
  cases e'
  exact ⟨_, List.getElem?_eq_getElem (by omega), rv⟩
def rPick (f : PyData → List PyData → PyData) (K : PySem.W.Frag) : List V → Hp → VK → Prop := fun vs H Q => ∃ (a : Addr) (xs : List V) (p : PyData) (ps : List PyData), vs = [V.ref a] ∧ (SqL K H a xs ∨ SqT K H a xs) ∧ DpAll K H xs (p :: ps) ∧ PySem.W.AlikeAll (p :: ps) ∧ PyData.depthAll (p :: ps) ≤ 20 ∧
  ∀ y ∈ xs, Dp K H y (f p ps) → Q y H
section
variable {pins : List (Addr × Obj)} {σ : L2.St} {H : Hp} {s : Shared}
theorem pick_end {Q : VK} {xs : List V} {its : List Value} {p : PyData} {ps : List PyData} {f : PyData → List PyData → PyData} (I : Inv X pins σ H s) (rv : Vals xs its) (ha : DpAll X.K H xs (p :: ps))
    (hq : ∀ y ∈ xs, Dp X.K H y (f p ps) → Q y H) {i : Nat} {v : Value} {h' : Heap} {tk : Tok} {bs : List Addr} (hv : its.toArray[i]? = some v) (hr : Reads h' v (f p ps) bs) (hk : ∀ b o, s.heap.get? b = some o → h'.get? b = some o) :
    EP X pins σ Q v { s with heap := h', toks := tk } := by
  have hv' : its[i]? = some v := by simpa using hv
  obtain ⟨y, ey, ry⟩ := Vals.at_ rv hv'
  obtain ⟨d, ed, hd⟩ := DpAll.at_ ha ey
  obtain ⟨as, hR⟩ := Dp.reads I d y v hd ry
  obtain ⟨e1, _⟩ := reads_det (fun b o e _ => hk b o e) hR hr
  exact ⟨y, H, I.kept hk, ry, hq y (List.mem_of_getElem? ey) (e1 ▸ hd)⟩
end
theorem cr_least (hc : X.calm = true) (hu : X.A.units + 64 < cLine) : CallR X (.builtin "min") (rPick PySem.W.minD X.K) := by
  intro pins s σ H vs us Q I r h
  obtain ⟨a, xs, p, ps, rfl, hs, ha, hl, hd, q⟩ := h
  rw [Vals.ref1 r]
  rcases hs with hs | hs
  · obtain ⟨its, rv, hL, _⟩ := I.list hs
    obtain ⟨as, hR⟩ := Dp.readsAll I _ _ its ha rv
    exact PySem.W.min_list_data (I.ok.hd hc) hL.isList hR hl (by omega) fun i v h' tk bs e1 e2 e3 => pick_end I rv ha q e1 e2 e3
  · obtain ⟨its, rv, hT, _⟩ := I.tuple hs
    obtain ⟨as, hR⟩ := Dp.readsAll I _ _ its ha rv
    exact PySem.W.min_tuple_data (I.ok.hd hc) hT hR hl (by omega) fun i v h' tk bs e1 e2 e3 => pick_end I rv ha q e1 e2 e3
theorem cr_greatest (hc : X.calm = true) (hu : X.A.units + 64 < cLine) : CallR X (.builtin "max") (rPick PySem.W.maxD X.K) := by
  intro pins s σ H vs us Q I r h
  obtain ⟨a, xs, p, ps, rfl, hs, ha, hl, hd, q⟩ := h
  rw [Vals.ref1 r]
  rcases hs with hs | hs
  · obtain ⟨its, rv, hL, _⟩ := I.list hs
    obtain ⟨as, hR⟩ := Dp.readsAll I _ _ its ha rv
    exact PySem.W.max_list_data (I.ok.hd hc) hL.isList hR hl (by omega) fun i v h' tk bs e1 e2 e3 => pick_end I rv ha q e1 e2 e3
  · obtain ⟨its, rv, hT, _⟩ := I.tuple hs
    obtain ⟨as, hR⟩ := Dp.readsAll I _ _ its ha rv
    exact PySem.W.max_tuple_data (I.ok.hd hc) hT hR hl (by omega) fun i v h' tk bs e1 e2 e3 => pick_end I rv ha q e1 e2 e3
/-! ### the order of rows of ints -/
def ltT : List Int → List Int → Bool
  | [], [] => false
  | [], _ :: _ => true
  | _ :: _, [] => false
  | x :: xs, y :: ys => if x = y then ltT xs ys else decide (x < y)
def minT (w : List Int) (ws : List (List Int)) : List Int := ws.foldl (fun a y => if ltT y a = true then y else a) w
def maxT (w : List Int) (ws : List (List Int)) : List Int := ws.foldl (fun a y => if ltT a y = true then y else a) w
def tupP (w : List Int) : PyData := .tuple (w.map PyData.int)
theorem listLt_T : ∀ a b : List Int, PySem.W.listLt a b = ltT a b
  | [], [] => rfl
  | [], _ :: _ => rfl
  | _ :: _, [] => rfl
  | x :: xs, y :: ys => by
    show (if x = y then PySem.W.listLt xs ys else decide (x < y)) = _
    rw [listLt_T xs ys]
    rfl
theorem minD_tup (w : List Int) (ws : List (List Int)) : PySem.W.minD (tupP w) (ws.map tupP) = tupP (minT w ws) := by
  have h := PySem.W.minD_map (PySem.W.Tup.mk w) (ws.map PySem.W.Tup.mk)
  have e1 : (ws.map PySem.W.Tup.mk).map PySem.W.Datum.toD = ws.map tupP := by
    rw [List.map_map]
    rfl
  rw [e1] at h
  refine h.trans ?_
  have e2 : ∀ (ws : List (List Int)) (w : List Int), PySem.W.minOf (PySem.W.Tup.mk w) (ws.map PySem.W.Tup.mk) = PySem.W.Tup.mk (minT w ws) := by
    intro ws
    induction ws with
    | nil => intro w; rfl
    | cons y ys ih =>
      intro w
      unfold PySem.W.minOf minT
      rw [List.map_cons, List.foldl_cons, List.foldl_cons]
      have e3 : PySem.W.DatumOrd.lt (PySem.W.Tup.mk y) (PySem.W.Tup.mk w) = ltT y w := listLt_T y w
      rw [e3]
      have := ih (if ltT y w = true then y else w)
      unfold PySem.W.minOf minT at this
      split
      · rename_i q
        rw [if_pos q] at this
        exact this
      · rename_i q
        rw [if_neg q] at this
        exact this
  rw [e2]
  rfl
theorem alike_tup (ws : List (List Int)) : PySem.W.AlikeAll (ws.map tupP) := by
  have := PySem.W.alikeAll_datum (ws.map PySem.W.Tup.mk)
  rw [List.map_map] at this
  exact this
theorem alike_int (ns : List Int) : PySem.W.AlikeAll (ns.map PyData.int) := PySem.W.alikeAll_datum ns
theorem dep_ints (ns : List Int) : PyData.depthAll (ns.map PyData.int) = 0 := by
  induction ns with
  | nil => rfl
  | cons n ns ih => simp [PyData.depthAll, PyData.depth, ih]
theorem dep_tups (ws : List (List Int)) : PyData.depthAll (ws.map tupP) ≤ 1 := by
  induction ws with
  | nil => simp [PyData.depthAll]
  | cons n ns ih => simp [PyData.depthAll, PyData.depth, tupP, dep_ints, ih]
/-! ### least of one list -/
def asTs : List D → Option (List (List Int))
  | [] => some []
  | .tup l :: r => match asIs l, asTs r with
    | some w, some ws => some (w :: ws)
    | _, _ => none
  | _ => none
theorem asTs_eq : ∀ {l : List D} {ws : List (List Int)}, asTs l = some ws → l = ws.map tints
  | [], ws, e => by simp only [asTs, Option.some.injEq] at e; subst e; rfl
  | .tup b :: l, ws, e => by
    simp only [asTs] at e
    split at e
    · rename_i w us e1 e2
      cases e
      rw [asIs_eq e1, asTs_eq e2]
      rfl
    · cases e
  | .non :: l, bs, e | .bl _ :: l, bs, e | .str _ :: l, bs, e | .int _ :: l, bs, e | .ref _ :: l, bs, e | .ro _ :: l, bs, e | .ty _ :: l, bs, e => by simp [asTs] at e
@[simp] theorem asTs_map (ws : List (List Int)) : asTs (ws.map tints) = some ws := by
  induction ws with
  | nil => rfl
  | cons b bs ih => simp [asTs, ih]
def rowOf (d : D) (h : Hh) : Option (List D) := match d with
  | .tup l => some l
  | .ro l => some l
  | .ref n => match h[n]? with
    | some (.lst l) => some l
    | _ => none
  | _ => none
theorem rowOf_rep {K : PySem.W.Frag} {m : List Addr} {h : Hh} {H : Hp} {d : D} {v : V} {l : List D} (hh : HRel K m h H) (r : Rep K m H d v) (e : rowOf d h = some l) : ∃ a xs, v = .ref a ∧ (SqL K H a xs ∨ SqT K H a xs) ∧ RepL K m H l xs := by
  cases r with
  | tup h1 r1 =>
    simp only [rowOf, Option.some.injEq] at e
    subst e
    exact ⟨_, _, rfl, .inr h1, r1⟩
  | ro h1 r1 =>
    simp only [rowOf, Option.some.injEq] at e
    subst e
    exact ⟨_, _, rfl, .inl h1.sq, r1⟩
  | @ref n a hn =>
    simp only [rowOf] at e
    split at e
    · rename_i k ek
      cases e
      obtain ⟨b, ys, e1, _, h1, r1⟩ := hh.lst (.ref hn) ek
      exact ⟨b, ys, e1, .inl (SqL.of h1), r1⟩
    · cases e
  | _ => simp [rowOf] at e
def fMin1 (ds : List D) (h : Hh) : R D := match ds with
  | [d] => match rowOf d h with
    | some l => match asIs l with
      | some (n :: ns) => .ok (.int (ns.foldl min n)) h
      | _ => match asTs l with
        | some (w :: ws) => .ok (tints (minT w ws)) h
        | _ => .bad
    | none => .bad
  | _ => .bad
theorem DpAll.ints {K : PySem.W.Frag} {H : Hp} : ∀ ns : List Int, DpAll K H (ns.map V.int) (ns.map PyData.int)
  | [] => .nil
  | n :: ns => .cons (.int n) (DpAll.ints ns)
theorem DpAll.toInts {K : PySem.W.Frag} {H : Hp} : ∀ {ns : List Int} {xs : List V}, DpAll K H xs (ns.map PyData.int) → xs = ns.map V.int
  | [], _, .nil => rfl
  | n :: ns, _, .cons a r => by
    cases a
    rw [DpAll.toInts (ns := ns) r]
    rfl
theorem DpAll.tups {K : PySem.W.Frag} {m : List Addr} {H : Hp} : ∀ {ws : List (List Int)} {xs : List V}, RepL K m H (ws.map tints) xs → DpAll K H xs (ws.map tupP)
  | [], _, .nil => .nil
  | w :: ws, _, .cons a r => by
    refine .cons ?_ (DpAll.tups (ws := ws) r)
    cases a with
    | tup h1 r1 =>
      rw [r1.toInts] at h1
      exact .tup h1 (DpAll.ints w)
theorem Dp.toTup {K : PySem.W.Frag} {m : List Addr} {H : Hp} {w : List Int} {v : V} (d : Dp K H v (tupP w)) : Rep K m H (tints w) v := by
  cases d with
  | tup h1 r1 =>
    rw [DpAll.toInts r1] at h1
    exact .tup h1 (RepL.ints w)
theorem sc_min1 (hK : X.K = W.K) (hc : X.calm = true) (hu : X.A.units + 64 < cLine) : CallR X (.builtin "min") (rdN W fMin1) := CallR.weak (cr_least hc hu) fun xs H Q ⟨m, h, ds, hh, r, q⟩ => by
  unfold fMin1 at q
  split at q
  · obtain ⟨v, rfl, rv⟩ := one_rep r
    split at q
    · rename_i l el
      obtain ⟨a, ys, rfl, hs, rl⟩ := rowOf_rep hh rv el
      rw [hK]
      split at q
      · rename_i n ns e1
        rw [asIs_eq e1] at rl
        have := rl.toInts
        subst this
        refine ⟨a, _, .int n, ns.map PyData.int, rfl, hs, DpAll.ints (n :: ns), alike_int (n :: ns), Nat.le_trans (Nat.le_of_eq (dep_ints (n :: ns))) (by decide), fun y _ hy => ?_⟩
        rw [PySem.W.minD_ints] at hy
        cases hy
        exact q.val hh (.int _)
      · split at q
        · rename_i w ws e2
          rw [asTs_eq e2] at rl
          refine ⟨a, _, tupP w, ws.map tupP, rfl, hs, DpAll.tups (ws := w :: ws) rl, alike_tup (w :: ws), Nat.le_trans (dep_tups (w :: ws)) (by decide), fun y _ hy => ?_⟩
          rw [minD_tup] at hy
          exact q.val hh (Dp.toTup hy)
        · exact q.elim
    · exact q.elim
  · exact q.elim
/-! ### is None -/
def oIs (d e : D) (h : Hh) : R D := match e with
  | .non => match d with
    | .non => .ok (.bl true) h
    | _ => .ok (.bl false) h
  | _ => .bad
def oIsN (d e : D) (h : Hh) : R D := match e with
  | .non => match d with
    | .non => .ok (.bl false) h
    | _ => .ok (.bl true) h
  | _ => .bad
theorem sop_is : OpR X (compareOp .Is) (rd2 W oIs) := OpR.weak op_isN fun x y H Q ⟨m, h, d, e, hh, rx, ry, q⟩ => by
  unfold oIs at q
  split at q
  · cases ry
    refine ⟨rfl, ?_⟩
    split at q
    · cases rx
      exact q.val hh (.bl _)
    · rename_i hd
      have : x ≠ .non := fun e => by
        subst e
        cases rx
        exact hd rfl
      simp only [this, decide_false]
      exact q.val hh (.bl _)
  · exact q.elim
theorem sop_isn : OpR X (compareOp .IsNot) (rd2 W oIsN) := OpR.weak op_notN fun x y H Q ⟨m, h, d, e, hh, rx, ry, q⟩ => by
  unfold oIsN at q
  split at q
  · cases ry
    refine ⟨rfl, ?_⟩
    split at q
    · cases rx
      exact q.val hh (.bl _)
    · rename_i hd
      have : x ≠ .non := fun e => by
        subst e
        cases rx
        exact hd rfl
      simp only [this, decide_false, Bool.not_false]
      exact q.val hh (.bl _)
  · exact q.elim
/-! simp forms -/
@[simp] theorem oIs_non (d : D) (h : Hh) : oIs d .non h = match d with | .non => .ok (.bl true) h | _ => .ok (.bl false) h := rfl
@[simp] theorem oIsN_non (d : D) (h : Hh) : oIsN d .non h = match d with | .non => .ok (.bl false) h | _ => .ok (.bl true) h := rfl
@[simp] theorem fMin1_ints (n : Int) (ns : List Int) (h : Hh) : fMin1 [.tup (.int n :: ns.map D.int)] h = .ok (.int (ns.foldl min n)) h := by
  have : asIs (.int n :: ns.map D.int) = some (n :: ns) := asIs_map (n :: ns)
  simp [fMin1, rowOf, this]
theorem fMin1_tups {k : Nat} {w : List Int} {ws : List (List Int)} {h : Hh} (e : h[k]? = some (.lst (tints w :: ws.map tints))) : fMin1 [.ref k] h = .ok (tints (minT w ws)) h := by
  have h1 : asTs (tints w :: ws.map tints) = some (w :: ws) := asTs_map (w :: ws)
  have h2 : asIs (tints w :: ws.map tints) = none := rfl
  simp only [fMin1, rowOf, e, h1, h2]
end Sm
/-! Sm: x in a row -/
namespace Sm
open PySem PySem.Spec PyProof.Rows L2
variable {W : Wd} {X : Cx}
theorem units65 {k : Nat} {A : Around} (r : Room k A) : A.units + 65 < cLine := by have := r.un; omega
def rowP : PyData → Option (List PyData)
  | .list xs => some xs
  | .tuple xs => some xs
  | _ => none
def pIn (d e : D) (h : Hh) : R Bool := match toP h 8 d, toP h 8 e with
  | some a, some b => (match rowP b with
    | some xs => .ok (xs.any fun z => PyData.eqv z a) h
    | none => .bad)
  | _, _ => .bad
def oIn (d e : D) (h : Hh) : R D := (pIn d e h).bind fun b h => .ok (.bl b) h
def oNin (d e : D) (h : Hh) : R D := (pIn d e h).bind fun b h => .ok (.bl (!b)) h
theorem sop_in (hK : X.K = W.K) (hu : X.A.units + 65 < cLine) : OpR X (compareOp .In) (rd2 W oIn) := by
  intro pins s σ H x y v u Q I rx ry ⟨m, h, d, e, hh, dx, dy, q⟩
  unfold oIn pIn at q
  split at q
  · rename_i a b ea eb
    split at q
    · rename_i xs exs
      have hd : Dp X.K H x a := hK ▸ toP_dp hh 8 d x a dx ea
      have he : Dp X.K H y b := hK ▸ toP_dp hh 8 e y b dy eb
      have sd := toP_shaped ea
      have se := toP_shaped eb
      obtain ⟨as, r1⟩ := Dp.reads I a x v hd rx
      obtain ⟨bs, r2⟩ := Dp.reads I b y u he ry
      unfold rowP at exs
      split at exs
      · cases exs
        exact SeqAt.in_list_reads r2 r1 (SeqAt.canLay_of_shaped se) (SeqAt.canLay_of_shaped sd) (room_in_shaped sd hu) ⟨.bl _, H, I, rfl, q.val hh (.bl _)⟩
      · cases exs
        exact SeqAt.in_tuple_reads r2 r1 (SeqAt.canLay_of_shaped se) (SeqAt.canLay_of_shaped sd) (room_in_shaped sd hu) ⟨.bl _, H, I, rfl, q.val hh (.bl _)⟩
      · cases exs
    · exact q.elim
  · exact q.elim
theorem sop_nin (hK : X.K = W.K) (hu : X.A.units + 65 < cLine) : OpR X (compareOp .NotIn) (rd2 W oNin) := by
  intro pins s σ H x y v u Q I rx ry ⟨m, h, d, e, hh, dx, dy, q⟩
  unfold oNin pIn at q
  split at q
  · rename_i a b ea eb
    split at q
    · rename_i xs exs
      have hd : Dp X.K H x a := hK ▸ toP_dp hh 8 d x a dx ea
      have he : Dp X.K H y b := hK ▸ toP_dp hh 8 e y b dy eb
      have sd := toP_shaped ea
      have se := toP_shaped eb
      obtain ⟨as, r1⟩ := Dp.reads I a x v hd rx
      obtain ⟨bs, r2⟩ := Dp.reads I b y u he ry
      unfold rowP at exs
      split at exs
      · cases exs
        exact SeqAt.notIn_list_reads r2 r1 (SeqAt.canLay_of_shaped se) (SeqAt.canLay_of_shaped sd) (room_in_shaped sd hu) ⟨.bl _, H, I, rfl, q.val hh (.bl _)⟩
      · cases exs
        exact SeqAt.notIn_tuple_reads r2 r1 (SeqAt.canLay_of_shaped se) (SeqAt.canLay_of_shaped sd) (room_in_shaped sd hu) ⟨.bl _, H, I, rfl, q.val hh (.bl _)⟩
      · cases exs
    · exact q.elim
  · exact q.elim
end Sm
namespace K01
open PySem L2 Sm

def b_is_whole : FS :=
  (sRet (eAnd (eCall fIsi (aCons (eVar 0) (aCons (eC (.ty "int")) aNil))) (eNot (eCall fIsi (aCons (eVar 0) (aCons (eC (.ty "bool")) aNil))))))
def m_is_whole : FF := mkF 1 1 b_is_whole
def b_is_within : FS :=
  (sRet (eAnd (eCall m_is_whole (aCons (eVar 0) aNil)) (eChain oLe oLe (eVar 1) (eVar 0) (eVar 2))))
def m_is_within : FF := mkF 3 3 b_is_within
def b_are_wholes : FS :=
  (sRet (eAnd (eCall fIsi (aCons (eVar 0) (aCons (eC (.ty "tuple")) aNil))) (eCall fAll (aCons (eLc (iSeq (eVar 0)) (gNm 1) tYs (eCall m_is_whole (aCons (eVar 1) aNil)) [1]) aNil))))
def m_are_wholes : FF := mkF 1 2 b_are_wholes
def b_require_within : FS :=
  (sIf (tNot (tB (eCall m_is_within (aCons (eVar 0) (aCons (eVar 1) (aCons (eVar 2) aNil))))))
    sBad
    sPass)
def m_require_within : FF := mkF 3 3 b_require_within
def b_require_letters : FS :=
  (sEx (eCall m_require_within (aCons (eVar 0) (aCons (eC (.int 1)) (aCons (eC (.int 5)) aNil)))))
def m_require_letters : FF := mkF 1 1 b_require_letters
def b_contrary_in : FS :=
  (sRet (eCall fTuple (aCons (eLc (iSeq (eUn oRev (eVar 0))) (gNm 1) tYs (eUn oNeg (eVar 1)) [1]) aNil)))
def m_contrary_in : FF := mkF 1 2 b_contrary_in
def b_common_ends : FS :=
  (sSeq (sPar 2 3 (aCons (eC (.int 0)) (aCons (eCall fMin2 (aCons (eCall fLen (aCons (eVar 0) aNil)) (aCons (eCall fLen (aCons (eVar 1) aNil)) aNil))) aNil)))
  (sSeq (sWhile (tAnd (tB (eBin oLt (eVar 2) (eVar 3))) (tB (eBin oEq (eBin oIx (eVar 0) (eBin oSub (eUn oNeg (eC (.int 1))) (eVar 2))) (eUn oNeg (eBin oIx (eVar 1) (eVar 2))))))
    (sAug 2 iAdd (eC (.int 1))))
  (sRet (eVar 2))))
def m_common_ends : FF := mkF 2 4 b_common_ends
def b_product_in : FS :=
  (sSeq (sAsg (eCall m_common_ends (aCons (eVar 0) (aCons (eVar 1) aNil))) (gNm 2))
  (sRet (eTup (aStar (eSl oSl (eVar 0) pNo (pAt (eBin oSub (eCall fLen (aCons (eVar 0) aNil)) (eVar 2)))) (aStar (eSl oSl (eVar 1) (pAt (eVar 2)) pNo) aNil)))))
def m_product_in : FF := mkF 2 3 b_product_in
def b_core_in : FS :=
  (sSeq (sAsg (eC (.int 0)) (gNm 1))
  (sSeq (sWhile (tAnd (tB (eBin oLt (eBin oAdd (eBin oMul (eC (.int 2)) (eVar 1)) (eC (.int 1))) (eCall fLen (aCons (eVar 0) aNil)))) (tB (eBin oEq (eBin oIx (eVar 0) (eVar 1)) (eUn oNeg (eBin oIx (eVar 0) (eBin oSub (eUn oNeg (eC (.int 1))) (eVar 1)))))))
    (sAug 1 iAdd (eC (.int 1))))
  (sRet (eTup (aCons (eSl oSl (eVar 0) pNo (pAt (eVar 1))) (aCons (eSl oSl (eVar 0) (pAt (eVar 1)) (pAt (eBin oSub (eCall fLen (aCons (eVar 0) aNil)) (eVar 1)))) aNil))))))
def m_core_in : FF := mkF 1 2 b_core_in
def b_power_in : FS :=
  (sSeq (sIf (tB (eBin oEq (eVar 1) (eC (.int 0))))
    (sRet (eTup aNil))
    sPass)
  (sSeq (sAsg (eIf (tB (eBin oGt (eVar 1) (eC (.int 0)))) (eVar 0) (eCall m_contrary_in (aCons (eVar 0) aNil))) (gNm 2))
  (sSeq (sAsg (eCall m_core_in (aCons (eVar 2) aNil)) (gTp 2 (gCo (gNm 3) (gCo (gNm 4) gNo))))
  (sRet (eTup (aStar (eVar 3) (aStar (eBin oMul (eVar 4) (eCall fAbs (aCons (eVar 1) aNil))) (aStar (eCall m_contrary_in (aCons (eVar 3) aNil)) aNil))))))))
def m_power_in : FF := mkF 2 5 b_power_in
def b_root_in : FS :=
  (sSeq (sAsg (eCall m_core_in (aCons (eVar 0) aNil)) (gTp 2 (gCo (gNm 3) (gCo (gNm 4) gNo))))
  (sSeq (sAsg (eCall fLen (aCons (eVar 4) aNil)) (gNm 1))
  (sSeq (sAsg (eCall fMin1 (aCons (eLc (iRange2 (aCons (eC (.int 1)) (aCons (eBin oAdd (eVar 1) (eC (.int 1))) aNil))) (gNm 5) (tAnd (tB (eBin oEq (eBin oMod (eVar 1) (eVar 5)) (eC (.int 0)))) (tB (eBin oEq (eBin oMul (eSl oSl (eVar 4) pNo (pAt (eVar 5))) (eBin oDiv (eVar 1) (eVar 5))) (eVar 4)))) (eVar 5) [5]) aNil)) (gNm 2))
  (sRet (eTup (aCons (eTup (aStar (eVar 3) (aStar (eSl oSl (eVar 4) pNo (pAt (eVar 2))) (aStar (eCall m_contrary_in (aCons (eVar 3) aNil)) aNil)))) (aCons (eBin oDiv (eVar 1) (eVar 2)) aNil)))))))
def m_root_in : FF := mkF 1 6 b_root_in
def b_exponents_in : FS :=
  (sSeq (sIf (tB (eBin oEq (eVar 0) (eTup aNil)))
    (sRet (eIf (tB (eBin oEq (eVar 1) (eTup aNil))) (eTup (aCons (eTup aNil) (aCons (eC (.int 0)) (aCons (eC (.int 0)) aNil)))) (eTup (aCons (eBin oIx (eCall m_root_in (aCons (eVar 1) aNil)) (eC (.int 0))) (aCons (eC (.int 0)) (aCons (eBin oIx (eCall m_root_in (aCons (eVar 1) aNil)) (eC (.int 1))) aNil))))))
    sPass)
  (sSeq (sAsg (eCall m_root_in (aCons (eVar 0) aNil)) (gTp 2 (gCo (gNm 2) (gCo (gNm 3) gNo))))
  (sSeq (sIf (tB (eBin oEq (eVar 1) (eTup aNil)))
    (sRet (eTup (aCons (eVar 2) (aCons (eVar 3) (aCons (eC (.int 0)) aNil)))))
    sPass)
  (sSeq (sAsg (eCall m_root_in (aCons (eVar 1) aNil)) (gTp 2 (gCo (gNm 4) (gCo (gNm 5) gNo))))
  (sRet (eTup (aCons (eVar 2) (aCons (eVar 3) (aCons (eIf (tB (eBin oEq (eVar 4) (eVar 2))) (eVar 5) (eUn oNeg (eVar 5))) aNil)))))))))
def m_exponents_in : FF := mkF 2 6 b_exponents_in
def b_is_row_in : FS :=
  (sSeq (sIf (tNot (tB (eCall m_are_wholes (aCons (eVar 1) aNil))))
    (sRet (eC (.bl false)))
    sPass)
  (sRet (eCall fAll (aCons (eLc (iSeq (eVar 1)) (gNm 2) tYs (eChain oLe oLe (eC (.int 1)) (eCall fAbs (aCons (eVar 2) aNil)) (eVar 0)) [2]) aNil))))
def m_is_row_in : FF := mkF 2 3 b_is_row_in
def b_is_word_any : FS :=
  (sRet (eAnd (eCall m_is_row_in (aCons (eVar 0) (aCons (eVar 1) aNil))) (eCall fAll (aCons (eLc (iZip (aCons (eVar 1) (aCons (eSl oSl (eVar 1) (pAt (eC (.int 1))) pNo) aNil))) (gTp 2 (gCo (gNm 2) (gCo (gNm 3) gNo))) tYs (eBin oNe (eVar 2) (eUn oNeg (eVar 3))) [2, 3]) aNil))))
def m_is_word_any : FF := mkF 2 4 b_is_word_any
def b_is_word_in : FS :=
  (sRet (eAnd (eCall m_is_word_any (aCons (eVar 0) (aCons (eVar 1) aNil))) (eBin oLe (eCall fLen (aCons (eVar 1) aNil)) (eC (.int 200)))))
def m_is_word_in : FF := mkF 2 2 b_is_word_in
def b_is_power_of : FS :=
  (sSeq (sIf (tOr (tB (eBin oEq (eVar 0) (eTup aNil))) (tB (eBin oEq (eVar 1) (eC (.int 0)))))
    (sRet (eBin oEq (eVar 2) (eTup aNil)))
    sPass)
  (sRet (eAnd (eBin oLe (eCall fAbs (aCons (eVar 1) aNil)) (eCall fLen (aCons (eVar 2) aNil))) (eBin oEq (eCall m_power_in (aCons (eVar 0) (aCons (eVar 1) aNil))) (eVar 2)))))
def m_is_power_of : FF := mkF 3 3 b_is_power_of
def b_is_root_paper : FS :=
  (sSeq (sIf (tOr (tB (eBin oNe (eCall fLen (aCons (eVar 3) aNil)) (eC (.int 4)))) (tOr (tNot (tB (eCall m_is_word_in (aCons (eVar 0) (aCons (eBin oIx (eVar 3) (eC (.int 1))) aNil))))) (tOr (tNot (tB (eCall m_is_whole (aCons (eBin oIx (eVar 3) (eC (.int 2))) aNil)))) (tNot (tB (eCall m_is_whole (aCons (eBin oIx (eVar 3) (eC (.int 3))) aNil)))))))
    (sRet (eC (.bl false)))
    sPass)
  (sRet (eAnd (eCall m_is_power_of (aCons (eBin oIx (eVar 3) (eC (.int 1))) (aCons (eBin oIx (eVar 3) (eC (.int 2))) (aCons (eVar 1) aNil)))) (eCall m_is_power_of (aCons (eBin oIx (eVar 3) (eC (.int 1))) (aCons (eBin oIx (eVar 3) (eC (.int 3))) (aCons (eVar 2) aNil)))))))
def m_is_root_paper : FF := mkF 4 4 b_is_root_paper
def b_is_unlike_paper : FS :=
  (sSeq (sIf (tOr (tB (eBin oNe (eCall fLen (aCons (eVar 2) aNil)) (eC (.int 3)))) (tOr (tNot (tB (eCall m_are_wholes (aCons (eBin oIx (eVar 2) (eC (.int 1))) aNil)))) (tNot (tB (eCall m_are_wholes (aCons (eBin oIx (eVar 2) (eC (.int 2))) aNil))))))
    (sRet (eC (.bl false)))
    sPass)
  (sRet (eAnd (eBin oEq (eBin oIx (eVar 2) (eC (.int 1))) (eCall m_product_in (aCons (eVar 0) (aCons (eVar 1) aNil)))) (eAnd (eBin oEq (eBin oIx (eVar 2) (eC (.int 2))) (eCall m_product_in (aCons (eVar 1) (aCons (eVar 0) aNil)))) (eBin oNe (eBin oIx (eVar 2) (eC (.int 1))) (eBin oIx (eVar 2) (eC (.int 2))))))))
def m_is_unlike_paper : FF := mkF 3 3 b_is_unlike_paper
def b_require_word : FS :=
  (sIf (tNot (tB (eCall m_is_word_in (aCons (eVar 0) (aCons (eVar 1) aNil)))))
    sBad
    sPass)
def m_require_word : FF := mkF 2 2 b_require_word
def b_require_letters_and_word : FS :=
  (sSeq (sEx (eCall m_require_letters (aCons (eVar 0) aNil)))
  (sEx (eCall m_require_word (aCons (eVar 0) (aCons (eVar 1) aNil)))))
def m_require_letters_and_word : FF := mkF 2 2 b_require_letters_and_word
def b_require_two_words : FS :=
  (sSeq (sEx (eCall m_require_letters_and_word (aCons (eVar 0) (aCons (eVar 1) aNil))))
  (sEx (eCall m_require_word (aCons (eVar 0) (aCons (eVar 2) aNil)))))
def m_require_two_words : FF := mkF 3 3 b_require_two_words
def b_product : FS :=
  (sSeq (sEx (eCall m_require_letters (aCons (eVar 0) aNil)))
  (sSeq (sFor (iSeq (eVar 1)) (gNm 2)
    (sEx (eCall m_require_word (aCons (eVar 0) (aCons (eVar 2) aNil)))))
  (sSeq (sIf (tB (eBin oGt (eCall fLen (aCons (eVar 1) aNil)) (eC (.int 50))))
    sBad
    sPass)
  (sSeq (sAsg (eTup aNil) (gNm 3))
  (sSeq (sFor (iSeq (eVar 1)) (gNm 2)
    (sAsg (eCall m_product_in (aCons (eVar 3) (aCons (eVar 2) aNil))) (gNm 3)))
  (sRet (eVar 3)))))))
def m_product : FF := mkFs 1 4 b_product
def b_power : FS :=
  (sSeq (sEx (eCall m_require_letters_and_word (aCons (eVar 0) (aCons (eVar 1) aNil))))
  (sSeq (sEx (eCall m_require_within (aCons (eVar 2) (aCons (eUn oNeg (eC (.int 50))) (aCons (eC (.int 50)) aNil)))))
  (sRet (eCall m_power_in (aCons (eVar 1) (aCons (eVar 2) aNil))))))
def m_power : FF := mkF 3 3 b_power
def b_root : FS :=
  (sSeq (sEx (eCall m_require_letters_and_word (aCons (eVar 0) (aCons (eVar 1) aNil))))
  (sSeq (sIf (tB (eBin oEq (eVar 1) (eTup aNil)))
    sBad
    sPass)
  (sRet (eCall m_root_in (aCons (eVar 1) aNil)))))
def m_root : FF := mkF 2 2 b_root
def b_common_root : FS :=
  (sSeq (sEx (eCall m_require_two_words (aCons (eVar 0) (aCons (eVar 1) (aCons (eVar 2) aNil)))))
  (sSeq (sPar 3 4 (aCons (eCall m_product_in (aCons (eVar 1) (aCons (eVar 2) aNil))) (aCons (eCall m_product_in (aCons (eVar 2) (aCons (eVar 1) aNil))) aNil)))
  (sSeq (sIf (tB (eBin oNe (eVar 3) (eVar 4)))
    (sRet (eTup (aCons (eC (.str "unlike")) (aCons (eVar 3) (aCons (eVar 4) aNil)))))
    sPass)
  (sRet (eTup (aCons (eC (.str "root")) (aStar (eCall m_exponents_in (aCons (eVar 1) (aCons (eVar 2) aNil))) aNil)))))))
def m_common_root : FF := mkF 3 5 b_common_root
def b_is_common_root : FS :=
  (sSeq (sEx (eCall m_require_two_words (aCons (eVar 0) (aCons (eVar 1) (aCons (eVar 2) aNil)))))
  (sSeq (sIf (tOr (tNot (tB (eCall fIsi (aCons (eVar 3) (aCons (eC (.ty "tuple")) aNil))))) (tOr (tB (eBin oEq (eVar 3) (eTup aNil))) (tNot (tB (eCall fIsi (aCons (eBin oIx (eVar 3) (eC (.int 0))) (aCons (eC (.ty "str")) aNil)))))))
    (sRet (eC (.bl false)))
    sPass)
  (sSeq (sIf (tB (eBin oEq (eBin oIx (eVar 3) (eC (.int 0))) (eC (.str "root"))))
    (sRet (eCall m_is_root_paper (aCons (eVar 0) (aCons (eVar 1) (aCons (eVar 2) (aCons (eVar 3) aNil))))))
    sPass)
  (sRet (eAnd (eBin oEq (eBin oIx (eVar 3) (eC (.int 0))) (eC (.str "unlike"))) (eCall m_is_unlike_paper (aCons (eVar 1) (aCons (eVar 2) (aCons (eVar 3) aNil)))))))))
def m_is_common_root : FF := mkF 4 4 b_is_common_root
def b__law_sack : FS :=
  (sSeq (sAsg (eIf (tB (eBin oLt (eVar 1) (eCall fLen (aCons (eVar 0) aNil)))) (eCall fInt (aCons (eBin oIx (eVar 0) (eVar 1)) aNil)) (eBin oAdd (eBin oMul (eC (.int 179)) (eVar 1)) (eC (.int 71)))) (gNm 2))
  (sSeq (sAsg (eBin oMod (eCall fInt (aCons (eCall fAbs (aCons (eVar 2) aNil)) aNil)) (eBin oPow (eBin oPow (eC (.int 10)) (eC (.int 57))) (eC (.int 6)))) (gNm 3))
  (sRet (eLst (aCons (eCall fMax2 (aCons (eC (.int 0)) (aCons (eBin oSub (eVar 3) (eBin oPow (eC (.int 10)) (eC (.int 16)))) aNil))) (aCons (eBin oAdd (eBin oAdd (eBin oAdd (eBin oMul (eBin oMod (eCall fInt (aCons (eVar 3) aNil)) (eC (.int 2147483477))) (eC (.int 127))) (eBin oMul (eC (.int 653)) (eVar 1))) (eBin oMul (eC (.int 47)) (eCall fInt (aCons (eBin oLt (eVar 2) (eC (.int 0))) aNil)))) (eC (.int 5))) (aCons (eC (.int 0)) aNil)))))))
def m__law_sack : FF := mkF 2 4 b__law_sack
def b__law_drawn : FS :=
  (sSeq (sIf (tB (eBin oGt (eBin oIx (eVar 0) (eC (.int 0))) (eC (.int 0))))
    (sSeq (sAsg (eBin oMod (eCall fInt (aCons (eBin oIx (eVar 0) (eC (.int 0))) aNil)) (eVar 1)) (gNm 4))
  (sSeq (sAsg (eBin oDiv (eBin oIx (eVar 0) (eC (.int 0))) (eVar 1)) (gSb oSet (eVar 0) (eC (.int 0))))
  (sRet (eVar 4))))
    sPass)
  (sSeq (sAsg (eBin oAdd (eBin oIx (eVar 0) (eC (.int 2))) (eC (.int 1))) (gSb oSet (eVar 0) (eC (.int 2))))
  (sSeq (sAsg (eBin oMod (eCall fInt (aCons (eBin oAdd (eBin oIx (eVar 0) (eC (.int 1))) (eBin oMul (eC (.int 9999991)) (eBin oIx (eVar 0) (eC (.int 2))))) aNil)) (eC (.int 2305843009213693951))) (gNm 2))
  (sSeq (sAsg (eBin oAdd (eBin oMul (eBin oMod (eCall fInt (aCons (eBin oAdd (eBin oMul (eVar 2) (eVar 2)) (eBin oMul (eC (.int 223)) (eBin oIx (eVar 0) (eC (.int 2))))) aNil)) (eC (.int 2305843009213693951))) (eC (.int 7368787))) (eVar 2)) (gNm 3))
  (sRet (eBin oMod (eCall fInt (aCons (eBin oDiv (eVar 3) (eC (.int 131072))) aNil)) (eVar 1)))))))
def m__law_drawn : FF := mkF 2 5 b__law_drawn
def b__law_bare : FS :=
  (sSeq (sAsg (eLst aNil) (gNm 1))
  (sSeq (sFor (iSeq (eVar 0)) (gNm 2)
    (sIf (tAnd (tB (eBin oNe (eVar 1) (eLst aNil))) (tB (eBin oEq (eBin oIx (eVar 1) (eUn oNeg (eC (.int 1)))) (eBin oSub (eC (.int 0)) (eVar 2)))))
    (sEx (eBM isLst oPop (eVar 1) aNil))
    (sEx (eBM isLst oAppend (eVar 1) (aCons (eVar 2) aNil)))))
  (sRet (eCall fTuple (aCons (eVar 1) aNil)))))
def m__law_bare : FF := mkF 1 3 b__law_bare
def b__law_back : FS :=
  (sRet (eCall fTuple (aCons (eLc (iSeq (eUn oRev (eVar 0))) (gNm 1) tYs (eBin oSub (eC (.int 0)) (eVar 1)) [1]) aNil)))
def m__law_back : FF := mkF 1 2 b__law_back
def b__law_core : FS :=
  (sSeq (sAsg (eVar 0) (gNm 1))
  (sSeq (sFor (iRange1 (aCons (eCall fLen (aCons (eVar 0) aNil)) aNil)) (gNm 2)
    (sIf (tAnd (tB (eBin oGt (eCall fLen (aCons (eVar 1) aNil)) (eC (.int 1)))) (tB (eBin oEq (eBin oIx (eVar 1) (eC (.int 0))) (eBin oSub (eC (.int 0)) (eBin oIx (eVar 1) (eUn oNeg (eC (.int 1))))))))
    (sAsg (eSl oSl (eVar 1) (pAt (eC (.int 1))) (pAt (eUn oNeg (eC (.int 1))))) (gNm 1))
    sPass))
  (sRet (eVar 1))))
def m__law_core : FF := mkF 1 3 b__law_core
def b__law_word : FS :=
  (sSeq (sAsg (eLst aNil) (gNm 3))
  (sSeq (sFor (iRange1 (aCons (eCall m__law_drawn (aCons (eVar 0) (aCons (eBin oAdd (eVar 2) (eC (.int 1))) aNil))) aNil)) (gNm 4)
    (sEx (eBM isLst oAppend (eVar 3) (aCons (eBin oMul (eBin oAdd (eC (.int 1)) (eCall m__law_drawn (aCons (eVar 0) (aCons (eVar 1) aNil)))) (eBin oSub (eC (.int 1)) (eBin oMul (eC (.int 2)) (eCall m__law_drawn (aCons (eVar 0) (aCons (eC (.int 2)) aNil)))))) aNil))))
  (sRet (eCall m__law_bare (aCons (eVar 3) aNil)))))
def m__law_word : FF := mkF 3 5 b__law_word
def b__law_powered : FS :=
  (sSeq (sAsg (eTup aNil) (gNm 2))
  (sSeq (sFor (iRange1 (aCons (eIf (tB (eBin oNe (eVar 0) (eTup aNil))) (eCall fAbs (aCons (eVar 1) aNil)) (eC (.int 0))) aNil)) (gNm 3)
    (sAsg (eBin oAdd (eVar 2) (eVar 0)) (gNm 2)))
  (sRet (eCall m__law_bare (aCons (eIf (tB (eBin oGe (eVar 1) (eC (.int 0)))) (eVar 2) (eCall m__law_back (aCons (eVar 2) aNil))) aNil)))))
def m__law_powered : FF := mkF 2 4 b__law_powered
def b__law_root : FS :=
  (sSeq (sAsg (eCall m__law_core (aCons (eVar 0) aNil)) (gNm 1))
  (sSeq (sAsg (eSl oSl (eVar 0) pNo (pAt (eBin oDiv (eBin oSub (eCall fLen (aCons (eVar 0) aNil)) (eCall fLen (aCons (eVar 1) aNil))) (eC (.int 2))))) (gNm 2))
  (sSeq (sFor (iRange2 (aCons (eC (.int 1)) (aCons (eBin oAdd (eCall fLen (aCons (eVar 1) aNil)) (eC (.int 1))) aNil))) (gNm 3)
    (sIf (tAnd (tB (eBin oEq (eBin oMod (eCall fLen (aCons (eVar 1) aNil)) (eVar 3)) (eC (.int 0)))) (tB (eBin oEq (eBin oMul (eSl oSl (eVar 1) pNo (pAt (eVar 3))) (eBin oDiv (eCall fLen (aCons (eVar 1) aNil)) (eVar 3))) (eVar 1))))
    (sRet (eTup (aCons (eCall m__law_bare (aCons (eBin oAdd (eBin oAdd (eVar 2) (eSl oSl (eVar 1) pNo (pAt (eVar 3)))) (eCall m__law_back (aCons (eVar 2) aNil))) aNil)) (aCons (eBin oDiv (eCall fLen (aCons (eVar 1) aNil)) (eVar 3)) aNil))))
    sPass))
  (sRet (eC .non)))))
def m__law_root : FF := mkF 1 4 b__law_root
def b__law_is_word : FS :=
  (sSeq (sIf (tOr (tNot (tB (eCall fIsi (aCons (eVar 1) (aCons (eC (.ty "tuple")) aNil))))) (tB (eBin oGt (eCall fLen (aCons (eVar 1) aNil)) (eC (.int 200)))))
    (sRet (eC (.bl false)))
    sPass)
  (sSeq (sIf (tB (eBin oNe (eLc (iSeq (eVar 1)) (gNm 2) (tOr (tB (eCall fIsi (aCons (eVar 2) (aCons (eC (.ty "bool")) aNil)))) (tOr (tNot (tB (eCall fIsi (aCons (eVar 2) (aCons (eC (.ty "int")) aNil))))) (tNot (tB (eChain oLe oLe (eC (.int 1)) (eCall fAbs (aCons (eVar 2) aNil)) (eVar 0)))))) (eC (.int 1)) [2]) (eLst aNil)))
    (sRet (eC (.bl false)))
    sPass)
  (sRet (eBin oEq (eCall m__law_bare (aCons (eVar 1) aNil)) (eVar 1)))))
def m__law_is_word : FF := mkF 2 3 b__law_is_word
def b__law_is_due : FS :=
  (sSeq (sIf (tOr (tNot (tB (eCall fIsi (aCons (eVar 3) (aCons (eC (.ty "tuple")) aNil))))) (tOr (tB (eBin oNin (eCall fLen (aCons (eVar 3) aNil)) (eTup (aCons (eC (.int 3)) (aCons (eC (.int 4)) aNil))))) (tNot (tB (eCall fIsi (aCons (eBin oIx (eVar 3) (eC (.int 0))) (aCons (eC (.ty "str")) aNil)))))))
    (sRet (eC (.bl false)))
    sPass)
  (sSeq (sIf (tB (eBin oEq (eBin oIx (eVar 3) (eC (.int 0))) (eC (.str "unlike"))))
    (sSeq (sAsg (eTup (aCons (eCall m__law_bare (aCons (eBin oAdd (eVar 1) (eVar 2)) aNil)) (aCons (eCall m__law_bare (aCons (eBin oAdd (eVar 2) (eVar 1)) aNil)) aNil))) (gNm 4))
  (sRet (eAnd (eBin oEq (eSl oSl (eVar 3) (pAt (eC (.int 1))) pNo) (eVar 4)) (eBin oNe (eBin oIx (eVar 4) (eC (.int 0))) (eBin oIx (eVar 4) (eC (.int 1)))))))
    sPass)
  (sSeq (sIf (tOr (tB (eBin oNe (eBin oIx (eVar 3) (eC (.int 0))) (eC (.str "root")))) (tOr (tB (eBin oNe (eCall fLen (aCons (eVar 3) aNil)) (eC (.int 4)))) (tNot (tB (eCall m__law_is_word (aCons (eVar 0) (aCons (eBin oIx (eVar 3) (eC (.int 1))) aNil)))))))
    (sRet (eC (.bl false)))
    sPass)
  (sSeq (sIf (tB (eBin oNe (eLc (iSeq (eSl oSl (eVar 3) (pAt (eC (.int 2))) pNo)) (gNm 5) (tOr (tB (eCall fIsi (aCons (eVar 5) (aCons (eC (.ty "bool")) aNil)))) (tNot (tB (eCall fIsi (aCons (eVar 5) (aCons (eC (.ty "int")) aNil)))))) (eC (.int 1)) [5]) (eLst aNil)))
    (sRet (eC (.bl false)))
    sPass)
  (sSeq (sIf (tAnd (tB (eBin oNe (eBin oIx (eVar 3) (eC (.int 1))) (eTup aNil))) (tB (eBin oGt (eCall fMax2 (aCons (eCall fAbs (aCons (eBin oIx (eVar 3) (eC (.int 2))) aNil)) (aCons (eCall fAbs (aCons (eBin oIx (eVar 3) (eC (.int 3))) aNil)) aNil))) (eC (.int 300)))))
    (sRet (eC (.bl false)))
    sPass)
  (sRet (eAnd (eBin oEq (eCall m__law_powered (aCons (eBin oIx (eVar 3) (eC (.int 1))) (aCons (eBin oIx (eVar 3) (eC (.int 2))) aNil))) (eVar 1)) (eBin oEq (eCall m__law_powered (aCons (eBin oIx (eVar 3) (eC (.int 1))) (aCons (eBin oIx (eVar 3) (eC (.int 3))) aNil))) (eVar 2)))))))))
def m__law_is_due : FF := mkF 4 6 b__law_is_due
def b__law_near : FS :=
  (sSeq (sAsg (eTup (aCons (eCall m__law_bare (aCons (eBin oAdd (eVar 0) (eVar 1)) aNil)) (aCons (eCall m__law_bare (aCons (eBin oAdd (eVar 1) (eVar 0)) aNil)) aNil))) (gNm 3))
  (sSeq (sAsg (eLst (aCons (eVar 2) (aCons (eCall fList (aCons (eVar 2) aNil)) (aCons (eSl oSl (eVar 2) pNo (pAt (eUn oNeg (eC (.int 1))))) (aCons (eBin oAdd (eVar 2) (eTup (aCons (eC (.int 0)) aNil))) (aCons (eC .non) (aCons (eC (.int 0)) (aCons (eTup aNil) (aCons (eBin oAdd (eTup (aCons (eC (.str "unlike")) aNil)) (eVar 3)) (aCons (eBin oAdd (eTup (aCons (eC (.str "unlike")) aNil)) (eUn oRev (eVar 3))) aNil)))))))))) (gNm 4))
  (sSeq (sAsg (eBin oAdd (eVar 4) (eLst (aCons (eTup (aCons (eC (.str "unlike")) (aCons (eVar 0) (aCons (eVar 1) aNil)))) (aCons (eTup (aCons (eC (.str "root")) (aCons (eTup (aCons (eC (.int 1)) aNil)) (aCons (eC (.int 0)) (aCons (eC (.int 0)) aNil))))) (aCons (eTup (aCons (eC (.str "root")) (aCons (eTup aNil) (aCons (eC (.int 1)) (aCons (eC (.int 1)) aNil))))) (aCons (eTup (aCons (eC (.str "root")) (aCons (eVar 0) (aCons (eC (.int 1)) (aCons (eC (.int 1)) aNil))))) aNil)))))) (gNm 4))
  (sSeq (sEx (eBM isLst oAppend (eVar 4) (aCons (eBin oAdd (eTup (aCons (eC (.str "Root")) aNil)) (eSl oSl (eVar 2) (pAt (eC (.int 1))) pNo)) aNil)))
  (sSeq (sIf (tB (eBin oEq (eBin oIx (eVar 2) (eC (.int 0))) (eC (.str "root"))))
    (sSeq (sAsg (eBin oAdd (eVar 4) (eLst (aCons (eTup (aCons (eC (.str "root")) (aCons (eCall m__law_back (aCons (eBin oIx (eVar 2) (eC (.int 1))) aNil)) (aCons (eBin oSub (eC (.int 0)) (eBin oIx (eVar 2) (eC (.int 2)))) (aCons (eBin oSub (eC (.int 0)) (eBin oIx (eVar 2) (eC (.int 3)))) aNil))))) (aCons (eTup (aCons (eC (.str "root")) (aCons (eBin oIx (eVar 2) (eC (.int 1))) (aCons (eBin oIx (eVar 2) (eC (.int 3))) (aCons (eBin oIx (eVar 2) (eC (.int 2))) aNil))))) aNil)))) (gNm 4))
  (sSeq (sAsg (eBin oAdd (eVar 4) (eLst (aCons (eTup (aCons (eC (.str "root")) (aCons (eBin oIx (eVar 2) (eC (.int 1))) (aCons (eBin oIx (eVar 2) (eC (.int 2))) (aCons (eC .non) aNil))))) (aCons (eTup (aCons (eC (.str "root")) (aCons (eBin oIx (eVar 2) (eC (.int 1))) (aCons (eC (.bl true)) (aCons (eBin oIx (eVar 2) (eC (.int 3))) aNil))))) aNil)))) (gNm 4))
  (sEx (eBM isLst oAppend (eVar 4) (aCons (eBin oAdd (eTup (aCons (eC (.str "root")) (aCons (eCall fList (aCons (eBin oIx (eVar 2) (eC (.int 1))) aNil)) aNil))) (eSl oSl (eVar 2) (pAt (eC (.int 2))) pNo)) aNil)))))
    sPass)
  (sRet (eVar 4)))))))
def m__law_near : FF := mkF 3 5 b__law_near
def b__law_two : FS :=
  (sSeq (sPar 2 3 (aCons (eCall m__law_word (aCons (eVar 0) (aCons (eVar 1) (aCons (eC (.int 3)) aNil)))) (aCons (eCall m__law_word (aCons (eVar 0) (aCons (eVar 1) (aCons (eC (.int 2)) aNil)))) aNil)))
  (sSeq (sAsg (eCall m__law_bare (aCons (eBin oAdd (eBin oAdd (eVar 3) (eVar 2)) (eCall m__law_back (aCons (eVar 3) aNil))) aNil)) (gNm 2))
  (sSeq (sPar 4 5 (aCons (eCall m__law_powered (aCons (eVar 2) (aCons (eBin oSub (eCall m__law_drawn (aCons (eVar 0) (aCons (eC (.int 5)) aNil))) (eC (.int 2))) aNil))) (aCons (eCall m__law_powered (aCons (eVar 2) (aCons (eCall m__law_drawn (aCons (eVar 0) (aCons (eC (.int 4)) aNil))) aNil))) aNil)))
  (sSeq (sIf (tB (eBin oEq (eCall m__law_drawn (aCons (eVar 0) (aCons (eC (.int 3)) aNil))) (eC (.int 0))))
    (sAsg (eCall m__law_word (aCons (eVar 0) (aCons (eVar 1) (aCons (eC (.int 5)) aNil)))) (gNm 5))
    sPass)
  (sRet (eTup (aCons (eVar 4) (aCons (eVar 5) aNil))))))))
def m__law_two : FF := mkF 2 6 b__law_two
def b__law_right : FS :=
  (sSeq (sAsg (eBin oAdd (eC (.int 1)) (eCall m__law_drawn (aCons (eVar 0) (aCons (eC (.int 4)) aNil)))) (gNm 1))
  (sSeq (sAsg (eCall m__law_two (aCons (eVar 0) (aCons (eVar 1) aNil))) (gTp 2 (gCo (gNm 4) (gCo (gNm 5) gNo))))
  (sSeq (sFor (iSeq (eTup (aCons (eVar 4) (aCons (eVar 5) aNil)))) (gNm 2)
    (sIf (tB (eBin oNe (eVar 2) (eTup aNil)))
    (sSeq (sAsg (eCall m_root (aCons (eVar 1) (aCons (eVar 2) aNil))) (gNm 6))
  (sSeq (sIf (tOr (tB (eBin oNe (eVar 6) (eCall m__law_root (aCons (eVar 2) aNil)))) (tB (eBin oNe (eCall m_power (aCons (eVar 1) (aCons (eBin oIx (eVar 6) (eC (.int 0))) (aCons (eBin oIx (eVar 6) (eC (.int 1))) aNil)))) (eVar 2))))
    (sRet (eC (.bl false)))
    sPass)
  (sIf (tB (eBin oNe (eCall m_root (aCons (eVar 1) (aCons (eBin oIx (eVar 6) (eC (.int 0))) aNil))) (eTup (aCons (eBin oIx (eVar 6) (eC (.int 0))) (aCons (eC (.int 1)) aNil)))))
    (sRet (eC (.bl false)))
    sPass)))
    sPass))
  (sSeq (sPar 6 7 (aCons (eCall m_common_root (aCons (eVar 1) (aCons (eVar 4) (aCons (eVar 5) aNil)))) (aCons (eBin oEq (eCall m__law_bare (aCons (eBin oAdd (eVar 4) (eVar 5)) aNil)) (eCall m__law_bare (aCons (eBin oAdd (eVar 5) (eVar 4)) aNil))) aNil)))
  (sSeq (sIf (tOr (tB (eBin oNe (eBin oEq (eBin oIx (eVar 6) (eC (.int 0))) (eC (.str "root"))) (eVar 7))) (tNot (tB (eCall m__law_is_due (aCons (eVar 1) (aCons (eVar 4) (aCons (eVar 5) (aCons (eVar 6) aNil))))))))
    (sRet (eC (.bl false)))
    sPass)
  (sSeq (sIf (tB (eBin oNe (eBin oEq (eCall m_product (aCons (eVar 1) (aCons (eVar 4) (aCons (eVar 5) aNil)))) (eCall m_product (aCons (eVar 1) (aCons (eVar 5) (aCons (eVar 4) aNil))))) (eVar 7)))
    (sRet (eC (.bl false)))
    sPass)
  (sSeq (sFor (iSeq (eCall m__law_near (aCons (eVar 4) (aCons (eVar 5) (aCons (eVar 6) aNil))))) (gNm 3)
    (sIf (tB (eBin oNe (eCall m_is_common_root (aCons (eVar 1) (aCons (eVar 4) (aCons (eVar 5) (aCons (eVar 3) aNil))))) (eCall m__law_is_due (aCons (eVar 1) (aCons (eVar 4) (aCons (eVar 5) (aCons (eVar 3) aNil)))))))
    (sRet (eC (.bl false)))
    sPass))
  (sRet (eC (.bl true))))))))))
def m__law_right : FF := mkF 1 8 b__law_right
def b_law : FS :=
  (sSeq (sFor (iRange1 (aCons (eCall fMax2 (aCons (eC (.int 1)) (aCons (eCall fMin2 (aCons (eC (.int 2)) (aCons (eCall fLen (aCons (eVar 0) aNil)) aNil))) aNil))) aNil)) (gNm 1)
    (sIf (tNot (tB (eCall m__law_right (aCons (eCall m__law_sack (aCons (eVar 0) (aCons (eVar 1) aNil))) aNil))))
    (sRet (eC (.bl false)))
    sPass))
  (sSeq (sAsg (eLst (aCons (eCall m_root (aCons (eC (.int 2)) (aCons (eTup (aCons (eC (.int 1)) (aCons (eC (.int 2)) (aCons (eC (.int 1)) (aCons (eC (.int 2)) aNil))))) aNil))) (aCons (eCall m_root (aCons (eC (.int 2)) (aCons (eTup (aCons (eC (.int 1)) (aCons (eC (.int 2)) (aCons (eC (.int 2)) (aCons (eUn oNeg (eC (.int 1))) aNil))))) aNil))) (aCons (eCall m_root (aCons (eC (.int 2)) (aCons (eTup (aCons (eC (.int 1)) aNil)) aNil))) (aCons (eCall m_common_root (aCons (eC (.int 2)) (aCons (eTup (aCons (eC (.int 1)) (aCons (eC (.int 2)) aNil))) (aCons (eTup (aCons (eC (.int 2)) (aCons (eC (.int 1)) aNil))) aNil)))) aNil))))) (gNm 2))
  (sSeq (sIf (tB (eBin oNe (eVar 2) (eLst (aCons (eTup (aCons (eTup (aCons (eC (.int 1)) (aCons (eC (.int 2)) aNil))) (aCons (eC (.int 2)) aNil))) (aCons (eTup (aCons (eTup (aCons (eC (.int 1)) (aCons (eC (.int 2)) (aCons (eUn oNeg (eC (.int 1))) aNil)))) (aCons (eC (.int 2)) aNil))) (aCons (eTup (aCons (eTup (aCons (eC (.int 1)) aNil)) (aCons (eC (.int 1)) aNil))) (aCons (eTup (aCons (eC (.str "unlike")) (aCons (eTup (aCons (eC (.int 1)) (aCons (eC (.int 2)) (aCons (eC (.int 2)) (aCons (eC (.int 1)) aNil))))) (aCons (eTup (aCons (eC (.int 2)) (aCons (eC (.int 1)) (aCons (eC (.int 1)) (aCons (eC (.int 2)) aNil))))) aNil)))) aNil)))))))
    (sRet (eC (.bl false)))
    sPass)
  (sRet (eAnd (eCall m_is_common_root (aCons (eC (.int 2)) (aCons (eTup aNil) (aCons (eTup (aCons (eC (.int 1)) (aCons (eC (.int 2)) aNil))) (aCons (eTup (aCons (eC (.str "root")) (aCons (eTup (aCons (eUn oNeg (eC (.int 2))) (aCons (eUn oNeg (eC (.int 1))) aNil))) (aCons (eC (.int 0)) (aCons (eUn oNeg (eC (.int 1))) aNil))))) aNil))))) (eBin oEq (eBin oIx (eCall m_common_root (aCons (eC (.int 3)) (aCons (eTup aNil) (aCons (eTup aNil) aNil)))) (eC (.int 0))) (eC (.str "root"))))))))
def m_law : FF := mkF 1 3 b_law
end K01
namespace K01
open PySem PySem.Spec PyProof.Rows L2 Sm
def topS (i : Nat) : Stmt := PySem.Challenge.pw_noroadback_k01_whole_roots_and_words_tha.main.body.getD i (.Pass ⟨0, 0, 0, 0⟩)
abbrev s_is_whole : Stmt := topS 8
abbrev N_is_whole : List Str := ["value"]
theorem sc_is_whole : FnScope N_is_whole ["value"] (defScope s_is_whole) := ⟨rfl, rfl, rfl, by decide +kernel, rfl, by decide +kernel, by decide +kernel⟩
abbrev s_is_within : Stmt := topS 9
abbrev N_is_within : List Str := ["value", "least", "greatest"]
theorem sc_is_within : FnScope N_is_within ["value", "least", "greatest"] (defScope s_is_within) := ⟨rfl, rfl, rfl, by decide +kernel, rfl, by decide +kernel, by decide +kernel⟩
abbrev s_are_wholes : Stmt := topS 10
abbrev N_are_wholes : List Str := ["value", "entry"]
theorem sc_are_wholes : FnScope N_are_wholes ["value"] (defScope s_are_wholes) := ⟨rfl, rfl, rfl, by decide +kernel, rfl, by decide +kernel, by decide +kernel⟩
abbrev s_require_within : Stmt := topS 11
abbrev N_require_within : List Str := ["value", "least", "greatest"]
theorem sc_require_within : FnScope N_require_within ["value", "least", "greatest"] (defScope s_require_within) := ⟨rfl, rfl, rfl, by decide +kernel, rfl, by decide +kernel, by decide +kernel⟩
abbrev s_require_letters : Stmt := topS 12
abbrev N_require_letters : List Str := ["value"]
theorem sc_require_letters : FnScope N_require_letters ["value"] (defScope s_require_letters) := ⟨rfl, rfl, rfl, by decide +kernel, rfl, by decide +kernel, by decide +kernel⟩
abbrev s_contrary_in : Stmt := topS 18
abbrev N_contrary_in : List Str := ["word", "entry"]
theorem sc_contrary_in : FnScope N_contrary_in ["word"] (defScope s_contrary_in) := ⟨rfl, rfl, rfl, by decide +kernel, rfl, by decide +kernel, by decide +kernel⟩
abbrev s_common_ends : Stmt := topS 19
abbrev N_common_ends : List Str := ["one", "other", "many", "most"]
theorem sc_common_ends : FnScope N_common_ends ["one", "other"] (defScope s_common_ends) := ⟨rfl, rfl, rfl, by decide +kernel, rfl, by decide +kernel, by decide +kernel⟩
abbrev s_product_in : Stmt := topS 20
abbrev N_product_in : List Str := ["one", "other", "many"]
theorem sc_product_in : FnScope N_product_in ["one", "other"] (defScope s_product_in) := ⟨rfl, rfl, rfl, by decide +kernel, rfl, by decide +kernel, by decide +kernel⟩
abbrev s_core_in : Stmt := topS 21
abbrev N_core_in : List Str := ["word", "many"]
theorem sc_core_in : FnScope N_core_in ["word"] (defScope s_core_in) := ⟨rfl, rfl, rfl, by decide +kernel, rfl, by decide +kernel, by decide +kernel⟩
abbrev s_power_in : Stmt := topS 22
abbrev N_power_in : List Str := ["word", "many", "base", "ahead", "core"]
theorem sc_power_in : FnScope N_power_in ["word", "many"] (defScope s_power_in) := ⟨rfl, rfl, rfl, by decide +kernel, rfl, by decide +kernel, by decide +kernel⟩
abbrev s_root_in : Stmt := topS 23
abbrev N_root_in : List Str := ["word", "size", "least", "ahead", "core", "part"]
theorem sc_root_in : FnScope N_root_in ["word"] (defScope s_root_in) := ⟨rfl, rfl, rfl, by decide +kernel, rfl, by decide +kernel, by decide +kernel⟩
abbrev s_exponents_in : Stmt := topS 24
abbrev N_exponents_in : List Str := ["one", "other", "base", "first", "told", "second"]
theorem sc_exponents_in : FnScope N_exponents_in ["one", "other"] (defScope s_exponents_in) := ⟨rfl, rfl, rfl, by decide +kernel, rfl, by decide +kernel, by decide +kernel⟩
abbrev s_is_row_in : Stmt := topS 25
abbrev N_is_row_in : List Str := ["letters", "value", "entry"]
theorem sc_is_row_in : FnScope N_is_row_in ["letters", "value"] (defScope s_is_row_in) := ⟨rfl, rfl, rfl, by decide +kernel, rfl, by decide +kernel, by decide +kernel⟩
abbrev s_is_word_any : Stmt := topS 26
abbrev N_is_word_any : List Str := ["letters", "value", "left", "right"]
theorem sc_is_word_any : FnScope N_is_word_any ["letters", "value"] (defScope s_is_word_any) := ⟨rfl, rfl, rfl, by decide +kernel, rfl, by decide +kernel, by decide +kernel⟩
abbrev s_is_word_in : Stmt := topS 27
abbrev N_is_word_in : List Str := ["letters", "value"]
theorem sc_is_word_in : FnScope N_is_word_in ["letters", "value"] (defScope s_is_word_in) := ⟨rfl, rfl, rfl, by decide +kernel, rfl, by decide +kernel, by decide +kernel⟩
abbrev s_is_power_of : Stmt := topS 28
abbrev N_is_power_of : List Str := ["base", "many", "word"]
theorem sc_is_power_of : FnScope N_is_power_of ["base", "many", "word"] (defScope s_is_power_of) := ⟨rfl, rfl, rfl, by decide +kernel, rfl, by decide +kernel, by decide +kernel⟩
abbrev s_is_root_paper : Stmt := topS 29
abbrev N_is_root_paper : List Str := ["letters", "one", "other", "value"]
theorem sc_is_root_paper : FnScope N_is_root_paper ["letters", "one", "other", "value"] (defScope s_is_root_paper) := ⟨rfl, rfl, rfl, by decide +kernel, rfl, by decide +kernel, by decide +kernel⟩
abbrev s_is_unlike_paper : Stmt := topS 30
abbrev N_is_unlike_paper : List Str := ["one", "other", "value"]
theorem sc_is_unlike_paper : FnScope N_is_unlike_paper ["one", "other", "value"] (defScope s_is_unlike_paper) := ⟨rfl, rfl, rfl, by decide +kernel, rfl, by decide +kernel, by decide +kernel⟩
abbrev s_require_word : Stmt := topS 31
abbrev N_require_word : List Str := ["letters", "value"]
theorem sc_require_word : FnScope N_require_word ["letters", "value"] (defScope s_require_word) := ⟨rfl, rfl, rfl, by decide +kernel, rfl, by decide +kernel, by decide +kernel⟩
abbrev s_require_letters_and_word : Stmt := topS 32
abbrev N_require_letters_and_word : List Str := ["letters", "word"]
theorem sc_require_letters_and_word : FnScope N_require_letters_and_word ["letters", "word"] (defScope s_require_letters_and_word) := ⟨rfl, rfl, rfl, by decide +kernel, rfl, by decide +kernel, by decide +kernel⟩
abbrev s_require_two_words : Stmt := topS 33
abbrev N_require_two_words : List Str := ["letters", "one", "other"]
theorem sc_require_two_words : FnScope N_require_two_words ["letters", "one", "other"] (defScope s_require_two_words) := ⟨rfl, rfl, rfl, by decide +kernel, rfl, by decide +kernel, by decide +kernel⟩
abbrev s_product : Stmt := topS 34
abbrev N_product : List Str := ["letters", "words", "word", "found"]
theorem sc_product : FnScope N_product ["letters", "words"] (defScope s_product) := ⟨rfl, rfl, rfl, by decide +kernel, rfl, by decide +kernel, by decide +kernel⟩
abbrev s_power : Stmt := topS 35
abbrev N_power : List Str := ["letters", "word", "many"]
theorem sc_power : FnScope N_power ["letters", "word", "many"] (defScope s_power) := ⟨rfl, rfl, rfl, by decide +kernel, rfl, by decide +kernel, by decide +kernel⟩
abbrev s_root : Stmt := topS 36
abbrev N_root : List Str := ["letters", "word"]
theorem sc_root : FnScope N_root ["letters", "word"] (defScope s_root) := ⟨rfl, rfl, rfl, by decide +kernel, rfl, by decide +kernel, by decide +kernel⟩
abbrev s_common_root : Stmt := topS 37
abbrev N_common_root : List Str := ["letters", "one", "other", "first", "second"]
theorem sc_common_root : FnScope N_common_root ["letters", "one", "other"] (defScope s_common_root) := ⟨rfl, rfl, rfl, by decide +kernel, rfl, by decide +kernel, by decide +kernel⟩
abbrev s_is_common_root : Stmt := topS 38
abbrev N_is_common_root : List Str := ["letters", "one", "other", "value"]
theorem sc_is_common_root : FnScope N_is_common_root ["letters", "one", "other", "value"] (defScope s_is_common_root) := ⟨rfl, rfl, rfl, by decide +kernel, rfl, by decide +kernel, by decide +kernel⟩
abbrev s__law_sack : Stmt := topS 40
abbrev N__law_sack : List Str := ["script", "spot", "cell", "great"]
theorem sc__law_sack : FnScope N__law_sack ["script", "spot"] (defScope s__law_sack) := ⟨rfl, rfl, rfl, by decide +kernel, rfl, by decide +kernel, by decide +kernel⟩
abbrev s__law_drawn : Stmt := topS 41
abbrev N__law_drawn : List Str := ["sack", "total", "one", "two", "found"]
theorem sc__law_drawn : FnScope N__law_drawn ["sack", "total"] (defScope s__law_drawn) := ⟨rfl, rfl, rfl, by decide +kernel, rfl, by decide +kernel, by decide +kernel⟩
abbrev s__law_bare : Stmt := topS 42
abbrev N__law_bare : List Str := ["row", "found", "entry"]
theorem sc__law_bare : FnScope N__law_bare ["row"] (defScope s__law_bare) := ⟨rfl, rfl, rfl, by decide +kernel, rfl, by decide +kernel, by decide +kernel⟩
abbrev s__law_back : Stmt := topS 43
abbrev N__law_back : List Str := ["word", "entry"]
theorem sc__law_back : FnScope N__law_back ["word"] (defScope s__law_back) := ⟨rfl, rfl, rfl, by decide +kernel, rfl, by decide +kernel, by decide +kernel⟩
abbrev s__law_core : Stmt := topS 44
abbrev N__law_core : List Str := ["word", "found", "turn"]
theorem sc__law_core : FnScope N__law_core ["word"] (defScope s__law_core) := ⟨rfl, rfl, rfl, by decide +kernel, rfl, by decide +kernel, by decide +kernel⟩
abbrev s__law_word : Stmt := topS 45
abbrev N__law_word : List Str := ["sack", "letters", "most", "row", "turn"]
theorem sc__law_word : FnScope N__law_word ["sack", "letters", "most"] (defScope s__law_word) := ⟨rfl, rfl, rfl, by decide +kernel, rfl, by decide +kernel, by decide +kernel⟩
abbrev s__law_powered : Stmt := topS 46
abbrev N__law_powered : List Str := ["word", "many", "row", "turn"]
theorem sc__law_powered : FnScope N__law_powered ["word", "many"] (defScope s__law_powered) := ⟨rfl, rfl, rfl, by decide +kernel, rfl, by decide +kernel, by decide +kernel⟩
abbrev s__law_root : Stmt := topS 47
abbrev N__law_root : List Str := ["word", "core", "ahead", "size"]
theorem sc__law_root : FnScope N__law_root ["word"] (defScope s__law_root) := ⟨rfl, rfl, rfl, by decide +kernel, rfl, by decide +kernel, by decide +kernel⟩
abbrev s__law_is_word : Stmt := topS 48
abbrev N__law_is_word : List Str := ["letters", "value", "one"]
theorem sc__law_is_word : FnScope N__law_is_word ["letters", "value"] (defScope s__law_is_word) := ⟨rfl, rfl, rfl, by decide +kernel, rfl, by decide +kernel, by decide +kernel⟩
abbrev s__law_is_due : Stmt := topS 49
abbrev N__law_is_due : List Str := ["letters", "one", "other", "value", "due", "entry"]
theorem sc__law_is_due : FnScope N__law_is_due ["letters", "one", "other", "value"] (defScope s__law_is_due) := ⟨rfl, rfl, rfl, by decide +kernel, rfl, by decide +kernel, by decide +kernel⟩
abbrev s__law_near : Stmt := topS 50
abbrev N__law_near : List Str := ["one", "other", "told", "both", "found"]
theorem sc__law_near : FnScope N__law_near ["one", "other", "told"] (defScope s__law_near) := ⟨rfl, rfl, rfl, by decide +kernel, rfl, by decide +kernel, by decide +kernel⟩
abbrev s__law_two : Stmt := topS 51
abbrev N__law_two : List Str := ["sack", "letters", "base", "by", "one", "other"]
theorem sc__law_two : FnScope N__law_two ["sack", "letters"] (defScope s__law_two) := ⟨rfl, rfl, rfl, by decide +kernel, rfl, by decide +kernel, by decide +kernel⟩
abbrev s__law_right : Stmt := topS 52
abbrev N__law_right : List Str := ["sack", "letters", "word", "value", "one", "other", "told", "are_equal"]
theorem sc__law_right : FnScope N__law_right ["sack"] (defScope s__law_right) := ⟨rfl, rfl, rfl, by decide +kernel, rfl, by decide +kernel, by decide +kernel⟩
abbrev s_law : Stmt := topS 53
abbrev N_law : List Str := ["script", "spot", "told"]
theorem sc_law : FnScope N_law ["script"] (defScope s_law) := ⟨rfl, rfl, rfl, by decide +kernel, rfl, by decide +kernel, by decide +kernel⟩
structure Tx (K : PySem.W.Frag) (mg : Str → Option Value) : Prop where
  d_is_whole : DefAt K mg "is_whole" s_is_whole
  d_is_within : DefAt K mg "is_within" s_is_within
  d_are_wholes : DefAt K mg "are_wholes" s_are_wholes
  d_require_within : DefAt K mg "require_within" s_require_within
  d_require_letters : DefAt K mg "require_letters" s_require_letters
  d_contrary_in : DefAt K mg "contrary_in" s_contrary_in
  d_common_ends : DefAt K mg "common_ends" s_common_ends
  d_product_in : DefAt K mg "product_in" s_product_in
  d_core_in : DefAt K mg "core_in" s_core_in
  d_power_in : DefAt K mg "power_in" s_power_in
  d_root_in : DefAt K mg "root_in" s_root_in
  d_exponents_in : DefAt K mg "exponents_in" s_exponents_in
  d_is_row_in : DefAt K mg "is_row_in" s_is_row_in
  d_is_word_any : DefAt K mg "is_word_any" s_is_word_any
  d_is_word_in : DefAt K mg "is_word_in" s_is_word_in
  d_is_power_of : DefAt K mg "is_power_of" s_is_power_of
  d_is_root_paper : DefAt K mg "is_root_paper" s_is_root_paper
  d_is_unlike_paper : DefAt K mg "is_unlike_paper" s_is_unlike_paper
  d_require_word : DefAt K mg "require_word" s_require_word
  d_require_letters_and_word : DefAt K mg "require_letters_and_word" s_require_letters_and_word
  d_require_two_words : DefAt K mg "require_two_words" s_require_two_words
  d_product : DefAt K mg "product" s_product
  d_power : DefAt K mg "power" s_power
  d_root : DefAt K mg "root" s_root
  d_common_root : DefAt K mg "common_root" s_common_root
  d_is_common_root : DefAt K mg "is_common_root" s_is_common_root
  d__law_sack : DefAt K mg "_law_sack" s__law_sack
  d__law_drawn : DefAt K mg "_law_drawn" s__law_drawn
  d__law_bare : DefAt K mg "_law_bare" s__law_bare
  d__law_back : DefAt K mg "_law_back" s__law_back
  d__law_core : DefAt K mg "_law_core" s__law_core
  d__law_word : DefAt K mg "_law_word" s__law_word
  d__law_powered : DefAt K mg "_law_powered" s__law_powered
  d__law_root : DefAt K mg "_law_root" s__law_root
  d__law_is_word : DefAt K mg "_law_is_word" s__law_is_word
  d__law_is_due : DefAt K mg "_law_is_due" s__law_is_due
  d__law_near : DefAt K mg "_law_near" s__law_near
  d__law_two : DefAt K mg "_law_two" s__law_two
  d__law_right : DefAt K mg "_law_right" s__law_right
  c_MAX_WORD : ∃ t, mg "MAX_WORD" = some (.int 200 t)
  c_MOST_LETTERS : ∃ t, mg "MOST_LETTERS" = some (.int 5 t)
  c_MOST_POWER : ∃ t, mg "MOST_POWER" = some (.int 50 t)
  c_ROOT : ∃ t, mg "ROOT" = some (.str "root" t)
  c_UNLIKE : ∃ t, mg "UNLIKE" = some (.str "unlike" t)
  b_abs : mg "abs" = none
  b_all : mg "all" = none
  b_bool : mg "bool" = none
  b_int : mg "int" = none
  b_isinstance : mg "isinstance" = none
  b_len : mg "len" = none
  b_list : mg "list" = none
  b_max : mg "max" = none
  b_min : mg "min" = none
  b_range : mg "range" = none
  b_str : mg "str" = none
  b_tuple : mg "tuple" = none
  b_zip : mg "zip" = none
section
variable {P : Program} {w : World} {K : PySem.W.Frag} {mg : Str → Option Value} {base : Heap}
theorem ok_is_whole (T : Tx K mg) : DefOk P w K mg base (W0 K) 1 "is_whole" m_is_whole := by
  exact defOk (N := N_is_whole) (ps := ["value"]) (b := b_is_whole) rfl T.d_is_whole sc_is_whole (fun _ _ _ _ _ _ us hl => match us, hl with | [_], _ => rfl) (fun f cdv A outer s H E hr =>
    (sss_one (ss_ret (se_and (se_callB (sc_isi rfl) rfl T.b_isinstance bt_isinstance (sa_cons (se_var 0) (sa_cons (se_ty rfl T.b_int bt_int) sa_nil))) (se_one (se_not (se_callB (sc_isi rfl) rfl T.b_isinstance bt_isinstance (sa_cons (se_var 0) (sa_cons (se_ty rfl T.b_bool bt_bool) sa_nil)))))))))
theorem ok_is_within (T : Tx K mg) : DefOk P w K mg base (W0 K) 2 "is_within" m_is_within := by
  have G_is_whole := ok_is_whole (P := P) (w := w) (base := base) T
  exact defOk (N := N_is_within) (ps := ["value", "least", "greatest"]) (b := b_is_within) rfl T.d_is_within sc_is_within (fun _ _ _ _ _ _ us hl => match us, hl with | [_, _, _], _ => rfl) (fun f cdv A outer s H E hr =>
    (sss_one (ss_ret (se_and (se_def G_is_whole (hr.mono (by decide)) rfl pass0 (sa_cons (se_var 0) sa_nil)) (se_one (se_chain sop_le sop_le (se_var 1) (se_var 0) (se_var 2) (by with_unfolding_all rfl)))))))
theorem ok_are_wholes (T : Tx K mg) : DefOk P w K mg base (W0 K) 2 "are_wholes" m_are_wholes := by
  have G_is_whole := ok_is_whole (P := P) (w := w) (base := base) T
  exact defOk (N := N_are_wholes) (ps := ["value"]) (b := b_are_wholes) rfl T.d_are_wholes sc_are_wholes (fun _ _ _ _ _ _ us hl => match us, hl with | [_], _ => rfl) (fun f cdv A outer s H E hr =>
    (sss_one (ss_ret (se_and (se_callB (sc_isi rfl) rfl T.b_isinstance bt_isinstance (sa_cons (se_var 0) (sa_cons (se_ty rfl T.b_tuple bt_tuple) sa_nil))) (se_one (se_callB (sc_all rfl rfl) rfl T.b_all bt_all (sa_cons (se_lc (own := [("entry", 1)]) rfl sc_are_wholes.nd (si_seq rfl (se_var 0)) (blkOk_by (own := [("entry", 1)]) (N := N_are_wholes) (sc := defScope s_are_wholes) (by decide +kernel)) (fun _ _ _ _ _ => (sg_name (i := 1) sc_are_wholes.nd rfl (by first | exact Or.inl rfl | exact Or.inr rfl))) (fun _ _ _ _ _ => sts_nil) (fun _ _ _ _ _ => (se_def G_is_whole (hr.mono (by decide)) rfl pass0 (sa_cons (se_var 1) sa_nil)))) sa_nil)))))))
theorem ok_require_within (T : Tx K mg) : DefOk P w K mg base (W0 K) 3 "require_within" m_require_within := by
  have G_is_within := ok_is_within (P := P) (w := w) (base := base) T
  exact defOk (N := N_require_within) (ps := ["value", "least", "greatest"]) (b := b_require_within) rfl T.d_require_within sc_require_within (fun _ _ _ _ _ _ us hl => match us, hl with | [_, _, _], _ => rfl) (fun f cdv A outer s H E hr =>
    (sss_one (ss_if (st_not (st_v (se_def G_is_within (hr.mono (by decide)) rfl pass0 (sa_cons (se_var 0) (sa_cons (se_var 1) (sa_cons (se_var 2) sa_nil))))))
    (sss_one ss_bad)
    sss_nil)))
theorem ok_require_letters (T : Tx K mg) : DefOk P w K mg base (W0 K) 4 "require_letters" m_require_letters := by
  have G_require_within := ok_require_within (P := P) (w := w) (base := base) T
  exact defOk (N := N_require_letters) (ps := ["value"]) (b := b_require_letters) rfl T.d_require_letters sc_require_letters (fun _ _ _ _ _ _ us hl => match us, hl with | [_], _ => rfl) (fun f cdv A outer s H E hr =>
    (sss_one (ss_expr (se_def G_require_within (hr.mono (by decide)) rfl pass0 (sa_cons (se_var 0) (sa_cons se_int (sa_cons (se_gint rfl T.c_MOST_LETTERS) sa_nil)))))))
theorem ok_contrary_in (T : Tx K mg) : DefOk P w K mg base (W0 K) 1 "contrary_in" m_contrary_in := by
  exact defOk (N := N_contrary_in) (ps := ["word"]) (b := b_contrary_in) rfl T.d_contrary_in sc_contrary_in (fun _ _ _ _ _ _ us hl => match us, hl with | [_], _ => rfl) (fun f cdv A outer s H E hr =>
    (sss_one (ss_ret (se_callTy (sc_tuple rfl) rfl T.b_tuple bt_tuple (sa_cons (se_lc (own := [("entry", 1)]) rfl sc_contrary_in.nd (si_seq rfl (se_rev rfl (se_var 0))) (blkOk_by (own := [("entry", 1)]) (N := N_contrary_in) (sc := defScope s_contrary_in) (by decide +kernel)) (fun _ _ _ _ _ => (sg_name (i := 1) sc_contrary_in.nd rfl (by first | exact Or.inl rfl | exact Or.inr rfl))) (fun _ _ _ _ _ => sts_nil) (fun _ _ _ _ _ => (se_un sop_neg (se_var 1)))) sa_nil)))))
theorem ok_common_ends (T : Tx K mg) : DefOk P w K mg base (W0 K) 1 "common_ends" m_common_ends := by
  exact defOk (N := N_common_ends) (ps := ["one", "other"]) (b := b_common_ends) rfl T.d_common_ends sc_common_ends (fun _ _ _ _ _ _ us hl => match us, hl with | [_, _], _ => rfl) (fun f cdv A outer s H E hr =>
    (sss_cons (ss_par (i := 2) (j := 3) rfl sc_common_ends.nd rfl rfl (by decide) rfl rfl (sa_cons se_int (sa_cons (se_callB (sc_min2 rfl) rfl T.b_min bt_min (sa_cons (se_callB (sc_len rfl) rfl T.b_len bt_len (sa_cons (se_var 0) sa_nil)) (sa_cons (se_callB (sc_len rfl) rfl T.b_len bt_len (sa_cons (se_var 1) sa_nil)) sa_nil))) sa_nil)) (by rfl))
  (sss_cons (ss_while PassesOwn.never (PW.pt (sw_and (st_cmp sop_lt (se_var 2) (se_var 3) (nomark _)) (sw_and1 (st_cmp (sop_eq rfl hr.units) (se_ix (sx_ix rfl) (se_var 0) (se_bin sop_sub (se_un sop_neg se_int) (se_var 2)) (fun _ _ => rfl)) (se_un sop_neg (se_ix (sx_ix rfl) (se_var 1) (se_var 2) (fun _ _ => rfl))) (nomark _)))))
    (sss_one (ss_aug (i := 2) sc_common_ends.nd rfl (by first | exact Or.inl rfl | exact Or.inr rfl) se_int sip_add)))
  (sss_one (ss_ret (se_var 2))))))
theorem ok_product_in (T : Tx K mg) : DefOk P w K mg base (W0 K) 2 "product_in" m_product_in := by
  have G_common_ends := ok_common_ends (P := P) (w := w) (base := base) T
  exact defOk (N := N_product_in) (ps := ["one", "other"]) (b := b_product_in) rfl T.d_product_in sc_product_in (fun _ _ _ _ _ _ us hl => match us, hl with | [_, _], _ => rfl) (fun f cdv A outer s H E hr =>
    (sss_cons (ss_set (i := 2) sc_product_in.nd rfl (by first | exact Or.inl rfl | exact Or.inr rfl) (se_def G_common_ends (hr.mono (by decide)) rfl pass0 (sa_cons (se_var 0) (sa_cons (se_var 1) sa_nil))))
  (sss_one (ss_ret (se_tup (sa_star rfl (se_slice (sx_sl rfl) (se_var 0) sp_no (sp_at (se_bin sop_sub (se_callB (sc_len rfl) rfl T.b_len bt_len (sa_cons (se_var 0) sa_nil)) (se_var 2)))) (sa_star rfl (se_slice (sx_sl rfl) (se_var 1) (sp_at (se_var 2)) sp_no) sa_nil)))))))
theorem ok_core_in (T : Tx K mg) : DefOk P w K mg base (W0 K) 1 "core_in" m_core_in := by
  exact defOk (N := N_core_in) (ps := ["word"]) (b := b_core_in) rfl T.d_core_in sc_core_in (fun _ _ _ _ _ _ us hl => match us, hl with | [_], _ => rfl) (fun f cdv A outer s H E hr =>
    (sss_cons (ss_set (i := 1) sc_core_in.nd rfl (by first | exact Or.inl rfl | exact Or.inr rfl) se_int)
  (sss_cons (ss_while PassesOwn.never (PW.pt (sw_and (st_cmp sop_lt (se_bin (sop_add rfl) (se_bin (sop_mul rfl) se_int (se_var 1)) se_int) (se_callB (sc_len rfl) rfl T.b_len bt_len (sa_cons (se_var 0) sa_nil)) (nomark _)) (sw_and1 (st_cmp (sop_eq rfl hr.units) (se_ix (sx_ix rfl) (se_var 0) (se_var 1) (fun _ _ => rfl)) (se_un sop_neg (se_ix (sx_ix rfl) (se_var 0) (se_bin sop_sub (se_un sop_neg se_int) (se_var 1)) (fun _ _ => rfl))) (nomark _)))))
    (sss_one (ss_aug (i := 1) sc_core_in.nd rfl (by first | exact Or.inl rfl | exact Or.inr rfl) se_int sip_add)))
  (sss_one (ss_ret (se_tup (sa_cons (se_slice (sx_sl rfl) (se_var 0) sp_no (sp_at (se_var 1))) (sa_cons (se_slice (sx_sl rfl) (se_var 0) (sp_at (se_var 1)) (sp_at (se_bin sop_sub (se_callB (sc_len rfl) rfl T.b_len bt_len (sa_cons (se_var 0) sa_nil)) (se_var 1)))) sa_nil))))))))
theorem ok_power_in (T : Tx K mg) : DefOk P w K mg base (W0 K) 2 "power_in" m_power_in := by
  have G_contrary_in := ok_contrary_in (P := P) (w := w) (base := base) T
  have G_core_in := ok_core_in (P := P) (w := w) (base := base) T
  exact defOk (N := N_power_in) (ps := ["word", "many"]) (b := b_power_in) rfl T.d_power_in sc_power_in (fun _ _ _ _ _ _ us hl => match us, hl with | [_, _], _ => rfl) (fun f cdv A outer s H E hr =>
    (sss_cons (ss_if (st_cmp (sop_eq rfl hr.units) (se_var 1) se_int (nomark _))
    (sss_one (ss_ret (se_tup sa_nil)))
    sss_nil)
  (sss_cons (ss_set (i := 2) sc_power_in.nd rfl (by first | exact Or.inl rfl | exact Or.inr rfl) (se_ifExp (st_cmp sop_gt (se_var 1) se_int (nomark _)) (se_var 0) (se_def G_contrary_in (hr.mono (by decide)) rfl pass0 (sa_cons (se_var 0) sa_nil))))
  (sss_cons (ss_asg (se_def G_core_in (hr.mono (by decide)) rfl pass0 (sa_cons (se_var 2) sa_nil)) (sg_tup rfl rfl (sgs_cons (sg_name (i := 3) sc_power_in.nd rfl (by first | exact Or.inl rfl | exact Or.inr rfl)) (sgs_cons (sg_name (i := 4) sc_power_in.nd rfl (by first | exact Or.inl rfl | exact Or.inr rfl)) sgs_nil))))
  (sss_one (ss_ret (se_tup (sa_star rfl (se_var 3) (sa_star rfl (se_bin (sop_mul rfl) (se_var 4) (se_callB sc_abs rfl T.b_abs bt_abs (sa_cons (se_var 1) sa_nil))) (sa_star rfl (se_def G_contrary_in (hr.mono (by decide)) rfl pass0 (sa_cons (se_var 3) sa_nil)) sa_nil))))))))))
theorem ok_root_in (T : Tx K mg) : DefOk P w K mg base (W0 K) 2 "root_in" m_root_in := by
  have G_contrary_in := ok_contrary_in (P := P) (w := w) (base := base) T
  have G_core_in := ok_core_in (P := P) (w := w) (base := base) T
  exact defOk (N := N_root_in) (ps := ["word"]) (b := b_root_in) rfl T.d_root_in sc_root_in (fun _ _ _ _ _ _ us hl => match us, hl with | [_], _ => rfl) (fun f cdv A outer s H E hr =>
    (sss_cons (ss_asg (se_def G_core_in (hr.mono (by decide)) rfl pass0 (sa_cons (se_var 0) sa_nil)) (sg_tup rfl rfl (sgs_cons (sg_name (i := 3) sc_root_in.nd rfl (by first | exact Or.inl rfl | exact Or.inr rfl)) (sgs_cons (sg_name (i := 4) sc_root_in.nd rfl (by first | exact Or.inl rfl | exact Or.inr rfl)) sgs_nil))))
  (sss_cons (ss_set (i := 1) sc_root_in.nd rfl (by first | exact Or.inl rfl | exact Or.inr rfl) (se_callB (sc_len rfl) rfl T.b_len bt_len (sa_cons (se_var 4) sa_nil)))
  (sss_cons (ss_set (i := 2) sc_root_in.nd rfl (by first | exact Or.inl rfl | exact Or.inr rfl) (se_callB (sc_min1 rfl rfl hr.units) rfl T.b_min bt_min (sa_cons (se_lc (own := [("part", 5)]) rfl sc_root_in.nd (si_range2 rfl T.b_range (sa_cons se_int (sa_cons (se_bin (sop_add rfl) (se_var 1) se_int) sa_nil))) (blkOk_by (own := [("part", 5)]) (N := N_root_in) (sc := defScope s_root_in) (by decide +kernel)) (fun _ _ _ _ _ => (sg_name (i := 5) sc_root_in.nd rfl (by first | exact Or.inl rfl | exact Or.inr rfl))) (fun _ _ _ _ _ => (sts_one (PW.pt (sw_and (st_cmp (sop_eq rfl hr.units) (se_bin sop_mod (se_var 1) (se_var 5)) se_int (nomark _)) (sw_and1 (st_cmp (sop_eq rfl hr.units) (se_bin (sop_mul rfl) (se_slice (sx_sl rfl) (se_var 4) sp_no (sp_at (se_var 5))) (se_bin sop_div (se_var 1) (se_var 5))) (se_var 4) (nomark _))))))) (fun _ _ _ _ _ => (se_var 5))) sa_nil)))
  (sss_one (ss_ret (se_tup (sa_cons (se_tup (sa_star rfl (se_var 3) (sa_star rfl (se_slice (sx_sl rfl) (se_var 4) sp_no (sp_at (se_var 2))) (sa_star rfl (se_def G_contrary_in (hr.mono (by decide)) rfl pass0 (sa_cons (se_var 3) sa_nil)) sa_nil)))) (sa_cons (se_bin sop_div (se_var 1) (se_var 2)) sa_nil)))))))))
theorem ok_exponents_in (T : Tx K mg) : DefOk P w K mg base (W0 K) 3 "exponents_in" m_exponents_in := by
  have G_root_in := ok_root_in (P := P) (w := w) (base := base) T
  exact defOk (N := N_exponents_in) (ps := ["one", "other"]) (b := b_exponents_in) rfl T.d_exponents_in sc_exponents_in (fun _ _ _ _ _ _ us hl => match us, hl with | [_, _], _ => rfl) (fun f cdv A outer s H E hr =>
    (sss_cons (ss_if (st_cmp (sop_eq rfl hr.units) (se_var 0) (se_tup sa_nil) (nomark _))
    (sss_one (ss_ret (se_ifExp (st_cmp (sop_eq rfl hr.units) (se_var 1) (se_tup sa_nil) (nomark _)) (se_tup (sa_cons (se_tup sa_nil) (sa_cons se_int (sa_cons se_int sa_nil)))) (se_tup (sa_cons (se_ix (sx_ix rfl) (se_def G_root_in (hr.mono (by decide)) rfl pass0 (sa_cons (se_var 1) sa_nil)) se_int (fun _ _ => rfl)) (sa_cons se_int (sa_cons (se_ix (sx_ix rfl) (se_def G_root_in (hr.mono (by decide)) rfl pass0 (sa_cons (se_var 1) sa_nil)) se_int (fun _ _ => rfl)) sa_nil)))))))
    sss_nil)
  (sss_cons (ss_asg (se_def G_root_in (hr.mono (by decide)) rfl pass0 (sa_cons (se_var 0) sa_nil)) (sg_tup rfl rfl (sgs_cons (sg_name (i := 2) sc_exponents_in.nd rfl (by first | exact Or.inl rfl | exact Or.inr rfl)) (sgs_cons (sg_name (i := 3) sc_exponents_in.nd rfl (by first | exact Or.inl rfl | exact Or.inr rfl)) sgs_nil))))
  (sss_cons (ss_if (st_cmp (sop_eq rfl hr.units) (se_var 1) (se_tup sa_nil) (nomark _))
    (sss_one (ss_ret (se_tup (sa_cons (se_var 2) (sa_cons (se_var 3) (sa_cons se_int sa_nil))))))
    sss_nil)
  (sss_cons (ss_asg (se_def G_root_in (hr.mono (by decide)) rfl pass0 (sa_cons (se_var 1) sa_nil)) (sg_tup rfl rfl (sgs_cons (sg_name (i := 4) sc_exponents_in.nd rfl (by first | exact Or.inl rfl | exact Or.inr rfl)) (sgs_cons (sg_name (i := 5) sc_exponents_in.nd rfl (by first | exact Or.inl rfl | exact Or.inr rfl)) sgs_nil))))
  (sss_one (ss_ret (se_tup (sa_cons (se_var 2) (sa_cons (se_var 3) (sa_cons (se_ifExp (st_cmp (sop_eq rfl hr.units) (se_var 4) (se_var 2) (nomark _)) (se_var 5) (se_un sop_neg (se_var 5))) sa_nil)))))))))))
theorem ok_is_row_in (T : Tx K mg) : DefOk P w K mg base (W0 K) 3 "is_row_in" m_is_row_in := by
  have G_are_wholes := ok_are_wholes (P := P) (w := w) (base := base) T
  exact defOk (N := N_is_row_in) (ps := ["letters", "value"]) (b := b_is_row_in) rfl T.d_is_row_in sc_is_row_in (fun _ _ _ _ _ _ us hl => match us, hl with | [_, _], _ => rfl) (fun f cdv A outer s H E hr =>
    (sss_cons (ss_if (st_not (st_v (se_def G_are_wholes (hr.mono (by decide)) rfl pass0 (sa_cons (se_var 1) sa_nil))))
    (sss_one (ss_ret se_bl))
    sss_nil)
  (sss_one (ss_ret (se_callB (sc_all rfl rfl) rfl T.b_all bt_all (sa_cons (se_lc (own := [("entry", 2)]) rfl sc_is_row_in.nd (si_seq rfl (se_var 1)) (blkOk_by (own := [("entry", 2)]) (N := N_is_row_in) (sc := defScope s_is_row_in) (by decide +kernel)) (fun _ _ _ _ _ => (sg_name (i := 2) sc_is_row_in.nd rfl (by first | exact Or.inl rfl | exact Or.inr rfl))) (fun _ _ _ _ _ => sts_nil) (fun _ _ _ _ _ => (se_chain sop_le sop_le se_int (se_callB sc_abs rfl T.b_abs bt_abs (sa_cons (se_var 2) sa_nil)) (se_var 0) (by with_unfolding_all rfl)))) sa_nil))))))
theorem ok_is_word_any (T : Tx K mg) : DefOk P w K mg base (W0 K) 4 "is_word_any" m_is_word_any := by
  have G_is_row_in := ok_is_row_in (P := P) (w := w) (base := base) T
  exact defOk (N := N_is_word_any) (ps := ["letters", "value"]) (b := b_is_word_any) rfl T.d_is_word_any sc_is_word_any (fun _ _ _ _ _ _ us hl => match us, hl with | [_, _], _ => rfl) (fun f cdv A outer s H E hr =>
    (sss_one (ss_ret (se_and (se_def G_is_row_in (hr.mono (by decide)) rfl pass0 (sa_cons (se_var 0) (sa_cons (se_var 1) sa_nil))) (se_one (se_callB (sc_all rfl rfl) rfl T.b_all bt_all (sa_cons (se_lc (own := [("left", 2), ("right", 3)]) rfl sc_is_word_any.nd (si_zip rfl rfl T.b_zip (sa_cons (se_var 1) (sa_cons (se_slice (sx_sl rfl) (se_var 1) (sp_at se_int) sp_no) sa_nil))) (blkOk_by (own := [("left", 2), ("right", 3)]) (N := N_is_word_any) (sc := defScope s_is_word_any) (by decide +kernel)) (fun _ _ _ _ _ => (sg_tup rfl rfl (sgs_cons (sg_name (i := 2) sc_is_word_any.nd rfl (by first | exact Or.inl rfl | exact Or.inr rfl)) (sgs_cons (sg_name (i := 3) sc_is_word_any.nd rfl (by first | exact Or.inl rfl | exact Or.inr rfl)) sgs_nil)))) (fun _ _ _ _ _ => sts_nil) (fun _ _ _ _ _ => (se_cmp (sop_ne rfl hr.units) (se_var 2) (se_un sop_neg (se_var 3)) (nomark _)))) sa_nil)))))))
theorem ok_is_word_in (T : Tx K mg) : DefOk P w K mg base (W0 K) 5 "is_word_in" m_is_word_in := by
  have G_is_word_any := ok_is_word_any (P := P) (w := w) (base := base) T
  exact defOk (N := N_is_word_in) (ps := ["letters", "value"]) (b := b_is_word_in) rfl T.d_is_word_in sc_is_word_in (fun _ _ _ _ _ _ us hl => match us, hl with | [_, _], _ => rfl) (fun f cdv A outer s H E hr =>
    (sss_one (ss_ret (se_and (se_def G_is_word_any (hr.mono (by decide)) rfl pass0 (sa_cons (se_var 0) (sa_cons (se_var 1) sa_nil))) (se_one (se_cmp sop_le (se_callB (sc_len rfl) rfl T.b_len bt_len (sa_cons (se_var 1) sa_nil)) (se_gint rfl T.c_MAX_WORD) (nomark _)))))))
theorem ok_is_power_of (T : Tx K mg) : DefOk P w K mg base (W0 K) 3 "is_power_of" m_is_power_of := by
  have G_power_in := ok_power_in (P := P) (w := w) (base := base) T
  exact defOk (N := N_is_power_of) (ps := ["base", "many", "word"]) (b := b_is_power_of) rfl T.d_is_power_of sc_is_power_of (fun _ _ _ _ _ _ us hl => match us, hl with | [_, _, _], _ => rfl) (fun f cdv A outer s H E hr =>
    (sss_cons (ss_if (PW.pt (sw_or (st_cmp (sop_eq rfl hr.units) (se_var 0) (se_tup sa_nil) (nomark _)) (sw_or1 (st_cmp (sop_eq rfl hr.units) (se_var 1) se_int (nomark _)))))
    (sss_one (ss_ret (se_cmp (sop_eq rfl hr.units) (se_var 2) (se_tup sa_nil) (nomark _))))
    sss_nil)
  (sss_one (ss_ret (se_and (se_cmp sop_le (se_callB sc_abs rfl T.b_abs bt_abs (sa_cons (se_var 1) sa_nil)) (se_callB (sc_len rfl) rfl T.b_len bt_len (sa_cons (se_var 2) sa_nil)) (nomark _)) (se_one (se_cmp (sop_eq rfl hr.units) (se_def G_power_in (hr.mono (by decide)) rfl pass0 (sa_cons (se_var 0) (sa_cons (se_var 1) sa_nil))) (se_var 2) (nomark _))))))))
theorem ok_is_root_paper (T : Tx K mg) : DefOk P w K mg base (W0 K) 6 "is_root_paper" m_is_root_paper := by
  have G_is_power_of := ok_is_power_of (P := P) (w := w) (base := base) T
  have G_is_whole := ok_is_whole (P := P) (w := w) (base := base) T
  have G_is_word_in := ok_is_word_in (P := P) (w := w) (base := base) T
  exact defOk (N := N_is_root_paper) (ps := ["letters", "one", "other", "value"]) (b := b_is_root_paper) rfl T.d_is_root_paper sc_is_root_paper (fun _ _ _ _ _ _ us hl => match us, hl with | [_, _, _, _], _ => rfl) (fun f cdv A outer s H E hr =>
    (sss_cons (ss_if (PW.pt (sw_or (st_cmp (sop_ne rfl hr.units) (se_callB (sc_len rfl) rfl T.b_len bt_len (sa_cons (se_var 3) sa_nil)) se_int (nomark _)) (sw_or (st_not (st_v (se_def G_is_word_in (hr.mono (by decide)) rfl pass0 (sa_cons (se_var 0) (sa_cons (se_ix (sx_ix rfl) (se_var 3) se_int (fun _ _ => rfl)) sa_nil))))) (sw_or (st_not (st_v (se_def G_is_whole (hr.mono (by decide)) rfl pass0 (sa_cons (se_ix (sx_ix rfl) (se_var 3) se_int (fun _ _ => rfl)) sa_nil)))) (sw_or1 (st_not (st_v (se_def G_is_whole (hr.mono (by decide)) rfl pass0 (sa_cons (se_ix (sx_ix rfl) (se_var 3) se_int (fun _ _ => rfl)) sa_nil)))))))))
    (sss_one (ss_ret se_bl))
    sss_nil)
  (sss_one (ss_ret (se_and (se_def G_is_power_of (hr.mono (by decide)) rfl pass0 (sa_cons (se_ix (sx_ix rfl) (se_var 3) se_int (fun _ _ => rfl)) (sa_cons (se_ix (sx_ix rfl) (se_var 3) se_int (fun _ _ => rfl)) (sa_cons (se_var 1) sa_nil)))) (se_one (se_def G_is_power_of (hr.mono (by decide)) rfl pass0 (sa_cons (se_ix (sx_ix rfl) (se_var 3) se_int (fun _ _ => rfl)) (sa_cons (se_ix (sx_ix rfl) (se_var 3) se_int (fun _ _ => rfl)) (sa_cons (se_var 2) sa_nil))))))))))
theorem ok_is_unlike_paper (T : Tx K mg) : DefOk P w K mg base (W0 K) 3 "is_unlike_paper" m_is_unlike_paper := by
  have G_are_wholes := ok_are_wholes (P := P) (w := w) (base := base) T
  have G_product_in := ok_product_in (P := P) (w := w) (base := base) T
  exact defOk (N := N_is_unlike_paper) (ps := ["one", "other", "value"]) (b := b_is_unlike_paper) rfl T.d_is_unlike_paper sc_is_unlike_paper (fun _ _ _ _ _ _ us hl => match us, hl with | [_, _, _], _ => rfl) (fun f cdv A outer s H E hr =>
    (sss_cons (ss_if (PW.pt (sw_or (st_cmp (sop_ne rfl hr.units) (se_callB (sc_len rfl) rfl T.b_len bt_len (sa_cons (se_var 2) sa_nil)) se_int (nomark _)) (sw_or (st_not (st_v (se_def G_are_wholes (hr.mono (by decide)) rfl pass0 (sa_cons (se_ix (sx_ix rfl) (se_var 2) se_int (fun _ _ => rfl)) sa_nil)))) (sw_or1 (st_not (st_v (se_def G_are_wholes (hr.mono (by decide)) rfl pass0 (sa_cons (se_ix (sx_ix rfl) (se_var 2) se_int (fun _ _ => rfl)) sa_nil))))))))
    (sss_one (ss_ret se_bl))
    sss_nil)
  (sss_one (ss_ret (se_and (se_cmp (sop_eq rfl hr.units) (se_ix (sx_ix rfl) (se_var 2) se_int (fun _ _ => rfl)) (se_def G_product_in (hr.mono (by decide)) rfl pass0 (sa_cons (se_var 0) (sa_cons (se_var 1) sa_nil))) (nomark _)) (se_and (se_cmp (sop_eq rfl hr.units) (se_ix (sx_ix rfl) (se_var 2) se_int (fun _ _ => rfl)) (se_def G_product_in (hr.mono (by decide)) rfl pass0 (sa_cons (se_var 1) (sa_cons (se_var 0) sa_nil))) (nomark _)) (se_one (se_cmp (sop_ne rfl hr.units) (se_ix (sx_ix rfl) (se_var 2) se_int (fun _ _ => rfl)) (se_ix (sx_ix rfl) (se_var 2) se_int (fun _ _ => rfl)) (nomark _)))))))))
theorem ok_require_word (T : Tx K mg) : DefOk P w K mg base (W0 K) 6 "require_word" m_require_word := by
  have G_is_word_in := ok_is_word_in (P := P) (w := w) (base := base) T
  exact defOk (N := N_require_word) (ps := ["letters", "value"]) (b := b_require_word) rfl T.d_require_word sc_require_word (fun _ _ _ _ _ _ us hl => match us, hl with | [_, _], _ => rfl) (fun f cdv A outer s H E hr =>
    (sss_one (ss_if (st_not (st_v (se_def G_is_word_in (hr.mono (by decide)) rfl pass0 (sa_cons (se_var 0) (sa_cons (se_var 1) sa_nil)))))
    (sss_one ss_bad)
    sss_nil)))
theorem ok_require_letters_and_word (T : Tx K mg) : DefOk P w K mg base (W0 K) 7 "require_letters_and_word" m_require_letters_and_word := by
  have G_require_letters := ok_require_letters (P := P) (w := w) (base := base) T
  have G_require_word := ok_require_word (P := P) (w := w) (base := base) T
  exact defOk (N := N_require_letters_and_word) (ps := ["letters", "word"]) (b := b_require_letters_and_word) rfl T.d_require_letters_and_word sc_require_letters_and_word (fun _ _ _ _ _ _ us hl => match us, hl with | [_, _], _ => rfl) (fun f cdv A outer s H E hr =>
    (sss_cons (ss_expr (se_def G_require_letters (hr.mono (by decide)) rfl pass0 (sa_cons (se_var 0) sa_nil)))
  (sss_one (ss_expr (se_def G_require_word (hr.mono (by decide)) rfl pass0 (sa_cons (se_var 0) (sa_cons (se_var 1) sa_nil)))))))
theorem ok_require_two_words (T : Tx K mg) : DefOk P w K mg base (W0 K) 8 "require_two_words" m_require_two_words := by
  have G_require_letters_and_word := ok_require_letters_and_word (P := P) (w := w) (base := base) T
  have G_require_word := ok_require_word (P := P) (w := w) (base := base) T
  exact defOk (N := N_require_two_words) (ps := ["letters", "one", "other"]) (b := b_require_two_words) rfl T.d_require_two_words sc_require_two_words (fun _ _ _ _ _ _ us hl => match us, hl with | [_, _, _], _ => rfl) (fun f cdv A outer s H E hr =>
    (sss_cons (ss_expr (se_def G_require_letters_and_word (hr.mono (by decide)) rfl pass0 (sa_cons (se_var 0) (sa_cons (se_var 1) sa_nil))))
  (sss_one (ss_expr (se_def G_require_word (hr.mono (by decide)) rfl pass0 (sa_cons (se_var 0) (sa_cons (se_var 2) sa_nil)))))))
theorem ok_product (T : Tx K mg) : DefOk P w K mg base (W0 K) 7 "product" m_product := by
  have G_product_in := ok_product_in (P := P) (w := w) (base := base) T
  have G_require_letters := ok_require_letters (P := P) (w := w) (base := base) T
  have G_require_word := ok_require_word (P := P) (w := w) (base := base) T
  exact defOks (N := N_product) (ps := ["letters"]) (b := b_product) rfl T.d_product sc_product (fun kV doc pm an cdv ct us rest hl => StX.bind_star1 (B := fun us => bindArgs (PySem.W.fnOf "product" "product" (defArgs s_product) (defBody s_product) (defScope s_product) .none kV doc pm an cdv ct) ⟨us, []⟩) (fun _ => rfl) (fun _ _ _ => rfl) us rest hl) (fun f cdv A outer s H E hr =>
    (sss_cons (ss_expr (se_def G_require_letters (hr.mono (by decide)) rfl pass0 (sa_cons (se_var 0) sa_nil)))
  (sss_cons (ss_for PassesOwn.never rfl (si_seq rfl (se_var 1)) (sg_name (i := 2) sc_product.nd rfl (by first | exact Or.inl rfl | exact Or.inr rfl))
    (sss_one (ss_expr (se_def G_require_word (hr.mono (by decide)) rfl pass0 (sa_cons (se_var 0) (sa_cons (se_var 2) sa_nil))))))
  (sss_cons (ss_if (st_cmp sop_gt (se_callB (sc_len rfl) rfl T.b_len bt_len (sa_cons (se_var 1) sa_nil)) (se_gint rfl T.c_MOST_POWER) (nomark _))
    (sss_one ss_bad)
    sss_nil)
  (sss_cons (ss_set (i := 3) sc_product.nd rfl (by first | exact Or.inl rfl | exact Or.inr rfl) (se_tup sa_nil))
  (sss_cons (ss_for PassesOwn.never rfl (si_seq rfl (se_var 1)) (sg_name (i := 2) sc_product.nd rfl (by first | exact Or.inl rfl | exact Or.inr rfl))
    (sss_one (ss_set (i := 3) sc_product.nd rfl (by first | exact Or.inl rfl | exact Or.inr rfl) (se_def G_product_in (hr.mono (by decide)) rfl pass0 (sa_cons (se_var 3) (sa_cons (se_var 2) sa_nil))))))
  (sss_one (ss_ret (se_var 3)))))))))
theorem ok_power (T : Tx K mg) : DefOk P w K mg base (W0 K) 8 "power" m_power := by
  have G_power_in := ok_power_in (P := P) (w := w) (base := base) T
  have G_require_letters_and_word := ok_require_letters_and_word (P := P) (w := w) (base := base) T
  have G_require_within := ok_require_within (P := P) (w := w) (base := base) T
  exact defOk (N := N_power) (ps := ["letters", "word", "many"]) (b := b_power) rfl T.d_power sc_power (fun _ _ _ _ _ _ us hl => match us, hl with | [_, _, _], _ => rfl) (fun f cdv A outer s H E hr =>
    (sss_cons (ss_expr (se_def G_require_letters_and_word (hr.mono (by decide)) rfl pass0 (sa_cons (se_var 0) (sa_cons (se_var 1) sa_nil))))
  (sss_cons (ss_expr (se_def G_require_within (hr.mono (by decide)) rfl pass0 (sa_cons (se_var 2) (sa_cons (se_un sop_neg (se_gint rfl T.c_MOST_POWER)) (sa_cons (se_gint rfl T.c_MOST_POWER) sa_nil)))))
  (sss_one (ss_ret (se_def G_power_in (hr.mono (by decide)) rfl pass0 (sa_cons (se_var 1) (sa_cons (se_var 2) sa_nil))))))))
theorem ok_root (T : Tx K mg) : DefOk P w K mg base (W0 K) 8 "root" m_root := by
  have G_require_letters_and_word := ok_require_letters_and_word (P := P) (w := w) (base := base) T
  have G_root_in := ok_root_in (P := P) (w := w) (base := base) T
  exact defOk (N := N_root) (ps := ["letters", "word"]) (b := b_root) rfl T.d_root sc_root (fun _ _ _ _ _ _ us hl => match us, hl with | [_, _], _ => rfl) (fun f cdv A outer s H E hr =>
    (sss_cons (ss_expr (se_def G_require_letters_and_word (hr.mono (by decide)) rfl pass0 (sa_cons (se_var 0) (sa_cons (se_var 1) sa_nil))))
  (sss_cons (ss_if (st_cmp (sop_eq rfl hr.units) (se_var 1) (se_tup sa_nil) (nomark _))
    (sss_one ss_bad)
    sss_nil)
  (sss_one (ss_ret (se_def G_root_in (hr.mono (by decide)) rfl pass0 (sa_cons (se_var 1) sa_nil)))))))
theorem ok_common_root (T : Tx K mg) : DefOk P w K mg base (W0 K) 9 "common_root" m_common_root := by
  have G_exponents_in := ok_exponents_in (P := P) (w := w) (base := base) T
  have G_product_in := ok_product_in (P := P) (w := w) (base := base) T
  have G_require_two_words := ok_require_two_words (P := P) (w := w) (base := base) T
  exact defOk (N := N_common_root) (ps := ["letters", "one", "other"]) (b := b_common_root) rfl T.d_common_root sc_common_root (fun _ _ _ _ _ _ us hl => match us, hl with | [_, _, _], _ => rfl) (fun f cdv A outer s H E hr =>
    (sss_cons (ss_expr (se_def G_require_two_words (hr.mono (by decide)) rfl pass0 (sa_cons (se_var 0) (sa_cons (se_var 1) (sa_cons (se_var 2) sa_nil)))))
  (sss_cons (ss_par (i := 3) (j := 4) rfl sc_common_root.nd rfl rfl (by decide) rfl rfl (sa_cons (se_def G_product_in (hr.mono (by decide)) rfl pass0 (sa_cons (se_var 1) (sa_cons (se_var 2) sa_nil))) (sa_cons (se_def G_product_in (hr.mono (by decide)) rfl pass0 (sa_cons (se_var 2) (sa_cons (se_var 1) sa_nil))) sa_nil)) (by rfl))
  (sss_cons (ss_if (st_cmp (sop_ne rfl hr.units) (se_var 3) (se_var 4) (nomark _))
    (sss_one (ss_ret (se_tup (sa_cons (se_gstr rfl T.c_UNLIKE) (sa_cons (se_var 3) (sa_cons (se_var 4) sa_nil))))))
    sss_nil)
  (sss_one (ss_ret (se_tup (sa_cons (se_gstr rfl T.c_ROOT) (sa_star rfl (se_def G_exponents_in (hr.mono (by decide)) rfl pass0 (sa_cons (se_var 1) (sa_cons (se_var 2) sa_nil))) sa_nil)))))))))
theorem ok_is_common_root (T : Tx K mg) : DefOk P w K mg base (W0 K) 9 "is_common_root" m_is_common_root := by
  have G_is_root_paper := ok_is_root_paper (P := P) (w := w) (base := base) T
  have G_is_unlike_paper := ok_is_unlike_paper (P := P) (w := w) (base := base) T
  have G_require_two_words := ok_require_two_words (P := P) (w := w) (base := base) T
  exact defOk (N := N_is_common_root) (ps := ["letters", "one", "other", "value"]) (b := b_is_common_root) rfl T.d_is_common_root sc_is_common_root (fun _ _ _ _ _ _ us hl => match us, hl with | [_, _, _, _], _ => rfl) (fun f cdv A outer s H E hr =>
    (sss_cons (ss_expr (se_def G_require_two_words (hr.mono (by decide)) rfl pass0 (sa_cons (se_var 0) (sa_cons (se_var 1) (sa_cons (se_var 2) sa_nil)))))
  (sss_cons (ss_if (PW.pt (sw_or (st_not (st_v (se_callB (sc_isi rfl) rfl T.b_isinstance bt_isinstance (sa_cons (se_var 3) (sa_cons (se_ty rfl T.b_tuple bt_tuple) sa_nil))))) (sw_or (st_cmp (sop_eq rfl hr.units) (se_var 3) (se_tup sa_nil) (nomark _)) (sw_or1 (st_not (st_v (se_callB (sc_isi rfl) rfl T.b_isinstance bt_isinstance (sa_cons (se_ix (sx_ix rfl) (se_var 3) se_int (fun _ _ => rfl)) (sa_cons (se_ty rfl T.b_str bt_str) sa_nil)))))))))
    (sss_one (ss_ret se_bl))
    sss_nil)
  (sss_cons (ss_if (st_cmp (sop_eq rfl hr.units) (se_ix (sx_ix rfl) (se_var 3) se_int (fun _ _ => rfl)) (se_gstr rfl T.c_ROOT) (nomark _))
    (sss_one (ss_ret (se_def G_is_root_paper (hr.mono (by decide)) rfl pass0 (sa_cons (se_var 0) (sa_cons (se_var 1) (sa_cons (se_var 2) (sa_cons (se_var 3) sa_nil)))))))
    sss_nil)
  (sss_one (ss_ret (se_and (se_cmp (sop_eq rfl hr.units) (se_ix (sx_ix rfl) (se_var 3) se_int (fun _ _ => rfl)) (se_gstr rfl T.c_UNLIKE) (nomark _)) (se_one (se_def G_is_unlike_paper (hr.mono (by decide)) rfl pass0 (sa_cons (se_var 1) (sa_cons (se_var 2) (sa_cons (se_var 3) sa_nil))))))))))))
theorem ok__law_sack (T : Tx K mg) : DefOk P w K mg base (W0 K) 1 "_law_sack" m__law_sack := by
  exact defOk (N := N__law_sack) (ps := ["script", "spot"]) (b := b__law_sack) rfl T.d__law_sack sc__law_sack (fun _ _ _ _ _ _ us hl => match us, hl with | [_, _], _ => rfl) (fun f cdv A outer s H E hr =>
    (sss_cons (ss_set (i := 2) sc__law_sack.nd rfl (by first | exact Or.inl rfl | exact Or.inr rfl) (se_ifExp (st_cmp sop_lt (se_var 1) (se_callB (sc_len rfl) rfl T.b_len bt_len (sa_cons (se_var 0) sa_nil)) (nomark _)) (se_callTy sc_int rfl T.b_int bt_int (sa_cons (se_ix (sx_ix rfl) (se_var 0) (se_var 1) (fun _ _ => rfl)) sa_nil)) (se_bin (sop_add rfl) (se_bin (sop_mul rfl) se_int (se_var 1)) se_int)))
  (sss_cons (ss_set (i := 3) sc__law_sack.nd rfl (by first | exact Or.inl rfl | exact Or.inr rfl) (se_bin sop_mod (se_callTy sc_int rfl T.b_int bt_int (sa_cons (se_callB sc_abs rfl T.b_abs bt_abs (sa_cons (se_var 2) sa_nil)) sa_nil)) (se_bin sop_pow (se_bin sop_pow se_int se_int) se_int)))
  (sss_one (ss_ret (se_lst (sa_cons (se_callB (sc_max2 rfl) rfl T.b_max bt_max (sa_cons se_int (sa_cons (se_bin sop_sub (se_var 3) (se_bin sop_pow se_int se_int)) sa_nil))) (sa_cons (se_bin (sop_add rfl) (se_bin (sop_add rfl) (se_bin (sop_add rfl) (se_bin (sop_mul rfl) (se_bin sop_mod (se_callTy sc_int rfl T.b_int bt_int (sa_cons (se_var 3) sa_nil)) se_int) se_int) (se_bin (sop_mul rfl) se_int (se_var 1))) (se_bin (sop_mul rfl) se_int (se_callTy sc_int rfl T.b_int bt_int (sa_cons (se_cmp sop_lt (se_var 2) se_int (nomark _)) sa_nil)))) se_int) (sa_cons se_int sa_nil)))))))))
theorem ok__law_drawn (T : Tx K mg) : DefOk P w K mg base (W0 K) 1 "_law_drawn" m__law_drawn := by
  exact defOk (N := N__law_drawn) (ps := ["sack", "total"]) (b := b__law_drawn) rfl T.d__law_drawn sc__law_drawn (fun _ _ _ _ _ _ us hl => match us, hl with | [_, _], _ => rfl) (fun f cdv A outer s H E hr =>
    (sss_cons (ss_if (st_cmp sop_gt (se_ix (sx_ix rfl) (se_var 0) se_int (fun _ _ => rfl)) se_int (nomark _))
    (sss_cons (ss_set (i := 4) sc__law_drawn.nd rfl (by first | exact Or.inl rfl | exact Or.inr rfl) (se_bin sop_mod (se_callTy sc_int rfl T.b_int bt_int (sa_cons (se_ix (sx_ix rfl) (se_var 0) se_int (fun _ _ => rfl)) sa_nil)) (se_var 1)))
  (sss_cons (ss_asg (se_bin sop_div (se_ix (sx_ix rfl) (se_var 0) se_int (fun _ _ => rfl)) (se_var 1)) (sg_sub (se_var 0) se_int sx_set))
  (sss_one (ss_ret (se_var 4)))))
    sss_nil)
  (sss_cons (ss_asg (se_bin (sop_add rfl) (se_ix (sx_ix rfl) (se_var 0) se_int (fun _ _ => rfl)) se_int) (sg_sub (se_var 0) se_int sx_set))
  (sss_cons (ss_set (i := 2) sc__law_drawn.nd rfl (by first | exact Or.inl rfl | exact Or.inr rfl) (se_bin sop_mod (se_callTy sc_int rfl T.b_int bt_int (sa_cons (se_bin (sop_add rfl) (se_ix (sx_ix rfl) (se_var 0) se_int (fun _ _ => rfl)) (se_bin (sop_mul rfl) se_int (se_ix (sx_ix rfl) (se_var 0) se_int (fun _ _ => rfl)))) sa_nil)) se_int))
  (sss_cons (ss_set (i := 3) sc__law_drawn.nd rfl (by first | exact Or.inl rfl | exact Or.inr rfl) (se_bin (sop_add rfl) (se_bin (sop_mul rfl) (se_bin sop_mod (se_callTy sc_int rfl T.b_int bt_int (sa_cons (se_bin (sop_add rfl) (se_bin (sop_mul rfl) (se_var 2) (se_var 2)) (se_bin (sop_mul rfl) se_int (se_ix (sx_ix rfl) (se_var 0) se_int (fun _ _ => rfl)))) sa_nil)) se_int) se_int) (se_var 2)))
  (sss_one (ss_ret (se_bin sop_mod (se_callTy sc_int rfl T.b_int bt_int (sa_cons (se_bin sop_div (se_var 3) se_int) sa_nil)) (se_var 1)))))))))
theorem ok__law_bare (T : Tx K mg) : DefOk P w K mg base (W0 K) 1 "_law_bare" m__law_bare := by
  exact defOk (N := N__law_bare) (ps := ["row"]) (b := b__law_bare) rfl T.d__law_bare sc__law_bare (fun _ _ _ _ _ _ us hl => match us, hl with | [_], _ => rfl) (fun f cdv A outer s H E hr =>
    (sss_cons (ss_set (i := 1) sc__law_bare.nd rfl (by first | exact Or.inl rfl | exact Or.inr rfl) (se_lst sa_nil))
  (sss_cons (ss_for PassesOwn.never rfl (si_seq rfl (se_var 0)) (sg_name (i := 2) sc__law_bare.nd rfl (by first | exact Or.inl rfl | exact Or.inr rfl))
    (sss_one (ss_if (PW.pt (sw_and (st_cmp (sop_ne rfl hr.units) (se_var 1) (se_lst sa_nil) (nomark _)) (sw_and1 (st_cmp (sop_eq rfl hr.units) (se_ix (sx_ix rfl) (se_var 1) (se_un sop_neg se_int) (fun _ _ => rfl)) (se_bin sop_sub se_int (se_var 2)) (nomark _)))))
    (sss_one (ss_expr (se_bm0 PySem.F.plainAttrs_list PySem.F.slot_list_pop PySem.F.type_list_pop tyc_lst rfl sm_pop (se_var 1))))
    (sss_one (ss_expr (se_bm PySem.F.plainAttrs_list PySem.F.slot_list_append PySem.F.type_list_append tyc_lst rfl sm_append (se_var 1) (sa_cons (se_var 2) sa_nil)))))))
  (sss_one (ss_ret (se_callTy (sc_tuple rfl) rfl T.b_tuple bt_tuple (sa_cons (se_var 1) sa_nil)))))))
theorem ok__law_back (T : Tx K mg) : DefOk P w K mg base (W0 K) 1 "_law_back" m__law_back := by
  exact defOk (N := N__law_back) (ps := ["word"]) (b := b__law_back) rfl T.d__law_back sc__law_back (fun _ _ _ _ _ _ us hl => match us, hl with | [_], _ => rfl) (fun f cdv A outer s H E hr =>
    (sss_one (ss_ret (se_callTy (sc_tuple rfl) rfl T.b_tuple bt_tuple (sa_cons (se_lc (own := [("entry", 1)]) rfl sc__law_back.nd (si_seq rfl (se_rev rfl (se_var 0))) (blkOk_by (own := [("entry", 1)]) (N := N__law_back) (sc := defScope s__law_back) (by decide +kernel)) (fun _ _ _ _ _ => (sg_name (i := 1) sc__law_back.nd rfl (by first | exact Or.inl rfl | exact Or.inr rfl))) (fun _ _ _ _ _ => sts_nil) (fun _ _ _ _ _ => (se_bin sop_sub se_int (se_var 1)))) sa_nil)))))
theorem ok__law_core (T : Tx K mg) : DefOk P w K mg base (W0 K) 1 "_law_core" m__law_core := by
  exact defOk (N := N__law_core) (ps := ["word"]) (b := b__law_core) rfl T.d__law_core sc__law_core (fun _ _ _ _ _ _ us hl => match us, hl with | [_], _ => rfl) (fun f cdv A outer s H E hr =>
    (sss_cons (ss_set (i := 1) sc__law_core.nd rfl (by first | exact Or.inl rfl | exact Or.inr rfl) (se_var 0))
  (sss_cons (ss_for PassesOwn.never rfl (si_range1 rfl T.b_range (sa_cons (se_callB (sc_len rfl) rfl T.b_len bt_len (sa_cons (se_var 0) sa_nil)) sa_nil)) (sg_name (i := 2) sc__law_core.nd rfl (by first | exact Or.inl rfl | exact Or.inr rfl))
    (sss_one (ss_if (PW.pt (sw_and (st_cmp sop_gt (se_callB (sc_len rfl) rfl T.b_len bt_len (sa_cons (se_var 1) sa_nil)) se_int (nomark _)) (sw_and1 (st_cmp (sop_eq rfl hr.units) (se_ix (sx_ix rfl) (se_var 1) se_int (fun _ _ => rfl)) (se_bin sop_sub se_int (se_ix (sx_ix rfl) (se_var 1) (se_un sop_neg se_int) (fun _ _ => rfl))) (nomark _)))))
    (sss_one (ss_set (i := 1) sc__law_core.nd rfl (by first | exact Or.inl rfl | exact Or.inr rfl) (se_slice (sx_sl rfl) (se_var 1) (sp_at se_int) (sp_at (se_un sop_neg se_int)))))
    sss_nil)))
  (sss_one (ss_ret (se_var 1))))))
theorem ok__law_word (T : Tx K mg) : DefOk P w K mg base (W0 K) 2 "_law_word" m__law_word := by
  have G__law_bare := ok__law_bare (P := P) (w := w) (base := base) T
  have G__law_drawn := ok__law_drawn (P := P) (w := w) (base := base) T
  exact defOk (N := N__law_word) (ps := ["sack", "letters", "most"]) (b := b__law_word) rfl T.d__law_word sc__law_word (fun _ _ _ _ _ _ us hl => match us, hl with | [_, _, _], _ => rfl) (fun f cdv A outer s H E hr =>
    (sss_cons (ss_set (i := 3) sc__law_word.nd rfl (by first | exact Or.inl rfl | exact Or.inr rfl) (se_lst sa_nil))
  (sss_cons (ss_for PassesOwn.never rfl (si_range1 rfl T.b_range (sa_cons (se_def G__law_drawn (hr.mono (by decide)) rfl pass0 (sa_cons (se_var 0) (sa_cons (se_bin (sop_add rfl) (se_var 2) se_int) sa_nil))) sa_nil)) (sg_name (i := 4) sc__law_word.nd rfl (by first | exact Or.inl rfl | exact Or.inr rfl))
    (sss_one (ss_expr (se_bm PySem.F.plainAttrs_list PySem.F.slot_list_append PySem.F.type_list_append tyc_lst rfl sm_append (se_var 3) (sa_cons (se_bin (sop_mul rfl) (se_bin (sop_add rfl) se_int (se_def G__law_drawn (hr.mono (by decide)) rfl pass0 (sa_cons (se_var 0) (sa_cons (se_var 1) sa_nil)))) (se_bin sop_sub se_int (se_bin (sop_mul rfl) se_int (se_def G__law_drawn (hr.mono (by decide)) rfl pass0 (sa_cons (se_var 0) (sa_cons se_int sa_nil)))))) sa_nil)))))
  (sss_one (ss_ret (se_def G__law_bare (hr.mono (by decide)) rfl pass0 (sa_cons (se_var 3) sa_nil)))))))
theorem ok__law_powered (T : Tx K mg) : DefOk P w K mg base (W0 K) 2 "_law_powered" m__law_powered := by
  have G__law_back := ok__law_back (P := P) (w := w) (base := base) T
  have G__law_bare := ok__law_bare (P := P) (w := w) (base := base) T
  exact defOk (N := N__law_powered) (ps := ["word", "many"]) (b := b__law_powered) rfl T.d__law_powered sc__law_powered (fun _ _ _ _ _ _ us hl => match us, hl with | [_, _], _ => rfl) (fun f cdv A outer s H E hr =>
    (sss_cons (ss_set (i := 2) sc__law_powered.nd rfl (by first | exact Or.inl rfl | exact Or.inr rfl) (se_tup sa_nil))
  (sss_cons (ss_for PassesOwn.never rfl (si_range1 rfl T.b_range (sa_cons (se_ifExp (st_cmp (sop_ne rfl hr.units) (se_var 0) (se_tup sa_nil) (nomark _)) (se_callB sc_abs rfl T.b_abs bt_abs (sa_cons (se_var 1) sa_nil)) se_int) sa_nil)) (sg_name (i := 3) sc__law_powered.nd rfl (by first | exact Or.inl rfl | exact Or.inr rfl))
    (sss_one (ss_set (i := 2) sc__law_powered.nd rfl (by first | exact Or.inl rfl | exact Or.inr rfl) (se_bin (sop_add rfl) (se_var 2) (se_var 0)))))
  (sss_one (ss_ret (se_def G__law_bare (hr.mono (by decide)) rfl pass0 (sa_cons (se_ifExp (st_cmp sop_ge (se_var 1) se_int (nomark _)) (se_var 2) (se_def G__law_back (hr.mono (by decide)) rfl pass0 (sa_cons (se_var 2) sa_nil))) sa_nil)))))))
theorem ok__law_root (T : Tx K mg) : DefOk P w K mg base (W0 K) 2 "_law_root" m__law_root := by
  have G__law_back := ok__law_back (P := P) (w := w) (base := base) T
  have G__law_bare := ok__law_bare (P := P) (w := w) (base := base) T
  have G__law_core := ok__law_core (P := P) (w := w) (base := base) T
  exact defOk (N := N__law_root) (ps := ["word"]) (b := b__law_root) rfl T.d__law_root sc__law_root (fun _ _ _ _ _ _ us hl => match us, hl with | [_], _ => rfl) (fun f cdv A outer s H E hr =>
    (sss_cons (ss_set (i := 1) sc__law_root.nd rfl (by first | exact Or.inl rfl | exact Or.inr rfl) (se_def G__law_core (hr.mono (by decide)) rfl pass0 (sa_cons (se_var 0) sa_nil)))
  (sss_cons (ss_set (i := 2) sc__law_root.nd rfl (by first | exact Or.inl rfl | exact Or.inr rfl) (se_slice (sx_sl rfl) (se_var 0) sp_no (sp_at (se_bin sop_div (se_bin sop_sub (se_callB (sc_len rfl) rfl T.b_len bt_len (sa_cons (se_var 0) sa_nil)) (se_callB (sc_len rfl) rfl T.b_len bt_len (sa_cons (se_var 1) sa_nil))) se_int))))
  (sss_cons (ss_for PassesOwn.never rfl (si_range2 rfl T.b_range (sa_cons se_int (sa_cons (se_bin (sop_add rfl) (se_callB (sc_len rfl) rfl T.b_len bt_len (sa_cons (se_var 1) sa_nil)) se_int) sa_nil))) (sg_name (i := 3) sc__law_root.nd rfl (by first | exact Or.inl rfl | exact Or.inr rfl))
    (sss_one (ss_if (PW.pt (sw_and (st_cmp (sop_eq rfl hr.units) (se_bin sop_mod (se_callB (sc_len rfl) rfl T.b_len bt_len (sa_cons (se_var 1) sa_nil)) (se_var 3)) se_int (nomark _)) (sw_and1 (st_cmp (sop_eq rfl hr.units) (se_bin (sop_mul rfl) (se_slice (sx_sl rfl) (se_var 1) sp_no (sp_at (se_var 3))) (se_bin sop_div (se_callB (sc_len rfl) rfl T.b_len bt_len (sa_cons (se_var 1) sa_nil)) (se_var 3))) (se_var 1) (nomark _)))))
    (sss_one (ss_ret (se_tup (sa_cons (se_def G__law_bare (hr.mono (by decide)) rfl pass0 (sa_cons (se_bin (sop_add rfl) (se_bin (sop_add rfl) (se_var 2) (se_slice (sx_sl rfl) (se_var 1) sp_no (sp_at (se_var 3)))) (se_def G__law_back (hr.mono (by decide)) rfl pass0 (sa_cons (se_var 2) sa_nil))) sa_nil)) (sa_cons (se_bin sop_div (se_callB (sc_len rfl) rfl T.b_len bt_len (sa_cons (se_var 1) sa_nil)) (se_var 3)) sa_nil)))))
    sss_nil)))
  (sss_one (ss_ret se_non))))))
theorem ok__law_is_word (T : Tx K mg) : DefOk P w K mg base (W0 K) 2 "_law_is_word" m__law_is_word := by
  have G__law_bare := ok__law_bare (P := P) (w := w) (base := base) T
  exact defOk (N := N__law_is_word) (ps := ["letters", "value"]) (b := b__law_is_word) rfl T.d__law_is_word sc__law_is_word (fun _ _ _ _ _ _ us hl => match us, hl with | [_, _], _ => rfl) (fun f cdv A outer s H E hr =>
    (sss_cons (ss_if (PW.pt (sw_or (st_not (st_v (se_callB (sc_isi rfl) rfl T.b_isinstance bt_isinstance (sa_cons (se_var 1) (sa_cons (se_ty rfl T.b_tuple bt_tuple) sa_nil))))) (sw_or1 (st_cmp sop_gt (se_callB (sc_len rfl) rfl T.b_len bt_len (sa_cons (se_var 1) sa_nil)) se_int (nomark _)))))
    (sss_one (ss_ret se_bl))
    sss_nil)
  (sss_cons (ss_if (st_cmp (sop_ne rfl hr.units) (se_lc (own := [("one", 2)]) rfl sc__law_is_word.nd (si_seq rfl (se_var 1)) (blkOk_by (own := [("one", 2)]) (N := N__law_is_word) (sc := defScope s__law_is_word) (by decide +kernel)) (fun _ _ _ _ _ => (sg_name (i := 2) sc__law_is_word.nd rfl (by first | exact Or.inl rfl | exact Or.inr rfl))) (fun _ _ _ _ _ => (sts_one (PW.pt (sw_or (st_v (se_callB (sc_isi rfl) rfl T.b_isinstance bt_isinstance (sa_cons (se_var 2) (sa_cons (se_ty rfl T.b_bool bt_bool) sa_nil)))) (sw_or (st_not (st_v (se_callB (sc_isi rfl) rfl T.b_isinstance bt_isinstance (sa_cons (se_var 2) (sa_cons (se_ty rfl T.b_int bt_int) sa_nil))))) (sw_or1 (st_not (st_chain sop_le sop_le se_int (se_callB sc_abs rfl T.b_abs bt_abs (sa_cons (se_var 2) sa_nil)) (se_var 0) (by with_unfolding_all rfl))))))))) (fun _ _ _ _ _ => se_int)) (se_lst sa_nil) (nomark _))
    (sss_one (ss_ret se_bl))
    sss_nil)
  (sss_one (ss_ret (se_cmp (sop_eq rfl hr.units) (se_def G__law_bare (hr.mono (by decide)) rfl pass0 (sa_cons (se_var 1) sa_nil)) (se_var 1) (nomark _)))))))
theorem ok__law_is_due (T : Tx K mg) : DefOk P w K mg base (W0 K) 3 "_law_is_due" m__law_is_due := by
  have G__law_bare := ok__law_bare (P := P) (w := w) (base := base) T
  have G__law_is_word := ok__law_is_word (P := P) (w := w) (base := base) T
  have G__law_powered := ok__law_powered (P := P) (w := w) (base := base) T
  exact defOk (N := N__law_is_due) (ps := ["letters", "one", "other", "value"]) (b := b__law_is_due) rfl T.d__law_is_due sc__law_is_due (fun _ _ _ _ _ _ us hl => match us, hl with | [_, _, _, _], _ => rfl) (fun f cdv A outer s H E hr =>
    (sss_cons (ss_if (PW.pt (sw_or (st_not (st_v (se_callB (sc_isi rfl) rfl T.b_isinstance bt_isinstance (sa_cons (se_var 3) (sa_cons (se_ty rfl T.b_tuple bt_tuple) sa_nil))))) (sw_or (st_cmp (sop_nin rfl (units65 hr)) (se_callB (sc_len rfl) rfl T.b_len bt_len (sa_cons (se_var 3) sa_nil)) (se_tup (sa_cons se_int (sa_cons se_int sa_nil))) rfl) (sw_or1 (st_not (st_v (se_callB (sc_isi rfl) rfl T.b_isinstance bt_isinstance (sa_cons (se_ix (sx_ix rfl) (se_var 3) se_int (fun _ _ => rfl)) (sa_cons (se_ty rfl T.b_str bt_str) sa_nil)))))))))
    (sss_one (ss_ret se_bl))
    sss_nil)
  (sss_cons (ss_if (st_cmp (sop_eq rfl hr.units) (se_ix (sx_ix rfl) (se_var 3) se_int (fun _ _ => rfl)) se_str (nomark _))
    (sss_cons (ss_set (i := 4) sc__law_is_due.nd rfl (by first | exact Or.inl rfl | exact Or.inr rfl) (se_tup (sa_cons (se_def G__law_bare (hr.mono (by decide)) rfl pass0 (sa_cons (se_bin (sop_add rfl) (se_var 1) (se_var 2)) sa_nil)) (sa_cons (se_def G__law_bare (hr.mono (by decide)) rfl pass0 (sa_cons (se_bin (sop_add rfl) (se_var 2) (se_var 1)) sa_nil)) sa_nil))))
  (sss_one (ss_ret (se_and (se_cmp (sop_eq rfl hr.units) (se_slice (sx_sl rfl) (se_var 3) (sp_at se_int) sp_no) (se_var 4) (nomark _)) (se_one (se_cmp (sop_ne rfl hr.units) (se_ix (sx_ix rfl) (se_var 4) se_int (fun _ _ => rfl)) (se_ix (sx_ix rfl) (se_var 4) se_int (fun _ _ => rfl)) (nomark _)))))))
    sss_nil)
  (sss_cons (ss_if (PW.pt (sw_or (st_cmp (sop_ne rfl hr.units) (se_ix (sx_ix rfl) (se_var 3) se_int (fun _ _ => rfl)) se_str (nomark _)) (sw_or (st_cmp (sop_ne rfl hr.units) (se_callB (sc_len rfl) rfl T.b_len bt_len (sa_cons (se_var 3) sa_nil)) se_int (nomark _)) (sw_or1 (st_not (st_v (se_def G__law_is_word (hr.mono (by decide)) rfl pass0 (sa_cons (se_var 0) (sa_cons (se_ix (sx_ix rfl) (se_var 3) se_int (fun _ _ => rfl)) sa_nil)))))))))
    (sss_one (ss_ret se_bl))
    sss_nil)
  (sss_cons (ss_if (st_cmp (sop_ne rfl hr.units) (se_lc (own := [("entry", 5)]) rfl sc__law_is_due.nd (si_seq rfl (se_slice (sx_sl rfl) (se_var 3) (sp_at se_int) sp_no)) (blkOk_by (own := [("entry", 5)]) (N := N__law_is_due) (sc := defScope s__law_is_due) (by decide +kernel)) (fun _ _ _ _ _ => (sg_name (i := 5) sc__law_is_due.nd rfl (by first | exact Or.inl rfl | exact Or.inr rfl))) (fun _ _ _ _ _ => (sts_one (PW.pt (sw_or (st_v (se_callB (sc_isi rfl) rfl T.b_isinstance bt_isinstance (sa_cons (se_var 5) (sa_cons (se_ty rfl T.b_bool bt_bool) sa_nil)))) (sw_or1 (st_not (st_v (se_callB (sc_isi rfl) rfl T.b_isinstance bt_isinstance (sa_cons (se_var 5) (sa_cons (se_ty rfl T.b_int bt_int) sa_nil)))))))))) (fun _ _ _ _ _ => se_int)) (se_lst sa_nil) (nomark _))
    (sss_one (ss_ret se_bl))
    sss_nil)
  (sss_cons (ss_if (PW.pt (sw_and (st_cmp (sop_ne rfl hr.units) (se_ix (sx_ix rfl) (se_var 3) se_int (fun _ _ => rfl)) (se_tup sa_nil) (nomark _)) (sw_and1 (st_cmp sop_gt (se_callB (sc_max2 rfl) rfl T.b_max bt_max (sa_cons (se_callB sc_abs rfl T.b_abs bt_abs (sa_cons (se_ix (sx_ix rfl) (se_var 3) se_int (fun _ _ => rfl)) sa_nil)) (sa_cons (se_callB sc_abs rfl T.b_abs bt_abs (sa_cons (se_ix (sx_ix rfl) (se_var 3) se_int (fun _ _ => rfl)) sa_nil)) sa_nil))) se_int (nomark _)))))
    (sss_one (ss_ret se_bl))
    sss_nil)
  (sss_one (ss_ret (se_and (se_cmp (sop_eq rfl hr.units) (se_def G__law_powered (hr.mono (by decide)) rfl pass0 (sa_cons (se_ix (sx_ix rfl) (se_var 3) se_int (fun _ _ => rfl)) (sa_cons (se_ix (sx_ix rfl) (se_var 3) se_int (fun _ _ => rfl)) sa_nil))) (se_var 1) (nomark _)) (se_one (se_cmp (sop_eq rfl hr.units) (se_def G__law_powered (hr.mono (by decide)) rfl pass0 (sa_cons (se_ix (sx_ix rfl) (se_var 3) se_int (fun _ _ => rfl)) (sa_cons (se_ix (sx_ix rfl) (se_var 3) se_int (fun _ _ => rfl)) sa_nil))) (se_var 2) (nomark _))))))))))))
theorem ok__law_near (T : Tx K mg) : DefOk P w K mg base (W0 K) 2 "_law_near" m__law_near := by
  have G__law_back := ok__law_back (P := P) (w := w) (base := base) T
  have G__law_bare := ok__law_bare (P := P) (w := w) (base := base) T
  exact defOk (N := N__law_near) (ps := ["one", "other", "told"]) (b := b__law_near) rfl T.d__law_near sc__law_near (fun _ _ _ _ _ _ us hl => match us, hl with | [_, _, _], _ => rfl) (fun f cdv A outer s H E hr =>
    (sss_cons (ss_set (i := 3) sc__law_near.nd rfl (by first | exact Or.inl rfl | exact Or.inr rfl) (se_tup (sa_cons (se_def G__law_bare (hr.mono (by decide)) rfl pass0 (sa_cons (se_bin (sop_add rfl) (se_var 0) (se_var 1)) sa_nil)) (sa_cons (se_def G__law_bare (hr.mono (by decide)) rfl pass0 (sa_cons (se_bin (sop_add rfl) (se_var 1) (se_var 0)) sa_nil)) sa_nil))))
  (sss_cons (ss_set (i := 4) sc__law_near.nd rfl (by first | exact Or.inl rfl | exact Or.inr rfl) (se_lst (sa_cons (se_var 2) (sa_cons (se_callTy (sc_list rfl) rfl T.b_list bt_list (sa_cons (se_var 2) sa_nil)) (sa_cons (se_slice (sx_sl rfl) (se_var 2) sp_no (sp_at (se_un sop_neg se_int))) (sa_cons (se_bin (sop_add rfl) (se_var 2) (se_tup (sa_cons se_int sa_nil))) (sa_cons se_non (sa_cons se_int (sa_cons (se_tup sa_nil) (sa_cons (se_bin (sop_add rfl) (se_tup (sa_cons se_str sa_nil)) (se_var 3)) (sa_cons (se_bin (sop_add rfl) (se_tup (sa_cons se_str sa_nil)) (se_rev rfl (se_var 3))) sa_nil)))))))))))
  (sss_cons (ss_set (i := 4) sc__law_near.nd rfl (by first | exact Or.inl rfl | exact Or.inr rfl) (se_bin (sop_add rfl) (se_var 4) (se_lst (sa_cons (se_tup (sa_cons se_str (sa_cons (se_var 0) (sa_cons (se_var 1) sa_nil)))) (sa_cons (se_tup (sa_cons se_str (sa_cons (se_tup (sa_cons se_int sa_nil)) (sa_cons se_int (sa_cons se_int sa_nil))))) (sa_cons (se_tup (sa_cons se_str (sa_cons (se_tup sa_nil) (sa_cons se_int (sa_cons se_int sa_nil))))) (sa_cons (se_tup (sa_cons se_str (sa_cons (se_var 0) (sa_cons se_int (sa_cons se_int sa_nil))))) sa_nil)))))))
  (sss_cons (ss_expr (se_bm PySem.F.plainAttrs_list PySem.F.slot_list_append PySem.F.type_list_append tyc_lst rfl sm_append (se_var 4) (sa_cons (se_bin (sop_add rfl) (se_tup (sa_cons se_str sa_nil)) (se_slice (sx_sl rfl) (se_var 2) (sp_at se_int) sp_no)) sa_nil)))
  (sss_cons (ss_if (st_cmp (sop_eq rfl hr.units) (se_ix (sx_ix rfl) (se_var 2) se_int (fun _ _ => rfl)) se_str (nomark _))
    (sss_cons (ss_set (i := 4) sc__law_near.nd rfl (by first | exact Or.inl rfl | exact Or.inr rfl) (se_bin (sop_add rfl) (se_var 4) (se_lst (sa_cons (se_tup (sa_cons se_str (sa_cons (se_def G__law_back (hr.mono (by decide)) rfl pass0 (sa_cons (se_ix (sx_ix rfl) (se_var 2) se_int (fun _ _ => rfl)) sa_nil)) (sa_cons (se_bin sop_sub se_int (se_ix (sx_ix rfl) (se_var 2) se_int (fun _ _ => rfl))) (sa_cons (se_bin sop_sub se_int (se_ix (sx_ix rfl) (se_var 2) se_int (fun _ _ => rfl))) sa_nil))))) (sa_cons (se_tup (sa_cons se_str (sa_cons (se_ix (sx_ix rfl) (se_var 2) se_int (fun _ _ => rfl)) (sa_cons (se_ix (sx_ix rfl) (se_var 2) se_int (fun _ _ => rfl)) (sa_cons (se_ix (sx_ix rfl) (se_var 2) se_int (fun _ _ => rfl)) sa_nil))))) sa_nil)))))
  (sss_cons (ss_set (i := 4) sc__law_near.nd rfl (by first | exact Or.inl rfl | exact Or.inr rfl) (se_bin (sop_add rfl) (se_var 4) (se_lst (sa_cons (se_tup (sa_cons se_str (sa_cons (se_ix (sx_ix rfl) (se_var 2) se_int (fun _ _ => rfl)) (sa_cons (se_ix (sx_ix rfl) (se_var 2) se_int (fun _ _ => rfl)) (sa_cons se_non sa_nil))))) (sa_cons (se_tup (sa_cons se_str (sa_cons (se_ix (sx_ix rfl) (se_var 2) se_int (fun _ _ => rfl)) (sa_cons se_bl (sa_cons (se_ix (sx_ix rfl) (se_var 2) se_int (fun _ _ => rfl)) sa_nil))))) sa_nil)))))
  (sss_one (ss_expr (se_bm PySem.F.plainAttrs_list PySem.F.slot_list_append PySem.F.type_list_append tyc_lst rfl sm_append (se_var 4) (sa_cons (se_bin (sop_add rfl) (se_tup (sa_cons se_str (sa_cons (se_callTy (sc_list rfl) rfl T.b_list bt_list (sa_cons (se_ix (sx_ix rfl) (se_var 2) se_int (fun _ _ => rfl)) sa_nil)) sa_nil))) (se_slice (sx_sl rfl) (se_var 2) (sp_at se_int) sp_no)) sa_nil))))))
    sss_nil)
  (sss_one (ss_ret (se_var 4)))))))))
theorem ok__law_two (T : Tx K mg) : DefOk P w K mg base (W0 K) 3 "_law_two" m__law_two := by
  have G__law_back := ok__law_back (P := P) (w := w) (base := base) T
  have G__law_bare := ok__law_bare (P := P) (w := w) (base := base) T
  have G__law_drawn := ok__law_drawn (P := P) (w := w) (base := base) T
  have G__law_powered := ok__law_powered (P := P) (w := w) (base := base) T
  have G__law_word := ok__law_word (P := P) (w := w) (base := base) T
  exact defOk (N := N__law_two) (ps := ["sack", "letters"]) (b := b__law_two) rfl T.d__law_two sc__law_two (fun _ _ _ _ _ _ us hl => match us, hl with | [_, _], _ => rfl) (fun f cdv A outer s H E hr =>
    (sss_cons (ss_par (i := 2) (j := 3) rfl sc__law_two.nd rfl rfl (by decide) rfl rfl (sa_cons (se_def G__law_word (hr.mono (by decide)) rfl pass0 (sa_cons (se_var 0) (sa_cons (se_var 1) (sa_cons se_int sa_nil)))) (sa_cons (se_def G__law_word (hr.mono (by decide)) rfl pass0 (sa_cons (se_var 0) (sa_cons (se_var 1) (sa_cons se_int sa_nil)))) sa_nil)) (by rfl))
  (sss_cons (ss_set (i := 2) sc__law_two.nd rfl (by first | exact Or.inl rfl | exact Or.inr rfl) (se_def G__law_bare (hr.mono (by decide)) rfl pass0 (sa_cons (se_bin (sop_add rfl) (se_bin (sop_add rfl) (se_var 3) (se_var 2)) (se_def G__law_back (hr.mono (by decide)) rfl pass0 (sa_cons (se_var 3) sa_nil))) sa_nil)))
  (sss_cons (ss_par (i := 4) (j := 5) rfl sc__law_two.nd rfl rfl (by decide) rfl rfl (sa_cons (se_def G__law_powered (hr.mono (by decide)) rfl pass0 (sa_cons (se_var 2) (sa_cons (se_bin sop_sub (se_def G__law_drawn (hr.mono (by decide)) rfl pass0 (sa_cons (se_var 0) (sa_cons se_int sa_nil))) se_int) sa_nil))) (sa_cons (se_def G__law_powered (hr.mono (by decide)) rfl pass0 (sa_cons (se_var 2) (sa_cons (se_def G__law_drawn (hr.mono (by decide)) rfl pass0 (sa_cons (se_var 0) (sa_cons se_int sa_nil))) sa_nil))) sa_nil)) (by rfl))
  (sss_cons (ss_if (st_cmp (sop_eq rfl hr.units) (se_def G__law_drawn (hr.mono (by decide)) rfl pass0 (sa_cons (se_var 0) (sa_cons se_int sa_nil))) se_int (nomark _))
    (sss_one (ss_set (i := 5) sc__law_two.nd rfl (by first | exact Or.inl rfl | exact Or.inr rfl) (se_def G__law_word (hr.mono (by decide)) rfl pass0 (sa_cons (se_var 0) (sa_cons (se_var 1) (sa_cons se_int sa_nil))))))
    sss_nil)
  (sss_one (ss_ret (se_tup (sa_cons (se_var 4) (sa_cons (se_var 5) sa_nil))))))))))
theorem ok__law_right (T : Tx K mg) : DefOk P w K mg base (W0 K) 10 "_law_right" m__law_right := by
  have G__law_bare := ok__law_bare (P := P) (w := w) (base := base) T
  have G__law_drawn := ok__law_drawn (P := P) (w := w) (base := base) T
  have G__law_is_due := ok__law_is_due (P := P) (w := w) (base := base) T
  have G__law_near := ok__law_near (P := P) (w := w) (base := base) T
  have G__law_root := ok__law_root (P := P) (w := w) (base := base) T
  have G__law_two := ok__law_two (P := P) (w := w) (base := base) T
  have G_common_root := ok_common_root (P := P) (w := w) (base := base) T
  have G_is_common_root := ok_is_common_root (P := P) (w := w) (base := base) T
  have G_power := ok_power (P := P) (w := w) (base := base) T
  have G_product := ok_product (P := P) (w := w) (base := base) T
  have G_root := ok_root (P := P) (w := w) (base := base) T
  exact defOk (N := N__law_right) (ps := ["sack"]) (b := b__law_right) rfl T.d__law_right sc__law_right (fun _ _ _ _ _ _ us hl => match us, hl with | [_], _ => rfl) (fun f cdv A outer s H E hr =>
    (sss_cons (ss_set (i := 1) sc__law_right.nd rfl (by first | exact Or.inl rfl | exact Or.inr rfl) (se_bin (sop_add rfl) se_int (se_def G__law_drawn (hr.mono (by decide)) rfl pass0 (sa_cons (se_var 0) (sa_cons se_int sa_nil)))))
  (sss_cons (ss_asg (se_def G__law_two (hr.mono (by decide)) rfl pass0 (sa_cons (se_var 0) (sa_cons (se_var 1) sa_nil))) (sg_tup rfl rfl (sgs_cons (sg_name (i := 4) sc__law_right.nd rfl (by first | exact Or.inl rfl | exact Or.inr rfl)) (sgs_cons (sg_name (i := 5) sc__law_right.nd rfl (by first | exact Or.inl rfl | exact Or.inr rfl)) sgs_nil))))
  (sss_cons (ss_for PassesOwn.never rfl (si_seq rfl (se_tup (sa_cons (se_var 4) (sa_cons (se_var 5) sa_nil)))) (sg_name (i := 2) sc__law_right.nd rfl (by first | exact Or.inl rfl | exact Or.inr rfl))
    (sss_one (ss_if (st_cmp (sop_ne rfl hr.units) (se_var 2) (se_tup sa_nil) (nomark _))
    (sss_cons (ss_set (i := 6) sc__law_right.nd rfl (by first | exact Or.inl rfl | exact Or.inr rfl) (se_def G_root (hr.mono (by decide)) rfl pass0 (sa_cons (se_var 1) (sa_cons (se_var 2) sa_nil))))
  (sss_cons (ss_if (PW.pt (sw_or (st_cmp (sop_ne rfl hr.units) (se_var 6) (se_def G__law_root (hr.mono (by decide)) rfl pass0 (sa_cons (se_var 2) sa_nil)) (nomark _)) (sw_or1 (st_cmp (sop_ne rfl hr.units) (se_def G_power (hr.mono (by decide)) rfl pass0 (sa_cons (se_var 1) (sa_cons (se_ix (sx_ix rfl) (se_var 6) se_int (fun _ _ => rfl)) (sa_cons (se_ix (sx_ix rfl) (se_var 6) se_int (fun _ _ => rfl)) sa_nil)))) (se_var 2) (nomark _)))))
    (sss_one (ss_ret se_bl))
    sss_nil)
  (sss_one (ss_if (st_cmp (sop_ne rfl hr.units) (se_def G_root (hr.mono (by decide)) rfl pass0 (sa_cons (se_var 1) (sa_cons (se_ix (sx_ix rfl) (se_var 6) se_int (fun _ _ => rfl)) sa_nil))) (se_tup (sa_cons (se_ix (sx_ix rfl) (se_var 6) se_int (fun _ _ => rfl)) (sa_cons se_int sa_nil))) (nomark _))
    (sss_one (ss_ret se_bl))
    sss_nil))))
    sss_nil)))
  (sss_cons (ss_par (i := 6) (j := 7) rfl sc__law_right.nd rfl rfl (by decide) rfl rfl (sa_cons (se_def G_common_root (hr.mono (by decide)) rfl pass0 (sa_cons (se_var 1) (sa_cons (se_var 4) (sa_cons (se_var 5) sa_nil)))) (sa_cons (se_cmp (sop_eq rfl hr.units) (se_def G__law_bare (hr.mono (by decide)) rfl pass0 (sa_cons (se_bin (sop_add rfl) (se_var 4) (se_var 5)) sa_nil)) (se_def G__law_bare (hr.mono (by decide)) rfl pass0 (sa_cons (se_bin (sop_add rfl) (se_var 5) (se_var 4)) sa_nil)) (nomark _)) sa_nil)) (by rfl))
  (sss_cons (ss_if (PW.pt (sw_or (st_cmp (sop_ne rfl hr.units) (se_cmp (sop_eq rfl hr.units) (se_ix (sx_ix rfl) (se_var 6) se_int (fun _ _ => rfl)) se_str (nomark _)) (se_var 7) (nomark _)) (sw_or1 (st_not (st_v (se_def G__law_is_due (hr.mono (by decide)) rfl pass0 (sa_cons (se_var 1) (sa_cons (se_var 4) (sa_cons (se_var 5) (sa_cons (se_var 6) sa_nil))))))))))
    (sss_one (ss_ret se_bl))
    sss_nil)
  (sss_cons (ss_if (st_cmp (sop_ne rfl hr.units) (se_cmp (sop_eq rfl hr.units) (se_def G_product (hr.mono (by decide)) rfl pass0 (sa_cons (se_var 1) (sa_cons (se_var 4) (sa_cons (se_var 5) sa_nil)))) (se_def G_product (hr.mono (by decide)) rfl pass0 (sa_cons (se_var 1) (sa_cons (se_var 5) (sa_cons (se_var 4) sa_nil)))) (nomark _)) (se_var 7) (nomark _))
    (sss_one (ss_ret se_bl))
    sss_nil)
  (sss_cons (ss_for PassesOwn.never rfl (si_seq rfl (se_def G__law_near (hr.mono (by decide)) rfl pass0 (sa_cons (se_var 4) (sa_cons (se_var 5) (sa_cons (se_var 6) sa_nil))))) (sg_name (i := 3) sc__law_right.nd rfl (by first | exact Or.inl rfl | exact Or.inr rfl))
    (sss_one (ss_if (st_cmp (sop_ne rfl hr.units) (se_def G_is_common_root (hr.mono (by decide)) rfl pass0 (sa_cons (se_var 1) (sa_cons (se_var 4) (sa_cons (se_var 5) (sa_cons (se_var 3) sa_nil))))) (se_def G__law_is_due (hr.mono (by decide)) rfl pass0 (sa_cons (se_var 1) (sa_cons (se_var 4) (sa_cons (se_var 5) (sa_cons (se_var 3) sa_nil))))) (nomark _))
    (sss_one (ss_ret se_bl))
    sss_nil)))
  (sss_one (ss_ret se_bl))))))))))
theorem ok_law {f : Addr} {fd : FuncData} (F : Fun K "law" "law" s_law f fd) (T : Tx K mg) : FnOk P w K mg base CX0 11 f fd ["script"] (spF (W0 K) 1 m_law) := by
  have G__law_right := ok__law_right (P := P) (w := w) (base := base) T
  have G__law_sack := ok__law_sack (P := P) (w := w) (base := base) T
  have G_common_root := ok_common_root (P := P) (w := w) (base := base) T
  have G_is_common_root := ok_is_common_root (P := P) (w := w) (base := base) T
  have G_root := ok_root (P := P) (w := w) (base := base) T
  exact sok (W := W0 K) (N := N_law) (ps := ["script"]) (b := b_law) rfl F sc_law (fun cdv A outer s H E hr =>
    (sss_cons (ss_for PassesOwn.never rfl (si_range1 rfl T.b_range (sa_cons (se_callB (sc_max2 rfl) rfl T.b_max bt_max (sa_cons se_int (sa_cons (se_callB (sc_min2 rfl) rfl T.b_min bt_min (sa_cons se_int (sa_cons (se_callB (sc_len rfl) rfl T.b_len bt_len (sa_cons (se_var 0) sa_nil)) sa_nil))) sa_nil))) sa_nil)) (sg_name (i := 1) sc_law.nd rfl (by first | exact Or.inl rfl | exact Or.inr rfl))
    (sss_one (ss_if (st_not (st_v (se_def G__law_right (hr.mono (by decide)) rfl pass0 (sa_cons (se_def G__law_sack (hr.mono (by decide)) rfl pass0 (sa_cons (se_var 0) (sa_cons (se_var 1) sa_nil))) sa_nil))))
    (sss_one (ss_ret se_bl))
    sss_nil)))
  (sss_cons (ss_set (i := 2) sc_law.nd rfl (by first | exact Or.inl rfl | exact Or.inr rfl) (se_lst (sa_cons (se_def G_root (hr.mono (by decide)) rfl pass0 (sa_cons se_int (sa_cons (se_tup (sa_cons se_int (sa_cons se_int (sa_cons se_int (sa_cons se_int sa_nil))))) sa_nil))) (sa_cons (se_def G_root (hr.mono (by decide)) rfl pass0 (sa_cons se_int (sa_cons (se_tup (sa_cons se_int (sa_cons se_int (sa_cons se_int (sa_cons (se_un sop_neg se_int) sa_nil))))) sa_nil))) (sa_cons (se_def G_root (hr.mono (by decide)) rfl pass0 (sa_cons se_int (sa_cons (se_tup (sa_cons se_int sa_nil)) sa_nil))) (sa_cons (se_def G_common_root (hr.mono (by decide)) rfl pass0 (sa_cons se_int (sa_cons (se_tup (sa_cons se_int (sa_cons se_int sa_nil))) (sa_cons (se_tup (sa_cons se_int (sa_cons se_int sa_nil))) sa_nil)))) sa_nil))))))
  (sss_cons (ss_if (st_cmp (sop_ne rfl hr.units) (se_var 2) (se_lst (sa_cons (se_tup (sa_cons (se_tup (sa_cons se_int (sa_cons se_int sa_nil))) (sa_cons se_int sa_nil))) (sa_cons (se_tup (sa_cons (se_tup (sa_cons se_int (sa_cons se_int (sa_cons (se_un sop_neg se_int) sa_nil)))) (sa_cons se_int sa_nil))) (sa_cons (se_tup (sa_cons (se_tup (sa_cons se_int sa_nil)) (sa_cons se_int sa_nil))) (sa_cons (se_tup (sa_cons se_str (sa_cons (se_tup (sa_cons se_int (sa_cons se_int (sa_cons se_int (sa_cons se_int sa_nil))))) (sa_cons (se_tup (sa_cons se_int (sa_cons se_int (sa_cons se_int (sa_cons se_int sa_nil))))) sa_nil)))) sa_nil))))) (nomark _))
    (sss_one (ss_ret se_bl))
    sss_nil)
  (sss_one (ss_ret (se_and (se_def G_is_common_root (hr.mono (by decide)) rfl pass0 (sa_cons se_int (sa_cons (se_tup sa_nil) (sa_cons (se_tup (sa_cons se_int (sa_cons se_int sa_nil))) (sa_cons (se_tup (sa_cons se_str (sa_cons (se_tup (sa_cons (se_un sop_neg se_int) (sa_cons (se_un sop_neg se_int) sa_nil))) (sa_cons se_int (sa_cons (se_un sop_neg se_int) sa_nil))))) sa_nil))))) (se_one (se_cmp (sop_eq rfl hr.units) (se_ix (sx_ix rfl) (se_def G_common_root (hr.mono (by decide)) rfl pass0 (sa_cons se_int (sa_cons (se_tup sa_nil) (sa_cons (se_tup sa_nil) sa_nil)))) se_int (fun _ _ => rfl)) se_str (nomark _))))))))))
end
theorem walk {l : PySem.W.OpenLaw} {q : Program} {loose : List Str} {XP : (Str → Option Value) → Heap → Prop} {YP : World → Heap → Prop} {d : DefRec} {K : Params → PySem.W.Frag} (hF : LawOk m_law) (hn : l.most = some 63) (hdf : d.params.defaults = []) (hnm : d.name = "law")
    (hY : ∀ (w : World) (h : Heap), YP w h → (K w.params).In h)
    (F : ∀ (w : World) (mg : Str → Option Value) (h : Heap), (K w.params).In h → h.Ns mainGlobals mg → DefAt (K w.params) mg "law" s_law ∧ Tx (K w.params) mg) :
    PySem.W.WalkO q loose XP YP l.row.toRowW d [] (fun f vs => PySem.call f vs) := by
  refine L2.walk_of (n := 63) (k := 11) (x := "script") (CX := fun _ => CX0) (sp := fun w => spF (W0 (K w.params)) 1 m_law) hn (by decide) hdf ⟨rfl, by decide, by decide⟩ hY (fun w mg fa h KX G hmg => ?_) (fun _ _ a ns hl hO hS => law_sp hF hl hO hS) fun _ _ _ _ _ z => z
  obtain ⟨DL, TT⟩ := F w mg h KX G
  obtain ⟨f, fd, hm, FL⟩ := DL.ex
  rw [hnm] at hmg
  cases hm.symm.trans hmg
  refine ⟨fd, ?_, fun base _ _ => ok_law FL TT⟩
  obtain ⟨oc, od, kV, doc, pm, an, cdv, ct, osl, rfl, _⟩ := FL.ex
  exact fun s v => .of_eq rfl
end K01
/-! Words, in plain Lean. A stack is a word from its end. -/
namespace Wo
def push (s : List Int) (x : Int) : List Int := match s with
  | [] => [x]
  | y :: t => if y = -x then t else x :: y :: t
def red (s row : List Int) : List Int := row.foldl push s
def bareW (row : List Int) : List Int := (red [] row).reverse
/-- no opposite neighbours -/
def Bare : List Int → Prop
  | [] => True
  | [_] => True
  | x :: y :: t => x ≠ -y ∧ Bare (y :: t)
instance decBare : ∀ l : List Int, Decidable (Bare l)
  | [] => .isTrue trivial
  | [_] => .isTrue trivial
  | x :: y :: t => by
    have := decBare (y :: t)
    unfold Bare
    exact inferInstance
theorem Bare.tail {x : Int} {t : List Int} (h : Bare (x :: t)) : Bare t := by
  cases t with
  | nil => trivial
  | cons y t => exact h.2
theorem push_bare {s : List Int} (h : Bare s) (x : Int) : Bare (push s x) := by
  cases s with
  | nil => exact (show Bare [x] from trivial)
  | cons y t =>
    by_cases e : y = -x
    · have e1 : push (y :: t) x = t := by simp [push, e]
      rw [e1]
      exact h.tail
    · have e1 : push (y :: t) x = x :: y :: t := by simp [push, e]
      rw [e1]
      exact ⟨fun q => e (by omega), h⟩
theorem red_bare {row : List Int} : ∀ {s : List Int}, Bare s → Bare (red s row) := by
  induction row with
  | nil => exact fun h => h
  | cons x r ih => exact fun h => ih (push_bare h x)
theorem push_push {s : List Int} (h : Bare s) (x : Int) : push (push s x) (-x) = s := by
  cases s with
  | nil => simp [push]
  | cons y t =>
    by_cases e : y = -x
    · have e1 : push (y :: t) x = t := by simp [push, e]
      rw [e1]
      cases t with
      | nil => simp [push, e]
      | cons z u =>
        have : z ≠ x := fun q => h.1 (by omega)
        simp [push, this, e]
    · have e1 : push (y :: t) x = x :: y :: t := by simp [push, e]
      rw [e1]
      simp [push]
theorem red_app (s a b : List Int) : red s (a ++ b) = red (red s a) b := List.foldl_append ..
theorem red_cons (s b : List Int) (x : Int) : red s (x :: b) = red (push s x) b := rfl
theorem red_snoc (s a : List Int) (x : Int) : red s (a ++ [x]) = push (red s a) x := by
  rw [red_app]; rfl
/-- a pair struck out -/
theorem red_strike {s : List Int} (h : Bare s) (u v : List Int) (x y : Int) (e : x = -y) : red s (u ++ x :: y :: v) = red s (u ++ v) := by
  have e' : y = -x := by omega
  rw [red_app, red_app, red_cons, red_cons, e', push_push (red_bare h)]
/-- what is bare comes through whole -/
theorem red_through : ∀ {o s : List Int}, Bare o → (∀ x y t r, o = x :: r → s = y :: t → y ≠ -x) → red s o = o.reverse ++ s
  | [], s, _, _ => rfl
  | x :: r, s, hb, hs => by
    have e1 : push s x = x :: s := by
      cases s with
      | nil => rfl
      | cons y t => simp [push, hs x y t r rfl rfl]
    rw [red_cons, e1, red_through hb.tail (fun x' y t r' er es => by
      cases es
      subst er
      exact hb.1)]
    simp
theorem bareW_of {w : List Int} (h : Bare w) : bareW w = w := by
  unfold bareW
  rw [red_through h (fun _ _ _ _ _ e => by cases e)]
  simp
theorem Bare.of_rev : ∀ {a b : List Int}, Bare (a.reverse ++ b) → Bare a → True := fun _ _ => trivial
theorem bare_app {a b : List Int} (h : Bare (a ++ b)) : Bare a ∧ Bare b := by
  induction a with
  | nil => exact ⟨trivial, h⟩
  | cons x a ih =>
    cases a with
    | nil => exact ⟨trivial, h.tail⟩
    | cons y a =>
      obtain ⟨h1, h2⟩ := ih h.2
      exact ⟨⟨h.1, h1⟩, h2⟩
theorem bare_join : ∀ {a b : List Int}, Bare a → Bare b → (∀ x y, a.getLast? = some x → b.head? = some y → x ≠ -y) → Bare (a ++ b)
  | [], _, _, hb, _ => hb
  | [x], [], _, _, _ => trivial
  | [x], y :: b, _, hb, h => ⟨h x y rfl rfl, hb⟩
  | x :: z :: a, b, ha, hb, h => ⟨ha.1, bare_join ha.2 hb fun p q hp hq => h p q (by simpa using hp) hq⟩
theorem bare_seam : ∀ {a b : List Int} {x y : Int}, Bare (a ++ b) → a.getLast? = some x → b.head? = some y → x ≠ -y
  | [x'], y' :: b, x, y, h, hx, hy => by
    simp at hx hy
    subst hx hy
    exact h.1
  | x' :: z :: a, b, x, y, h, hx, hy => bare_seam (a := z :: a) h.2 (by simpa using hx) hy
theorem bare_rev {a : List Int} (h : Bare a) : Bare a.reverse := by
  induction a with
  | nil => trivial
  | cons x a ih =>
    rw [List.reverse_cons]
    refine bare_join (ih h.tail) trivial fun p q hp hq => ?_
    cases a with
    | nil => simp at hp
    | cons y a =>
      simp at hp hq
      subst hp hq
      have := h.1
      omega
theorem bare_neg {a : List Int} (h : Bare a) : Bare (a.map fun x => -x) := by
  induction a with
  | nil => trivial
  | cons x a ih =>
    cases a with
    | nil => trivial
    | cons y a => exact ⟨by have := h.1; simp only [ne_eq]; omega, ih h.2⟩
theorem bareW_bare (row : List Int) : Bare (bareW row) := bare_rev (red_bare trivial)
/-- a row may be made bare first -/
theorem red_bareW {s : List Int} (h : Bare s) (row : List Int) : red s (bareW row) = red s row := by
  have key : ∀ (n : Nat) (row : List Int), row.length = n → red s (bareW row) = red s row := by
    intro n
    induction n with
    | zero =>
      intro row hr
      rw [List.eq_nil_of_length_eq_zero hr]
      rfl
    | succ n ih =>
      intro row hr
      obtain ⟨a, x, rfl⟩ : ∃ a x, row = a ++ [x] := by
        rcases List.eq_nil_or_concat row with e | ⟨a, x, e⟩
        · subst e; simp at hr
        · exact ⟨a, x, by simpa using e⟩
      have ha := ih a (by simpa using hr)
      unfold bareW at ha ⊢
      rw [red_snoc, red_snoc, ← ha]
      cases e : red [] a with
      | nil => simp [push, red]
      | cons y t =>
        by_cases hy : y = -x
        · have e1 : push (y :: t) x = t := by simp [push, hy]
          rw [e1, List.reverse_cons, red_snoc]
          have hx : x = -y := by omega
          rw [hx, push_push (red_bare h)]
        · have e1 : push (y :: t) x = x :: y :: t := by simp [push, hy]
          rw [e1, List.reverse_cons, red_snoc]
  exact key _ row rfl
theorem bareW_left (a b : List Int) : bareW (bareW a ++ b) = bareW (a ++ b) := by
  unfold bareW
  rw [red_app, red_app]
  have := red_bareW (s := []) trivial a
  unfold bareW at this
  rw [this]
theorem bareW_right (a b : List Int) : bareW (a ++ bareW b) = bareW (a ++ b) := by
  unfold bareW
  rw [red_app, red_app]
  have := red_bareW (s := red [] a) (red_bare trivial) b
  unfold bareW at this
  rw [this]
theorem bareW_mid (a b c : List Int) : bareW (a ++ bareW b ++ c) = bareW (a ++ b ++ c) := by
  rw [← bareW_left (a ++ bareW b) c, bareW_right, bareW_left]
theorem bareW_strike (u v : List Int) (x y : Int) (e : x = -y) : bareW (u ++ x :: y :: v) = bareW (u ++ v) := by
  unfold bareW
  rw [red_strike (s := []) trivial u v x y e]
/-- the contrary -/
def con (w : List Int) : List Int := w.reverse.map fun x => -x
theorem con_con (w : List Int) : con (con w) = w := by
  unfold con
  rw [← List.map_reverse, List.reverse_reverse, List.map_map]
  have : ((fun x : Int => -x) ∘ fun x => -x) = id := by funext x; simp
  rw [this, List.map_id]
theorem con_app (a b : List Int) : con (a ++ b) = con b ++ con a := by
  unfold con
  rw [List.reverse_append, List.map_append]
theorem con_cons (x : Int) (b : List Int) : con (x :: b) = con b ++ [-x] := by
  unfold con
  rw [List.reverse_cons, List.map_append]
  rfl
theorem con_bare {w : List Int} (h : Bare w) : Bare (con w) := bare_neg (bare_rev h)
theorem bareW_con_r (u : List Int) : ∀ (w v : List Int), bareW (u ++ w ++ con w ++ v) = bareW (u ++ v)
  | [], v => by simp [con]
  | x :: w, v => by
    have e : u ++ x :: w ++ con (x :: w) ++ v = (u ++ [x]) ++ w ++ con w ++ (-x :: v) := by
      rw [con_cons]
      simp
    rw [e, bareW_con_r (u ++ [x]) w (-x :: v)]
    have e2 : u ++ [x] ++ -x :: v = u ++ x :: -x :: v := by simp
    rw [e2, bareW_strike _ _ _ _ (by omega)]
theorem bareW_con_l (u w v : List Int) : bareW (u ++ con w ++ w ++ v) = bareW (u ++ v) := by
  have := bareW_con_r u (con w) v
  rwa [con_con] at this
theorem bareW_con (w : List Int) : bareW (con w) = con (bareW w) := by
  have h1 : bareW (con w ++ w ++ con (bareW w)) = bareW (con (bareW w)) := by
    have := bareW_con_l [] w (con (bareW w))
    simpa using this
  have h2 : bareW (con w ++ w ++ con (bareW w)) = bareW (con w) := by
    rw [← bareW_mid (con w) w (con (bareW w))]
    have := bareW_con_r (con w) (bareW w) []
    simpa using this
  rw [← h2, h1, bareW_of (con_bare (bareW_bare w))]
/-- how many neighbours are struck where a stack meets a word -/
def ends : List Int → List Int → Nat
  | y :: t, x :: o => if y = -x then ends t o + 1 else 0
  | _, _ => 0
theorem ends_le : ∀ (s o : List Int), ends s o ≤ s.length ∧ ends s o ≤ o.length
  | [], _ => by simp [ends]
  | _ :: _, [] => by simp [ends]
  | y :: t, x :: o => by
    unfold ends
    split
    · have := ends_le t o
      simp only [List.length_cons]
      omega
    · simp
theorem red_ends : ∀ {s o : List Int}, Bare s → Bare o → red s o = (o.drop (ends s o)).reverse ++ s.drop (ends s o)
  | [], o, _, ho => by
    rw [red_through ho (fun _ _ _ _ _ e => by cases e)]
    simp [ends]
  | y :: t, [], _, _ => by simp [ends, red]
  | y :: t, x :: o, hs, ho => by
    by_cases e : y = -x
    · rw [red_cons]
      have e1 : push (y :: t) x = t := by simp [push, e]
      rw [e1, red_ends hs.tail ho.tail]
      simp [ends, e]
    · rw [red_through ho (fun x' y' t' r' e1 e2 => by cases e1; cases e2; exact e)]
      simp [ends, e]
theorem product_eq {a b : List Int} (ha : Bare a) (hb : Bare b) : bareW (a ++ b) = a.take (a.length - ends a.reverse b) ++ b.drop (ends a.reverse b) := by
  unfold bareW
  have h1 : red [] a = a.reverse := by
    rw [red_through ha (fun _ _ _ _ _ e => by cases e), List.append_nil]
  rw [red_app, h1, red_ends (bare_rev ha) hb]
  rw [List.reverse_append, List.reverse_reverse, List.drop_reverse, List.reverse_reverse]
/-! powers -/
def rep (n : Nat) (w : List Int) : List Int := (List.replicate n w).flatten
theorem rep_zero (w : List Int) : rep 0 w = [] := rfl
theorem rep_succ (n : Nat) (w : List Int) : rep (n + 1) w = w ++ rep n w := by
  unfold rep
  rw [List.replicate_succ, List.flatten_cons]
theorem rep_comm (n : Nat) (w : List Int) : w ++ rep n w = rep n w ++ w := by
  induction n with
  | zero => simp [rep]
  | succ n ih => rw [rep_succ, List.append_assoc, ← ih]
theorem rep_snoc (n : Nat) (w : List Int) : rep (n + 1) w = rep n w ++ w := by rw [rep_succ, rep_comm]
theorem rep_nil (n : Nat) : rep n [] = [] := by
  induction n with
  | zero => rfl
  | succ n ih => rw [rep_succ, ih]; rfl
/-- the power of a word, made bare -/
def pw (w : List Int) (k : Int) : List Int := bareW (rep k.natAbs (if 0 ≤ k then w else con w))
theorem pw_succ (w : List Int) (k : Int) : bareW (pw w k ++ w) = pw w (k + 1) := by
  unfold pw
  rw [bareW_left]
  by_cases h : 0 ≤ k
  · have e : (k + 1).natAbs = k.natAbs + 1 := by omega
    rw [if_pos h, if_pos (by omega), e, rep_snoc]
  · obtain ⟨n, hn⟩ : ∃ n : Nat, k = -(n + 1 : Nat) := ⟨(-k - 1).toNat, by omega⟩
    have e : k.natAbs = n + 1 := by omega
    rw [if_neg h, e, rep_snoc]
    have := bareW_con_l (rep n (con w)) w []
    simp only [List.append_nil] at this
    rw [this]
    by_cases h0 : n = 0
    · subst h0
      rw [if_pos (by omega)]
      have : (k + 1).natAbs = 0 := by omega
      rw [this]
      rfl
    · rw [if_neg (by omega)]
      have : (k + 1).natAbs = n := by omega
      rw [this]
theorem pw_add (w : List Int) (a : Int) (n : Nat) : bareW (pw w a ++ pw w n) = pw w (a + n) := by
  induction n with
  | zero =>
    have e : pw w (0 : Nat) = [] := rfl
    rw [e, List.append_nil]
    have : Bare (pw w a) := bareW_bare _
    rw [bareW_of this]
    congr 1
    omega
  | succ n ih =>
    have e := pw_succ w n
    have e2 : ((n + 1 : Nat) : Int) = (n : Int) + 1 := by omega
    rw [e2, ← e, bareW_right, ← List.append_assoc, ← bareW_left, ih, pw_succ]
    congr 1
    omega
theorem con_rep (n : Nat) (w : List Int) : con (rep n w) = rep n (con w) := by
  induction n with
  | zero => rfl
  | succ n ih => rw [rep_succ, con_app, ih, rep_snoc]
/-- turned rows -/
theorem rep_turn (n : Nat) (a c : List Int) (k : Nat) (h : n = k + 1) : bareW (rep n (a ++ c ++ con a)) = bareW (a ++ rep n c ++ con a) := by
  subst h
  induction k with
  | zero => simp [rep]
  | succ k ih =>
    rw [rep_succ, ← bareW_right, ih, bareW_right]
    have e : a ++ c ++ con a ++ (a ++ rep (k + 1) c ++ con a) = (a ++ c) ++ con a ++ a ++ (rep (k + 1) c ++ con a) := by simp
    rw [e, bareW_con_l, rep_succ (k + 1)]
    congr 1
    simp
/-! the core of a word -/
theorem turn_of {w : List Int} {k : Nat} (h2 : 2 * k ≤ w.length) (h : ∀ i, i < k → ∃ x, w[i]? = some x ∧ w[w.length - 1 - i]? = some (-x)) : w = w.take k ++ (w.drop k).take (w.length - 2 * k) ++ con (w.take k) := by
  have e : con (w.take k) = w.drop (w.length - k) := by
    refine List.ext_getElem? fun i => ?_
    unfold con
    rw [List.getElem?_map, List.getElem?_drop]
    by_cases hi : i < k
    · rw [List.getElem?_reverse (by rw [List.length_take]; omega), List.length_take, List.getElem?_take, if_pos (by omega)]
      obtain ⟨x, h3, h4⟩ := h (k - 1 - i) (by omega)
      have e1 : min k w.length - 1 - i = k - 1 - i := by omega
      have e2 : w.length - 1 - (k - 1 - i) = w.length - k + i := by omega
      rw [e1, h3, ← e2, h4]
      rfl
    · rw [List.getElem?_eq_none (by rw [List.length_reverse, List.length_take]; omega), List.getElem?_eq_none (by omega)]
      rfl
  rw [e]
  have e2 : w.drop (w.length - k) = (w.drop k).drop (w.length - 2 * k) := by
    rw [List.drop_drop]
    congr 1
    omega
  rw [e2, List.append_assoc, List.take_append_drop, List.take_append_drop]
theorem rep_last {n : Nat} {c : List Int} (h : 0 < n) : (rep n c).getLast? = c.getLast? := by
  obtain ⟨k, rfl⟩ : ∃ k, n = k + 1 := ⟨n - 1, by omega⟩
  rw [rep_snoc]
  cases c with
  | nil => rw [rep_nil]; rfl
  | cons x c => rw [List.getLast?_append]; simp [List.getLast?_cons]
theorem rep_head {n : Nat} {c : List Int} (h : 0 < n) : (rep n c).head? = c.head? := by
  obtain ⟨k, rfl⟩ : ∃ k, n = k + 1 := ⟨n - 1, by omega⟩
  rw [rep_succ]
  cases c with
  | nil => rw [rep_nil]; rfl
  | cons x c => rfl
theorem rep_bare {c : List Int} (hb : Bare c) (hc : ∀ x y, c.getLast? = some x → c.head? = some y → x ≠ -y) (n : Nat) : Bare (rep n c) := by
  induction n with
  | zero => exact (show Bare [] from trivial)
  | succ n ih =>
    rw [rep_snoc]
    by_cases h0 : n = 0
    · subst h0; simpa [rep] using hb
    · exact bare_join ih hb fun x y hx hy => hc x y (by rw [← rep_last (Nat.pos_of_ne_zero h0)]; exact hx) hy
theorem power_bare {a c : List Int} (hw : Bare (a ++ c ++ con a)) (hn : c ≠ []) (hc : ∀ x y, c.getLast? = some x → c.head? = some y → x ≠ -y) {n : Nat} (h : 0 < n) : Bare (a ++ rep n c ++ con a) := by
  have h1 := bare_app hw
  have h2 := bare_app h1.1
  refine bare_join (bare_join h2.1 (rep_bare h2.2 hc n) fun x y hx hy => ?_) h1.2 fun x y hx hy => ?_
  · rw [rep_head h] at hy
    exact bare_seam h1.1 hx hy
  · have hl : (a ++ rep n c).getLast? = (a ++ c).getLast? := by
      rw [List.getLast?_append, List.getLast?_append, rep_last h]
    rw [hl] at hx
    exact bare_seam hw hx hy
theorem rep_length (n : Nat) (w : List Int) : (rep n w).length = n * w.length := by
  induction n with
  | zero => simp [rep]
  | succ n ih => rw [rep_succ, List.length_append, ih, Nat.succ_mul, Nat.add_comm]
theorem con_length (w : List Int) : (con w).length = w.length := by simp [con]
/-- what the loop over both ends stops at -/
structure Stop (w : List Int) (k : Nat) : Prop where
  le : 2 * k ≤ w.length
  at_ : ∀ i, i < k → ∃ x, w[i]? = some x ∧ w[w.length - 1 - i]? = some (-x)
  end_ : ¬ (2 * k + 1 < w.length ∧ ∃ x, w[k]? = some x ∧ w[w.length - 1 - k]? = some (-x))
def midW (w : List Int) (k : Nat) : List Int := (w.drop k).take (w.length - 2 * k)
theorem Stop.eq {w : List Int} {k : Nat} (s : Stop w k) : w = w.take k ++ midW w k ++ con (w.take k) := turn_of s.le s.at_
theorem Stop.mid {w : List Int} {k : Nat} (s : Stop w k) (hb : Bare w) (hw : w ≠ []) (h0 : ∀ x ∈ w, x ≠ 0) : midW w k ≠ [] ∧ ∀ x y, (midW w k).getLast? = some x → (midW w k).head? = some y → x ≠ -y := by
  have hle := s.le
  have hlen : (midW w k).length = w.length - 2 * k := by
    unfold midW
    rw [List.length_take, List.length_drop]
    omega
  have hne : w.length ≠ 2 * k := fun e => by
    have hk : 0 < k := by
      cases w with
      | nil => exact absurd rfl hw
      | cons x w => simp at e; omega
    have hm : midW w k = [] := List.eq_nil_of_length_eq_zero (by omega)
    have q := s.eq
    rw [hm, List.append_nil] at q
    obtain ⟨x, h1, h2⟩ := s.at_ (k - 1) (by omega)
    have hl : (w.take k).getLast? = some x := by
      rw [List.getLast?_eq_getElem?, List.length_take, List.getElem?_take, if_pos (by omega)]
      have : min k w.length - 1 = k - 1 := by omega
      rw [this]; exact h1
    have hh : (con (w.take k)).head? = some (-x) := by
      unfold con
      rw [List.head?_map, List.head?_reverse, hl]
      rfl
    rw [q] at hb
    have := bare_seam hb hl hh
    omega
  refine ⟨fun e => by rw [e] at hlen; simp at hlen; omega, fun x y hx hy e => ?_⟩
  have hx' : w[w.length - 1 - k]? = some x := by
    rw [List.getLast?_eq_getElem?, hlen] at hx
    unfold midW at hx
    rw [List.getElem?_take, if_pos (by omega), List.getElem?_drop] at hx
    rw [← hx]
    congr 1
    omega
  have hy' : w[k]? = some y := by
    rw [List.head?_eq_getElem?] at hy
    unfold midW at hy
    rw [List.getElem?_take, if_pos (by omega), List.getElem?_drop] at hy
    exact hy
  by_cases h1 : 2 * k + 1 < w.length
  · exact s.end_ ⟨h1, y, hy', by rw [hx', e]⟩
  · have : w.length - 1 - k = k := by omega
    rw [this, hy'] at hx'
    have exy : y = x := Option.some.inj hx'
    have := h0 y (List.mem_of_getElem? hy')
    omega
theorem Stop.power {w : List Int} {k : Nat} (s : Stop w k) (hb : Bare w) (hw : w ≠ []) (h0 : ∀ x ∈ w, x ≠ 0) {n : Nat} (hn : 0 < n) : bareW (rep n w) = w.take k ++ rep n (midW w k) ++ con (w.take k) := by
  obtain ⟨h1, h2⟩ := s.mid hb hw h0
  have e := s.eq
  have hb' : Bare (w.take k ++ midW w k ++ con (w.take k)) := by rw [← e]; exact hb
  have := rep_turn n (w.take k) (midW w k) (n - 1) (by omega)
  rw [← e] at this
  rw [this, bareW_of (power_bare hb' h1 h2 hn)]
end Wo
/-! Wo: rotations of rows, the least one -/
namespace Wo
open Sm
theorem ltT_irrefl : ∀ a : List Int, ltT a a = false
  | [] => rfl
  | x :: xs => by simp [ltT, ltT_irrefl xs]
theorem ltT_trans : ∀ {a b c : List Int}, ltT a b = true → ltT b c = true → ltT a c = true
  | [], [], _, h, _ => by simp [ltT] at h
  | _, _ :: _, [], _, h => by simp [ltT] at h
  | [], _ :: _, _ :: _, _, _ => rfl
  | _ :: _, [], _, h, _ => by simp [ltT] at h
  | x :: xs, y :: ys, z :: zs, h1, h2 => by
    simp only [ltT] at h1 h2 ⊢
    by_cases e1 : x = y
    · subst e1
      rw [if_pos rfl] at h1
      by_cases e2 : x = z
      · subst e2
        rw [if_pos rfl] at h2 ⊢
        exact ltT_trans h1 h2
      · rw [if_neg e2] at h2 ⊢
        exact h2
    · rw [if_neg e1] at h1
      have h1' := of_decide_eq_true h1
      by_cases e2 : y = z
      · subst e2
        rw [if_neg e1]
        exact h1
      · rw [if_neg e2] at h2
        have h2' := of_decide_eq_true h2
        rw [if_neg (by omega)]
        exact decide_eq_true (by omega)
theorem ltT_total : ∀ {a b : List Int}, ltT a b = false → ltT b a = false → a = b
  | [], [], _, _ => rfl
  | [], _ :: _, h, _ => by simp [ltT] at h
  | _ :: _, [], _, h => by simp [ltT] at h
  | x :: xs, y :: ys, h1, h2 => by
    simp only [ltT] at h1 h2
    by_cases e : x = y
    · subst e
      rw [if_pos rfl] at h1 h2
      rw [ltT_total h1 h2]
    · rw [if_neg e] at h1
      rw [if_neg (Ne.symm e)] at h2
      have h1' := of_decide_eq_false h1
      have h2' := of_decide_eq_false h2
      omega
theorem minT_spec : ∀ (ws : List (List Int)) (w : List Int), minT w ws ∈ w :: ws ∧ ∀ x ∈ w :: ws, ltT x (minT w ws) = false
  | [], w => by simp [minT, ltT_irrefl]
  | y :: ys, w => by
    have e : minT w (y :: ys) = minT (if ltT y w = true then y else w) ys := rfl
    rw [e]
    by_cases h : ltT y w = true
    · rw [if_pos h]
      obtain ⟨h1, h2⟩ := minT_spec ys y
      refine ⟨List.mem_cons_of_mem _ h1, fun x hx => ?_⟩
      rcases List.mem_cons.mp hx with rfl | hx
      · cases q : ltT x (minT y ys) with
        | false => rfl
        | true =>
          have := ltT_trans h q
          rw [h2 y List.mem_cons_self] at this
          cases this
      · exact h2 x hx
    · rw [if_neg h]
      obtain ⟨h1, h2⟩ := minT_spec ys w
      refine ⟨?_, fun x hx => ?_⟩
      · rcases List.mem_cons.mp h1 with h1 | h1
        · rw [h1]; exact List.mem_cons_self
        · exact List.mem_cons_of_mem _ (List.mem_cons_of_mem _ h1)
      · rcases List.mem_cons.mp hx with rfl | hx
        · exact h2 x List.mem_cons_self
        · rcases List.mem_cons.mp hx with rfl | hx
          · cases q : ltT x (minT w ys) with
            | false => rfl
            | true =>
              have hw := h2 w List.mem_cons_self
              by_cases q2 : ltT w x = true
              · rw [ltT_trans q2 q] at hw
                cases hw
              · have : x = w := ltT_total (by simpa using h) (by simpa using q2)
                subst this
                rw [q] at hw
                cases hw
          · exact h2 x (List.mem_cons_of_mem _ hx)
/-! rotations -/
def rot (c : List Int) (p : Nat) : List Int := c.drop p ++ c.take p
def rots (c : List Int) : List (List Int) := (List.range (max 1 c.length)).map (rot c)
def leastRot (c : List Int) : List Int := match rots c with
  | w :: ws => minT w ws
  | [] => []
theorem rots_cons (c : List Int) : ∃ ws, rots c = c :: ws := by
  unfold rots
  obtain ⟨m, hm⟩ : ∃ m, max 1 c.length = m + 1 := ⟨max 1 c.length - 1, by omega⟩
  rw [hm, List.range_succ_eq_map, List.map_cons]
  exact ⟨(List.range m).map (rot c ∘ Nat.succ), by simp [rot]⟩
theorem leastRot_spec (c : List Int) : leastRot c ∈ rots c ∧ ∀ x ∈ rots c, ltT x (leastRot c) = false := by
  obtain ⟨ws, e⟩ := rots_cons c
  unfold leastRot
  rw [e]
  exact minT_spec ws c
theorem leastRot_unique {c m : List Int} (h1 : m ∈ rots c) (h2 : ∀ x ∈ rots c, ltT x m = false) : m = leastRot c := by
  obtain ⟨h3, h4⟩ := leastRot_spec c
  exact ltT_total (h4 m h1) (h2 _ h3)
theorem mem_rots {c x : List Int} : x ∈ rots c ↔ ∃ p, p ≤ c.length ∧ x = rot c p := by
  unfold rots
  rw [List.mem_map]
  constructor
  · rintro ⟨p, hp, rfl⟩
    have := List.mem_range.mp hp
    by_cases h : c.length = 0
    · have e : c = [] := List.eq_nil_of_length_eq_zero h
      subst e
      exact ⟨0, by simp, by simp [rot]⟩
    · exact ⟨p, by omega, rfl⟩
  · rintro ⟨p, hp, rfl⟩
    by_cases h : p < max 1 c.length
    · exact ⟨p, List.mem_range.mpr h, rfl⟩
    · refine ⟨0, List.mem_range.mpr (by omega), ?_⟩
      have : p = c.length := by omega
      subst this
      simp [rot]
theorem rot_app (a b : List Int) : rot (a ++ b) a.length = b ++ a := by
  unfold rot
  rw [List.drop_left, List.take_left]
theorem mem_rots_app {c x : List Int} : x ∈ rots c ↔ ∃ a b, c = a ++ b ∧ x = b ++ a := by
  rw [mem_rots]
  constructor
  · rintro ⟨p, hp, rfl⟩
    exact ⟨c.take p, c.drop p, (List.take_append_drop p c).symm, rfl⟩
  · rintro ⟨a, b, rfl, rfl⟩
    exact ⟨a.length, by simp, (rot_app a b).symm⟩
theorem rots_symm {c x : List Int} (h : x ∈ rots c) : c ∈ rots x := by
  obtain ⟨a, b, rfl, rfl⟩ := mem_rots_app.mp h
  exact mem_rots_app.mpr ⟨b, a, rfl, rfl⟩
theorem rots_self (c : List Int) : c ∈ rots c := mem_rots_app.mpr ⟨[], c, rfl, by simp⟩
theorem rots_trans {c x y : List Int} (h1 : x ∈ rots c) (h2 : y ∈ rots x) : y ∈ rots c := by
  obtain ⟨a, b, rfl, rfl⟩ := mem_rots_app.mp h1
  obtain ⟨u, v, e, rfl⟩ := mem_rots_app.mp h2
  rcases List.append_eq_append_iff.mp e with ⟨s, e1, e2⟩ | ⟨s, e1, e2⟩
  · subst e1
    subst e2
    exact mem_rots_app.mpr ⟨s, v ++ b, by simp, by simp⟩
  · subst e1
    subst e2
    exact mem_rots_app.mpr ⟨a ++ u, s, by simp, by simp⟩
theorem rots_len {c x : List Int} (h : x ∈ rots c) : x.length = c.length := by
  obtain ⟨a, b, rfl, rfl⟩ := mem_rots_app.mp h
  simp [Nat.add_comm]
theorem rots_mem {c x : List Int} (h : x ∈ rots c) (i : Int) : i ∈ x ↔ i ∈ c := by
  obtain ⟨a, b, rfl, rfl⟩ := mem_rots_app.mp h
  simp [Or.comm]
theorem leastRot_rot {c x : List Int} (h : x ∈ rots c) : leastRot x = leastRot c := by
  obtain ⟨h1, h2⟩ := leastRot_spec x
  exact leastRot_unique (rots_trans h h1) fun y hy => h2 y (rots_trans (rots_symm h) hy)
theorem leastRot_iff {c x : List Int} : leastRot x = leastRot c ↔ x ∈ rots c := by
  constructor
  · intro e
    have h1 := (leastRot_spec x).1
    rw [e] at h1
    exact rots_trans (leastRot_spec c).1 (rots_symm h1)
  · exact leastRot_rot
theorem leastRot_mem (c : List Int) : leastRot c ∈ rots c := (leastRot_spec c).1
theorem leastRot_idem (c : List Int) : leastRot (leastRot c) = leastRot c := leastRot_rot (leastRot_mem c)
end Wo
/-! Wo: the way by which the least rotation is found -/
namespace Wo
open Sm
def cy (c : List Int) (p : Nat) : Int := c.getD (p % c.length) 0
def rotP (c : List Int) (p : Nat) : List Int := (List.range c.length).map fun t => cy c (p + t)
theorem cy_mod (c : List Int) (p : Nat) : cy c (p % c.length) = cy c p := by
  unfold cy
  rw [Nat.mod_mod]
theorem cy_add_mod (c : List Int) (p t : Nat) : cy c (p % c.length + t) = cy c (p + t) := by
  unfold cy
  rw [Nat.mod_add_mod]
theorem rotP_mod (c : List Int) (p : Nat) : rotP c (p % c.length) = rotP c p := by
  unfold rotP
  exact List.map_congr_left fun t _ => cy_add_mod c p t
theorem rotP_rot {c : List Int} {p : Nat} (h : p < c.length) : rotP c p = rot c p := by
  refine List.ext_getElem (by simp [rotP, rot]; omega) fun i h1 h2 => ?_
  have hi : i < c.length := by simpa [rotP] using h1
  simp only [rotP, List.getElem_map, List.getElem_range, cy, rot]
  by_cases q : p + i < c.length
  · rw [Nat.mod_eq_of_lt q, List.getElem_append_left (by rw [List.length_drop]; omega), List.getElem_drop, List.getD_eq_getElem?_getD, List.getElem?_eq_getElem q]
    rfl
  · have e : (p + i) % c.length = p + i - c.length := by
      rw [Nat.mod_eq_sub_mod (by omega), Nat.mod_eq_of_lt (by omega)]
    rw [e, List.getElem_append_right (by rw [List.length_drop]; omega), List.getElem_take, List.getD_eq_getElem?_getD, List.getElem?_eq_getElem (by omega)]
    simp only [List.length_drop, Option.getD_some]
    congr 1
    omega
theorem rotP_mem {c : List Int} (h : 0 < c.length) (p : Nat) : rotP c p ∈ rots c := by
  have hm := Nat.mod_lt p h
  rw [← rotP_mod, rotP_rot hm]
  exact mem_rots.mpr ⟨_, Nat.le_of_lt hm, rfl⟩
theorem seq_lt {f g : Nat → Int} : ∀ (n m : Nat), m < n → (∀ t, t < m → f t = g t) → f m < g m → ltT ((List.range n).map f) ((List.range n).map g) = true := by
  intro n
  induction n generalizing f g with
  | zero => intro m h; omega
  | succ n ih =>
    intro m hm he hl
    rw [List.range_succ_eq_map, List.map_cons, List.map_cons, List.map_map, List.map_map]
    cases m with
    | zero =>
      simp only [ltT]
      rw [if_neg (by omega)]
      exact decide_eq_true hl
    | succ m =>
      simp only [ltT]
      rw [if_pos (he 0 (by omega))]
      exact ih m (by omega) (fun t ht => he (t + 1) (by omega)) hl
def Worse (c : List Int) (p : Nat) : Prop := ∃ q, ltT (rotP c q) (rotP c p) = true
theorem worse_of {c : List Int} {p q m : Nat} (hm : m < c.length) (he : ∀ t, t < m → cy c (p + t) = cy c (q + t)) (hl : cy c (p + m) < cy c (q + m)) : Worse c q :=
  ⟨p, seq_lt _ m hm he hl⟩
structure LR (c : List Int) (i j k : Nat) : Prop where
  ne : i ≠ j
  same : ∀ t, t < k → cy c (i + t) = cy c (j + t)
  bad : ∀ p, p < max i j → p ≠ i → p ≠ j → Worse c p
theorem LR.symm {c : List Int} {i j k : Nat} (h : LR c i j k) : LR c j i k :=
  ⟨Ne.symm h.ne, fun t ht => (h.same t ht).symm, fun p hp h1 h2 => h.bad p (by omega) h2 h1⟩
theorem LR.start (c : List Int) : LR c 0 1 0 := ⟨by decide, fun t ht => by omega, fun p hp h1 h2 => by omega⟩
theorem LR.eq {c : List Int} {i j k : Nat} (h : LR c i j k) (e : cy c (i + k) = cy c (j + k)) : LR c i j (k + 1) :=
  ⟨h.ne, fun t ht => by
    by_cases q : t < k
    · exact h.same t q
    · have : t = k := by omega
      rw [this]; exact e, h.bad⟩
/-- the places i .. i + k are worse -/
theorem LR.run {c : List Int} {i j k : Nat} (h : LR c i j k) (hk : k < c.length) (hl : cy c (j + k) < cy c (i + k)) : ∀ p, i ≤ p → p ≤ i + k → Worse c p := by
  intro p h1 h2
  refine worse_of (p := j + (p - i)) (m := k - (p - i)) (by omega) (fun t ht => ?_) ?_
  · have := h.same (p - i + t) (by omega)
    have e1 : i + (p - i + t) = p + t := by omega
    have e2 : j + (p - i + t) = j + (p - i) + t := by omega
    rw [e1, e2] at this
    exact this.symm
  · have e1 : j + (p - i) + (k - (p - i)) = j + k := by omega
    have e2 : p + (k - (p - i)) = i + k := by omega
    rw [e1, e2]
    exact hl
theorem LR.gt {c : List Int} {i j k j' : Nat} (h : LR c i j k) (hk : k < c.length) (hl : cy c (j + k) < cy c (i + k)) (hj : j' = if i + k + 1 = j then j + 1 else j) : LR c (i + k + 1) j' 0 := by
  have hr := h.run hk hl
  refine ⟨by rw [hj]; split <;> omega, fun t ht => by omega, fun p hp h1 h2 => ?_⟩
  by_cases q : i ≤ p ∧ p ≤ i + k
  · exact hr p q.1 q.2
  · refine h.bad p ?_ (by omega) ?_
    · rw [hj] at hp h2
      split at hp <;> rename_i e <;> simp only [e, if_true, if_false] at h2 <;> omega
    · rw [hj] at hp h2
      split at hp <;> rename_i e <;> simp only [e, if_true, if_false] at h2 <;> omega
theorem LR.lt {c : List Int} {i j k j' : Nat} (h : LR c i j k) (hk : k < c.length) (hl : cy c (i + k) < cy c (j + k)) (hj : j' = if i = j + k + 1 then j + k + 1 + 1 else j + k + 1) : LR c i j' 0 := by
  have hr := h.symm.run hk hl
  refine ⟨by rw [hj]; split <;> omega, fun t ht => by omega, fun p hp h1 h2 => ?_⟩
  by_cases q : j ≤ p ∧ p ≤ j + k
  · exact hr p q.1 q.2
  · refine h.bad p ?_ (by omega) (by omega)
    rw [hj] at hp h2
    split at hp <;> rename_i e <;> simp only [e, if_true, if_false] at h2 <;> omega
theorem LR.done {c : List Int} {i j k : Nat} (h : LR c i j k) (h0 : 0 < c.length) (hf : c.length ≤ i ∨ c.length ≤ j ∨ c.length ≤ k) : min i j < c.length ∧ rot c (min i j) = leastRot c := by
  obtain ⟨p0, hp0, e0⟩ := mem_rots.mp (leastRot_mem c)
  obtain ⟨p1, hp1, e1⟩ : ∃ p, p < c.length ∧ leastRot c = rotP c p := by
    by_cases q : p0 < c.length
    · exact ⟨p0, q, by rw [rotP_rot q]; exact e0⟩
    · have : p0 = c.length := by omega
      subst this
      exact ⟨0, h0, by rw [rotP_rot h0, e0]; simp [rot]⟩
  have hgood : ¬ Worse c p1 := fun ⟨q, hq⟩ => by
    rw [← e1] at hq
    rw [(leastRot_spec c).2 _ (rotP_mem h0 q)] at hq
    cases hq
  -- the least place is i or j, or same as them
  rcases hf with hf | hf | hf
  · have : p1 = j := by
      by_cases q : p1 = j
      · exact q
      · exact absurd (h.bad p1 (by omega) (by omega) q) hgood
    have hm : min i j = j := by omega
    rw [hm, ← this]
    exact ⟨hp1, by rw [e1, rotP_rot hp1]⟩
  · have : p1 = i := by
      by_cases q : p1 = i
      · exact q
      · exact absurd (h.bad p1 (by omega) q (by omega)) hgood
    have hm : min i j = i := by omega
    rw [hm, ← this]
    exact ⟨hp1, by rw [e1, rotP_rot hp1]⟩
  · by_cases hi : c.length ≤ i
    · have : p1 = j := by
        by_cases q : p1 = j
        · exact q
        · exact absurd (h.bad p1 (by omega) (by omega) q) hgood
      have hm : min i j = j := by omega
      rw [hm, ← this]
      exact ⟨hp1, by rw [e1, rotP_rot hp1]⟩
    by_cases hj : c.length ≤ j
    · have : p1 = i := by
        by_cases q : p1 = i
        · exact q
        · exact absurd (h.bad p1 (by omega) q (by omega)) hgood
      have hm : min i j = i := by omega
      rw [hm, ← this]
      exact ⟨hp1, by rw [e1, rotP_rot hp1]⟩
    have per : ∀ t, cy c (i + t) = cy c (j + t) := fun t => by
      have := h.same (t % c.length) (Nat.lt_of_lt_of_le (Nat.mod_lt t h0) hf)
      have e1 : ∀ a, cy c (a + t % c.length) = cy c (a + t) := fun a => by rw [Nat.add_comm, cy_add_mod, Nat.add_comm]
      rw [e1, e1] at this
      exact this
    have hsame : rotP c i = rotP c j := List.map_congr_left fun t _ => per t
    have hij : rotP c (min i j) = rotP c i := by
      by_cases q : i ≤ j
      · rw [Nat.min_eq_left q]
      · rw [Nat.min_eq_right (by omega), hsame]
    have hlow : ∀ n p, p < c.length → p = n → ¬ Worse c p → rotP c p = rotP c i := by
      intro n
      induction n using Nat.strongRecOn with
      | _ n ih =>
        intro p hp hpn hw
        by_cases q : p < max i j
        · by_cases q1 : p = i
          · rw [q1]
          · by_cases q2 : p = j
            · rw [q2, hsame]
            · exact absurd (h.bad p q q1 q2) hw
        · by_cases q1 : p = i
          · rw [q1]
          by_cases q2 : p = j
          · rw [q2, hsame]
          -- step back by the difference
          have hd : ∀ d, d = max i j - min i j → rotP c p = rotP c (p - d) := by
            intro d hd
            refine List.map_congr_left fun t _ => ?_
            have hpe := per (p - max i j + t)
            rcases Nat.lt_or_ge i j with q3 | q3
            · have e1 : j + (p - max i j + t) = p + t := by omega
              have e2 : i + (p - max i j + t) = p - d + t := by omega
              rw [e1, e2] at hpe
              exact hpe.symm
            · have e1 : i + (p - max i j + t) = p + t := by omega
              have e2 : j + (p - max i j + t) = p - d + t := by omega
              rw [e1, e2] at hpe
              exact hpe
          have hne := h.ne
          have e := hd _ rfl
          rw [e]
          refine ih (p - (max i j - min i j)) (by omega) _ (by omega) rfl ?_
          intro hw'
          obtain ⟨z, hz⟩ := hw'
          rw [← e] at hz
          exact hw ⟨z, hz⟩
    have hm : min i j < c.length := by omega
    refine ⟨hm, ?_⟩
    rw [← rotP_rot hm, hij, ← hlow p1 p1 hp1 rfl hgood, e1]
end Wo
/-! Wo: cores -/
namespace Wo
open Sm
def NZ (w : List Int) : Prop := ∀ x ∈ w, x ≠ 0
theorem NZ.app {a b : List Int} (h : NZ (a ++ b)) : NZ a ∧ NZ b := ⟨fun x hx => h x (List.mem_append_left _ hx), fun x hx => h x (List.mem_append_right _ hx)⟩
theorem NZ.join {a b : List Int} (h1 : NZ a) (h2 : NZ b) : NZ (a ++ b) := fun x hx => (List.mem_append.mp hx).elim (h1 x) (h2 x)
theorem NZ.con {a : List Int} (h : NZ a) : NZ (con a) := fun x hx => by
  unfold Wo.con at hx
  obtain ⟨y, hy, rfl⟩ := List.mem_map.mp hx
  have := h y (List.mem_reverse.mp hy)
  omega
def Cyc (c : List Int) : Prop := ∀ x y, c.getLast? = some x → c.head? = some y → x ≠ -y
structure IsCore (w c : List Int) : Prop where
  eq : ∃ a, w = a ++ c ++ con a
  cyc : Cyc c
theorem con_nil : con [] = [] := rfl
theorem con_head {a : List Int} : (con a).head? = a.getLast?.map fun x => -x := by
  unfold con
  rw [List.head?_map, List.head?_reverse]
theorem con_last {a : List Int} : (con a).getLast? = a.head?.map fun x => -x := by
  unfold con
  rw [List.getLast?_map, List.getLast?_reverse]
theorem cyc_con {c : List Int} (h : Cyc c) : Cyc (con c) := fun x y hx hy => by
  rw [con_last] at hx
  rw [con_head] at hy
  obtain ⟨p, hp, rfl⟩ := Option.map_eq_some_iff.mp hx
  obtain ⟨q, hq, rfl⟩ := Option.map_eq_some_iff.mp hy
  have := h q p hq hp
  omega
theorem cyc_one {x : Int} (h : x ≠ 0) : Cyc [x] := fun a b ha hb => by
  simp at ha hb
  subst ha hb
  omega
theorem bare_con_nil {a : List Int} (h : Bare (a ++ con a)) : a = [] := by
  cases e : a.getLast? with
  | none => exact List.getLast?_eq_none_iff.mp e
  | some x =>
    have : x ≠ -(-x) := bare_seam h e (by rw [con_head, e]; rfl)
    omega
/-- a core of a bare word is one alone -/
theorem core_unique {w c d : List Int} (hb : Bare w) (h1 : IsCore w c) (h2 : IsCore w d) : c = d := by
  obtain ⟨⟨a, e1⟩, k1⟩ := h1
  obtain ⟨⟨b, e2⟩, k2⟩ := h2
  have key : ∀ (a b c d : List Int), Bare (a ++ c ++ con a) → Cyc c → a ++ c ++ con a = b ++ d ++ con b → a.length ≤ b.length → c = d := by
    intro a
    induction a with
    | nil =>
      intro b c d hb hc e hl
      rw [con_nil, List.nil_append, List.append_nil] at e hb
      cases b with
      | nil => simpa [con_nil] using e
      | cons x b =>
        have hx : c.head? = some x := by rw [e]; rfl
        have hy : c.getLast? = some (-x) := by
          rw [e, con_cons, ← List.append_assoc, List.getLast?_append]
          rfl
        have := hc _ _ hy hx
        omega
    | cons x a ih =>
      intro b c d hb hc e hl
      cases b with
      | nil => simp at hl
      | cons y b =>
        rw [con_cons, con_cons] at e
        simp only [List.cons_append, List.cons.injEq] at e
        obtain ⟨rfl, e⟩ := e
        rw [← List.append_assoc, ← List.append_assoc] at e
        have e' := (List.append_inj_left' e rfl)
        refine ih b c d ?_ hc e' (by simpa using hl)
        rw [con_cons] at hb
        simp only [List.cons_append] at hb
        have := hb.tail
        rw [← List.append_assoc] at this
        exact (bare_app this).1
  rcases Nat.le_total a.length b.length with q | q
  · exact key a b c d (e1 ▸ hb) k1 (e1.symm.trans e2) q
  · exact (key b a d c (e2 ▸ hb) k2 (e2.symm.trans e1) q).symm
theorem core_nil_iff {w c : List Int} (hb : Bare w) (h : IsCore w c) : c = [] ↔ w = [] := by
  obtain ⟨⟨a, rfl⟩, k⟩ := h
  constructor
  · rintro rfl
    rw [List.append_nil] at hb ⊢
    rw [bare_con_nil hb]
    rfl
  · intro e
    rw [List.append_eq_nil_iff, List.append_eq_nil_iff] at e
    exact e.1.2
theorem core_bare {w c : List Int} (hb : Bare w) (h : IsCore w c) : Bare c := by
  obtain ⟨⟨a, rfl⟩, k⟩ := h
  exact (bare_app (bare_app hb).1).2
theorem core_mem {w c : List Int} (h : IsCore w c) : ∀ x ∈ c, x ∈ w := by
  obtain ⟨⟨a, rfl⟩, k⟩ := h
  intro x hx
  exact List.mem_append_left _ (List.mem_append_right _ hx)
theorem core_len {w c : List Int} (h : IsCore w c) : c.length ≤ w.length := by
  obtain ⟨⟨a, rfl⟩, k⟩ := h
  simp only [List.length_append]
  omega
theorem core_of_cyc {c : List Int} (h : Cyc c) : IsCore c c := ⟨⟨[], by simp [con_nil]⟩, h⟩
theorem core_con {w c : List Int} (h : IsCore w c) : IsCore (con w) (con c) := by
  obtain ⟨⟨a, rfl⟩, k⟩ := h
  refine ⟨⟨a, ?_⟩, cyc_con k⟩
  rw [con_app, con_app, con_con, List.append_assoc]
/-- rotations of what closes up close up -/
theorem rots_cyc {c d : List Int} (hb : Bare c) (hc : Cyc c) (h : d ∈ rots c) : Bare d ∧ Cyc d := by
  obtain ⟨a, b, rfl, rfl⟩ := mem_rots_app.mp h
  cases a with
  | nil => simpa using ⟨hb, hc⟩
  | cons x a =>
    cases b with
    | nil =>
      rw [List.append_nil] at hb hc
      simpa using ⟨hb, hc⟩
    | cons y b =>
      obtain ⟨h1, h2⟩ := bare_app hb
      constructor
      · refine bare_join h2 h1 fun p q hp hq => hc p q ?_ ?_
        · rw [List.getLast?_append, hp]; rfl
        · simpa using hq
      · intro p q hp hq
        refine bare_seam hb (x := p) (y := q) ?_ ?_
        · rw [List.getLast?_append] at hp
          simpa using hp
        · simpa using hq
/-- turning by one letter -/
theorem turn_one {w c : List Int} {x : Int} (hb : Bare w) (hz : NZ w) (hx : x ≠ 0) (h : IsCore w c) : ∃ d, IsCore (bareW (x :: w ++ [-x])) d ∧ d ∈ rots c := by
  obtain ⟨⟨a, rfl⟩, k⟩ := h
  cases a with
  | cons y a =>
    have hb0 := hb
    rw [con_cons] at hb ⊢
    by_cases e : x = -y
    · refine ⟨c, ⟨⟨a, ?_⟩, k⟩, rots_self c⟩
      have e1 : x :: (y :: a ++ c ++ (con a ++ [-y])) ++ [-x] = [] ++ x :: y :: ((a ++ c ++ con a) ++ [-y, -x]) := by simp
      rw [e1, bareW_strike _ _ _ _ e]
      have e2 : [] ++ ((a ++ c ++ con a) ++ [-y, -x]) = (a ++ c ++ con a) ++ -y :: -x :: [] := by simp
      rw [e2, bareW_strike _ _ _ _ (by omega), List.append_nil]
      refine bareW_of ?_
      simp only [List.cons_append] at hb
      have := hb.tail
      rw [← List.append_assoc] at this
      exact (bare_app this).1
    · refine ⟨c, ⟨⟨x :: y :: a, ?_⟩, k⟩, rots_self c⟩
      rw [bareW_of, con_cons x, con_cons]
      · simp
      · rw [con_cons] at hb0
        refine bare_join (a := x :: (y :: a ++ c ++ (con a ++ [-y]))) ⟨e, hb0⟩ trivial fun p q hp hq => ?_
        simp only [List.head?_cons, Option.some.injEq] at hq
        have : (x :: (y :: a ++ c ++ (con a ++ [-y]))).getLast? = some (-y) := by
          rw [show x :: (y :: a ++ c ++ (con a ++ [-y])) = (x :: (y :: a ++ c ++ con a)) ++ [-y] by simp]
          exact List.getLast?_concat
        rw [this] at hp
        cases hp
        omega
  | nil =>
    rw [con_nil, List.nil_append, List.append_nil] at *
    cases c with
    | nil =>
      refine ⟨[], ⟨⟨[], ?_⟩, k⟩, rots_self _⟩
      have := bareW_strike [] [] x (-x) (by omega)
      simpa [bareW, red, con_nil] using this
    | cons y t =>
      by_cases e : x = -y
      · have hr : t ++ [y] ∈ rots (y :: t) := mem_rots_app.mpr ⟨[y], t, rfl, rfl⟩
        obtain ⟨h1, h2⟩ := rots_cyc hb k hr
        refine ⟨t ++ [y], ?_, hr⟩
        have e1 : x :: y :: t ++ [-x] = [] ++ x :: y :: (t ++ [y]) := by rw [e]; simp
        rw [e1, bareW_strike _ _ _ _ e, List.nil_append, bareW_of h1]
        exact core_of_cyc h2
      · obtain ⟨t', z, ez⟩ : ∃ t' z, y :: t = t' ++ [z] := ⟨(y :: t).dropLast, (y :: t).getLast (by simp), (List.dropLast_concat_getLast (by simp)).symm⟩
        by_cases e2 : x = z
        · have hr : z :: t' ∈ rots (y :: t) := mem_rots_app.mpr ⟨t', [z], ez, rfl⟩
          obtain ⟨h1, h2⟩ := rots_cyc hb k hr
          refine ⟨z :: t', ?_, hr⟩
          have e1 : x :: (y :: t) ++ [-x] = (x :: t') ++ z :: -x :: [] := by rw [ez]; simp
          rw [e1, bareW_strike _ _ _ _ (by omega), List.append_nil, e2, bareW_of h1]
          exact core_of_cyc h2
        · refine ⟨y :: t, ⟨⟨[x], ?_⟩, k⟩, rots_self _⟩
          rw [bareW_of]
          · simp [con]
          · refine bare_join (a := x :: y :: t) ⟨e, hb⟩ trivial fun p q hp hq => ?_
            simp only [List.head?_cons, Option.some.injEq] at hq
            have : (x :: y :: t).getLast? = some z := by
              rw [ez, ← List.cons_append]
              exact List.getLast?_concat
            rw [this] at hp
            cases hp
            omega
theorem bareW_nz {w : List Int} (h : NZ w) : NZ (bareW w) := by
  have key : ∀ (row s : List Int), NZ s → NZ row → NZ (red s row) := by
    intro row
    induction row with
    | nil => intro s h1 _; exact h1
    | cons x row ih =>
      intro s h1 h2
      rw [red_cons]
      refine ih _ ?_ fun y hy => h2 y (List.mem_cons_of_mem _ hy)
      cases s with
      | nil =>
        intro y hy
        simp [push] at hy
        subst hy
        exact h2 _ List.mem_cons_self
      | cons z s =>
        intro y hy
        simp only [push] at hy
        split at hy
        · exact h1 y (List.mem_cons_of_mem _ hy)
        · rcases List.mem_cons.mp hy with rfl | hy
          · exact h2 _ List.mem_cons_self
          · exact h1 y hy
  intro x hx
  unfold bareW at hx
  exact key w [] (fun _ h => nomatch h) h x (List.mem_reverse.mp hx)
theorem turn_core {w c : List Int} (hb : Bare w) (hz : NZ w) (h : IsCore w c) : ∀ b : List Int, NZ b → ∃ d, IsCore (bareW (b ++ w ++ con b)) d ∧ d ∈ rots c
  | [], _ => ⟨c, by rw [con_nil, List.nil_append, List.append_nil, bareW_of hb]; exact h, rots_self c⟩
  | x :: b, hn => by
    obtain ⟨d, h1, h2⟩ := turn_core hb hz h b fun y hy => hn y (List.mem_cons_of_mem _ hy)
    have hn' : NZ b := fun y hy => hn y (List.mem_cons_of_mem _ hy)
    obtain ⟨e, h3, h4⟩ := turn_one (x := x) (bareW_bare _) (bareW_nz (NZ.join (NZ.join hn' hz) hn'.con)) (hn x List.mem_cons_self) h1
    refine ⟨e, ?_, rots_trans h2 h4⟩
    have e1 : x :: b ++ w ++ con (x :: b) = [x] ++ (b ++ w ++ con b) ++ [-x] := by rw [con_cons]; simp
    rw [e1, ← bareW_mid]
    exact h3
/-! powers of rows -/
theorem ltT_app : ∀ {a b u v : List Int}, a.length = b.length → ltT (a ++ u) (b ++ v) = if a = b then ltT u v else ltT a b
  | [], [], u, v, _ => by simp
  | x :: a, y :: b, u, v, h => by
    have ih := ltT_app (a := a) (b := b) (u := u) (v := v) (by simpa using h)
    simp only [List.cons_append, ltT, ih]
    by_cases e : x = y
    · subst e
      by_cases e2 : a = b <;> simp [e2]
    · simp [e]
theorem rep3 (c : List Int) : rep 3 c = c ++ (c ++ c) := by simp [rep_succ, rep_zero]
theorem rots_rep {c x : List Int} (h : x ∈ rots (rep 3 c)) : ∃ r, r ∈ rots c ∧ x = rep 3 r := by
  obtain ⟨u, v, e, rfl⟩ := mem_rots_app.mp h
  rw [rep3] at e
  have fin3 : ∀ p q : List Int, c = p ++ q → q ++ p ∈ rots c := fun p q e => mem_rots_app.mpr ⟨p, q, e, rfl⟩
  rcases List.append_eq_append_iff.mp e with ⟨s, e1, e2⟩ | ⟨s, e1, e2⟩
  · rcases List.append_eq_append_iff.mp e2 with ⟨s', e3, e4⟩ | ⟨s', e3, e4⟩
    · exact ⟨v ++ s', fin3 _ _ e4, by rw [e1, e3, rep3]; simp [e4]⟩
    · exact ⟨s' ++ s, fin3 _ _ e3, by rw [e1, e4, rep3]; simp [e3]⟩
  · exact ⟨s ++ u, fin3 _ _ e1, by rw [e2, rep3]; simp [e1]⟩
theorem rep_rots {c r : List Int} (h : r ∈ rots c) : rep 3 r ∈ rots (rep 3 c) := by
  obtain ⟨a, b, rfl, rfl⟩ := mem_rots_app.mp h
  exact mem_rots_app.mpr ⟨a, b ++ (a ++ b) ++ (a ++ b), by rw [rep3]; simp, by rw [rep3]; simp⟩
theorem leastRot_rep (c : List Int) : leastRot (rep 3 c) = rep 3 (leastRot c) := by
  refine (leastRot_unique (rep_rots (leastRot_mem c)) fun x hx => ?_).symm
  obtain ⟨r, hr, rfl⟩ := rots_rep hx
  have hl : r.length = (leastRot c).length := by rw [rots_len hr, rots_len (leastRot_mem c)]
  have h0 := (leastRot_spec c).2 r hr
  rw [rep3, rep3, ltT_app hl]
  split
  · rename_i e
    rw [ltT_app hl, if_pos e]
    exact h0
  · exact h0
theorem cyc_rep {c : List Int} (h : Cyc c) {n : Nat} (hn : 0 < n) : Cyc (rep n c) := fun x y hx hy => by
  rw [rep_last hn] at hx
  rw [rep_head hn] at hy
  exact h x y hx hy
/-! no word but the empty one is its own contrary -/
theorem bare_at : ∀ {v : List Int} {i : Nat} {x y : Int}, Bare v → v[i]? = some x → v[i + 1]? = some y → x ≠ -y
  | a :: b :: v, 0, x, y, h, hx, hy => by
    simp at hx hy
    subst hx hy
    exact h.1
  | a :: b :: v, i + 1, x, y, h, hx, hy => bare_at (v := b :: v) (i := i) h.2 (by simpa using hx) (by simpa using hy)
  | [a], i, x, y, h, hx, hy => by simp at hy
theorem con_at {v : List Int} {i : Nat} (h : i < v.length) : (con v)[i]? = v[v.length - 1 - i]?.map fun x => -x := by
  unfold con
  rw [List.getElem?_map, List.getElem?_reverse h]
theorem own_con {v : List Int} (hb : Bare v) (hz : NZ v) (e : con v = v) : v = [] := by
  by_cases h0 : v = []
  · exact h0
  have hl : 0 < v.length := List.length_pos_iff.mpr h0
  have key : ∀ i, i < v.length → v[i]? = v[v.length - 1 - i]?.map fun x => -x := fun i hi => by
    rw [← con_at hi, e]
  obtain ⟨m, hm⟩ : ∃ m, v.length = 2 * m ∨ v.length = 2 * m + 1 := ⟨v.length / 2, by omega⟩
  rcases hm with hm | hm
  · have k := key (m - 1) (by omega)
    have e1 : v.length - 1 - (m - 1) = m - 1 + 1 := by omega
    rw [e1, List.getElem?_eq_getElem (show m - 1 + 1 < v.length by omega)] at k
    have := bare_at hb k (List.getElem?_eq_getElem (show m - 1 + 1 < v.length by omega))
    exact absurd rfl this
  · have k := key m (by omega)
    have e1 : v.length - 1 - m = m := by omega
    rw [e1, List.getElem?_eq_getElem (show m < v.length by omega)] at k
    simp at k
    have := hz (v[m]'(by omega)) (List.getElem_mem _)
    omega
theorem not_con_rot {c : List Int} (hb : Bare c) (hz : NZ c) (h : con c ∈ rots c) : c = [] := by
  obtain ⟨u, v, e1, e2⟩ := mem_rots_app.mp h
  subst e1
  rw [con_app] at e2
  obtain ⟨h1, h2⟩ := bare_app hb
  obtain ⟨z1, z2⟩ := NZ.app hz
  have e3 := List.append_inj e2 (by rw [con_length])
  rw [own_con h1 z1 e3.2, own_con h2 z2 e3.1]
  rfl
/-- its first letter is its least -/
theorem leastRot_head {c : List Int} {x : Int} (h : (leastRot c).head? = some x) : ∀ y ∈ leastRot c, x ≤ y := by
  intro y hy
  obtain ⟨a, b, e⟩ := List.append_of_mem hy
  have hr : (y :: b) ++ a ∈ rots (leastRot c) := mem_rots_app.mpr ⟨a, y :: b, e, rfl⟩
  have hn := (leastRot_spec c).2 _ (rots_trans (leastRot_mem c) hr)
  obtain ⟨t, et⟩ : ∃ t, leastRot c = x :: t := by
    cases q : leastRot c with
    | nil => rw [q] at h; cases h
    | cons z t =>
      rw [q] at h
      simp at h
      exact ⟨t, by rw [h]⟩
  rw [et] at hn
  simp only [List.cons_append, ltT] at hn
  by_cases q : y = x
  · omega
  · rw [if_neg q] at hn
    have := of_decide_eq_false hn
    omega
/-! what both loops stop at -/
theorem Stop.same {w : List Int} {j k : Nat} (s : Stop w j) (t : Stop w k) : j = k := by
  have key : ∀ {j k : Nat}, Stop w j → Stop w k → ¬ j < k := fun {j k} s t h => by
    have := t.le
    exact s.end_ ⟨by omega, t.at_ j h⟩
  have h1 := key s t
  have h2 := key t s
  omega
theorem Stop.core {w : List Int} {k : Nat} (s : Stop w k) (hb : Bare w) (hz : NZ w) : IsCore w (midW w k) := by
  refine ⟨⟨w.take k, s.eq⟩, ?_⟩
  by_cases h : w = []
  · subst h
    intro x y hx
    simp [midW] at hx
  · exact (s.mid hb h hz).2
theorem Stop.of_cyc {c : List Int} (h : Cyc c) : Stop c 0 := by
  refine ⟨by omega, fun i hi => by omega, fun ⟨h1, x, hx, hy⟩ => ?_⟩
  refine h (-x) x ?_ ?_ rfl
  · rw [List.getLast?_eq_getElem?]
    exact hy
  · rw [List.head?_eq_getElem?]
    exact hx
theorem midW_zero (c : List Int) : midW c 0 = c := by simp [midW]
end Wo
/-! Wo: roots, words that go together -/
namespace Wo
open Sm
theorem rep_one (w : List Int) : rep 1 w = w := by simp [rep]
theorem rep_add (m n : Nat) (w : List Int) : rep (m + n) w = rep m w ++ rep n w := by
  induction m with
  | zero => simp [rep_zero]
  | succ m ih =>
    have : m + 1 + n = (m + n) + 1 := by omega
    rw [this, rep_succ, rep_succ, ih, List.append_assoc]
theorem rep_mul (m n : Nat) (w : List Int) : rep m (rep n w) = rep (m * n) w := by
  induction m with
  | zero => simp [rep_zero]
  | succ m ih => rw [rep_succ, ih, Nat.succ_mul, Nat.add_comm, rep_add]
/-- no power of a shorter one -/
def Prim (x : List Int) : Prop := x ≠ [] ∧ ∀ (z : List Int) (k : Nat), x = rep k z → k = 1
theorem ls_comm : ∀ (n : Nat) (u v : List Int), u.length + v.length ≤ n → u ++ v = v ++ u → ∃ z i j, u = rep i z ∧ v = rep j z := by
  intro n
  induction n with
  | zero =>
    intro u v h _
    have h1 : u = [] := List.eq_nil_of_length_eq_zero (by omega)
    have h2 : v = [] := List.eq_nil_of_length_eq_zero (by omega)
    exact ⟨[], 0, 0, by rw [h1, rep_zero], by rw [h2, rep_zero]⟩
  | succ n ih =>
    have key : ∀ (u v : List Int), u.length + v.length ≤ n + 1 → u.length ≤ v.length → u ++ v = v ++ u → ∃ z i j, u = rep i z ∧ v = rep j z := by
      intro u v h hl e
      by_cases h0 : u = []
      · exact ⟨v, 0, 1, by rw [h0, rep_zero], (rep_one v).symm⟩
      · obtain ⟨w, rfl⟩ : ∃ w, v = u ++ w := by
          rcases List.append_eq_append_iff.mp e with ⟨s, e1, e2⟩ | ⟨s, e1, e2⟩
          · exact ⟨s, e1⟩
          · have hs : s = [] := List.eq_nil_of_length_eq_zero (by
              have := congrArg List.length e1
              rw [List.length_append] at this
              omega)
            subst hs
            exact ⟨[], by simpa using e1.symm⟩
        have e2 : u ++ w = w ++ u := by
          rw [List.append_assoc] at e
          exact List.append_cancel_left e
        have hlen : 0 < u.length := List.length_pos_iff.mpr h0
        rw [List.length_append] at h
        obtain ⟨z, i, j, h1, h2⟩ := ih u w (by omega) e2
        exact ⟨z, i, i + j, h1, by rw [rep_add, ← h1, ← h2]⟩
    intro u v h e
    by_cases hl : u.length ≤ v.length
    · exact key u v h hl e
    · obtain ⟨z, i, j, h1, h2⟩ := key v u (by omega) (by omega) e.symm
      exact ⟨z, j, i, h2, h1⟩
theorem rot_prim {x B R : List Int} (hp : Prim x) (hx : x = B ++ R) (e : B ++ R = R ++ B) : B = [] ∨ R = [] := by
  obtain ⟨z, i, j, h1, h2⟩ := ls_comm _ B R (Nat.le_refl _) e
  have h3 := hp.2 z (i + j) (by rw [rep_add, ← h1, ← h2]; exact hx)
  by_cases hi : i = 0
  · left; rw [h1, hi, rep_zero]
  · right
    have : j = 0 := by omega
    rw [h2, this, rep_zero]
theorem comm_prim {x : List Int} (hp : Prim x) {m : Nat} (hm : 0 < m) : ∀ (n : Nat) (B : List Int), B.length ≤ n → rep m x ++ B = B ++ rep m x → ∃ j, B = rep j x := by
  obtain ⟨k, rfl⟩ : ∃ k, m = k + 1 := ⟨m - 1, by omega⟩
  have hx0 : 0 < x.length := List.length_pos_iff.mpr hp.1
  intro n
  induction n with
  | zero =>
    intro B h _
    exact ⟨0, by rw [rep_zero]; exact List.eq_nil_of_length_eq_zero (by omega)⟩
  | succ n ih =>
    intro B h e
    by_cases hl : x.length ≤ B.length
    · obtain ⟨C, rfl⟩ : ∃ C, B = x ++ C := by
        have e2 := congrArg (List.take x.length) e
        rw [rep_succ, List.append_assoc, List.take_left, List.take_append_of_le_length hl] at e2
        exact ⟨B.drop x.length, by
          have := (List.take_append_drop x.length B).symm
          rw [← e2] at this
          exact this⟩
      have e3 : rep (k + 1) x ++ C = C ++ rep (k + 1) x := by
        have : x ++ (rep (k + 1) x ++ C) = x ++ (C ++ rep (k + 1) x) := by
          rw [← List.append_assoc, ← List.append_assoc, rep_comm, List.append_assoc]
          exact e
        exact List.append_cancel_left this
      rw [List.length_append] at h
      obtain ⟨j, hj⟩ := ih C (by omega) e3
      exact ⟨j + 1, by rw [rep_succ, ← hj]⟩
    · obtain ⟨R, hR⟩ : ∃ R, x = B ++ R := by
        have e2 := congrArg (List.take B.length) e
        rw [rep_succ, List.append_assoc, List.take_left, List.take_append_of_le_length (by omega)] at e2
        exact ⟨x.drop B.length, by
          have := (List.take_append_drop B.length x).symm
          rw [e2] at this
          exact this⟩
      have e3 : R ++ (rep k x ++ B) = x ++ rep k x := by
        have : B ++ (R ++ (rep k x ++ B)) = B ++ (x ++ rep k x) := by
          rw [rep_succ] at e
          rw [← List.append_assoc B R, ← hR, ← List.append_assoc]
          exact e
        exact List.append_cancel_left this
      have e4 : ∃ T, R ++ B ++ T = x ++ rep k x := by
        cases k with
        | zero => exact ⟨[], by rw [rep_zero] at e3 ⊢; simpa using e3⟩
        | succ k =>
          refine ⟨R ++ rep k x ++ B, ?_⟩
          rw [← e3, rep_succ]
          conv => rhs; rw [hR]
          simp only [List.append_assoc]
          rw [← hR]
      obtain ⟨T, e4⟩ := e4
      have e5 : R ++ B = x := by
        refine (List.append_inj e4 ?_).1
        rw [hR, List.length_append, List.length_append, Nat.add_comm]
      rcases rot_prim hp hR (by rw [← hR, e5]) with h1 | h1
      · exact ⟨0, by rw [h1, rep_zero]⟩
      · rw [h1, List.append_nil] at hR
        rw [hR] at hl
        omega
/-- what a cut of equal pieces is -/
structure Per (c : List Int) (p : Nat) : Prop where
  pos : 0 < p
  le : p ≤ c.length
  dv : c.length % p = 0
  eq : rep (c.length / p) (c.take p) = c
theorem prim_per {x : List Int} {m : Nat} (hp : Prim x) (hm : 0 < m) : Per (rep m x) x.length ∧ ∀ q, Per (rep m x) q → x.length ≤ q := by
  have hx0 : 0 < x.length := List.length_pos_iff.mpr hp.1
  have hl : (rep m x).length = m * x.length := rep_length m x
  have ht : (rep m x).take x.length = x := by
    obtain ⟨k, rfl⟩ : ∃ k, m = k + 1 := ⟨m - 1, by omega⟩
    rw [rep_succ, List.take_left]
  constructor
  · refine ⟨hx0, ?_, ?_, ?_⟩
    · rw [hl]; exact Nat.le_mul_of_pos_left _ hm
    · rw [hl]; exact Nat.mul_mod_left _ _
    · rw [hl, ht, Nat.mul_div_cancel _ hx0]
  · intro q h
    obtain ⟨z, k, hz, hq⟩ : ∃ z k, rep m x = rep k z ∧ z.length = q := ⟨_, _, h.eq.symm, by rw [List.length_take]; exact Nat.min_eq_left h.le⟩
    have e : rep m x ++ z = z ++ rep m x := by rw [hz, rep_comm]
    obtain ⟨t, ht⟩ := comm_prim hp hm _ z (Nat.le_refl _) e
    have h0 := h.pos
    have : t ≠ 0 := fun e => by
      subst e
      rw [rep_zero] at ht
      subst ht
      simp at hq
      omega
    have h2 : z.length = t * x.length := by rw [ht, rep_length]
    have h3 : 1 * x.length ≤ t * x.length := Nat.mul_le_mul_right _ (by omega)
    omega
theorem per_prim {c : List Int} {p : Nat} (h : Per c p) (hl : ∀ q, Per c q → p ≤ q) : Prim (c.take p) ∧ c = rep (c.length / p) (c.take p) ∧ 0 < c.length / p := by
  have hp := h.pos
  have hle := h.le
  have hlt : (c.take p).length = p := by rw [List.length_take]; exact Nat.min_eq_left hle
  have hc : c ≠ [] := fun e => by rw [e] at hle; simp at hle; omega
  have hd : 0 < c.length / p := Nat.div_pos hle hp
  refine ⟨⟨fun e => by rw [e] at hlt; simp at hlt; omega, fun z k e => ?_⟩, h.eq.symm, hd⟩
  have hz : c = rep (c.length / p * k) z := by rw [← rep_mul, ← e]; exact h.eq.symm
  have hk0 : k ≠ 0 := fun q => by
    subst q
    rw [rep_zero] at e
    rw [e] at hlt
    simp at hlt
    omega
  have hkl : p = k * z.length := by rw [← hlt, e, rep_length]
  have hz0 : 0 < z.length := by
    refine Nat.pos_of_ne_zero fun q => ?_
    rw [q] at hkl
    omega
  generalize hm : c.length / p * k = m at hz
  have hm0 : 0 < m := by rw [← hm]; exact Nat.mul_pos hd (by omega)
  have hcl : c.length = m * z.length := by rw [hz, rep_length]
  have hP : Per c z.length := by
    refine ⟨hz0, ?_, ?_, ?_⟩
    · rw [hcl]; exact Nat.le_mul_of_pos_left _ hm0
    · rw [hcl]; exact Nat.mul_mod_left _ _
    · have ht : c.take z.length = z := by
        rw [hz]
        obtain ⟨k, rfl⟩ : ∃ k, m = k + 1 := ⟨m - 1, by omega⟩
        rw [rep_succ, List.take_left]
      rw [ht, hcl, Nat.mul_div_cancel _ hz0]
      exact hz.symm
  have := hl _ hP
  have h2 : k * z.length ≤ 1 * z.length := by omega
  have := Nat.le_of_mul_le_mul_right h2 hz0
  omega
theorem per_ex {c : List Int} (h : c ≠ []) : ∃ p, Per c p ∧ ∀ q, Per c q → p ≤ q := by
  have hl : 0 < c.length := List.length_pos_iff.mpr h
  have h0 : Per c c.length := ⟨hl, Nat.le_refl _, Nat.mod_self _, by rw [Nat.div_self hl, List.take_length, rep_one]⟩
  have key : ∀ n p, p ≤ n → Per c p → ∃ p, Per c p ∧ ∀ q, Per c q → p ≤ q := by
    intro n
    induction n with
    | zero =>
      intro p hp h
      have := h.pos
      omega
    | succ n ih =>
      intro p hp h
      by_cases q : ∃ q, Per c q ∧ q < p
      · obtain ⟨q, h1, h2⟩ := q
        exact ih q (by omega) h1
      · exact ⟨p, h, fun r hr => by
          by_cases h3 : p ≤ r
          · exact h3
          · exact absurd ⟨r, hr, by omega⟩ q⟩
  exact key _ _ (Nat.le_refl _) h0
/-- the root of a word, in parts -/
structure Root (w u x : List Int) (m : Nat) : Prop where
  eq : w = u ++ rep m x ++ con u
  pos : 0 < m
  prim : Prim x
  cyc : Cyc x
theorem Root.stop {w u x : List Int} {m : Nat} (r : Root w u x m) : Stop w u.length ∧ w.take u.length = u ∧ midW w u.length = rep m x := by
  obtain ⟨rfl, hm, hp, hc⟩ := r
  have hcl := con_length u
  have hR := cyc_rep hc hm
  have hlen : (u ++ rep m x ++ con u).length = 2 * u.length + (rep m x).length := by
    rw [List.length_append, List.length_append, hcl]
    omega
  generalize rep m x = c at *
  refine ⟨⟨by omega, fun i hi => ?_, ?_⟩, ?_, ?_⟩
  · refine ⟨u[i], ?_, ?_⟩
    · rw [List.append_assoc, List.getElem?_append_left hi, List.getElem?_eq_getElem hi]
    · rw [hlen, List.getElem?_append_right (by rw [List.length_append]; omega), List.length_append]
      have e : 2 * u.length + c.length - 1 - i - (u.length + c.length) = u.length - 1 - i := by omega
      rw [e, con_at (by omega)]
      have e2 : u.length - 1 - (u.length - 1 - i) = i := by omega
      rw [e2, List.getElem?_eq_getElem hi]
      rfl
  · rintro ⟨h1, x, hx, hy⟩
    have hc0 : 0 < c.length := by omega
    have a1 : c.head? = some x := by
      rw [List.append_assoc, List.getElem?_append_right (Nat.le_refl _), Nat.sub_self, List.getElem?_append_left hc0] at hx
      rw [List.head?_eq_getElem?]
      exact hx
    have a2 : c.getLast? = some (-x) := by
      rw [hlen, List.append_assoc, List.getElem?_append_right (by omega), List.getElem?_append_left (by omega)] at hy
      rw [List.getLast?_eq_getElem?, ← hy]
      congr 1
      omega
    exact hR _ _ a2 a1 (by omega)
  · rw [List.append_assoc, List.take_left]
  · unfold midW
    rw [List.append_assoc, List.drop_left, ← List.append_assoc, hlen]
    have e : 2 * u.length + c.length - 2 * u.length = c.length := by omega
    rw [e, List.take_left]
theorem root_ex {w : List Int} {j : Nat} (hb : Bare w) (hz : NZ w) (hw : w ≠ []) (s : Stop w j) : ∃ x m, Root w (w.take j) x m := by
  obtain ⟨h1, h2⟩ := s.mid hb hw hz
  obtain ⟨p, hp, hl⟩ := per_ex h1
  obtain ⟨a, b, c⟩ := per_prim hp hl
  refine ⟨_, _, ⟨?_, c, a, ?_⟩⟩
  · rw [← b]
    exact s.eq
  · intro x y hx hy
    refine h2 x y ?_ ?_
    · rw [b, rep_last c]; exact hx
    · rw [b, rep_head c]; exact hy
theorem bare_base {u x : List Int} {m : Nat} (hb : Bare (u ++ rep m x ++ con u)) (hm : 0 < m) (hx : x ≠ []) : Bare (u ++ x ++ con u) := by
  obtain ⟨k, rfl⟩ : ∃ k, m = k + 1 := ⟨m - 1, by omega⟩
  have h1 := bare_app hb
  have h2 := h1.1
  rw [rep_succ, ← List.append_assoc] at h2
  refine bare_join (bare_app h2).1 h1.2 fun p q hp hq => ?_
  refine bare_seam hb ?_ hq
  rw [List.getLast?_append, rep_last hm]
  rw [List.getLast?_append] at hp
  exact hp
theorem Root.base {w u x : List Int} {m : Nat} (r : Root w u x m) (hb : Bare w) : Bare (u ++ x ++ con u) := bare_base (by rw [← r.eq]; exact hb) r.pos r.prim.1
theorem Root.own {w u x : List Int} {m : Nat} (r : Root w u x m) : Root (u ++ x ++ con u) u x 1 := ⟨by rw [rep_one], by omega, r.prim, r.cyc⟩
theorem Root.raise {w u x : List Int} {m : Nat} (r : Root w u x m) (k : Nat) (hk : 0 < k) : Root (u ++ rep k x ++ con u) u x k := ⟨rfl, hk, r.prim, r.cyc⟩
theorem con_nil_iff {x : List Int} : con x = [] ↔ x = [] := by
  unfold con
  simp
theorem prim_con {x : List Int} (h : Prim x) : Prim (con x) := ⟨fun e => h.1 (con_nil_iff.mp e), fun z k e => h.2 (con z) k (by
  rw [← con_rep, ← e, con_con])⟩
theorem ends_zero {a b : List Int} (h : ∀ y x, a.head? = some y → b.head? = some x → y ≠ -x) : ends a b = 0 := by
  cases a with
  | nil => simp [ends]
  | cons y a =>
    cases b with
    | nil => simp [ends]
    | cons x b => simp [ends, h y x rfl rfl]
theorem ends_pos {a b : List Int} (h : ends a b ≠ 0) : ∃ y x, a.head? = some y ∧ b.head? = some x ∧ y = -x := by
  cases a with
  | nil => simp [ends] at h
  | cons y a =>
    cases b with
    | nil => simp [ends] at h
    | cons x b =>
      by_cases e : y = -x
      · exact ⟨y, x, rfl, rfl, e⟩
      · simp [ends, e] at h
theorem same_ends {A B : List Int} (ha : Bare A) (hb : Bare B) (e : bareW (A ++ B) = bareW (B ++ A)) : ends A.reverse B = ends B.reverse A := by
  rw [product_eq ha hb, product_eq hb ha] at e
  have h1 := ends_le A.reverse B
  have h2 := ends_le B.reverse A
  rw [List.length_reverse] at h1 h2
  have := congrArg List.length e
  simp only [List.length_append, List.length_take, List.length_drop] at this
  omega
theorem no_ends {A B : List Int} (ha : Bare A) (hb : Bare B) (e : bareW (A ++ B) = bareW (B ++ A)) (h0 : ends A.reverse B = 0) : A ++ B = B ++ A := by
  have h1 := same_ends ha hb e
  rw [product_eq ha hb, product_eq hb ha, ← h1, h0] at e
  simpa using e
theorem comm_con {A B : List Int} (e : bareW (A ++ B) = bareW (B ++ A)) : bareW (A ++ con B) = bareW (con B ++ A) := by
  have h1 : bareW (con B ++ (A ++ B) ++ con B) = bareW (con B ++ A) := by
    have := bareW_con_r (con B ++ A) B []
    simpa using this
  have h2 : bareW (con B ++ (B ++ A) ++ con B) = bareW (A ++ con B) := by
    have := bareW_con_l [] B (A ++ con B)
    simpa using this
  rw [← h1, ← h2, ← bareW_mid _ (A ++ B), e, bareW_mid]
theorem comm_lists {A B : List Int} (ha : Bare A) (hc : Cyc A) (hb : Bare B) (e : bareW (A ++ B) = bareW (B ++ A)) : A ++ B = B ++ A ∨ A ++ con B = con B ++ A := by
  by_cases h0 : ends A.reverse B = 0
  · exact .inl (no_ends ha hb e h0)
  · right
    obtain ⟨y, x, h1, h2, h3⟩ := ends_pos h0
    have e2 := comm_con e
    refine no_ends ha (con_bare hb) e2 ?_
    rw [same_ends ha (con_bare hb) e2]
    refine ends_zero fun p q hp hq => ?_
    rw [List.head?_reverse, con_last, h2] at hp
    rw [List.head?_reverse] at h1
    have hp' : -x = p := by simpa using hp
    have := hc y q h1 hq
    omega
theorem comm_root {a b u x : List Int} {m : Nat} (r : Root a u x m) (ha : Bare a) (hb : Bare b) (h0 : b ≠ []) (e : bareW (a ++ b) = bareW (b ++ a)) : ∃ j, 0 < j ∧ (b = u ++ rep j x ++ con u ∨ b = u ++ rep j (con x) ++ con u) := by
  have hbase := r.base ha
  obtain ⟨rfl, hm, hp, hc⟩ := r
  have hA : Bare (rep m x) := (bare_app (bare_app ha).1).2
  have hcA := cyc_rep hc hm
  obtain ⟨B, hB⟩ : ∃ B, B = bareW (con u ++ b ++ u) := ⟨_, rfl⟩
  have hBb : Bare B := by rw [hB]; exact bareW_bare _
  have back : bareW (u ++ B ++ con u) = b := by
    rw [hB, bareW_mid]
    have h1 := bareW_con_r [] u (b ++ u ++ con u)
    have h2 := bareW_con_r b u []
    simp only [List.nil_append, List.append_nil, List.append_assoc] at h1 h2 ⊢
    rw [h1, h2, bareW_of hb]
  have hcomm : bareW (rep m x ++ B) = bareW (B ++ rep m x) := by
    have k1 : bareW (rep m x ++ B) = bareW (con u ++ ((u ++ rep m x ++ con u) ++ b) ++ u) := by
      rw [hB, bareW_right]
      have := bareW_con_l [] u (rep m x ++ con u ++ b ++ u)
      simp only [List.nil_append, List.append_assoc] at this ⊢
      rw [this]
    have k2 : bareW (B ++ rep m x) = bareW (con u ++ (b ++ (u ++ rep m x ++ con u)) ++ u) := by
      rw [hB, bareW_left]
      have := bareW_con_l (con u ++ b ++ u ++ rep m x) u []
      simp only [List.append_nil, List.append_assoc] at this ⊢
      rw [this]
    rw [k1, k2, ← bareW_mid, e, bareW_mid]
  have hBn : B ≠ [] := fun q => by
    rw [q, List.append_nil] at back
    have := bareW_con_r [] u []
    simp only [List.nil_append, List.append_nil] at this
    rw [this] at back
    exact h0 back.symm
  rcases comm_lists hA hcA hBb hcomm with q | q
  · obtain ⟨j, hj⟩ := comm_prim hp hm _ B (Nat.le_refl _) q
    have hj0 : 0 < j := Nat.pos_of_ne_zero fun z => hBn (by rw [hj, z, rep_zero])
    refine ⟨j, hj0, .inl ?_⟩
    rw [← back, hj, bareW_of (power_bare hbase hp.1 hc hj0)]
  · obtain ⟨j, hj⟩ := comm_prim hp hm _ (con B) (Nat.le_refl _) q
    have hj0 : 0 < j := Nat.pos_of_ne_zero fun z => hBn (by
      rw [z, rep_zero] at hj
      exact con_nil_iff.mp hj)
    have hB2 : B = rep j (con x) := by rw [← con_rep, ← hj, con_con]
    have hb2 : Bare (u ++ con x ++ con u) := by
      have := con_bare hbase
      rw [con_app, con_app, con_con, ← List.append_assoc] at this
      exact this
    refine ⟨j, hj0, .inr ?_⟩
    rw [← back, hB2, bareW_of (power_bare hb2 (fun e => hp.1 (con_nil_iff.mp e)) (cyc_con hc) hj0)]
end Wo
namespace K01
open PySem L2 Sm Wo
/-! ### judging -/
def isInt (d : D) : Bool := match d with
  | .int _ => true
  | _ => false
def typed (h : Hh) (d : D) : Prop := match d with
  | .ro _ => False
  | .ty _ => False
  | .ref n => ∃ o, h[n]? = some o
  | _ => True
theorem typed_app {h g : Hh} {d : D} (t : typed h d) : typed (h ++ g) d := by
  cases d <;> simp only [typed] at t ⊢
  obtain ⟨o, e⟩ := t
  exact ⟨o, by rw [List.getElem?_append_left (List.getElem?_eq_some_iff.mp e).1]; exact e⟩
theorem whole_eq {h : Hh} {d : D} (t : typed h d) : m_is_whole [d] h = .ok (.bl (isInt d)) h := by
  cases d with
  | ref n =>
    obtain ⟨o, e⟩ := t
    cases o <;> simp [m_is_whole, b_is_whole, fIsi, tyNm, e, subTy, tyNms, isInt, List.replicate]
  | ro _ => exact t.elim
  | ty _ => exact t.elim
  | _ => simp [m_is_whole, b_is_whole, fIsi, tyNm, subTy, tyNms, isInt, List.replicate]
theorem within_eq (v a b : Int) (h : Hh) : m_is_within [.int v, .int a, .int b] h = .ok (.bl (decide (a ≤ v) && decide (v ≤ b))) h := by
  simp [m_is_within, b_is_within, whole_eq (d := .int v) trivial, isInt, List.replicate]
  by_cases h1 : a ≤ v <;> simp [h1]
theorem wholes_tup {h : Hh} {l : List D} (hz : l.length ≤ sz) (ht : ∀ d ∈ l, typed h d) : m_are_wholes [.tup l] h = .ok (.bl (l.all isInt)) h := by
  simp [m_are_wholes, b_are_wholes, fIsi, tyNm, subTy, tyNms, List.replicate]
  rw [comp_map (fun d => .bl (isInt d)) l hz ?_]
  · simp [List.all_map, Function.comp_def]
  · exact fun d hd a => ⟨_, rfl, by simp [whole_eq (typed_app (ht d hd))]⟩
theorem wholes_no {h : Hh} {d : D} (t : typed h d) (hd : ∀ l, d ≠ .tup l) : m_are_wholes [d] h = .ok (.bl false) h := by
  cases d with
  | ref n =>
    obtain ⟨o, e⟩ := t
    cases o <;> simp [m_are_wholes, b_are_wholes, fIsi, tyNm, e, subTy, tyNms, List.replicate]
  | ro _ => exact t.elim
  | ty _ => exact t.elim
  | tup l => exact absurd rfl (hd l)
  | _ => simp [m_are_wholes, b_are_wholes, fIsi, tyNm, subTy, tyNms, List.replicate]
theorem letters_ok {n : Int} (h : Hh) (h1 : 1 ≤ n) (h2 : n ≤ 5) : m_require_letters [.int n] h = .ok .non h := by
  simp [m_require_letters, b_require_letters, m_require_within, b_require_within, within_eq, List.replicate, h1, h2]
/-- a row of letters -/
def Row (n : Int) (ns : List Int) : Bool := ns.all fun x => decide (1 ≤ (if x < 0 then -x else x)) && decide ((if x < 0 then -x else x) ≤ n)
theorem all_ints {l : List D} (e : l.all isInt = true) : ∃ ns : List Int, l = ns.map D.int := by
  induction l with
  | nil => exact ⟨[], rfl⟩
  | cons d l ih =>
    rw [List.all_cons, Bool.and_eq_true] at e
    obtain ⟨ns, rfl⟩ := ih e.2
    cases d with
    | int i => exact ⟨i :: ns, rfl⟩
    | _ => simp [isInt] at e
theorem ints_all (ns : List Int) : (ns.map D.int).all isInt = true := by
  rw [List.all_map]
  exact List.all_eq_true.mpr fun _ _ => rfl
theorem ints_typed {h : Hh} {ns : List Int} : ∀ d ∈ ns.map D.int, typed h d := fun d hd => by
  obtain ⟨i, _, rfl⟩ := List.mem_map.mp hd
  trivial
theorem row_eq {h : Hh} {n : Int} {ns : List Int} (hz : ns.length ≤ sz) : m_is_row_in [.int n, tints ns] h = .ok (.bl (Row n ns)) h := by
  have hz' : (ns.map D.int).length ≤ sz := by simpa using hz
  simp [m_is_row_in, b_is_row_in, List.replicate, wholes_tup hz' ints_typed, ints_all, -List.all_map]
  rw [comp_map (fun d => match d with | .int x => .bl (decide (1 ≤ (if x < 0 then -x else x)) && decide ((if x < 0 then -x else x) ≤ n)) | d => d) _ hz' ?_]
  · simp [Row, Function.comp_def]
  · intro d hd a
    obtain ⟨x, _, rfl⟩ := List.mem_map.mp hd
    refine ⟨_, rfl, ?_⟩
    by_cases hx : 1 ≤ (if x < 0 then -x else x) <;> simp [hx]
theorem row_no {h : Hh} {n : Int} {d : D} (e : m_are_wholes [d] h = .ok (.bl false) h) : m_is_row_in [.int n, d] h = .ok (.bl false) h := by
  simp [m_is_row_in, b_is_row_in, List.replicate, e]
def neq2 : List Int → List Bool
  | x :: y :: t => (!decide (x = -y)) :: neq2 (y :: t)
  | _ => []
theorem neq2_bare : ∀ ns : List Int, (neq2 ns).all id = decide (Bare ns)
  | [] => rfl
  | [_] => rfl
  | x :: y :: t => by
    have := neq2_bare (y :: t)
    by_cases e : x = -y <;> simp [neq2, Bare, e, this]
theorem pairs_neq : ∀ ns : List Int, (pairs (ns.map D.int) ((ns.drop 1).map D.int)).map (fun d => match d with | .tup [.int x, .int y] => D.bl (!decide (x = -y)) | d => d) = (neq2 ns).map D.bl
  | [] => rfl
  | [_] => rfl
  | x :: y :: t => by
    have := pairs_neq (y :: t)
    simp only [List.drop_one, List.tail_cons, List.map_cons, pairs, neq2] at this ⊢
    rw [this]
theorem pairs_mem : ∀ {ms ns : List Int} {d : D}, d ∈ pairs (ms.map D.int) (ns.map D.int) → ∃ x y, d = .tup [.int x, .int y]
  | [], _, _, h => by simp [pairs] at h
  | _ :: _, [], _, h => by simp [pairs] at h
  | a :: l, b :: k, d, h => by
    simp only [List.map_cons, pairs, List.mem_cons] at h
    rcases h with h | h
    · exact ⟨a, b, h⟩
    · exact pairs_mem h
theorem any_eq {h : Hh} {n : Int} {ns : List Int} (hz : ns.length ≤ sz) : m_is_word_any [.int n, tints ns] h = .ok (.bl (Row n ns && decide (Bare ns))) h := by
  simp [m_is_word_any, b_is_word_any, List.replicate, row_eq hz]
  by_cases hr : Row n ns = true
  · simp [hr, cutD_from]
    rw [← List.drop_one, comp_map (fun d => match d with | .tup [.int x, .int y] => D.bl (!decide (x = -y)) | d => d) _ (by rw [pairs_len]; simp; omega) ?_]
    · rw [← List.map_drop, pairs_neq]
      simp [neq2_bare]
    · intro d hd a
      rw [← List.map_drop] at hd
      obtain ⟨x, y, rfl⟩ := pairs_mem hd
      refine ⟨_, rfl, ?_⟩
      simp
  · simp [hr]
theorem any_no {h : Hh} {n : Int} {d : D} (e : m_are_wholes [d] h = .ok (.bl false) h) : m_is_word_any [.int n, d] h = .ok (.bl false) h := by
  simp [m_is_word_any, b_is_word_any, List.replicate, row_no e]
/-- a word: at most 200 letters, bare -/
def Word (n : Int) (ns : List Int) : Bool := Row n ns && decide (Bare ns) && decide (ns.length ≤ 200)
theorem word_eq {h : Hh} {n : Int} {ns : List Int} (hz : ns.length ≤ sz) : m_is_word_in [.int n, tints ns] h = .ok (.bl (Word n ns)) h := by
  simp [m_is_word_in, b_is_word_in, List.replicate, any_eq hz, Word]
  by_cases h1 : Row n ns = true <;> by_cases h2 : Bare ns <;> simp [h1, h2] <;> omega
theorem word_no {h : Hh} {n : Int} {d : D} (e : m_are_wholes [d] h = .ok (.bl false) h) : m_is_word_in [.int n, d] h = .ok (.bl false) h := by
  simp [m_is_word_in, b_is_word_in, List.replicate, any_no e]
theorem rq_word {h : Hh} {n : Int} {ns : List Int} (hw : Word n ns = true) : m_require_word [.int n, tints ns] h = .ok .non h := by
  have hz : ns.length ≤ sz := by
    simp only [Word, Bool.and_eq_true, decide_eq_true_eq] at hw
    have := hw.2
    rw [sz_eq]
    omega
  simp [m_require_word, b_require_word, List.replicate, word_eq hz, hw]
theorem rq_lw {h : Hh} {n : Int} {ns : List Int} (h1 : 1 ≤ n) (h2 : n ≤ 5) (hw : Word n ns = true) : m_require_letters_and_word [.int n, tints ns] h = .ok .non h := by
  simp [m_require_letters_and_word, b_require_letters_and_word, List.replicate, letters_ok _ h1 h2, rq_word hw]
/-! ### bare forms -/
theorem bare_loop {h : Hh} {a : D} {ng : FE} {good : Hh → Bool} (hgd : ∀ g, good (h ++ g) = true) (hng : ∀ (x : Int) (v0 v1 : Option D) (h' : Hh), ng [v0, v1, some (.int x)] h' = .ok (.int (-x)) h') : ∀ (row s : List Int) (e : Option D) (g : Hh), s.length + row.length < sz →
    ∃ e' g', loop good (gNm 2) (sIf (tAnd (tB (eBin oNe (eVar 1) (eLst aNil))) (tB (eBin oEq (eBin oIx (eVar 1) (eUn oNeg (eC (.int 1)))) ng)))
      (sEx (eBM isLst oPop (eVar 1) aNil)) (sEx (eBM isLst oAppend (eVar 1) (aCons (eVar 2) aNil)))) (row.map D.int) [some a, some (.ref h.length), e] (h ++ .lst (s.reverse.map D.int) :: g) = .ok (.nx, [some a, some (.ref h.length), e']) (h ++ .lst ((red s row).reverse.map D.int) :: g')
  | [], s, e, g, _ => ⟨e, g, by simp [red, hgd]⟩
  | x :: row, s, e, g, hz => by
    rw [List.length_cons] at hz
    have step : ∃ g2, (sIf (tAnd (tB (eBin oNe (eVar 1) (eLst aNil))) (tB (eBin oEq (eBin oIx (eVar 1) (eUn oNeg (eC (.int 1)))) ng)))
      (sEx (eBM isLst oPop (eVar 1) aNil)) (sEx (eBM isLst oAppend (eVar 1) (aCons (eVar 2) aNil)))) [some a, some (.ref h.length), some (.int x)] (h ++ .lst (s.reverse.map D.int) :: g) = .ok (.nx, [some a, some (.ref h.length), some (.int x)]) (h ++ .lst ((push s x).reverse.map D.int) :: g2) := by
      have e1 : pEq (.ref h.length) (.ref (h ++ O.lst (s.reverse.map D.int) :: g).length) ((h ++ O.lst (s.reverse.map D.int) :: g) ++ [.lst []]) = .ok (decide (s.reverse.map D.int = [])) ((h ++ O.lst (s.reverse.map D.int) :: g) ++ [.lst []]) :=
        pEq_lst_nil (by simp) (get_end _ _ _) ⟨_, allP_ints _ _ _⟩
      cases s with
      | nil =>
        refine ⟨g ++ [.lst []], ?_⟩
        simp only [sIf_ap, tAnd_ap, tB_ap, eBin_ap, eVar_ap, eLst_ap, aNil_ap, R.bind_ok, oNe_ap, List.getElem?_cons_succ, List.getElem?_cons_zero, List.length_nil, Nat.zero_le, if_true, e1, hng]
        simp [push, sz_eq]
      | cons y t =>
        have hne : ((y :: t).reverse.map D.int = []) = False := by simp
        refine ⟨g ++ [.lst []], ?_⟩
        simp only [sIf_ap, tAnd_ap, tB_ap, eBin_ap, eVar_ap, eLst_ap, aNil_ap, R.bind_ok, oNe_ap, List.getElem?_cons_succ, List.getElem?_cons_zero, List.length_nil, Nat.zero_le, if_true, e1, hng]
        by_cases hy : y = -x
        · simp [hne, last_ints, hy, push]
        · have : t.length + 1 < sz := by simp only [List.length_cons] at hz; omega
          simp [hne, last_ints, hy, push, this]
    obtain ⟨g2, e2⟩ := step
    have hlen : (push s x).length + row.length < sz := by
      have : (push s x).length ≤ s.length + 1 := by
        cases s with
        | nil => simp [push]
        | cons y t =>
          by_cases hy : y = -x <;> simp [push, hy] <;> omega
      omega
    obtain ⟨e', g', e3⟩ := bare_loop hgd hng row (push s x) (some (.int x)) g2 hlen
    refine ⟨e', g', ?_⟩
    simp only [List.map_cons, loop_cons, hgd, if_true, gNm_ap, R.bind_ok, List.set_cons_succ, List.set_cons_zero, e2]
    exact e3
theorem contrary_eq {w : List Int} (h : Hh) (hw : w.length ≤ sz) : m_contrary_in [tints w] h = .ok (tints (con w)) h := by
  simp [m_contrary_in, b_contrary_in, List.replicate]
  rw [comp_map (fun d => match d with | .int i => .int (-i) | d => d) _ (by simpa using hw) ?_]
  · simp [con]
    have e : ((fun d => match d with | D.int i => D.int (-i) | d => d) ∘ D.int) = (D.int ∘ fun x => -x) := rfl
    rw [e, ← List.map_map, pureL_ints]
    simp
  · intro d hd h'
    obtain ⟨i, _, rfl⟩ := List.mem_map.mp (List.mem_reverse.mp hd)
    exact ⟨_, rfl, by simp⟩
/-! ### products -/
theorem ends_loop {h : Hh} {a b : List Int} : ∀ (f k : Nat), min a.length b.length - k < f → k ≤ min a.length b.length → (∃ j, ends a.reverse b = k + j ∧ j = ends (a.reverse.drop k) (b.drop k)) →
    wloop (tAnd (tB (eBin oLt (eVar 2) (eVar 3))) (tB (eBin oEq (eBin oIx (eVar 0) (eBin oSub (eUn oNeg (eC (.int 1))) (eVar 2))) (eUn oNeg (eBin oIx (eVar 1) (eVar 2))))))
      (sAug 2 iAdd (eC (.int 1))) f [some (tints a), some (tints b), some (.int k), some (.int (min a.length b.length : Nat))] h = .ok (.nx, [some (tints a), some (tints b), some (.int (ends a.reverse b : Nat)), some (.int (min a.length b.length : Nat))]) h
  | 0, k, h1, _, _ => absurd h1 (Nat.not_lt_zero _)
  | f + 1, k, h1, h2, ⟨j, h3, h4⟩ => by
    unfold wloop
    by_cases hk : k < min a.length b.length
    · have ha : k < a.length := by omega
      have hb : k < b.length := by omega
      have hr : k < a.reverse.length := by simpa using ha
      have i1 : atI (a.map D.int) (-1 - (k : Int)) = some (.int (a.reverse[k])) := by
        rw [atI_neg (by omega) (by simp; omega)]
        have : (-1 - (k : Int) + ((a.map D.int).length : Nat)).toNat = a.length - 1 - k := by simp; omega
        rw [this, List.getElem?_map, List.getElem_reverse, List.getElem?_eq_getElem (by omega)]
        rfl
      have i2 : atI (b.map D.int) (k : Int) = some (.int b[k]) := by
        rw [atI_pos (by omega) (by simp; omega)]
        simp [hb]
      have e1 : a.reverse.drop k = a.reverse[k] :: a.reverse.drop (k + 1) := List.drop_eq_getElem_cons hr
      have e2 : b.drop k = b[k] :: b.drop (k + 1) := List.drop_eq_getElem_cons hb
      have hk' : (k : Int) < ((min a.length b.length : Nat) : Int) := by omega
      simp only [tAnd_ap, tB_ap, eBin_ap, eVar_ap, eC_ap, eUn_ap, oEq_ap, List.getElem?_cons_succ, List.getElem?_cons_zero, R.bind_ok, oLt_int, asB_bl, hk', decide_true, if_true, oNeg_int, oSub_int, oIx_tup, i1, i2, pEq_int]
      rw [e1, e2] at h4
      unfold ends at h4
      by_cases hq : a.reverse[k] = -b[k]
      · rw [if_pos hq] at h4
        simp only [hq, decide_true, if_true, sAug_ap, List.getElem?_cons_succ, List.getElem?_cons_zero, eC_ap, R.bind_ok, iAdd_int, List.set_cons_succ, List.set_cons_zero]
        have hk1 : ((k : Int) + 1) = ((k + 1 : Nat) : Int) := by omega
        rw [hk1]
        exact ends_loop f (k + 1) (by omega) (by omega) ⟨j - 1, by omega, by omega⟩
      · rw [if_neg hq] at h4
        have : ends a.reverse b = k := by omega
        simp only [hq, decide_false, Bool.false_eq_true, if_false, this]
    · have hk' : ¬ (k : Int) < ((min a.length b.length : Nat) : Int) := by omega
      have h5 : a.reverse.drop k = [] ∨ b.drop k = [] := by
        by_cases q : a.length ≤ k
        · exact .inl (List.drop_of_length_le (by simpa using q))
        · exact .inr (List.drop_of_length_le (by omega))
      have h6 : ends (a.reverse.drop k) (b.drop k) = 0 := by
        rcases h5 with e | e
        · rw [e]; simp [ends]
        · rw [e]; cases a.reverse.drop k <;> simp [ends]
      have : ends a.reverse b = k := by omega
      simp only [tAnd_ap, tB_ap, eBin_ap, eVar_ap, List.getElem?_cons_succ, List.getElem?_cons_zero, R.bind_ok, oLt_int, asB_bl, hk', decide_false, Bool.false_eq_true, if_false]
      rw [this]
theorem ends_eq {h : Hh} {a b : List Int} (ha : a.length < 1000000) (hb : b.length < 1000000) : m_common_ends [tints a, tints b] h = .ok (.int (ends a.reverse b : Nat)) h := by
  have e := ends_loop (h := h) (a := a) (b := b) 1000000000000 0 (by omega) (by omega) ⟨ends a.reverse b, by omega, by simp⟩
  have hmin : (if b.length < a.length then (b.length : Int) else (a.length : Int)) = ((min a.length b.length : Nat) : Int) := by
    by_cases q : b.length < a.length
    · rw [if_pos q]; omega
    · rw [if_neg q]; omega
  simp [m_common_ends, b_common_ends, List.replicate, hmin]
  unfold sWhile
  simp at e
  rw [e]
  simp
theorem product_in_eq {h : Hh} {a b : List Int} (ha : a.length ≤ 100000) (hb : b.length ≤ 100000) (pa : Bare a) (pb : Bare b) : m_product_in [tints a, tints b] h = .ok (tints (bareW (a ++ b))) h := by
  have hl := ends_le a.reverse b
  rw [List.length_reverse] at hl
  simp [m_product_in, b_product_in, List.replicate, ends_eq (show a.length < 1000000 by omega) (show b.length < 1000000 by omega)]
  rw [cutD_to (by omega), cutD_from (by omega)]
  have e1 : ((a.length : Int) - ((ends a.reverse b : Nat) : Int)).toNat = a.length - ends a.reverse b := by omega
  rw [e1, product_eq pa pb]
  simp [sz_eq]
  rw [if_pos (by omega), ← List.map_take, ← List.map_drop, ← List.map_append]
  simp [-List.map_take, -List.map_drop, -List.map_append]
/-! ### cores and powers -/
theorem core_loop {h : Hh} {w : List Int} (hw : w.length ≤ 1000000) : ∀ (f k : Nat), w.length - k < f → 2 * k ≤ w.length → (∀ i, i < k → ∃ x, w[i]? = some x ∧ w[w.length - 1 - i]? = some (-x)) →
    ∃ j, Stop w j ∧ wloop (tAnd (tB (eBin oLt (eBin oAdd (eBin oMul (eC (.int 2)) (eVar 1)) (eC (.int 1))) (eCall fLen (aCons (eVar 0) aNil)))) (tB (eBin oEq (eBin oIx (eVar 0) (eVar 1)) (eUn oNeg (eBin oIx (eVar 0) (eBin oSub (eUn oNeg (eC (.int 1))) (eVar 1)))))))
      (sAug 1 iAdd (eC (.int 1))) f [some (tints w), some (.int k)] h = .ok (.nx, [some (tints w), some (.int j)]) h
  | 0, k, h1, _, _ => absurd h1 (Nat.not_lt_zero _)
  | f + 1, k, h1, h2, h3 => by
    have e1 : oMul (.int 2) (.int k) h = .ok (.int (2 * k)) h := mul_small h (by decide) (by omega)
    unfold wloop
    simp only [tAnd_ap, tB_ap, eBin_ap, eVar_ap, eC_ap, eUn_ap, oEq_ap, List.getElem?_cons_succ, List.getElem?_cons_zero, R.bind_ok, e1, oAdd_int, eCall_ap, aCons_ap, aNil_ap, fLen_tup, oLt_int, asB_bl, List.length_map]
    by_cases hk : 2 * k + 1 < w.length
    · have hk' : (2 * (k : Int) + 1 < (w.length : Int)) := by omega
      have i1 : atI (w.map D.int) (-1 - (k : Int)) = some (.int (w[w.length - 1 - k]'(by omega))) := by
        rw [atI_neg (by omega) (by simp; omega)]
        have : (-1 - (k : Int) + ((w.map D.int).length : Nat)).toNat = w.length - 1 - k := by simp; omega
        rw [this, List.getElem?_map, List.getElem?_eq_getElem (by omega)]
        rfl
      have i2 : atI (w.map D.int) (k : Int) = some (.int (w[k]'(by omega))) := by
        rw [atI_pos (by omega) (by simp; omega), Int.toNat_natCast, List.getElem?_map, List.getElem?_eq_getElem (by omega)]
        rfl
      simp only [hk', decide_true, if_true, oIx_tup, i1, i2, R.bind_ok, oNeg_int, oSub_int, pEq_int, asB_bl]
      by_cases hq : w[k]'(by omega) = -(w[w.length - 1 - k]'(by omega))
      · simp only [hq, decide_true, if_true, sAug_ap, List.getElem?_cons_succ, List.getElem?_cons_zero, eC_ap, R.bind_ok, iAdd_int, List.set_cons_succ, List.set_cons_zero]
        have hk1 : ((k : Int) + 1) = ((k + 1 : Nat) : Int) := by omega
        rw [hk1]
        refine core_loop hw f (k + 1) (by omega) (by omega) fun i hi => ?_
        by_cases hik : i < k
        · exact h3 i hik
        · have : i = k := by omega
          subst this
          exact ⟨_, List.getElem?_eq_getElem (by omega), by rw [List.getElem?_eq_getElem (by omega), hq]; simp⟩
      · refine ⟨k, ⟨h2, h3, fun ⟨_, x, hx, hy⟩ => hq ?_⟩, by simp only [hq, decide_false, Bool.false_eq_true, if_false]⟩
        rw [List.getElem?_eq_getElem (by omega)] at hx hy
        cases hx
        have := Option.some.inj hy
        omega
    · have hk' : ¬ (2 * (k : Int) + 1 < (w.length : Int)) := by omega
      exact ⟨k, ⟨h2, h3, fun q => hk q.1⟩, by simp only [hk', decide_false, R.bind_ok, Bool.false_eq_true, if_false]⟩
theorem core_eq {h : Hh} {w : List Int} (hw : w.length ≤ 1000000) : ∃ j, Stop w j ∧ m_core_in [tints w] h = .ok (.tup [tints (w.take j), tints (midW w j)]) h := by
  obtain ⟨j, s, e⟩ := core_loop (h := h) hw 1000000000000 0 (by omega) (by omega) (fun i hi => absurd hi (Nat.not_lt_zero _))
  refine ⟨j, s, ?_⟩
  simp [m_core_in, b_core_in, List.replicate]
  unfold sWhile
  simp at e
  rw [e]
  have hle := s.le
  simp [sz_eq]
  rw [cutD_to (by omega), cutD_mid (by omega) (by omega)]
  have e1 : ((w.length : Int) - (j : Int)).toNat - (j : Int).toNat = w.length - 2 * j := by omega
  rw [e1, Int.toNat_natCast, ← List.map_take, ← List.map_drop, ← List.map_take]
  simp [midW, -List.map_take, -List.map_drop]
theorem rep_ints (n : Nat) (w : List Int) : (List.replicate n (w.map D.int)).flatten = (rep n w).map D.int := by
  induction n with
  | zero => rfl
  | succ n ih => rw [List.replicate_succ, List.flatten_cons, ih, rep_succ, List.map_append]
theorem power_in_eq {h : Hh} {w : List Int} {k : Int} (hw : w.length ≤ 1000) (hb : Bare w) (h0 : ∀ x ∈ w, x ≠ 0) (hk1 : k ≤ 1000) (hk2 : -1000 ≤ k) : m_power_in [tints w, .int k] h = .ok (tints (pw w k)) h := by
  by_cases hk : k = 0
  · subst hk
    simp [m_power_in, b_power_in, List.replicate, pw, rep, bareW, red, sz_eq]
  · obtain ⟨base, hbase⟩ : ∃ base, base = (if 0 ≤ k then w else con w) := ⟨_, rfl⟩
    have b1 : base.length ≤ 1000 := by rw [hbase]; split <;> simp [con_length, hw]
    have b2 : Bare base := by rw [hbase]; split; exact hb; exact con_bare hb
    have b3 : ∀ x ∈ base, x ≠ 0 := by
      rw [hbase]
      split
      · exact h0
      · intro x hx
        unfold con at hx
        obtain ⟨y, hy, rfl⟩ := List.mem_map.mp hx
        have := h0 y (List.mem_reverse.mp hy)
        omega
    obtain ⟨j, s, e⟩ := core_eq (h := h) (w := base) (by omega)
    have hle := s.le
    have hml : (midW base j).length ≤ 1000 := by
      unfold midW
      rw [List.length_take, List.length_drop]
      omega
    have hpw : pw w k = base.take j ++ rep k.natAbs (midW base j) ++ con (base.take j) := by
      unfold pw
      rw [← hbase]
      by_cases he : base = []
      · subst he
        simp [rep_nil, midW, con, bareW, red]
      · exact s.power b2 he b3 (by omega)
    have hrl := rep_length k.natAbs (midW base j)
    have hrl2 : k.natAbs * (midW base j).length ≤ 1000 * 1000 := Nat.mul_le_mul (by omega) hml
    have hab : (if k < 0 then -k else k) = (k.natAbs : Int) := by
      split <;> omega
    have cond : (if 0 < k then (R.ok (tints w) h : R D) else m_contrary_in [tints w] h) = .ok (tints base) h := by
      split
      · rw [hbase, if_pos (by omega)]
      · rw [contrary_eq h (by rw [sz_eq]; omega), hbase, if_neg (by omega)]
    have hc := contrary_eq (w := base.take j) h (by rw [List.length_take, sz_eq]; omega)
    simp [m_power_in, b_power_in, List.replicate, hk, -List.map_take]
    rw [cond]
    simp [e, hc, hab, -List.map_take]
    rw [if_pos (by omega)]
    simp [hc, -List.map_take, rep_ints, rep_length, con_length, sz_eq]
    rw [if_pos (by omega), ← List.map_append, ← List.map_append, ← List.append_assoc, ← hpw]
    simp
theorem power_eq {h : Hh} {n : Int} {w : List Int} {k : Int} (h1 : 1 ≤ n) (h2 : n ≤ 5) (hw : Word n w = true) (hk1 : k ≤ 50) (hk2 : -50 ≤ k) : m_power [.int n, tints w, .int k] h = .ok (tints (pw w k)) h := by
  have hw' := hw
  simp only [Word, Bool.and_eq_true, decide_eq_true_eq] at hw'
  have h0 : ∀ x ∈ w, x ≠ 0 := fun x hx e => by
    have := List.all_eq_true.mp hw'.1.1 x hx
    subst e
    simp at this
  simp [m_power, b_power, List.replicate, rq_lw h1 h2 hw, m_require_within, b_require_within, within_eq, hk1, hk2, power_in_eq (h := h) (w := w) (k := k) (by omega) hw'.1.2 h0 (by omega) (by omega)]
/-! products of words -/
def prodW (ws : List (List Int)) : List Int := bareW ws.flatten
theorem word_loop {h : Hh} {n : Int} : ∀ (ws : List (List Int)) (l1 l2 l3 : Option D), (∀ w ∈ ws, Word n w = true) → ∃ l2', loop (fun _ => true) (gNm 2) (sEx (eCall m_require_word (aCons (eVar 0) (aCons (eVar 2) aNil)))) (ws.map tints) [some (.int n), l1, l2, l3] h = .ok (.nx, [some (.int n), l1, l2', l3]) h
  | [], l1, l2, l3, _ => ⟨l2, by simp⟩
  | w :: ws, l1, l2, l3, hw => by
    obtain ⟨l2', e⟩ := word_loop (h := h) ws l1 (some (tints w)) l3 fun v hv => hw v (List.mem_cons_of_mem _ hv)
    refine ⟨l2', ?_⟩
    simp only [List.map_cons, loop_cons, if_true, gNm_ap, R.bind_ok, List.set_cons_succ, List.set_cons_zero, sEx_ap, eCall_ap, aCons_ap, aNil_ap, eVar_ap, List.getElem?_cons_succ, List.getElem?_cons_zero, rq_word (hw w List.mem_cons_self)]
    exact e
theorem bareW_len (row : List Int) : (bareW row).length ≤ row.length := by
  have key : ∀ (row s : List Int), (red s row).length ≤ s.length + row.length := by
    intro row
    induction row with
    | nil => intro s; simp [red]
    | cons x r ih =>
      intro s
      rw [red_cons]
      have h1 := ih (push s x)
      have h2 : (push s x).length ≤ s.length + 1 := by
        cases s with
        | nil => simp [push]
        | cons y t => by_cases hy : y = -x <;> simp [push, hy] <;> omega
      rw [List.length_cons]
      omega
  have := key row []
  unfold bareW
  rw [List.length_reverse]
  simpa using this
theorem prod_loop {h : Hh} {n : Int} : ∀ (ws : List (List Int)) (f : List Int) (l0 l1 l2 : Option D), Bare f → f.length + 200 * ws.length ≤ 100000 → (∀ w ∈ ws, Bare w ∧ w.length ≤ 200) → ∃ l2', loop (fun _ => true) (gNm 2) (sAsg (eCall m_product_in (aCons (eVar 3) (aCons (eVar 2) aNil))) (gNm 3)) (ws.map tints) [l0, l1, l2, some (tints f)] h = .ok (.nx, [l0, l1, l2', some (tints (bareW (f ++ ws.flatten)))]) h
  | [], f, l0, l1, l2, hb, _, _ => ⟨l2, by simp [bareW_of hb]⟩
  | w :: ws, f, l0, l1, l2, hb, hl, hw => by
    obtain ⟨hwb, hwl⟩ := hw w List.mem_cons_self
    rw [List.length_cons] at hl
    have hlen := bareW_len (f ++ w)
    rw [List.length_append] at hlen
    obtain ⟨l2', e⟩ := prod_loop (h := h) (n := n) ws (bareW (f ++ w)) l0 l1 (some (tints w)) (bareW_bare _) (by omega) fun v hv => hw v (List.mem_cons_of_mem _ hv)
    refine ⟨l2', ?_⟩
    simp only [List.map_cons, loop_cons, if_true, gNm_ap, R.bind_ok, List.set_cons_succ, List.set_cons_zero, sAsg_ap, eCall_ap, aCons_ap, aNil_ap, eVar_ap, List.getElem?_cons_succ, List.getElem?_cons_zero, product_in_eq (h := h) (show f.length ≤ 100000 by omega) (show w.length ≤ 100000 by omega) hb hwb]
    rw [e, bareW_left, List.flatten_cons, List.append_assoc]
theorem product_i {h : Hh} {n : Int} {ws : List (List Int)} (h1 : 1 ≤ n) (h2 : n ≤ 5) (hl : ws.length ≤ 50) (hw : ∀ w ∈ ws, Word n w = true) : m_product (.int n :: ws.map tints) h = .ok (tints (prodW ws)) h := by
  obtain ⟨x, ex⟩ := word_loop (h := h) ws (some (.tup (ws.map tints))) none none hw
  obtain ⟨y, ey⟩ := prod_loop (h := h) (n := n) ws [] (some (.int n)) (some (.tup (ws.map tints))) x (show Bare [] from trivial) (by simp; omega) (fun w hm => by
    have := hw w hm
    simp only [Word, Bool.and_eq_true, decide_eq_true_eq] at this
    exact ⟨this.1.2, this.2⟩)
  have hlen : ¬ (50 : Int) < (ws.length : Int) := by omega
  have hz : ws.length ≤ 16777216 := by omega
  rw [List.nil_append, show (tints [] : D) = .tup [] from rfl] at ey
  simp [m_product, b_product, List.replicate, letters_ok h h1 h2, sz_eq, hz, ex, ey, hlen, prodW]
theorem drawn_eq {h : Hh} {i : Nat} {k t : Int} (s : SackAt i k h) (hk : k ≤ 1000000000) (ht : 0 < t) (ht2 : t.natAbs < BIG) : ∃ r o, Drew i k t h (m__law_drawn [.ref i, .int t]) r o := by
  have hlt := s.lt
  obtain ⟨a, b, c, hi, ha, ha2, hb, hc, hc2⟩ := s
  have hset : ∀ x, (h.set i x)[i]? = some x := fun x => List.getElem?_set_self hlt
  have hi' : ∀ g, (h ++ g)[i]? = some (.lst [.int a, .int b, .int c]) := fun g => by rw [List.getElem?_append_left hlt]; exact hi
  have hset' : ∀ x g, (h.set i x ++ g)[i]? = some x := fun x g => by rw [List.getElem?_append_left (by rw [List.length_set]; exact hlt)]; exact hset x
  have hup : ∀ x g, (h ++ g).set i x = h.set i x ++ g := fun x g => set_app_lt hlt
  have hup' : ∀ x y g, (h.set i y ++ g).set i x = h.set i x ++ g := fun x y g => by rw [set_app_lt (by rw [List.length_set]; exact hlt), List.set_set]
  have hgc : ∀ x g d, gcR (h ++ g) d (h.set i x ++ g) = .ok d (h.set i x ++ g) := fun x g d => gc_len (by simp)
  have ht0 : t ≠ 0 := by omega
  by_cases hpos : 0 < a
  · obtain ⟨d1, d2⟩ := div_BIG ha ha2 ht
    refine ⟨a % t, .lst [.int (a / t), .int b, .int c], fun g => ?_, Int.emod_nonneg _ ht0, Int.emod_lt_of_pos _ ht, ⟨a / t, b, c, hset _, d1, d2, hb, hc, by omega⟩, sack_pure _ _ _⟩
    simp [m__law_drawn, b__law_drawn, List.replicate, hi', hpos, ht0, ht2, fmod_pos ht, fdiv_pos ht, hup, hgc]
  · have q1 : 0 ≤ (b + 9999991 * (c + 1)) % 2305843009213693951 := Int.emod_nonneg _ (by decide)
    have q2 : (b + 9999991 * (c + 1)) % 2305843009213693951 < 2305843009213693951 := Int.emod_lt_of_pos _ (by decide)
    generalize hone : (b + 9999991 * (c + 1)) % 2305843009213693951 = one at q1 q2
    have q3 : 0 ≤ (one * one + 223 * (c + 1)) % 2305843009213693951 := Int.emod_nonneg _ (by decide)
    have q4 : (one * one + 223 * (c + 1)) % 2305843009213693951 < 2305843009213693951 := Int.emod_lt_of_pos _ (by decide)
    generalize htwo : (one * one + 223 * (c + 1)) % 2305843009213693951 = two at q3 q4
    have m1 := fun h => mul_small (i := 9999991) (j := c + 1) h (by decide) (by omega)
    have m2 := fun h => mul_small (i := one) (j := one) h (by omega) (by omega)
    have m3 := fun h => mul_small (i := 223) (j := c + 1) h (by decide) (by omega)
    have m4 := fun h => mul_small (i := two) (j := 7368787) h (by omega) (by decide)
    have n1 : 131072 < BIG := lt_BIG (by decide)
    have f1 : ∀ x : Int, x.fmod 2305843009213693951 = x % 2305843009213693951 := fun x => fmod_pos (by decide)
    refine ⟨((two * 7368787 + one).fdiv 131072) % t, .lst [.int a, .int b, .int (c + 1)], fun g => ?_, Int.emod_nonneg _ ht0, Int.emod_lt_of_pos _ ht, ⟨a, b, c + 1, hset _, ha, ha2, hb, by omega, by omega⟩, sack_pure _ _ _⟩
    simp [m__law_drawn, b__law_drawn, List.replicate, hi', hpos, ht0, hset', hup, -oMul_int, m1, m2, m3, m4, f1, hone, htwo, fmod_pos ht, n1, hgc]
theorem lbare_src {h : Hh} {a : D} {good : Hh → Bool} {row : List Int} (hs : srcOf a h = .ok ⟨row.map D.int, good⟩ h) (hg : ∀ g, good (h ++ g) = true) (hs' : srcOf a (h ++ [.lst []]) = .ok ⟨row.map D.int, good⟩ (h ++ [.lst []])) (hz : row.length < sz) : m__law_bare [a] h = .ok (tints (bareW row)) h := by
  obtain ⟨e', g', e⟩ := bare_loop (h := h) (a := a) (ng := eBin oSub (eC (.int 0)) (eVar 2)) hg (fun _ _ _ _ => by simp) row [] none [] (by simpa using hz)
  simp [m__law_bare, b__law_bare, List.replicate, hs']
  rw [List.reverse_nil, List.map_nil] at e
  rw [e]
  simp [bareW]
theorem lbare_eq {h : Hh} {row : List Int} (hz : row.length < sz) : m__law_bare [tints row] h = .ok (tints (bareW row)) h :=
  lbare_src (good := fun _ => true) rfl (fun _ => rfl) rfl hz
theorem lbare_lst {h : Hh} {n : Nat} {row : List Int} (e : h[n]? = some (.lst (row.map D.int))) (hz : row.length < sz) : m__law_bare [.ref n] h = .ok (tints (bareW row)) h := by
  have hl := (List.getElem?_eq_some_iff.mp e).1
  have e2 : ∀ g, (h ++ g)[n]? = some (.lst (row.map D.int)) := fun g => by rw [List.getElem?_append_left hl]; exact e
  exact lbare_src (good := fun h => decide (h[n]? = some (.lst (row.map D.int)))) (by rw [srcOf_ref, e]) (fun g => by simp [e2 g]) (by rw [srcOf_ref, e2]) hz
theorem lback_eq {w : List Int} (h : Hh) (hw : w.length ≤ sz) : m__law_back [tints w] h = .ok (tints (con w)) h := by
  simp [m__law_back, b__law_back, List.replicate]
  rw [comp_map (fun d => match d with | .int i => .int (-i) | d => d) _ (by simpa using hw) ?_]
  · simp [con]
    have e : ((fun d => match d with | D.int i => D.int (-i) | d => d) ∘ D.int) = (D.int ∘ fun x => -x) := rfl
    rw [e, ← List.map_map, pureL_ints]
    simp
  · intro d hd h'
    obtain ⟨i, _, rfl⟩ := List.mem_map.mp (List.mem_reverse.mp hd)
    exact ⟨_, rfl, by simp⟩
/-! ### drawn words -/
theorem row_app {n : Int} {a b : List Int} : Row n (a ++ b) = (Row n a && Row n b) := by simp [Row]
theorem row_one {n r q : Int} (h0 : 0 ≤ r) (h1 : r < n) (h2 : 0 ≤ q) (h3 : q < 2) : Row n [(1 + r) * (1 - 2 * q)] = true := by
  have : q = 0 ∨ q = 1 := by omega
  rcases this with rfl | rfl
  · simp [Row]
    split <;> omega
  · simp [Row]
    split <;> omega
theorem bareW_mem {row : List Int} {x : Int} (h : x ∈ bareW row) : x ∈ row := by
  have key : ∀ (row s : List Int), x ∈ red s row → x ∈ s ∨ x ∈ row := by
    intro row
    induction row with
    | nil => exact fun s h => .inl h
    | cons y r ih =>
      intro s h
      rw [red_cons] at h
      rcases ih _ h with h | h
      · cases s with
        | nil => simp [push] at h; exact .inr (by simp [h])
        | cons z t =>
          by_cases hz : z = -y
          · simp [push, hz] at h
            exact .inl (List.mem_cons_of_mem _ h)
          · simp [push, hz] at h
            rcases h with h | h | h
            · exact .inr (by simp [h])
            · exact .inl (by simp [h])
            · exact .inl (by simp [h])
      · exact .inr (List.mem_cons_of_mem _ h)
  unfold bareW at h
  rw [List.mem_reverse] at h
  rcases key row [] h with h | h
  · cases h
  · exact h
theorem row_sub {n : Int} {a b : List Int} (h : Row n b = true) (hs : ∀ x ∈ a, x ∈ b) : Row n a = true :=
  List.all_eq_true.mpr fun x hx => List.all_eq_true.mp h x (hs x hx)
theorem word_turns {n : Int} (hn1 : 1 ≤ n) (hn2 : n ≤ 5) {i : Nat} {v2 : Option D} : ∀ (ds : List D) (hs : Hh) (k : Int) (row : List Int) (e : Option D), SackAt i k hs → k + 2 * ds.length ≤ 1000000 → row.length + ds.length < 1000000 →
    ∃ row' e' o, loop (fun _ => true) (gNm 4) (sEx (eBM isLst oAppend (eVar 3) (aCons (eBin oMul (eBin oAdd (eC (.int 1)) (eCall m__law_drawn (aCons (eVar 0) (aCons (eVar 1) aNil)))) (eBin oSub (eC (.int 1)) (eBin oMul (eC (.int 2)) (eCall m__law_drawn (aCons (eVar 0) (aCons (eC (.int 2)) aNil)))))) aNil)))
      ds [some (.ref i), some (.int n), v2, some (.ref hs.length), e] (hs ++ [.lst (row.map D.int)]) = .ok (.nx, [some (.ref i), some (.int n), v2, some (.ref hs.length), e']) (hs.set i o ++ [.lst ((row ++ row').map D.int)]) ∧
      Row n row' = true ∧ row'.length = ds.length ∧ SackAt i (k + 2 * ds.length) (hs.set i o) ∧ O.pure o = true
  | [], hs, k, row, e, s, hk, hr => by
    obtain ⟨o, hid, hp⟩ := s.same
    exact ⟨[], e, o, by simp [hid], rfl, rfl, by rw [hid]; simpa using s, hp⟩
  | d :: ds, hs, k, row, e, s, hk, hr => by
    rw [List.length_cons] at hk hr
    obtain ⟨r, o, D1⟩ := drawn_eq (t := n) s (by omega) (by omega) (small_BIG (by omega))
    obtain ⟨q, o2, D2⟩ := drawn_eq (t := 2) D1.at_ (by omega) (by decide) (small_BIG (by decide))
    have s3 := D2.at_
    have e1 := D1.eq
    have e2 := D2.eq
    rw [List.set_set] at s3
    simp only [List.set_set] at e2
    have b1 := D1.lo
    have b2 := D1.hi
    have b3 := D2.lo
    have b4 := D2.hi
    obtain ⟨row', e', o3, h1, h2, h3, h4, h5⟩ := word_turns (v2 := v2) hn1 hn2 ds (hs.set i o2) (k + 1 + 1) (row ++ [(1 + r) * (1 - 2 * q)]) (some d) s3 (by omega) (by rw [List.length_append, List.length_singleton]; omega)
    rw [List.length_set, List.set_set] at h1
    rw [List.set_set] at h4
    refine ⟨(1 + r) * (1 - 2 * q) :: row', e', o3, ?_, ?_, by simp [h3], ?_, h5⟩
    · have m1 := fun h => mul_small (i := 2) (j := q) h (by decide) (by omega)
      have m2 := fun h => mul_small (i := 1 + r) (j := 1 - 2 * q) h (by omega) (by omega)
      have hz : row.length < sz := by rw [sz_eq]; omega
      rw [List.map_append, List.map_singleton] at h1
      simp [-oMul_int, m1, m2, hz, e1, e2, len_end, len_set]
      rw [h1]
      simp
    · rw [show ((1 + r) * (1 - 2 * q) :: row') = [(1 + r) * (1 - 2 * q)] ++ row' from rfl, row_app, row_one b1 b2 b3 b4, h2]
      rfl
    · have : k + 1 + 1 + 2 * (ds.length : Int) = k + 2 * ((ds.length + 1 : Nat) : Int) := by omega
      rw [List.length_cons, ← this]
      exact h4
theorem lword_eq {h : Hh} {i : Nat} {k n m : Int} (s : SackAt i k h) (hp : h.all O.pure = true) (hk : k ≤ 100000) (hn1 : 1 ≤ n) (hn2 : n ≤ 5) (hm0 : 0 ≤ m) (hm : m ≤ 100) :
    ∃ w o, m__law_word [.ref i, .int n, .int m] h = .ok (tints w) (h.set i o) ∧ Row n w = true ∧ Bare w ∧ (w.length : Int) ≤ m ∧ SackAt i (k + 1000) (h.set i o) ∧ O.pure o = true := by
  obtain ⟨r, o, D1⟩ := drawn_eq (t := m + 1) s (by omega) (by omega) (small_BIG (by omega))
  have b1 := D1.lo
  have b2 := D1.hi
  have e1 := D1.eq
  have hl : (rngL 0 r.toNat).length = r.toNat := by simp [rngL]
  obtain ⟨row', e', o2, h1, h2, h3, h4, h5⟩ := word_turns (v2 := some (.int m)) hn1 hn2 (rngL 0 r.toNat) (h.set i o) (k + 1) [] none D1.at_ (by omega) (by simp only [List.length_nil]; omega)
  rw [List.length_set, List.set_set] at h1
  rw [List.set_set] at h4
  rw [hl] at h3 h4
  have hin : inR r = true := inR_of (by omega) (by omega)
  refine ⟨bareW row', o2, ?_, row_sub h2 fun x hx => bareW_mem hx, bareW_bare _, ?_, h4.mono (by omega), h5⟩
  · have hb := lbare_lst (h := h.set i o2 ++ [O.lst (row'.map D.int)]) (n := h.length) (row := row') len_end (by rw [sz_eq]; omega)
    have hgc := fun g => gc_setapp (h := h) (d := tints (bareW row')) (n := i) (o := o2) (g := g) (by simp) (all_set hp h5)
    simp at h1
    simp [m__law_word, b__law_word, List.replicate, e1, rng1, hin, h1, hb, hgc]
  · have := bareW_len row'
    omega
theorem lpow_loop {h : Hh} {w : List Int} {v1 : Option D} (hw : w.length ≤ 1000) : ∀ (ds : List D) (n : Nat) (e : Option D), n + ds.length ≤ 1000 → ∃ e', loop (fun _ => true) (gNm 3) (sAsg (eBin oAdd (eVar 2) (eVar 0)) (gNm 2)) ds [some (tints w), v1, some (tints (rep n w)), e] h = .ok (.nx, [some (tints w), v1, some (tints (rep (n + ds.length) w)), e']) h
  | [], n, e, _ => ⟨e, by simp⟩
  | d :: ds, n, e, hl => by
    rw [List.length_cons] at hl
    obtain ⟨e', h1⟩ := lpow_loop (v1 := v1) hw ds (n + 1) (some d) (by omega)
    refine ⟨e', ?_⟩
    have h2 : (rep n w).length + w.length ≤ sz := by
      rw [rep_length, sz_eq]
      have : n * w.length ≤ 1000 * 1000 := Nat.mul_le_mul (by omega) hw
      omega
    have e2 : n + 1 + ds.length = n + (d :: ds).length := by simp; omega
    rw [e2] at h1
    simp [h2]
    rw [← List.map_append, ← rep_snoc, h1]
    simp
theorem neg_row {n : Int} {w : List Int} (h : Row n w = true) : Row n (w.map fun x => -x) = true := by
  unfold Row at h ⊢
  rw [List.all_map]
  refine List.all_eq_true.mpr fun x hx => ?_
  have := List.all_eq_true.mp h x hx
  simp only [Bool.and_eq_true, decide_eq_true_eq, Function.comp_apply] at this ⊢
  split at this <;> split <;> omega
/-- the heap while one trial runs -/
structure Run (i : Nat) (h : Hh) (k : Int) (H : Hh) : Prop where
  at_ : SackAt i k H
  pu : H.all O.pure = true
  lt : i < h.length
  fo : ∃ o g, H = h.set i o ++ g ∧ O.pure o = true
theorem Run.mono {i : Nat} {h H : Hh} {k j : Int} (r : Run i h k H) (hk : k ≤ j) : Run i h j H := ⟨r.at_.mono hk, r.pu, r.lt, r.fo⟩
theorem Run.set {i : Nat} {h H : Hh} {k j : Int} {o : O} (r : Run i h k H) (s : SackAt i j (H.set i o)) (p : O.pure o = true) : Run i h j (H.set i o) := by
  obtain ⟨o1, g, e, _⟩ := r.fo
  refine ⟨s, all_set r.pu p, r.lt, o, g, ?_, p⟩
  rw [e, set_app_lt (by rw [List.length_set]; exact r.lt), List.set_set]
theorem Run.app {i : Nat} {h H : Hh} {k : Int} (r : Run i h k H) (g : Hh) (p : g.all O.pure = true) : Run i h k (H ++ g) := by
  obtain ⟨o1, g1, e, q⟩ := r.fo
  exact ⟨r.at_.app g, by rw [List.all_append, r.pu, p]; rfl, r.lt, o1, g1 ++ g, by rw [e, List.append_assoc], q⟩
theorem run_drawn {i : Nat} {h H : Hh} {k t : Int} (r : Run i h k H) (hk : k ≤ 1000000) (h0 : 0 < t) (h1 : t ≤ 1000000) : ∃ x H', m__law_drawn [.ref i, .int t] H = .ok (.int x) H' ∧ 0 ≤ x ∧ x < t ∧ Run i h (k + 1) H' := by
  obtain ⟨x, o, D1⟩ := drawn_eq (t := t) r.at_ (by omega) h0 (small_BIG (by omega))
  exact ⟨x, _, D1.eq0, D1.lo, D1.hi, r.set D1.at_ D1.pu⟩
theorem run_word {i : Nat} {h H : Hh} {k n m : Int} {x : O} (r : Run i h k H) (px : O.pure x = true) (hk : k ≤ 100000) (hn1 : 1 ≤ n) (hn2 : n ≤ 5) (hm0 : 0 ≤ m) (hm : m ≤ 100) :
    ∃ w H', m__law_word [.ref i, .int n, .int m] (H ++ [x]) = .ok (tints w) (H' ++ [x]) ∧ H'.length = H.length ∧ Row n w = true ∧ Bare w ∧ (w.length : Int) ≤ m ∧ Run i h (k + 1000) H' := by
  have r2 := r.app [x] (by simp [px])
  obtain ⟨w, o, h1, h2, h3, h4, h5, h6⟩ := lword_eq r2.at_ r2.pu hk hn1 hn2 hm0 hm
  have hlt : i < H.length := r.at_.lt
  rw [set_app_lt hlt] at h1 h5
  refine ⟨w, H.set i o, h1, List.length_set, h2, h3, h4, r.set ?_ h6⟩
  obtain ⟨a, b, c, e, q⟩ := h5
  refine ⟨a, b, c, ?_, q⟩
  rw [List.getElem?_append_left (by rw [List.length_set]; exact hlt)] at e
  exact e
theorem word_of {n : Int} {w : List Int} (h1 : Row n w = true) (h2 : Bare w) (h3 : w.length ≤ 200) : Word n w = true := by
  unfold Word
  rw [h1, decide_eq_true h2, decide_eq_true h3]
  rfl
theorem con_row {n : Int} {w : List Int} (h : Row n w = true) : Row n (con w) = true := by
  have := neg_row (n := n) (w := w.reverse) (List.all_eq_true.mpr fun x hx => List.all_eq_true.mp h x (List.mem_reverse.mp hx))
  exact this
theorem pw_word {n : Int} {w : List Int} {k : Int} (h1 : Row n w = true) (h3 : w.length ≤ 20) (hk : k.natAbs ≤ 9) : Word n (pw w k) = true := by
  refine word_of ?_ (bareW_bare _) ?_
  · refine row_sub ?_ fun x hx => bareW_mem hx
    refine List.all_eq_true.mpr fun x hx => ?_
    unfold rep at hx
    obtain ⟨l, hl, hx⟩ := List.mem_flatten.mp hx
    rw [(List.mem_replicate.mp hl).2] at hx
    split at hx
    · exact List.all_eq_true.mp h1 x hx
    · exact List.all_eq_true.mp (con_row h1) x hx
  · unfold pw
    refine Nat.le_trans (bareW_len _) ?_
    rw [rep_length]
    have hl : (if 0 ≤ k then w else con w).length ≤ 20 := by
      split
      · exact h3
      · rw [con_length]; exact h3
    have := Nat.mul_le_mul hk hl
    omega
theorem pow_lt_BIG : (10 : Nat) ^ 57 < BIG ∧ ((10 : Nat) ^ 57) ^ 6 < BIG := by
  rw [BIG_eq]
  constructor
  · exact Nat.lt_of_le_of_lt (Nat.pow_le_pow_left (show 10 ≤ 2 ^ 4 by decide) 57) (by
      rw [← Nat.pow_mul]
      exact Nat.pow_lt_pow_right (by decide) (by decide))
  · exact Nat.lt_of_le_of_lt (Nat.pow_le_pow_left (Nat.pow_le_pow_left (show 10 ≤ 2 ^ 4 by decide) 57) 6) (by
      rw [← Nat.pow_mul, ← Nat.pow_mul]
      exact Nat.pow_lt_pow_right (by decide) (by decide))
theorem sack_eq {ns : List Int} {k : Nat} (hk : k ≤ 1) (h : Hh) : ∃ a b c : Int, m__law_sack [.ro (ns.map D.int), .int (k : Int)] h = .ok (.ref h.length) (h ++ [.lst [.int a, .int b, .int c]]) ∧ SackAt h.length 0 (h ++ [.lst [.int a, .int b, .int c]]) := by
  have p1 : oPow (.int 10) (.int 57) = fun h => .ok (.int ((10 : Int) ^ 57)) h := by
    funext h
    rw [oPow_int, if_pos ⟨by decide, by decide, lt_BIG (by decide)⟩]
    rfl
  have p2 : oPow (.int ((10 : Int) ^ 57)) (.int 6) = fun h => .ok (.int (((10 : Int) ^ 57) ^ 6)) h := by
    funext h
    have hT : ((10 : Int) ^ 57).natAbs < BIG := by
      rw [Int.natAbs_pow]
      exact pow_lt_BIG.1
    rw [oPow_int, if_pos ⟨by decide, by decide, hT⟩]
    rfl
  have p3 : oPow (.int 10) (.int 16) = fun h => .ok (.int ((10 : Int) ^ 16)) h := by
    funext h
    rw [oPow_int, if_pos ⟨by decide, by decide, lt_BIG (by decide)⟩]
    rfl
  obtain ⟨M, hM⟩ : ∃ M : Int, M = ((10 : Int) ^ 57) ^ 6 := ⟨_, rfl⟩
  have hM0 : 0 < M := by
    rw [hM]
    exact Int.pow_pos (Int.pow_pos (by decide))
  have hMB : M.natAbs < BIG := by
    rw [hM, Int.natAbs_pow, Int.natAbs_pow]
    exact pow_lt_BIG.2
  rw [← hM] at p2
  generalize (10 : Int) ^ 57 = T at *
  obtain ⟨U, hU⟩ : ∃ U : Int, U = (10 : Int) ^ 16 := ⟨_, rfl⟩
  have hU0 : 0 ≤ U := by rw [hU]; decide
  rw [← hU] at p3
  have key : ∀ v : Int, ∃ a b c : Int, (sSeq (sAsg (eBin oMod (eCall fInt (aCons (eCall fAbs (aCons (eVar 2) aNil)) aNil)) (eBin oPow (eBin oPow (eC (.int 10)) (eC (.int 57))) (eC (.int 6)))) (gNm 3))
  (sRet (eLst (aCons (eCall fMax2 (aCons (eC (.int 0)) (aCons (eBin oSub (eVar 3) (eBin oPow (eC (.int 10)) (eC (.int 16)))) aNil))) (aCons (eBin oAdd (eBin oAdd (eBin oAdd (eBin oMul (eBin oMod (eCall fInt (aCons (eVar 3) aNil)) (eC (.int 2147483477))) (eC (.int 127))) (eBin oMul (eC (.int 653)) (eVar 1))) (eBin oMul (eC (.int 47)) (eCall fInt (aCons (eBin oLt (eVar 2) (eC (.int 0))) aNil)))) (eC (.int 5))) (aCons (eC (.int 0)) aNil)))))) [some (.ro (ns.map D.int)), some (.int (k : Int)), some (.int v), none] h = .ok (.rt (.ref h.length), [some (.ro (ns.map D.int)), some (.int (k : Int)), some (.int v), some (.int ((if v < 0 then -v else v).fmod M))]) (h ++ [.lst [.int a, .int b, .int c]]) ∧ SackAt h.length 0 (h ++ [.lst [.int a, .int b, .int c]]) := by
    intro v
    have hne : M ≠ 0 := by omega
    obtain ⟨q, hq⟩ : ∃ q, q = (if v < 0 then -v else v).fmod M := ⟨_, rfl⟩
    have q0 : 0 ≤ q := by rw [hq, fmod_pos hM0]; exact Int.emod_nonneg _ hne
    have q1 : q < M := by rw [hq, fmod_pos hM0]; exact Int.emod_lt_of_pos _ hM0
    have q2 : 0 ≤ q % 2147483477 := Int.emod_nonneg _ (by decide)
    have q3 : q % 2147483477 < 2147483477 := Int.emod_lt_of_pos _ (by decide)
    have m1 := fun h => mul_small (i := q % 2147483477) (j := 127) h (by omega) (by decide)
    have m2 := fun h => mul_small (i := 653) (j := (k : Int)) h (by decide) (by omega)
    have m3 := fun h => mul_small (i := 47) (j := (if v < 0 then 1 else 0 : Int)) h (by decide) (by split <;> decide)
    have z3 : 3 ≤ sz := by decide
    refine ⟨if q - U > 0 then q - U else 0, q % 2147483477 * 127 + 653 * (k : Int) + 47 * (if v < 0 then 1 else 0) + 5, 0, ?_, ?_⟩
    · simp [p1, p2, p3, hne, -oPow_int, -oMul_int, ← hq, fmod_pos, m1, m2, m3, z3]
    · refine ⟨_, _, _, get_end _ _ _, ?_, ?_, ?_, by decide, by decide⟩
      · split <;> omega
      · refine Nat.lt_of_le_of_lt ?_ hMB
        split <;> omega
      · split <;> omega
  have fst : ∃ v : Int, (sAsg (eIf (tB (eBin oLt (eVar 1) (eCall fLen (aCons (eVar 0) aNil)))) (eCall fInt (aCons (eBin oIx (eVar 0) (eVar 1)) aNil)) (eBin oAdd (eBin oMul (eC (.int 179)) (eVar 1)) (eC (.int 71)))) (gNm 2)) [some (.ro (ns.map D.int)), some (.int (k : Int)), none, none] h = .ok (.nx, [some (.ro (ns.map D.int)), some (.int (k : Int)), some (.int v), none]) h := by
    by_cases hl : k < ns.length
    · have i1 : atI (ns.map D.int) (k : Int) = some (.int (ns[k]'hl)) := by
        rw [atI_pos (by omega) (by simp; omega), Int.toNat_natCast, List.getElem?_map, List.getElem?_eq_getElem hl]
        rfl
      exact ⟨ns[k]'hl, by simp [hl, i1]⟩
    · have m2 := fun h => mul_small (i := 179) (j := (k : Int)) h (by decide) (by omega)
      exact ⟨179 * (k : Int) + 71, by simp [hl, m2, -oMul_int]⟩
  obtain ⟨v, e1⟩ := fst
  obtain ⟨a, b, c, e2, e3⟩ := key v
  refine ⟨a, b, c, ?_, e3⟩
  have hap : m__law_sack [.ro (ns.map D.int), .int (k : Int)] h = fin h (b__law_sack [some (.ro (ns.map D.int)), some (.int (k : Int)), none, none] h) := rfl
  rw [hap]
  unfold b__law_sack
  rw [sSeq_ap, e1]
  simp only [R.bind_ok]
  rw [e2]
  simp only [fin_rt, gc_ref]
end K01
namespace K01
open PySem L2 Sm Wo
theorem core_at {w : List Int} {j : Nat} (s : Stop w j) (hw : w.length ≤ 1000000) (h : Hh) : m_core_in [tints w] h = .ok (.tup [tints (w.take j), tints (midW w j)]) h := by
  obtain ⟨i, s', e⟩ := core_eq (h := h) hw
  rw [s'.same s] at e
  exact e
theorem mid_len {w : List Int} {j : Nat} (s : Stop w j) : (midW w j).length = w.length - 2 * j := by
  have := s.le
  unfold midW
  rw [List.length_take, List.length_drop]
  omega
/-! the law's own core and ring -/
theorem cut_inner {l : List D} (h : 2 ≤ l.length) : cutD l (some 1) (some (-1)) = (l.drop 1).take (l.length - 2) := by
  have e1 : HT.sIx l.length 0 (some 1) = 1 := by
    have := HT.sIx_nat (d := 0) (n := l.length) (k := 1)
    rw [show ((1 : Nat) : Int) = 1 from rfl] at this
    rw [this]
    omega
  have e2 : HT.sIx l.length l.length (some (-1)) = l.length - 1 := by
    unfold HT.sIx
    simp
    omega
  unfold cutD
  rw [e1, e2]
  congr 1
abbrev coreB : FS := (sIf (tAnd (tB (eBin oGt (eCall fLen (aCons (eVar 1) aNil)) (eC (.int 1)))) (tB (eBin oEq (eBin oIx (eVar 1) (eC (.int 0))) (eBin oSub (eC (.int 0)) (eBin oIx (eVar 1) (eUn oNeg (eC (.int 1))))))))
    (sAsg (eSl oSl (eVar 1) (pAt (eC (.int 1))) (pAt (eUn oNeg (eC (.int 1))))) (gNm 1))
    sPass)
theorem mid_at {w : List Int} {i p : Nat} (h : p < w.length - 2 * i) : (midW w i)[p]? = w[i + p]? := by
  unfold midW
  rw [List.getElem?_take, if_pos h, List.getElem?_drop]
theorem mid_len' {w : List Int} {i : Nat} : (midW w i).length = min (w.length - 2 * i) (w.length - i) := by
  unfold midW
  rw [List.length_take, List.length_drop]
theorem core_step {h : Hh} {w : List Int} {j i : Nat} {v0 v2 : Option D} (s : Stop w j) (hi : i ≤ j) : coreB [v0, some (tints (midW w i)), v2] h = .ok (.nx, [v0, some (tints (midW w (if i < j then i + 1 else i))), v2]) h := by
  have hle := s.le
  have hlen := mid_len' (w := w) (i := i)
  by_cases h1 : 1 < (midW w i).length
  · have h1' : (1 : Int) < ((midW w i).length : Int) := by omega
    have g0 : (midW w i)[0]? = w[i]? := mid_at (by omega)
    have g1 : (midW w i)[(midW w i).length - 1]? = w[w.length - 1 - i]? := by
      rw [mid_at (by omega)]
      congr 1
      omega
    obtain ⟨x, hx⟩ : ∃ x, w[i]? = some x := ⟨_, List.getElem?_eq_getElem (by omega)⟩
    obtain ⟨y, hy⟩ : ∃ y, w[w.length - 1 - i]? = some y := ⟨_, List.getElem?_eq_getElem (by omega)⟩
    have i0 : atI ((midW w i).map D.int) 0 = some (.int x) := by
      rw [atI_pos (by decide) (by rw [List.length_map]; omega), List.getElem?_map]
      show ((midW w i)[0]?).map D.int = _
      rw [g0, hx]
      rfl
    have i1 : atI ((midW w i).map D.int) (-1) = some (.int y) := by
      rw [atI_neg (by decide) (by rw [List.length_map]; omega), List.length_map, List.getElem?_map]
      have : (-1 + ((midW w i).length : Int)).toNat = (midW w i).length - 1 := by omega
      rw [this, g1, hy]
      rfl
    have hcut : cutD ((midW w i).map D.int) (some 1) (some (-1)) = (((midW w i).drop 1).take ((midW w i).length - 2)).map D.int := by
      rw [cut_inner (by rw [List.length_map]; omega), List.length_map, List.map_take, List.map_drop]
    by_cases q : x = -y
    · have hij : i < j := by
        by_cases e : i < j
        · exact e
        · have : i = j := by omega
          subst this
          refine absurd ⟨by omega, x, hx, ?_⟩ s.end_
          rw [hy, q]
          simp
      have hmid : ((midW w i).drop 1).take ((midW w i).length - 2) = midW w (i + 1) := by
        rw [hlen]
        unfold midW
        rw [List.drop_take, List.drop_drop, List.take_take]
        congr 1
        omega
      have q' : x = 0 - y := by omega
      simp only [coreB, sIf_ap, tAnd_ap, tB_ap, eBin_ap, eCall_ap, aCons_ap, aNil_ap, eVar_ap, eC_ap, eUn_ap, List.getElem?_cons_succ, List.getElem?_cons_zero, R.bind_ok, fLen_tup, List.length_map, oGt_int, asB_bl, h1', decide_true, if_true, oIx_tup, i0, oNeg_int, i1, oSub_int, oEq_ap, pEq_int, q'.symm, sAsg_ap, eSl_ap, pAt_ap, asI_int, oSl_tup, hcut, gNm_ap, List.set_cons_succ, List.set_cons_zero, hmid, hij]
    · have hij : ¬ i < j := fun e => by
        obtain ⟨z, hz1, hz2⟩ := s.at_ i e
        rw [hx] at hz1
        rw [hy] at hz2
        cases hz1
        cases hz2
        omega
      have q' : ¬ x = 0 - y := by omega
      simp only [coreB, sIf_ap, tAnd_ap, tB_ap, eBin_ap, eCall_ap, aCons_ap, aNil_ap, eVar_ap, eC_ap, eUn_ap, List.getElem?_cons_succ, List.getElem?_cons_zero, R.bind_ok, fLen_tup, List.length_map, oGt_int, asB_bl, h1', decide_true, if_true, oIx_tup, i0, oNeg_int, i1, oSub_int, oEq_ap, pEq_int, q', decide_false, Bool.false_eq_true, if_false, sPass_ap, hij]
  · have h1' : ¬ (1 : Int) < ((midW w i).length : Int) := by omega
    have hij : ¬ i < j := by omega
    simp only [coreB, sIf_ap, tAnd_ap, tB_ap, eBin_ap, eCall_ap, aCons_ap, aNil_ap, eVar_ap, eC_ap, List.getElem?_cons_succ, List.getElem?_cons_zero, R.bind_ok, fLen_tup, List.length_map, oGt_int, asB_bl, h1', decide_false, Bool.false_eq_true, if_false, sPass_ap, hij]
theorem core_turns {h : Hh} {w : List Int} {j : Nat} {v0 : Option D} (s : Stop w j) : ∀ (ds : List D) (i : Nat) (v2 : Option D), i ≤ j → j ≤ i + ds.length → ∃ v2', loop (fun _ => true) (gNm 2) coreB ds [v0, some (tints (midW w i)), v2] h = .ok (.nx, [v0, some (tints (midW w j)), v2']) h
  | [], i, v2, h1, h2 => ⟨v2, by
      have : i = j := by simp at h2; omega
      subst this
      simp⟩
  | d :: ds, i, v2, h1, h2 => by
    rw [List.length_cons] at h2
    obtain ⟨v2', e⟩ := core_turns (h := h) (v0 := v0) s ds (if i < j then i + 1 else i) (some d) (by split <;> omega) (by split <;> omega)
    refine ⟨v2', ?_⟩
    simp only [loop_cons, if_true, gNm_ap, R.bind_ok, List.set_cons_succ, List.set_cons_zero, core_step s h1, e]
theorem mid_zero (w : List Int) : midW w 0 = w := by simp [midW]
theorem lcore_at {w : List Int} {j : Nat} (s : Stop w j) (hw : w.length ≤ 100000) (h : Hh) : m__law_core [tints w] h = .ok (tints (midW w j)) h := by
  have hle := s.le
  have hl : (rngL 0 w.length).length = w.length := by simp [rngL]
  obtain ⟨v2, e⟩ := core_turns (h := h) (v0 := some (tints w)) s (rngL 0 w.length) 0 none (by omega) (by omega)
  rw [mid_zero] at e
  have hin : inR (w.length : Int) = true := inR_of (by omega) (by omega)
  simp [m__law_core, b__law_core, List.replicate, rng1, hin, e]
theorem parts {n : Int} {w : List Int} (h : Word n w = true) : Row n w = true ∧ Bare w ∧ w.length ≤ 200 := by
  simp only [Word, Bool.and_eq_true, decide_eq_true_eq] at h
  exact ⟨h.1.1, h.1.2, h.2⟩
theorem row_nz {n : Int} {w : List Int} (h : Row n w = true) : NZ w := fun x hx e => by
  have := List.all_eq_true.mp h x hx
  subst e
  simp at this
theorem two_ok {n : Int} {a b : List Int} (h1 : 1 ≤ n) (h2 : n ≤ 5) (ha : Word n a = true) (hb : Word n b = true) (h : Hh) : m_require_two_words [.int n, tints a, tints b] h = .ok .non h := by
  simp [m_require_two_words, b_require_two_words, List.replicate, rq_lw h1 h2 ha, rq_word hb]
/-! words between -/
/-! judged words between -/
/-- what the law's own judge strikes -/
def Off (n : Int) (d : D) : Bool := match d with
  | .int x => !(decide (1 ≤ (if x < 0 then -x else x)) && decide ((if x < 0 then -x else x) ≤ n))
  | _ => true
theorem off_row {n : Int} (ns : List Int) : ((ns.map D.int).filter (Off n) = []) ↔ Row n ns = true := by
  rw [List.filter_eq_nil_iff]
  unfold Row
  rw [List.all_eq_true]
  constructor
  · intro h x hx
    have := h (.int x) (List.mem_map.mpr ⟨x, hx, rfl⟩)
    simpa [Off] using this
  · intro h d hd
    obtain ⟨x, hx, rfl⟩ := List.mem_map.mp hd
    have := h x hx
    simpa [Off] using this
theorem off_other {n : Int} {l : List D} (h : l.all isInt = false) : l.filter (Off n) ≠ [] := by
  intro e
  rw [List.filter_eq_nil_iff] at e
  have : l.all isInt = true := List.all_eq_true.mpr fun d hd => by
    have := e d hd
    cases d <;> simp [Off] at this
    rfl
  rw [this] at h
  cases h
theorem isi_ty {h : Hh} {d : D} (t : typed h d) : fIsi [d, .ty "bool"] h = .ok (.bl (match d with | .bl _ => true | _ => false)) h ∧ fIsi [d, .ty "int"] h = .ok (.bl (match d with | .bl _ => true | .int _ => true | _ => false)) h := by
  cases d with
  | ref n =>
    obtain ⟨o, e⟩ := t
    cases o <;> simp [fIsi, tyNm, e, subTy, tyNms]
  | ro _ => exact t.elim
  | ty _ => exact t.elim
  | _ => simp [fIsi, tyNm, subTy, tyNms]
theorem due_ne {h : Hh} {k : Nat} (L : List D) : pEq (.ref h.length) (.ref (h ++ [O.lst (L.map fun _ => D.int 1)]).length) (h ++ [O.lst (L.map fun _ => D.int 1)] ++ [O.lst []]) = .ok (decide (L = [])) (h ++ [O.lst (L.map fun _ => D.int 1)] ++ [O.lst []]) := by
  have hx : L.map (fun _ => D.int 1) = (L.map fun _ => (1 : Int)).map D.int := by rw [List.map_map]; rfl
  rw [pEq_lst_nil (x := L.map fun _ => D.int 1) (by simp) (get_end _ _ _) ⟨_, by rw [hx]; exact allP_ints _ _ _⟩]
  congr 1
  exact decide_eq_decide.mpr (by simp)
theorem gc_any (h : Hh) (d : D) (i : Nat) (o : O) (g : Hh) : ∃ g', gcR h d (h.set i o ++ g) = .ok d (h.set i o ++ g') := by
  unfold gcR
  split
  · refine ⟨[], ?_⟩
    have : (h.set i o ++ g).take h.length = h.set i o := by
      have : h.length = (h.set i o).length := by rw [List.length_set]
      rw [this, List.take_left]
    rw [this, List.append_nil]
  · exact ⟨g, rfl⟩
/-! values that both judge alike -/
theorem typed_set {h : Hh} {d : D} {i : Nat} {o : O} (t : typed h d) : typed (h.set i o) d := by
  cases d <;> simp only [typed] at t ⊢
  rename_i n
  obtain ⟨x, e⟩ := t
  exact ⟨_, List.getElem?_eq_getElem (by rw [List.length_set]; exact (List.getElem?_eq_some_iff.mp e).1)⟩
/-! the values near a word -/
section
variable {G : Hh} {n : Int} {a b t : List Int} {v0 : Option D}
end
theorem pEq_pair (a b : List Int) (h : Hh) : pEq (.tup [tints a, tints b]) (.tup [tints a, tints b]) h = .ok true h := by
  unfold pEq
  rw [show (8 : Nat) = 7 + 1 from rfl, toP_tup]
  simp only [allP, show (7 : Nat) = 6 + 1 from rfl, toP_tup, allP_ints]
  simp [PyData.eqv, PyData.eqvAll]
theorem word_con {n : Int} {w : List Int} (h : Word n w = true) : Word n (con w) = true := by
  obtain ⟨h1, h2, h3⟩ := parts h
  exact word_of (con_row h1) (con_bare h2) (by rw [con_length]; exact h3)
theorem bareW_row {n : Int} {w : List Int} (h : Row n w = true) : Row n (bareW w) = true := row_sub h fun x hx => bareW_mem hx
theorem stop_ex (w : List Int) (hw : w.length ≤ 100000) : ∃ j, Stop w j := by
  obtain ⟨j, s, _⟩ := core_eq (h := []) (w := w) (by omega)
  exact ⟨j, s⟩
theorem word_core {n : Int} {w : List Int} (h : Word n w = true) {j : Nat} (s : Stop w j) : IsCore w (midW w j) ∧ Bare (midW w j) ∧ Row n (midW w j) = true ∧ (midW w j).length ≤ w.length := by
  obtain ⟨h1, h2, h3⟩ := parts h
  have hc := s.core h2 (row_nz h1)
  exact ⟨hc, core_bare h2 hc, row_sub h1 (core_mem hc), core_len hc⟩
end K01
namespace K01
open PySem L2 Sm Wo
/-! ### the cut into equal pieces -/
def perB (c : List Int) (q : Nat) : Bool := decide (c.length % q = 0) && decide (rep (c.length / q) (c.take q) = c)
theorem perB_iff {c : List Int} {q : Nat} (h1 : 0 < q) (h2 : q ≤ c.length) : perB c q = true ↔ Per c q := by
  unfold perB
  rw [Bool.and_eq_true, decide_eq_true_eq, decide_eq_true_eq]
  exact ⟨fun ⟨a, b⟩ => ⟨h1, h2, a, b⟩, fun h => ⟨h.dv, h.eq⟩⟩
/-- one size tried, by any names -/
theorem per_test {h : Hh} {l : Lo} {c : List Int} {q i j : Nat} {f : FE} (hc : c.length ≤ 1000) (h1 : 0 < q) (h2 : q ≤ c.length) (hi : l[i]? = some (some (tints c))) (hj : l[j]? = some (some (.int q))) (hf : f l h = .ok (.int c.length) h) :
    (tAnd (tB (eBin oEq (eBin oMod f (eVar j)) (eC (.int 0)))) (tB (eBin oEq (eBin oMul (eSl oSl (eVar i) pNo (pAt (eVar j))) (eBin oDiv f (eVar j))) (eVar i)))) l h = .ok (perB c q) h := by
  have q0 : (q : Int) ≠ 0 := by omega
  have m1 : (c.length : Int).fmod (q : Int) = ((c.length % q : Nat) : Int) := by rw [fmod_pos (by omega)]; omega
  have m2 : (c.length : Int).fdiv (q : Int) = ((c.length / q : Nat) : Int) := by rw [fdiv_pos (by omega)]; omega
  have hB : (q : Int).natAbs < BIG := small_BIG (by omega)
  have hd : c.length / q ≤ c.length := Nat.div_le_self _ _
  have ht : (c.take q).length ≤ 1000 := by rw [List.length_take]; omega
  have e1 : oMod (.int c.length) (.int q) h = .ok (.int ((c.length % q : Nat) : Int)) h := by rw [oMod_int, if_pos q0, m1]
  have e2 : oDiv (.int c.length) (.int q) h = .ok (.int ((c.length / q : Nat) : Int)) h := by rw [oDiv_int, if_pos ⟨q0, hB⟩, m2]
  have e3 : oMul (tints (c.take q)) (.int ((c.length / q : Nat) : Int)) h = .ok (tints (rep (c.length / q) (c.take q))) h := by
    have hk0 := Int.natCast_nonneg (c.length / q)
    have hk1 : ((c.length / q : Nat) : Int) ≤ 1000 := by exact_mod_cast Nat.le_trans hd hc
    rw [oMul_tup, if_pos ⟨hk1, by omega, by rw [List.length_map]; exact ht⟩, Int.toNat_natCast, rep_ints]
  have e4 : oSl (tints c) none (some (q : Int)) h = .ok (tints (c.take q)) h := by
    simp [cutD_to, List.map_take]
  unfold perB
  simp only [tAnd_ap, tB_ap, eBin_ap, eVar_ap, hi, hj, hf, R.bind_ok, e1, eC_ap, oEq_ap, pEq_int, asB_bl]
  have z : ((c.length % q : Nat) : Int) = 0 ↔ c.length % q = 0 := by omega
  by_cases hz : c.length % q = 0
  · simp only [hz, Int.natCast_zero, decide_true, if_true, eSl_ap, eVar_ap, hi, hj, R.bind_ok, pNo_ap, pAt_ap, asI_int, e4, hf, e2, e3, pEq_ints, asB_bl, Bool.true_and]
  · simp only [z, hz, decide_false, Bool.false_eq_true, if_false, Bool.false_and]
theorem per_unique {c : List Int} {p : Nat} (h : Per c p) (hl : ∀ q, Per c q → p ≤ q) : ∀ q, q ≤ c.length → 0 < q → q < p → perB c q = false := fun q h1 h2 h3 => by
  cases e : perB c q with
  | false => rfl
  | true =>
    have := hl q ((perB_iff h2 h1).mp e)
    omega
theorem min_spec : ∀ (ns : List Int) (n : Int), ns.foldl min n ∈ n :: ns ∧ ∀ x ∈ n :: ns, ns.foldl min n ≤ x
  | [], n => by simp
  | y :: ys, n => by
    rw [List.foldl_cons]
    obtain ⟨h1, h2⟩ := min_spec ys (min n y)
    refine ⟨?_, fun x hx => ?_⟩
    · rcases List.mem_cons.mp h1 with h1 | h1
      · rw [h1]
        by_cases q : n ≤ y
        · rw [Int.min_eq_left q]; simp
        · rw [Int.min_eq_right (by omega)]; simp
      · exact List.mem_cons_of_mem _ (List.mem_cons_of_mem _ h1)
    · have h3 := h2 (min n y) List.mem_cons_self
      rcases List.mem_cons.mp hx with rfl | hx
      · omega
      · rcases List.mem_cons.mp hx with rfl | hx
        · omega
        · exact h2 x (List.mem_cons_of_mem _ hx)
theorem fMin1_lst {k : Nat} {ns : List Int} {p : Int} {h : Hh} (e : h[k]? = some (.lst (ns.map D.int))) (h1 : p ∈ ns) (h2 : ∀ x ∈ ns, p ≤ x) : fMin1 [.ref k] h = .ok (.int p) h := by
  cases ns with
  | nil => cases h1
  | cons n ns =>
    have e1 : asIs (D.int n :: ns.map D.int) = some (n :: ns) := asIs_map (n :: ns)
    rw [List.map_cons] at e
    simp only [fMin1, rowOf, e, e1]
    obtain ⟨a, b⟩ := min_spec ns n
    have c1 := b p h1
    have c2 := h2 _ a
    rw [show ns.foldl min n = p by omega]
theorem root_in_at {w u x : List Int} {m : Nat} (r : Root w u x m) (hw : w.length ≤ 1000) (h : Hh) : m_root_in [tints w] h = .ok (.tup [tints (u ++ x ++ con u), .int (m : Nat)]) h := by
  obtain ⟨s, e1, e2⟩ := r.stop
  have hc := core_at s (show w.length ≤ 1000000 by omega) h
  rw [e1, e2] at hc
  obtain ⟨p1, p2⟩ := prim_per r.prim r.pos
  have hcl : (rep m x).length ≤ 1000 := by
    have := r.eq ▸ hw
    simp only [List.length_append] at this
    omega
  have hul : u.length ≤ 1000 := by
    have := r.eq ▸ hw
    simp only [List.length_append] at this
    omega
  have hx0 := p1.pos
  have hxl := p1.le
  have hm : (rep m x).length = m * x.length := rep_length m x
  have htk : (rep m x).take x.length = x := by
    obtain ⟨k, hk⟩ : ∃ k, m = k + 1 := ⟨m - 1, by have := r.pos; omega⟩
    rw [hk, rep_succ, List.take_left]
  have hdv : (rep m x).length / x.length = m := by rw [hm, Nat.mul_div_cancel _ hx0]
  generalize hcdef : rep m x = c at *
  have hin : inR ((c.length : Int) + 1) = true := inR_of (by omega) (by omega)
  have hin1 : inR 1 = true := by decide
  have hrn : ((c.length : Int) + 1 - 1).toNat = c.length := by omega
  have hcomp : ∀ (v1 v2 : Option D), (eLc (iRange2 (aCons (eC (.int 1)) (aCons (eBin oAdd (eVar 1) (eC (.int 1))) aNil))) (gNm 5) (tAnd (tB (eBin oEq (eBin oMod (eVar 1) (eVar 5)) (eC (.int 0)))) (tB (eBin oEq (eBin oMul (eSl oSl (eVar 4) pNo (pAt (eVar 5))) (eBin oDiv (eVar 1) (eVar 5))) (eVar 4)))) (eVar 5) [5]) [v1, some (.int c.length), v2, some (tints u), some (tints c), none] h = .ok (.ref h.length) (h ++ [.lst (((rngL 1 c.length).filter fun d => match d with | .int q => perB c q.toNat | _ => false).map id)]) := by
    intro v1 v2
    simp only [eLc_ap, iRange2_ap, aCons_ap, eC_ap, aNil_ap, eBin_ap, eVar_ap, List.getElem?_cons_succ, List.getElem?_cons_zero, R.bind_ok, oAdd_int, rng2, hin, hin1, and_self, if_true, hrn, wipeL_cons, wipeL_nil, List.set_cons_succ, List.set_cons_zero]
    rw [comp_filter id (fun d => match d with | .int q => perB c q.toNat | _ => false) (rngL 1 c.length) (by simp [rngL, sz_eq]; omega) ?_]
    · rfl
    · intro d hd a
      obtain ⟨i, hi, rfl⟩ := List.mem_map.mp hd
      have hi' := List.mem_range.mp hi
      have hq : (1 + (i : Int)).toNat = 1 + i := by omega
      refine ⟨_, rfl, ?_, fun _ => ?_⟩
      · simp only [hq]
        exact per_test (q := 1 + i) (i := 4) (j := 5) hcl (by omega) (by omega) rfl rfl rfl
      · rfl
  have hlist : (((rngL 1 c.length).filter fun d => match d with | .int q => perB c q.toNat | _ => false).map id) = ((((List.range c.length).map fun (i : Nat) => (1 + (i : Int) : Int)).filter fun (q : Int) => perB c q.toNat).map D.int) := by
    rw [List.map_id]
    unfold rngL
    rw [List.filter_map, List.filter_map, List.map_map]
    rfl
  have hmin : ∀ g, fMin1 [.ref h.length] (h ++ [.lst ((((List.range c.length).map fun (i : Nat) => (1 + (i : Int) : Int)).filter fun (q : Int) => perB c q.toNat).map D.int)] ++ g) = .ok (.int (x.length : Nat)) (h ++ [.lst ((((List.range c.length).map fun (i : Nat) => (1 + (i : Int) : Int)).filter fun (q : Int) => perB c q.toNat).map D.int)] ++ g) := by
    intro g
    refine fMin1_lst (by rw [List.append_assoc]; exact get_end _ _ _) ?_ ?_
    · rw [List.mem_filter]
      refine ⟨List.mem_map.mpr ⟨x.length - 1, List.mem_range.mpr (by omega), by omega⟩, ?_⟩
      rw [Int.toNat_natCast]
      exact (perB_iff hx0 hxl).mpr p1
    · intro y hy
      rw [List.mem_filter] at hy
      obtain ⟨hy1, hy2⟩ := hy
      obtain ⟨i, hi, rfl⟩ := List.mem_map.mp hy1
      have hi' := List.mem_range.mp hi
      have hq : (1 + (i : Int)).toNat = 1 + i := by omega
      rw [hq] at hy2
      have := p2 _ ((perB_iff (by omega) (by omega)).mp hy2)
      omega
  rw [hlist] at hcomp
  have hmin0 := hmin []
  rw [List.append_nil] at hmin0
  have hcon := fun h => contrary_eq (w := u) h (by rw [sz_eq]; omega)
  have hsl : ∀ h, oSl (tints c) none (some (x.length : Int)) h = .ok (tints x) h := fun h => by
    simp [cutD_to]
    rw [← List.map_take, htk]
  have hdi : ∀ h, oDiv (.int c.length) (.int x.length) h = .ok (.int (m : Nat)) h := fun h => by
    rw [oDiv_int, if_pos ⟨by omega, small_BIG (by omega)⟩, fdiv_pos (by omega)]
    have : (c.length : Int) / (x.length : Int) = ((c.length / x.length : Nat) : Int) := (Int.natCast_ediv _ _).symm
    rw [this, hdv]
  have hz : u.length + (x.length + u.length) ≤ sz := by rw [sz_eq]; omega
  simp only [m_root_in, b_root_in, mkF_ap, List.length_cons, List.length_nil, if_true, List.map_cons, List.map_nil, List.replicate, List.cons_append, List.nil_append, sSeq_ap, sAsg_ap, eCall_ap, aCons_ap, aNil_ap, eVar_ap, List.getElem?_cons_succ, List.getElem?_cons_zero, R.bind_ok, hc, gTp_ap, itemsOf_tup, gCo_ap, gNm_ap, gNo_ap, List.set_cons_succ, List.set_cons_zero, Nat.reduceAdd, Nat.reduceSub, if_true]
  have z2 : 2 ≤ sz := by decide
  simp [hcomp, hmin0, hsl, hdi, hcon, hz, z2, -eLc_ap, con_length]

/-! ### the law's own root -/
abbrev rootB : FS := (sIf (tAnd (tB (eBin oEq (eBin oMod (eCall fLen (aCons (eVar 1) aNil)) (eVar 3)) (eC (.int 0)))) (tB (eBin oEq (eBin oMul (eSl oSl (eVar 1) pNo (pAt (eVar 3))) (eBin oDiv (eCall fLen (aCons (eVar 1) aNil)) (eVar 3))) (eVar 1))))
    (sRet (eTup (aCons (eCall m__law_bare (aCons (eBin oAdd (eBin oAdd (eVar 2) (eSl oSl (eVar 1) pNo (pAt (eVar 3)))) (eCall m__law_back (aCons (eVar 2) aNil))) aNil)) (aCons (eBin oDiv (eCall fLen (aCons (eVar 1) aNil)) (eVar 3)) aNil))))
    sPass)
theorem rngL_succ (lo : Int) (n : Nat) : rngL lo (n + 1) = .int lo :: rngL (lo + 1) n := by
  unfold rngL
  rw [List.range_succ_eq_map, List.map_cons, List.map_map]
  simp only [Int.natCast_zero, Int.add_zero, List.cons.injEq, true_and]
  refine List.map_congr_left fun i _ => ?_
  simp only [Function.comp_apply]
  congr 1
  omega
theorem root_turns {h : Hh} {v0 : Option D} {u c x : List Int} {m : Nat} (hc : c.length ≤ 1000) (hu : u.length ≤ 1000) (hb : Bare (u ++ x ++ con u)) (p : Per c x.length) (hl : ∀ q, Per c q → x.length ≤ q) (htk : c.take x.length = x) (hm : c.length / x.length = m) : ∀ (n q : Nat) (v3 : Option D), 0 < q → q ≤ x.length → q + n = c.length + 1 →
    ∃ l', loop (fun _ => true) (gNm 3) rootB (rngL (q : Int) n) [v0, some (tints c), some (tints u), v3] h = .ok (.rt (.tup [tints (u ++ x ++ con u), .int (m : Nat)]), l') h := by
  intro n
  induction n with
  | zero =>
    intro q v3 h1 h2 h3
    have := p.le
    omega
  | succ n ih =>
    intro q v3 h1 h2 h3
    have hle := p.le
    have ht : ∀ h, (tAnd (tB (eBin oEq (eBin oMod (eCall fLen (aCons (eVar 1) aNil)) (eVar 3)) (eC (.int 0)))) (tB (eBin oEq (eBin oMul (eSl oSl (eVar 1) pNo (pAt (eVar 3))) (eBin oDiv (eCall fLen (aCons (eVar 1) aNil)) (eVar 3))) (eVar 1)))) [v0, some (tints c), some (tints u), some (.int (q : Int))] h = .ok (perB c q) h := fun h =>
      per_test (q := q) (i := 1) (j := 3) hc h1 (by omega) rfl rfl (by simp)
    rw [rngL_succ, loop_cons]
    simp only [if_true, gNm_ap, R.bind_ok, List.set_cons_succ, List.set_cons_zero, sIf_ap, ht]
    by_cases hq : q < x.length
    · rw [per_unique p hl q (by omega) h1 hq]
      simp only [Bool.false_eq_true, if_false, sPass_ap, R.bind_ok]
      have := ih (q + 1) (some (.int (q : Int))) (by omega) (by omega) (by omega)
      rw [Int.natCast_add, Int.natCast_one] at this
      exact this
    · have hqe : q = x.length := by omega
      subst hqe
      rw [(perB_iff h1 (by omega)).mpr p]
      have hcon := fun h => lback_eq (w := u) h (by rw [sz_eq]; omega)
      have hsl : ∀ h, oSl (tints c) none (some (x.length : Int)) h = .ok (tints x) h := fun h => by
        simp [cutD_to]
        rw [← List.map_take, htk]
      have hdi : ∀ h, oDiv (.int c.length) (.int x.length) h = .ok (.int (m : Nat)) h := fun h => by
        rw [oDiv_int, if_pos ⟨by omega, small_BIG (by omega)⟩, fdiv_pos (by omega)]
        have : (c.length : Int) / (x.length : Int) = ((c.length / x.length : Nat) : Int) := (Int.natCast_ediv _ _).symm
        rw [this, hm]
      have hz1 : u.length + x.length ≤ sz := by rw [sz_eq]; omega
      have hz2 : u.length + x.length + u.length ≤ sz := by rw [sz_eq]; omega
      have hlb := lbare_eq (h := h) (row := u ++ x ++ con u) (by simp only [List.length_append, con_length]; rw [sz_eq]; omega)
      rw [bareW_of hb] at hlb
      have z2 : 2 ≤ sz := by decide
      have e3 : ∀ h, oAdd (tints u) (tints x) h = .ok (tints (u ++ x)) h := fun h => by simp [hz1]
      have e4 : ∀ h, oAdd (tints (u ++ x)) (tints (con u)) h = .ok (tints (u ++ x ++ con u)) h := fun h => by simp [hz2, con_length]
      refine ⟨[v0, some (tints c), some (tints u), some (.int (x.length : Int))], ?_⟩
      simp only [if_true, sRet_ap, eTup_ap, aCons_ap, aNil_ap, eCall_ap, eBin_ap, eVar_ap, List.getElem?_cons_succ, List.getElem?_cons_zero, R.bind_ok, eSl_ap, pNo_ap, pAt_ap, asI_int, hsl, e3, hcon, e4, hlb, fLen_tup, List.length_map, hdi, List.length_cons, List.length_nil, Nat.zero_add, Nat.reduceAdd, z2]
theorem lroot_at {w u x : List Int} {m : Nat} (r : Root w u x m) (hb : Bare w) (hw : w.length ≤ 1000) (h : Hh) : m__law_root [tints w] h = .ok (.tup [tints (u ++ x ++ con u), .int (m : Nat)]) h := by
  obtain ⟨s, e1, e2⟩ := r.stop
  have hlc := fun h => lcore_at s (show w.length ≤ 100000 by omega) h
  rw [e2] at hlc
  obtain ⟨p1, p2⟩ := prim_per r.prim r.pos
  have hlen := congrArg List.length r.eq
  simp only [List.length_append, con_length] at hlen
  have hx0 := p1.pos
  have hm : (rep m x).length = m * x.length := rep_length m x
  have htk : (rep m x).take x.length = x := by
    obtain ⟨k, hk⟩ : ∃ k, m = k + 1 := ⟨m - 1, by have := r.pos; omega⟩
    rw [hk, rep_succ, List.take_left]
  have hdv : (rep m x).length / x.length = m := by rw [hm, Nat.mul_div_cancel _ hx0]
  obtain ⟨l', hl⟩ := root_turns (h := h) (v0 := some (tints w)) (u := u) (c := rep m x) (x := x) (m := m) (by omega) (by omega) (r.base hb) p1 p2 htk hdv (rep m x).length 1 none (by omega) (by omega) (by omega)
  have hsub : ((w.length : Int) - ((rep m x).length : Int)).fdiv 2 = (u.length : Int) := by
    rw [fdiv_pos (by decide)]
    omega
  have hB : (2 : Int).natAbs < BIG := small_BIG (by decide)
  have hin : inR (((rep m x).length : Int) + 1) = true := inR_of (by omega) (by omega)
  have hin1 : inR 1 = true := by decide
  have hrn : (((rep m x).length : Int) + 1 - 1).toNat = (rep m x).length := by omega
  have hsl : ∀ h, oSl (tints w) none (some (u.length : Int)) h = .ok (tints u) h := fun h => by
    simp [cutD_to]
    rw [← List.map_take, e1]
  have hdi : ∀ h, oDiv (.int ((w.length : Int) - ((rep m x).length : Int))) (.int 2) h = .ok (.int u.length) h := fun h => by
    rw [oDiv_int, if_pos ⟨by decide, hB⟩, hsub]
  have hl' : loop (fun _ => true) (gNm 3) rootB (rngL 1 (rep m x).length) [some (tints w), some (tints (rep m x)), some (tints u), none] h = .ok (.rt (.tup [tints (u ++ x ++ con u), .int (m : Nat)]), l') h := hl
  have hap : m__law_root [tints w] h = fin h (b__law_root [some (tints w), none, none, none] h) := by simp [m__law_root, List.replicate]
  rw [hap]
  unfold b__law_root
  simp only [sSeq_ap, sAsg_ap, eCall_ap, aCons_ap, aNil_ap, eVar_ap, List.getElem?_cons_succ, List.getElem?_cons_zero, R.bind_ok, hlc, gNm_ap, List.set_cons_succ, List.set_cons_zero, eSl_ap, eBin_ap, pNo_ap, pAt_ap, fLen_tup, List.length_map, oSub_int, eC_ap, hdi, asI_int, hsl, sFor_ap, iRange2_ap, oAdd_int, rng2, hin, hin1, and_self, if_true, hrn]
  rw [hl']
  simp
end K01
namespace K01
open PySem L2 Sm Wo
theorem rep0 (w : List Int) : rep 0 w = [] := rfl
theorem lpow_all {h : Hh} {w : List Int} {k : Int} (hw : w.length ≤ 1000) (hk : k.natAbs ≤ 1000) : ∃ e', loop (fun _ => true) (gNm 3) (sAsg (eBin oAdd (eVar 2) (eVar 0)) (gNm 2)) (rngL 0 (if w = [] then 0 else k.natAbs)) [some (tints w), some (.int k), some (.tup []), none] h = .ok (.nx, [some (tints w), some (.int k), some (tints (rep k.natAbs w)), e']) h := by
  by_cases he : w = []
  · subst he
    refine ⟨none, ?_⟩
    rw [if_pos rfl, rep_nil]
    rfl
  · obtain ⟨e', h1⟩ := lpow_loop (h := h) (v1 := some (.int k)) hw (rngL 0 k.natAbs) 0 none (by simp [rngL]; omega)
    refine ⟨e', ?_⟩
    rw [if_neg he]
    have e2 : 0 + (rngL 0 k.natAbs).length = k.natAbs := by simp [rngL]
    rw [e2, rep0, show (tints [] : D) = .tup [] from rfl] at h1
    exact h1
theorem lpow_bare {w : List Int} {k : Int} (hw : w.length ≤ 1000) (hk : k.natAbs ≤ 1000) : (rep k.natAbs w).length ≤ 1000000 := by
  have hrl := rep_length k.natAbs w
  have hrl2 : k.natAbs * w.length ≤ 1000 * 1000 := Nat.mul_le_mul hk hw
  omega
theorem fin2 {h : Hh} {w : List Int} {k : Int} (hw : w.length ≤ 1000) (hk : k.natAbs ≤ 1000) (l : Lo) : fin h ((((if 0 ≤ k then R.ok (tints (rep k.natAbs w)) h else m__law_back [tints (rep k.natAbs w)] h).bind fun x h1 => R.ok [x] h1).bind m__law_bare).bind fun d h1 => R.ok (Fl.rt d, l) h1) = .ok (tints (pw w k)) h := by
  have hlen := lpow_bare hw hk
  have hlt : (rep k.natAbs w).length < sz := by rw [sz_eq]; omega
  have hb1 := lbare_eq (h := h) hlt
  have hb2 := lbare_eq (h := h) (row := con (rep k.natAbs w)) (by rw [con_length]; exact hlt)
  have hb3 := lback_eq (w := rep k.natAbs w) h (by omega)
  unfold pw
  by_cases h0 : 0 ≤ k
  · rw [if_pos h0, if_pos h0]
    simp only [R.bind_ok, hb1, fin_rt, gc_same]
  · rw [if_neg h0, if_neg h0, hb3]
    rw [con_rep] at hb2 ⊢
    simp only [R.bind_ok, hb2, fin_rt, gc_same]
theorem hin0 : inR 0 = true := inR_of (by omega) (by omega)
theorem powered_nil {h : Hh} {k : Int} (hk : k.natAbs ≤ 1000) : m__law_powered [tints [], .int k] h = .ok (tints (pw [] k)) h := by
  obtain ⟨e', key⟩ := lpow_all (h := h) (w := []) (by simp) hk
  rw [if_pos rfl] at key
  have f := fin2 (h := h) (w := []) (by simp) hk [some (tints []), some (D.int k), some (tints (rep k.natAbs [])), e']
  simp [m__law_powered, b__law_powered, List.replicate, hin0, rng1, key]
  exact f
theorem powered_cons {h : Hh} {w : List Int} {k : Int} (he : w ≠ []) (hw : w.length ≤ 1000) (hk : k.natAbs ≤ 1000) : m__law_powered [tints w, .int k] h = .ok (tints (pw w k)) h := by
  obtain ⟨e', key⟩ := lpow_all (h := h) hw hk
  rw [if_neg he] at key
  have hab : (if k < 0 then -k else k) = (k.natAbs : Int) := by split <;> omega
  have hin : inR (k.natAbs : Int) = true := inR_of (by omega) (by omega)
  have e3 : pEq (tints w) (.tup []) h = .ok false h := by
    rw [pEq_ints_nil]
    simp [he]
  have e4 : rng1 [.int (k.natAbs : Int)] h = .ok ⟨rngL 0 k.natAbs, fun _ => true⟩ h := by
    simp [rng1, hin]
  have f := fin2 (h := h) hw hk [some (tints w), some (D.int k), some (tints (rep k.natAbs w)), e']
  simp [m__law_powered, b__law_powered, List.replicate, hab, e3, e4, key]
  exact f
theorem powered_eq {h : Hh} {w : List Int} {k : Int} (hw : w.length ≤ 1000) (hk : k.natAbs ≤ 1000) : m__law_powered [tints w, .int k] h = .ok (tints (pw w k)) h := by
  by_cases he : w = []
  · subst he; exact powered_nil hk
  · exact powered_cons he hw hk
end K01
namespace K01
open PySem L2 Sm Wo
/-! ### powers of roots -/
theorem pw_root {u x : List Int} {m : Nat} (hb : Bare (u ++ x ++ con u)) (hp : x ≠ []) (hc : Cyc x) (hm : 0 < m) : pw (u ++ x ++ con u) (m : Nat) = u ++ rep m x ++ con u := by
  unfold pw
  rw [if_pos (by omega), Int.natAbs_natCast, rep_turn m u x (m - 1) (by omega), bareW_of (power_bare hb hp hc hm)]
theorem pw_con (w : List Int) (m : Nat) : pw (con w) (m : Nat) = pw w (-(m : Nat)) := by
  unfold pw
  rw [if_pos (by omega)]
  by_cases h : m = 0
  · subst h
    rfl
  · rw [if_neg (by omega)]
    congr 1
    congr 1
    omega
theorem pw_zero (w : List Int) : pw w 0 = [] := rfl
theorem pw_empty (k : Int) : pw [] k = [] := by
  unfold pw
  have : (if 0 ≤ k then ([] : List Int) else con []) = [] := by split <;> rfl
  rw [this, rep_nil]
  rfl
theorem pw_long {w : List Int} (hb : Bare w) (hz : NZ w) (hw : w ≠ []) (k : Int) : k.natAbs ≤ (pw w k).length := by
  by_cases hk : k = 0
  · subst hk; simp
  · obtain ⟨v, hv⟩ : ∃ v, v = (if 0 ≤ k then w else con w) := ⟨_, rfl⟩
    have b2 : Bare v := by rw [hv]; split; exact hb; exact con_bare hb
    have b3 : NZ v := by rw [hv]; split; exact hz; exact hz.con
    have b4 : v ≠ [] := by rw [hv]; split; exact hw; exact fun e => hw (con_nil_iff.mp e)
    have s : ∃ j, Stop v j := by
      by_cases hl : v.length ≤ 100000
      · exact stop_ex v hl
      · obtain ⟨j, hj⟩ : ∃ j : Nat, 2 * j ≤ v.length ∧ (∀ i, i < j → ∃ x, v[i]? = some x ∧ v[v.length - 1 - i]? = some (-x)) ∧ ¬ (2 * j + 1 < v.length ∧ ∃ x, v[j]? = some x ∧ v[v.length - 1 - j]? = some (-x)) := by
          have key : ∀ n k, v.length - k ≤ n → 2 * k ≤ v.length → (∀ i, i < k → ∃ x, v[i]? = some x ∧ v[v.length - 1 - i]? = some (-x)) → ∃ j : Nat, 2 * j ≤ v.length ∧ (∀ i, i < j → ∃ x, v[i]? = some x ∧ v[v.length - 1 - i]? = some (-x)) ∧ ¬ (2 * j + 1 < v.length ∧ ∃ x, v[j]? = some x ∧ v[v.length - 1 - j]? = some (-x)) := by
            intro n
            induction n with
            | zero =>
              intro k h1 h2 h3
              omega
            | succ n ih =>
              intro k h1 h2 h3
              by_cases q : 2 * k + 1 < v.length ∧ ∃ x, v[k]? = some x ∧ v[v.length - 1 - k]? = some (-x)
              · refine ih (k + 1) (by omega) (by omega) fun i hi => ?_
                by_cases e : i = k
                · rw [e]; exact q.2
                · exact h3 i (by omega)
              · exact ⟨k, h2, h3, q⟩
          exact key _ 0 (Nat.le_refl _) (by omega) (fun i hi => by omega)
        exact ⟨j, hj.1, hj.2.1, hj.2.2⟩
    obtain ⟨j, s⟩ := s
    have h1 := s.power b2 b4 b3 (n := k.natAbs) (by omega)
    have h2 := (s.mid b2 b4 b3).1
    have h3 : 0 < (midW v j).length := List.length_pos_iff.mpr h2
    unfold pw
    rw [← hv, h1]
    simp only [List.length_append, rep_length]
    have : k.natAbs * 1 ≤ k.natAbs * (midW v j).length := Nat.mul_le_mul_left _ h3
    omega
/-! ### the interface -/
theorem root_i {n : Int} {w u x : List Int} {m : Nat} (h1 : 1 ≤ n) (h2 : n ≤ 5) (hw : Word n w = true) (r : Root w u x m) (h : Hh) : m_root [.int n, tints w] h = .ok (.tup [tints (u ++ x ++ con u), .int (m : Nat)]) h := by
  have h0 : w ≠ [] := fun e => by
    have := r.prim.1
    have hm := r.pos
    have := congrArg List.length (e ▸ r.eq)
    simp only [List.length_append, rep_length, List.length_nil] at this
    have : 0 < m * x.length := Nat.mul_pos hm (List.length_pos_iff.mpr r.prim.1)
    omega
  have hp := (parts hw).2.2
  simp [m_root, b_root, List.replicate, rq_lw h1 h2 hw, h0, root_in_at r (show w.length ≤ 1000 by omega)]
/-- what is told of two words that go together -/
structure Told (a b w : List Int) (i j : Int) : Prop where
  one : pw w i = a
  other : pw w j = b
  bi : i.natAbs ≤ 200
  bj : j.natAbs ≤ 200
  sub : ∀ x ∈ w, x ∈ a ∨ x ∈ b
  bare : Bare w
  len : w.length ≤ a.length + b.length
theorem root_word {w u x : List Int} {m : Nat} (r : Root w u x m) (hw : w.length ≤ 200) : m ≤ 200 ∧ (u ++ x ++ con u).length ≤ w.length ∧ ∀ y ∈ u ++ x ++ con u, y ∈ w := by
  have hx0 : 0 < x.length := List.length_pos_iff.mpr r.prim.1
  obtain ⟨k, hk⟩ : ∃ k, m = k + 1 := ⟨m - 1, by have := r.pos; omega⟩
  have hl := congrArg List.length r.eq
  simp only [List.length_append, rep_length, con_length] at hl
  have h1 : m * 1 ≤ m * x.length := Nat.mul_le_mul_left _ hx0
  have h2 : 1 * x.length ≤ m * x.length := Nat.mul_le_mul_right _ (by omega)
  refine ⟨by omega, ?_, fun y hy => ?_⟩
  · simp only [List.length_append, con_length]
    omega
  · rw [r.eq, hk, rep_succ]
    simp only [List.mem_append] at hy ⊢
    rcases hy with (hy | hy) | hy
    · exact .inl (.inl hy)
    · exact .inl (.inr (.inl hy))
    · exact .inr hy
theorem root_bare {w u x : List Int} {m : Nat} (r : Root w u x m) (hb : Bare w) : pw (u ++ x ++ con u) (m : Nat) = w := by
  rw [pw_root (r.base hb) r.prim.1 r.cyc r.pos]
  exact r.eq.symm
theorem exps_nn (h : Hh) : m_exponents_in [tints [], tints []] h = .ok (.tup [tints [], .int 0, .int 0]) h := by
  have z3 : 3 ≤ sz := by decide
  have e : pEq (.tup []) (.tup []) h = .ok true h := pEq_ints [] [] h
  simp [m_exponents_in, b_exponents_in, List.replicate, z3, e]
theorem exps_nb {b u x : List Int} {m : Nat} (r : Root b u x m) (h0 : b ≠ []) (hl : b.length ≤ 1000) (h : Hh) : m_exponents_in [tints [], tints b] h = .ok (.tup [tints (u ++ x ++ con u), .int 0, .int (m : Nat)]) h := by
  have z3 : 3 ≤ sz := by decide
  have e : pEq (.tup []) (.tup []) h = .ok true h := pEq_ints [] [] h
  simp [m_exponents_in, b_exponents_in, List.replicate, z3, e, h0, root_in_at r hl]
theorem exps_an {a u x : List Int} {m : Nat} (r : Root a u x m) (h0 : a ≠ []) (hl : a.length ≤ 1000) (h : Hh) : m_exponents_in [tints a, tints []] h = .ok (.tup [tints (u ++ x ++ con u), .int (m : Nat), .int 0]) h := by
  have z3 : 3 ≤ sz := by decide
  have e : pEq (.tup []) (.tup []) h = .ok true h := pEq_ints [] [] h
  simp [m_exponents_in, b_exponents_in, List.replicate, z3, e, h0, root_in_at r hl]
theorem exps_ab {a b u x v y : List Int} {m k : Nat} (r : Root a u x m) (q : Root b v y k) (ha : a ≠ []) (hb : b ≠ []) (la : a.length ≤ 1000) (lb : b.length ≤ 1000) (h : Hh) :
    m_exponents_in [tints a, tints b] h = .ok (.tup [tints (u ++ x ++ con u), .int (m : Nat), .int (if v ++ y ++ con v = u ++ x ++ con u then (k : Int) else -(k : Int))]) h := by
  have z3 : 3 ≤ sz := by decide
  have e1 := fun h => root_in_at r la h
  have e2 := fun h => root_in_at q lb h
  generalize u ++ x ++ con u = s at *
  generalize v ++ y ++ con v = t at *
  by_cases c : t = s <;> simp [m_exponents_in, b_exponents_in, List.replicate, z3, ha, hb, e1, e2, c]
theorem exps_told {n : Int} {a b : List Int} (ha : Word n a = true) (hb : Word n b = true) (e : bareW (a ++ b) = bareW (b ++ a)) (h : Hh) : ∃ w i j, m_exponents_in [tints a, tints b] h = .ok (.tup [tints w, .int i, .int j]) h ∧ Told a b w i j := by
  obtain ⟨ra, ba, la⟩ := parts ha
  obtain ⟨rb, bb, lb⟩ := parts hb
  obtain ⟨p, sp⟩ := stop_ex a (by omega)
  obtain ⟨p', sp'⟩ := stop_ex b (by omega)
  by_cases a0 : a = []
  · subst a0
    by_cases b0 : b = []
    · subst b0
      exact ⟨[], 0, 0, exps_nn h, ⟨rfl, rfl, by decide, by decide, (fun x hx => by cases hx), trivial, by simp⟩⟩
    · obtain ⟨x, m, r⟩ := root_ex bb (row_nz rb) b0 sp'
      obtain ⟨k1, k2, k3⟩ := root_word r lb
      exact ⟨_, _, _, exps_nb r b0 (by omega) h, ⟨pw_zero _, root_bare r bb, by decide, by omega, fun y hy => .inr (k3 y hy), r.base bb, by omega⟩⟩
  · obtain ⟨x, m, r⟩ := root_ex ba (row_nz ra) a0 sp
    obtain ⟨k1, k2, k3⟩ := root_word r la
    by_cases b0 : b = []
    · subst b0
      exact ⟨_, _, _, exps_an r a0 (by omega) h, ⟨root_bare r ba, pw_zero _, by omega, by decide, fun y hy => .inl (k3 y hy), r.base ba, by omega⟩⟩
    · obtain ⟨j, hj, hc⟩ := comm_root r ba bb b0 e
      rcases hc with hc | hc
      · have q : Root b (a.take p) x j := ⟨hc, hj, r.prim, r.cyc⟩
        obtain ⟨l1, l2, l3⟩ := root_word q lb
        refine ⟨_, _, _, exps_ab r q a0 b0 (by omega) (by omega) h, ⟨root_bare r ba, ?_, by omega, by split <;> omega, fun y hy => .inl (k3 y hy), r.base ba, by omega⟩⟩
        rw [if_pos rfl]
        exact root_bare q bb
      · have q : Root b (a.take p) (con x) j := ⟨hc, hj, prim_con r.prim, cyc_con r.cyc⟩
        obtain ⟨l1, l2, l3⟩ := root_word q lb
        have hcon : a.take p ++ con x ++ con (a.take p) = con (a.take p ++ x ++ con (a.take p)) := by
          rw [con_app, con_app, con_con, List.append_assoc]
        have hB := r.base ba
        have hne : ¬ (a.take p ++ con x ++ con (a.take p) = a.take p ++ x ++ con (a.take p)) := fun e => by
          rw [hcon] at e
          have hz : NZ (a.take p ++ x ++ con (a.take p)) := fun y hy => row_nz ra y (k3 y hy)
          have := own_con hB hz e
          have hx := r.prim.1
          simp at this
          exact hx this.2.1
        refine ⟨_, _, _, exps_ab r q a0 b0 (by omega) (by omega) h, ⟨root_bare r ba, ?_, by omega, by split <;> omega, fun y hy => .inl (k3 y hy), hB, by omega⟩⟩
        rw [if_neg hne, ← pw_con, ← hcon]
        exact root_bare q bb
end K01
namespace K01
open PySem L2 Sm Wo
abbrev tR : D := .str ("root" : String)
abbrev tU : D := .str ("unlike" : String)
abbrev tC : D := .str ("Root" : String)
theorem toP_str8 {x : Str} (hx : PyData.strOk x = true) (h : Hh) (n : Nat) : toP h n (.str x) = some (.str x) := by cases n <;> simp [toP, hx]
theorem ok_R : PyData.strOk ("root" : String) = true := by decide +kernel
theorem ok_U : PyData.strOk ("unlike" : String) = true := by decide +kernel
theorem ok_C : PyData.strOk ("Root" : String) = true := by decide +kernel
theorem pEq_RR (h : Hh) : pEq tR tR h = .ok true h := by simp only [pEq, toP_str8 ok_R]; congr 1
theorem pEq_RU (h : Hh) : pEq tR tU h = .ok false h := by simp only [pEq, toP_str8 ok_R, toP_str8 ok_U]; congr 1
theorem pEq_UR (h : Hh) : pEq tU tR h = .ok false h := by simp only [pEq, toP_str8 ok_R, toP_str8 ok_U]; congr 1
theorem pEq_UU (h : Hh) : pEq tU tU h = .ok true h := by simp only [pEq, toP_str8 ok_U]; congr 1
theorem pEq_CR (h : Hh) : pEq tC tR h = .ok false h := by simp only [pEq, toP_str8 ok_R, toP_str8 ok_C]; congr 1
theorem pEq_CU (h : Hh) : pEq tC tU h = .ok false h := by simp only [pEq, toP_str8 ok_U, toP_str8 ok_C]; congr 1
theorem isi_tup (l : List D) (h : Hh) : fIsi [.tup l, .ty "tuple"] h = .ok (.bl true) h := by simp [fIsi, tyNm, subTy, tyNms]
theorem isi_str (s : Str) (h : Hh) : fIsi [.str s, .ty "str"] h = .ok (.bl true) h := by simp [fIsi, tyNm, subTy, tyNms]
theorem isi_no {h : Hh} {d : D} (t : typed h d) (hd : ∀ l, d ≠ .tup l) : fIsi [d, .ty "tuple"] h = .ok (.bl false) h := by
  cases d with
  | ref n =>
    obtain ⟨o, e⟩ := t
    cases o <;> simp [fIsi, tyNm, e, subTy, tyNms]
  | ro _ => exact t.elim
  | ty _ => exact t.elim
  | tup l => exact absurd rfl (hd l)
  | _ => simp [fIsi, tyNm, subTy, tyNms]
theorem power_of {w a : List Int} {k : Int} (hw : w.length ≤ 1000) (hb : Bare w) (hz : NZ w) (ha : a.length ≤ 200) (h : Hh) : m_is_power_of [tints w, .int k, tints a] h = .ok (.bl (decide (pw w k = a))) h := by
  by_cases w0 : w = []
  · subst w0
    have e : pEq (.tup []) (.tup []) h = .ok true h := pEq_ints [] [] h
    simp [m_is_power_of, b_is_power_of, List.replicate, e, pw_empty, eq_comm]
  by_cases k0 : k = 0
  · subst k0
    simp [m_is_power_of, b_is_power_of, List.replicate, w0, pw_zero, eq_comm]
  have hab : (if k < 0 then -k else k) = (k.natAbs : Int) := by split <;> omega
  by_cases hl : k.natAbs ≤ a.length
  · have hl' : (k.natAbs : Int) ≤ (a.length : Int) := by omega
    have e := power_in_eq (h := h) (w := w) (k := k) hw hb hz (by omega) (by omega)
    simp [m_is_power_of, b_is_power_of, List.replicate, w0, k0, hab, hl', e]
  · have hl' : ¬ (k.natAbs : Int) ≤ (a.length : Int) := by omega
    have hne : pw w k ≠ a := fun e => by
      have := pw_long hb hz w0 k
      rw [e] at this
      exact hl this
    simp [m_is_power_of, b_is_power_of, List.replicate, w0, k0, hab, hl', hne]
theorem two_ok' {n : Int} {a b : List Int} (h1 : 1 ≤ n) (h2 : n ≤ 5) (ha : Word n a = true) (hb : Word n b = true) (d : D) (h : Hh) : m_require_two_words [.int n, tints a, tints b] h = .ok .non h := two_ok h1 h2 ha hb h
/-- both judge alike -/
def Same (n : Int) (a b : List Int) (h : Hh) (d : D) (r : Bool) : Prop := m_is_common_root [.int n, tints a, tints b, d] h = .ok (.bl r) h ∧ m__law_is_due [.int n, tints a, tints b, d] h = .ok (.bl r) h
section
variable {n : Int} {a b : List Int} {h : Hh} (h1 : 1 ≤ n) (h2 : n ≤ 5) (ha : Word n a = true) (hb : Word n b = true)
include h1 h2 ha hb
theorem same_no {d : D} (t : typed h d) (hd : ∀ l, d ≠ .tup l) : Same n a b h d false := by
  constructor
  · simp [m_is_common_root, b_is_common_root, List.replicate, two_ok h1 h2 ha hb, isi_no t hd]
  · simp [m__law_is_due, b__law_is_due, List.replicate, isi_no t hd]
theorem pIn34 (k : Nat) (h : Hh) : oNin (.int (k : Int)) (.tup [.int 3, .int 4]) h = .ok (.bl (!(decide (k = 3) || decide (k = 4)))) h := by
  unfold oNin pIn
  have e : toP h 8 (.tup [.int 3, .int 4]) = some (.tuple [.int 3, .int 4]) := rfl
  rw [e, toP_int]
  simp only [rowP, R.bind_ok, List.any_cons, List.any_nil, Bool.or_false, PyData.eqv]
  have e3 : ((3 : Int) == (k : Int)) = decide (k = 3) := by
    rw [Bool.eq_iff_iff, beq_iff_eq, decide_eq_true_eq]; omega
  have e4 : ((4 : Int) == (k : Int)) = decide (k = 4) := by
    rw [Bool.eq_iff_iff, beq_iff_eq, decide_eq_true_eq]; omega
  rw [e3, e4]
theorem same_nil : Same n a b h (.tup []) false := by
  have e : pEq (.tup []) (.tup []) h = .ok true h := pEq_ints [] [] h
  have z2 : 2 ≤ sz := by decide
  have i := pIn34 h1 h2 ha hb 0 h
  constructor
  · simp [m_is_common_root, b_is_common_root, List.replicate, two_ok h1 h2 ha hb, isi_tup, e]
  · simp at i
    simp [m__law_is_due, b__law_is_due, List.replicate, isi_tup, z2, i]
end
end K01
namespace K01
open PySem L2 Sm Wo
theorem lw_comp {h : Hh} {n : Int} {l : List D} (hz : l.length ≤ sz) (ht : ∀ d ∈ l, typed h d) {v1 : Option D} :
    compL (fun _ => true) (gNm 2) (tOr (tB (eCall fIsi (aCons (eVar 2) (aCons (eC (.ty "bool")) aNil)))) (tOr (tNot (tB (eCall fIsi (aCons (eVar 2) (aCons (eC (.ty "int")) aNil))))) (tNot (tB (eChain oLe oLe (eC (.int 1)) (eCall fAbs (aCons (eVar 2) aNil)) (eVar 0)))))) (eC (.int 1)) h.length [some (.int n), v1, none] l (h ++ [.lst []]) = .ok () (h ++ [.lst ((l.filter (Off n)).map fun _ => .int 1)]) := by
  rw [comp_filter (fun _ => .int 1) (Off n) l hz ?_]
  intro d hd a
  obtain ⟨i1, i2⟩ := isi_ty (typed_app (g := [.lst a]) (ht d hd))
  refine ⟨_, rfl, ?_, fun _ => rfl⟩
  have t := ht d hd
  cases d with
  | int x => by_cases hx : 1 ≤ (if x < 0 then -x else x) <;> simp [i1, i2, hx, Off]
  | ro _ => exact t.elim
  | ty _ => exact t.elim
  | _ => simp [i1, i2, Off]
theorem lword_ints {h : Hh} {n : Int} {w : List Int} (hw : w.length ≤ 1000) : m__law_is_word [.int n, tints w] h = .ok (.bl (Word n w)) h := by
  have i1 := isi_tup (w.map D.int) h
  by_cases q : w.length ≤ 200
  · have q' : ¬ (200 : Int) < (w.length : Int) := by omega
    have e := lw_comp (h := h) (n := n) (l := w.map D.int) (by rw [List.length_map, sz_eq]; omega) ints_typed (v1 := some (tints w))
    have e2 := due_ne (h := h) (k := 0) ((w.map D.int).filter (Off n))
    have hlb := fun h => lbare_eq (h := h) (row := w) (by rw [sz_eq]; omega)
    by_cases r : Row n w = true
    · have r0 := (off_row w).mpr r
      rw [decide_eq_true r0] at e2
      rw [r0, List.map_nil] at e
      rw [r0] at e2
      simp at e2
      have key : decide (bareW w = w) = decide (Bare w) := decide_eq_decide.mpr ⟨fun e => e ▸ bareW_bare w, bareW_of⟩
      simp [m__law_is_word, b__law_is_word, List.replicate, i1, q', e, e2, hlb, key, Word, r, q]
    · have r0 : (w.map D.int).filter (Off n) ≠ [] := fun z => r ((off_row w).mp z)
      rw [decide_eq_false r0] at e2
      simp at e2
      simp [m__law_is_word, b__law_is_word, List.replicate, i1, q', e, Word, r]
      simp [e2]
  · have q' : (200 : Int) < (w.length : Int) := by omega
    simp [m__law_is_word, b__law_is_word, List.replicate, i1, q', Word, q]
theorem lword_no {h : Hh} {n : Int} {d : D} (t : typed h d) (hd : ∀ l, d ≠ .tup l) : m__law_is_word [.int n, d] h = .ok (.bl false) h := by
  simp [m__law_is_word, b__law_is_word, List.replicate, isi_no t hd]
theorem pEq_two (u v p q : List Int) (h : Hh) : pEq (.tup [tints u, tints v]) (.tup [tints p, tints q]) h = .ok (decide (u = p) && decide (v = q)) h := by
  unfold pEq
  rw [show (8 : Nat) = 7 + 1 from rfl, toP_tup, toP_tup]
  simp only [allP, show (7 : Nat) = 6 + 1 from rfl, toP_tup, allP_ints]
  simp [PyData.eqv, PyData.eqvAll]
theorem pEq_three (u v p q : List Int) (i : Int) (h : Hh) : pEq (.tup [tints u, tints v, .int i]) (.tup [tints p, tints q]) h = .ok false h := by
  unfold pEq
  rw [show (8 : Nat) = 7 + 1 from rfl, toP_tup, toP_tup]
  simp only [allP, show (7 : Nat) = 6 + 1 from rfl, toP_tup, allP_ints, toP_int]
  simp [PyData.eqv, PyData.eqvAll]
/-- what stands for a number -/
def Numb (d : D) : Prop := (∃ i : Int, d = .int i ∧ i.natAbs ≤ 300) ∨ d = .non ∨ ∃ b, d = .bl b
theorem Numb.typed {d : D} (h : Hh) (t : Numb d) : typed h d := by
  rcases t with ⟨i, rfl, _⟩ | rfl | ⟨b, rfl⟩ <;> trivial
theorem pEq_nil {h : Hh} {l : List D} (hne : l ≠ []) (ht : ∃ xs, allP (toP h 7) l = some xs) : pEq (.tup l) (.tup []) h = .ok false h := by
  obtain ⟨xs, e⟩ := ht
  have hx : xs ≠ [] := fun z => by
    subst z
    cases l with
    | nil => exact hne rfl
    | cons d l =>
      unfold allP at e
      cases e1 : toP h 7 d <;> cases e2 : allP (toP h 7) l <;> rw [e1, e2] at e <;> cases e
  unfold pEq
  rw [show (8 : Nat) = 7 + 1 from rfl, toP_tup, toP_tup, e]
  simp only [allP, Option.map_some]
  cases xs with
  | nil => exact absurd rfl hx
  | cons x xs => simp [PyData.eqv, PyData.eqvAll]
theorem Numb.toP {d : D} (h : Hh) (t : Numb d) (n : Nat) : ∃ x, Sm.toP h n d = some x := by
  rcases t with ⟨i, rfl, _⟩ | rfl | ⟨b, rfl⟩ <;> simp
theorem allP_cons {f : D → Option PyData} {d : D} {l : List D} (h1 : ∃ x, f d = some x) (h2 : ∃ xs, allP f l = some xs) : ∃ xs, allP f (d :: l) = some xs := by
  obtain ⟨x, e1⟩ := h1
  obtain ⟨xs, e2⟩ := h2
  exact ⟨x :: xs, by simp only [allP, e1, e2]⟩
theorem allP_nil {f : D → Option PyData} : ∃ xs, allP f [] = some xs := ⟨[], rfl⟩
theorem toP_R (h : Hh) (n : Nat) : ∃ x, toP h n tR = some x := ⟨_, toP_str8 ok_R h n⟩
theorem toP_U (h : Hh) (n : Nat) : ∃ x, toP h n tU = some x := ⟨_, toP_str8 ok_U h n⟩
theorem toP_C (h : Hh) (n : Nat) : ∃ x, toP h n tC = some x := ⟨_, toP_str8 ok_C h n⟩
theorem toP_T (h : Hh) (n : Nat) (w : List Int) : ∃ x, toP h (n + 1) (tints w) = some x := ⟨_, by rw [toP_tup, allP_ints]; rfl⟩
theorem toP_L {h : Hh} {k : Nat} {w : List Int} (e : h[k]? = some (.lst (w.map D.int))) (n : Nat) : ∃ x, toP h (n + 1) (.ref k) = some x := ⟨_, by rw [toP_ref, e]; simp only [allP_ints]; rfl⟩
theorem toP_I (h : Hh) (n : Nat) (i : Int) : ∃ x, toP h n (.int i) = some x := ⟨_, toP_int h n i⟩
/-- what the law's judge strikes of the exponents -/
def OffN (d : D) : Bool := match d with
  | .int _ => false
  | _ => true
theorem numb_comp {h : Hh} {q s : D} (hq : Numb q) (hs : Numb s) {v0 v1 v2 v3 v4 : Option D} :
    compL (fun _ => true) (gNm 5) (tOr (tB (eCall fIsi (aCons (eVar 5) (aCons (eC (.ty "bool")) aNil)))) (tNot (tB (eCall fIsi (aCons (eVar 5) (aCons (eC (.ty "int")) aNil)))))) (eC (.int 1)) h.length [v0, v1, v2, v3, v4, none] [q, s] (h ++ [.lst []]) = .ok () (h ++ [.lst (([q, s].filter OffN).map fun _ => .int 1)]) := by
  rw [comp_filter (fun _ => .int 1) OffN [q, s] (by simp [sz_eq]) ?_]
  intro d hd a
  have t : Numb d := by
    simp at hd
    rcases hd with rfl | rfl
    · exact hq
    · exact hs
  obtain ⟨i1, i2⟩ := isi_ty (Numb.typed (h ++ [O.lst a]) t)
  refine ⟨_, rfl, ?_, fun _ => rfl⟩
  rcases t with ⟨i, rfl, _⟩ | rfl | ⟨b, rfl⟩ <;> simp [i1, i2, OffN]
section
variable {n : Int} {a b : List Int} {h : Hh} (h1 : 1 ≤ n) (h2 : n ≤ 5) (ha : Word n a = true) (hb : Word n b = true)
include h1 h2 ha hb
theorem same_ref {k : Nat} {q s : D} {w : List Int} (hk : h[k]? = some (.lst (w.map D.int))) (hq : Numb q) (hs : Numb s) : Same n a b h (.tup [tR, .ref k, q, s]) false := by
  have t : typed h (.ref k) := ⟨_, hk⟩
  have hd : ∀ l, D.ref k ≠ .tup l := fun l e => by cases e
  have z2 : 2 ≤ sz := by decide
  have i := pIn34 h1 h2 ha hb 4 h
  have e0 : pEq (.tup [tR, .ref k, q, s]) (.tup []) h = .ok false h := pEq_nil (by simp) (allP_cons (toP_R _ _) (allP_cons (toP_L hk _) (allP_cons (hq.toP _ _) (allP_cons (hs.toP _ _) allP_nil))))
  constructor
  · simp [m_is_common_root, b_is_common_root, m_is_root_paper, b_is_root_paper, List.replicate, two_ok h1 h2 ha hb, isi_tup, isi_str, e0, pEq_RR, word_no (wholes_no t hd)]
  · simp at i
    simp [m__law_is_due, b__law_is_due, List.replicate, isi_tup, isi_str, z2, i, pEq_RU, pEq_RR, lword_no t hd]
theorem same_root {w : List Int} {i j : Int} (hw : w.length ≤ 1000) (hi : i.natAbs ≤ 300) (hj : j.natAbs ≤ 300) : Same n a b h (.tup [tR, tints w, .int i, .int j]) (Word n w && (decide (pw w i = a) && decide (pw w j = b))) := by
  have z2 : 2 ≤ sz := by decide
  have i4 := pIn34 h1 h2 ha hb 4 h
  have e0 : pEq (.tup [tR, tints w, .int i, .int j]) (.tup []) h = .ok false h := pEq_nil (by simp) (allP_cons (toP_R _ _) (allP_cons (toP_T _ _ _) (allP_cons (toP_I _ _ _) (allP_cons (toP_I _ _ _) allP_nil))))
  have hwd := word_eq (h := h) (n := n) (ns := w) (by rw [sz_eq]; omega)
  have lwd := lword_ints (h := h) (n := n) hw
  by_cases c : Word n w = true
  · rw [c] at hwd lwd
    obtain ⟨rw', bw, lw⟩ := parts c
    have p1 := power_of (k := i) (by omega) bw (row_nz rw') (parts ha).2.2 h
    have p2 := power_of (k := j) (by omega) bw (row_nz rw') (parts hb).2.2 h
    have hi' : isInt (.int i) = true := rfl
    have hj' : isInt (.int j) = true := rfl
    have w1 := whole_eq (h := h) (d := .int i) trivial
    have w2 := whole_eq (h := h) (d := .int j) trivial
    have hc := numb_comp (h := h) (.inl ⟨i, rfl, hi⟩) (.inl ⟨j, rfl, hj⟩) (v0 := some (.int n)) (v1 := some (tints a)) (v2 := some (tints b)) (v3 := some (.tup [tR, tints w, .int i, .int j])) (v4 := none)
    have e2 := due_ne (h := h) (k := 0) []
    have hf : [D.int i, D.int j].filter OffN = [] := rfl
    rw [hf, List.map_nil] at hc
    simp at e2
    have m1 := fun H => powered_eq (h := H) (w := w) (k := i) hw (by omega)
    have m2 := fun H => powered_eq (h := H) (w := w) (k := j) hw (by omega)
    have mx : ¬ ((300 : Int) < (if (if i < 0 then -i else i) < (if j < 0 then -j else j) then (if j < 0 then -j else j) else (if i < 0 then -i else i))) := by
      split <;> split <;> omega
    constructor
    · by_cases c1 : pw w i = a <;> simp [m_is_common_root, b_is_common_root, m_is_root_paper, b_is_root_paper, List.replicate, two_ok h1 h2 ha hb, isi_tup, isi_str, e0, pEq_RR, hwd, w1, w2, hi', hj', p1, p2, c, c1]
    · simp at i4
      by_cases w0 : w = []
      · subst w0
        have e9 : pEq (.tup []) (.tup []) h = .ok true h := pEq_ints [] [] h
        by_cases c1 : pw [] i = a <;> simp [m__law_is_due, b__law_is_due, List.replicate, isi_tup, isi_str, z2, i4, pEq_RU, pEq_RR, lwd, cutD_from, hc, e2, e9, m1, m2, c, c1]
      · by_cases c1 : pw w i = a <;> simp [m__law_is_due, b__law_is_due, List.replicate, isi_tup, isi_str, z2, i4, pEq_RU, pEq_RR, lwd, cutD_from, hc, e2, w0, mx, m1, m2, c, c1]
  · rw [Bool.not_eq_true] at c
    rw [c] at hwd lwd
    rw [c]
    simp only [Bool.false_and]
    constructor
    · simp [m_is_common_root, b_is_common_root, m_is_root_paper, b_is_root_paper, List.replicate, two_ok h1 h2 ha hb, isi_tup, isi_str, e0, pEq_RR, hwd]
    · simp at i4
      simp [m__law_is_due, b__law_is_due, List.replicate, isi_tup, isi_str, z2, i4, pEq_RU, pEq_RR, lwd]
theorem same_numb {w : List Int} {q s : D} (hw : w.length ≤ 1000) (hq : Numb q) (hs : Numb s) (hf : isInt q = false ∨ isInt s = false) : Same n a b h (.tup [tR, tints w, q, s]) false := by
  have z2 : 2 ≤ sz := by decide
  have i4 := pIn34 h1 h2 ha hb 4 h
  have e0 : pEq (.tup [tR, tints w, q, s]) (.tup []) h = .ok false h := pEq_nil (by simp) (allP_cons (toP_R _ _) (allP_cons (toP_T _ _ _) (allP_cons (hq.toP _ _) (allP_cons (hs.toP _ _) allP_nil))))
  have hwd := word_eq (h := h) (n := n) (ns := w) (by rw [sz_eq]; omega)
  have lwd := lword_ints (h := h) (n := n) hw
  have w1 := whole_eq (hq.typed h)
  have w2 := whole_eq (hs.typed h)
  have hc := numb_comp (h := h) hq hs (v0 := some (.int n)) (v1 := some (tints a)) (v2 := some (tints b)) (v3 := some (.tup [tR, tints w, q, s])) (v4 := none)
  have e2 := due_ne (h := h) (k := 0) ([q, s].filter OffN)
  have hn : [q, s].filter OffN ≠ [] := by
    have key : ∀ d, isInt d = false → OffN d = true := fun d hd => by cases d <;> first | rfl | (simp [isInt] at hd)
    rcases hf with hf | hf
    · simp [List.filter_cons, key q hf]
    · by_cases c : OffN q = true <;> simp [List.filter_cons, key s hf, c]
  rw [decide_eq_false hn] at e2
  simp at e2
  by_cases c : Word n w = true
  · rw [c] at hwd lwd
    constructor
    · rcases hf with hf | hf
      · simp [m_is_common_root, b_is_common_root, m_is_root_paper, b_is_root_paper, List.replicate, two_ok h1 h2 ha hb, isi_tup, isi_str, e0, pEq_RR, hwd, w1, w2, hf]
      · cases hf1 : isInt q <;> simp [m_is_common_root, b_is_common_root, m_is_root_paper, b_is_root_paper, List.replicate, two_ok h1 h2 ha hb, isi_tup, isi_str, e0, pEq_RR, hwd, w1, w2, hf, hf1]
    · simp at i4
      simp [m__law_is_due, b__law_is_due, List.replicate, isi_tup, isi_str, z2, i4, pEq_RU, pEq_RR, lwd, cutD_from, hc]
      simp [e2]
  · rw [Bool.not_eq_true] at c
    rw [c] at hwd lwd
    constructor
    · simp [m_is_common_root, b_is_common_root, m_is_root_paper, b_is_root_paper, List.replicate, two_ok h1 h2 ha hb, isi_tup, isi_str, e0, pEq_RR, hwd]
    · simp at i4
      simp [m__law_is_due, b__law_is_due, List.replicate, isi_tup, isi_str, z2, i4, pEq_RU, pEq_RR, lwd]
end
end K01
namespace K01
open PySem L2 Sm Wo
section
variable {n : Int} {a b : List Int} {h : Hh} (h1 : 1 ≤ n) (h2 : n ≤ 5) (ha : Word n a = true) (hb : Word n b = true)
include h1 h2 ha hb
theorem wholes_ints {w : List Int} (hw : w.length ≤ 1000) (h : Hh) : m_are_wholes [tints w] h = .ok (.bl true) h := by
  have := wholes_tup (h := h) (l := w.map D.int) (by rw [List.length_map, sz_eq]; omega) ints_typed
  rw [ints_all] at this
  exact this
theorem same_unlike {u v : List Int} (hu : u.length ≤ 1000) (hv : v.length ≤ 1000) : Same n a b h (.tup [tU, tints u, tints v]) ((decide (u = bareW (a ++ b)) && decide (v = bareW (b ++ a))) && !decide (bareW (a ++ b) = bareW (b ++ a))) := by
  obtain ⟨ra, ba, la⟩ := parts ha
  obtain ⟨rb, bb, lb⟩ := parts hb
  have z2 : 2 ≤ sz := by decide
  have i3 := pIn34 h1 h2 ha hb 3 h
  have e0 : pEq (.tup [tU, tints u, tints v]) (.tup []) h = .ok false h := pEq_nil (by simp) (allP_cons (toP_U _ _) (allP_cons (toP_T _ _ _) (allP_cons (toP_T _ _ _) allP_nil)))
  have w1 := wholes_ints h1 h2 ha hb hu h
  have w2 := wholes_ints h1 h2 ha hb hv h
  have p1 := product_in_eq (h := h) (a := a) (b := b) (by omega) (by omega) ba bb
  have p2 := product_in_eq (h := h) (a := b) (b := a) (by omega) (by omega) bb ba
  have l1 := fun h => lbare_eq (h := h) (row := a ++ b) (by rw [List.length_append, sz_eq]; omega)
  have l2 := fun h => lbare_eq (h := h) (row := b ++ a) (by rw [List.length_append, sz_eq]; omega)
  have s1 : a.length + b.length ≤ sz := by rw [sz_eq]; omega
  have s2 : b.length + a.length ≤ sz := by rw [sz_eq]; omega
  have a1 : ∀ h, oAdd (tints a) (tints b) h = .ok (tints (a ++ b)) h := fun h => by simp [s1]
  have a2 : ∀ h, oAdd (tints b) (tints a) h = .ok (tints (b ++ a)) h := fun h => by simp [s2]
  constructor
  · by_cases c1 : u = bareW (a ++ b)
    · by_cases c2 : v = bareW (b ++ a)
      · subst c1 c2
        simp [m_is_common_root, b_is_common_root, m_is_unlike_paper, b_is_unlike_paper, List.replicate, two_ok h1 h2 ha hb, isi_tup, isi_str, e0, pEq_UR, pEq_UU, w1, w2, p1, p2]
      · subst c1
        simp [m_is_common_root, b_is_common_root, m_is_unlike_paper, b_is_unlike_paper, List.replicate, two_ok h1 h2 ha hb, isi_tup, isi_str, e0, pEq_UR, pEq_UU, w1, w2, p1, p2, c2]
    · simp [m_is_common_root, b_is_common_root, m_is_unlike_paper, b_is_unlike_paper, List.replicate, two_ok h1 h2 ha hb, isi_tup, isi_str, e0, pEq_UR, pEq_UU, w1, w2, p1, p2, c1]
  · simp at i3
    by_cases c1 : u = bareW (a ++ b) <;> by_cases c2 : v = bareW (b ++ a) <;> simp [m__law_is_due, b__law_is_due, List.replicate, isi_tup, isi_str, z2, i3, pEq_UU, a1, a2, l1, l2, cutD_from, pEq_two, c1, c2, -oAdd_tup]
theorem same_unlike1 {u : List Int} : Same n a b h (.tup [tU, tints u]) false := by
  have z2 : 2 ≤ sz := by decide
  have i3 := pIn34 h1 h2 ha hb 2 h
  have e0 : pEq (.tup [tU, tints u]) (.tup []) h = .ok false h := pEq_nil (by simp) (allP_cons (toP_U _ _) (allP_cons (toP_T _ _ _) allP_nil))
  simp at i3
  constructor
  · simp [m_is_common_root, b_is_common_root, m_is_unlike_paper, b_is_unlike_paper, List.replicate, two_ok h1 h2 ha hb, isi_tup, isi_str, e0, pEq_UR, pEq_UU]
  · simp [m__law_is_due, b__law_is_due, List.replicate, isi_tup, isi_str, z2, i3]
theorem same_unlike3 {u v : List Int} {i : Int} : Same n a b h (.tup [tU, tints u, tints v, .int i]) false := by
  obtain ⟨ra, ba, la⟩ := parts ha
  obtain ⟨rb, bb, lb⟩ := parts hb
  have z2 : 2 ≤ sz := by decide
  have i3 := pIn34 h1 h2 ha hb 4 h
  have e0 : pEq (.tup [tU, tints u, tints v, .int i]) (.tup []) h = .ok false h := pEq_nil (by simp) (allP_cons (toP_U _ _) (allP_cons (toP_T _ _ _) (allP_cons (toP_T _ _ _) (allP_cons (toP_I _ _ _) allP_nil))))
  have l1 := fun h => lbare_eq (h := h) (row := a ++ b) (by rw [List.length_append, sz_eq]; omega)
  have l2 := fun h => lbare_eq (h := h) (row := b ++ a) (by rw [List.length_append, sz_eq]; omega)
  have s1 : a.length + b.length ≤ sz := by rw [sz_eq]; omega
  have s2 : b.length + a.length ≤ sz := by rw [sz_eq]; omega
  have a1 : ∀ h, oAdd (tints a) (tints b) h = .ok (tints (a ++ b)) h := fun h => by simp [s1]
  have a2 : ∀ h, oAdd (tints b) (tints a) h = .ok (tints (b ++ a)) h := fun h => by simp [s2]
  have pe := fun p q h => pEq_three u v p q i h
  simp at i3
  constructor
  · simp [m_is_common_root, b_is_common_root, m_is_unlike_paper, b_is_unlike_paper, List.replicate, two_ok h1 h2 ha hb, isi_tup, isi_str, e0, pEq_UR, pEq_UU]
  · simp [m__law_is_due, b__law_is_due, List.replicate, isi_tup, isi_str, z2, i3, pEq_UU, a1, a2, l1, l2, cutD_from, pe, -oAdd_tup]
theorem same_root2 {w : List Int} {i : Int} : Same n a b h (.tup [tR, tints w, .int i]) false := by
  have z2 : 2 ≤ sz := by decide
  have i3 := pIn34 h1 h2 ha hb 3 h
  have e0 : pEq (.tup [tR, tints w, .int i]) (.tup []) h = .ok false h := pEq_nil (by simp) (allP_cons (toP_R _ _) (allP_cons (toP_T _ _ _) (allP_cons (toP_I _ _ _) allP_nil)))
  simp at i3
  constructor
  · simp [m_is_common_root, b_is_common_root, m_is_root_paper, b_is_root_paper, List.replicate, two_ok h1 h2 ha hb, isi_tup, isi_str, e0, pEq_RR]
  · simp [m__law_is_due, b__law_is_due, List.replicate, isi_tup, isi_str, z2, i3, pEq_RU, pEq_RR]
theorem same_root4 {w : List Int} {i j k : Int} : Same n a b h (.tup [tR, tints w, .int i, .int j, .int k]) false := by
  have z2 : 2 ≤ sz := by decide
  have i3 := pIn34 h1 h2 ha hb 5 h
  have e0 : pEq (.tup [tR, tints w, .int i, .int j, .int k]) (.tup []) h = .ok false h := pEq_nil (by simp) (allP_cons (toP_R _ _) (allP_cons (toP_T _ _ _) (allP_cons (toP_I _ _ _) (allP_cons (toP_I _ _ _) (allP_cons (toP_I _ _ _) allP_nil)))))
  simp at i3
  constructor
  · simp [m_is_common_root, b_is_common_root, m_is_root_paper, b_is_root_paper, List.replicate, two_ok h1 h2 ha hb, isi_tup, isi_str, e0, pEq_RR]
  · simp [m__law_is_due, b__law_is_due, List.replicate, isi_tup, isi_str, z2, i3]
theorem same_C2 {u v : List Int} : Same n a b h (.tup [tC, tints u, tints v]) false := by
  have z2 : 2 ≤ sz := by decide
  have i3 := pIn34 h1 h2 ha hb 3 h
  have e0 : pEq (.tup [tC, tints u, tints v]) (.tup []) h = .ok false h := pEq_nil (by simp) (allP_cons (toP_C _ _) (allP_cons (toP_T _ _ _) (allP_cons (toP_T _ _ _) allP_nil)))
  simp at i3
  constructor
  · simp [m_is_common_root, b_is_common_root, List.replicate, two_ok h1 h2 ha hb, isi_tup, isi_str, e0, pEq_CR, pEq_CU]
  · simp [m__law_is_due, b__law_is_due, List.replicate, isi_tup, isi_str, z2, i3, pEq_CU, pEq_CR]
theorem same_C3 {u : List Int} {i j : Int} : Same n a b h (.tup [tC, tints u, .int i, .int j]) false := by
  have z2 : 2 ≤ sz := by decide
  have i3 := pIn34 h1 h2 ha hb 4 h
  have e0 : pEq (.tup [tC, tints u, .int i, .int j]) (.tup []) h = .ok false h := pEq_nil (by simp) (allP_cons (toP_C _ _) (allP_cons (toP_T _ _ _) (allP_cons (toP_I _ _ _) (allP_cons (toP_I _ _ _) allP_nil))))
  simp at i3
  constructor
  · simp [m_is_common_root, b_is_common_root, List.replicate, two_ok h1 h2 ha hb, isi_tup, isi_str, e0, pEq_CR, pEq_CU]
  · simp [m__law_is_due, b__law_is_due, List.replicate, isi_tup, isi_str, z2, i3, pEq_CU, pEq_CR]
/-- what is told of two words -/
theorem common_at : (bareW (a ++ b) ≠ bareW (b ++ a) ∧ m_common_root [.int n, tints a, tints b] h = .ok (.tup [tU, tints (bareW (a ++ b)), tints (bareW (b ++ a))]) h) ∨
    (bareW (a ++ b) = bareW (b ++ a) ∧ ∃ w i j, m_common_root [.int n, tints a, tints b] h = .ok (.tup [tR, tints w, .int i, .int j]) h ∧ Told a b w i j) := by
  obtain ⟨ra, ba, la⟩ := parts ha
  obtain ⟨rb, bb, lb⟩ := parts hb
  have z3 : 3 ≤ sz := by decide
  have z4 : 4 ≤ sz := by decide
  have p1 := fun h => product_in_eq (h := h) (a := a) (b := b) (by omega) (by omega) ba bb
  have p2 := fun h => product_in_eq (h := h) (a := b) (b := a) (by omega) (by omega) bb ba
  by_cases c : bareW (a ++ b) = bareW (b ++ a)
  · right
    obtain ⟨w, i, j, e, t⟩ := exps_told ha hb c h
    refine ⟨c, w, i, j, ?_, t⟩
    rw [c] at p1
    simp [m_common_root, b_common_root, List.replicate, two_ok h1 h2 ha hb, p1, p2, e, z4]
  · left
    refine ⟨c, ?_⟩
    generalize bareW (a ++ b) = p at *
    generalize bareW (b ++ a) = q at *
    simp [m_common_root, b_common_root, List.replicate, two_ok h1 h2 ha hb, p1, p2, z3, c]
end
end K01
namespace K01
open PySem L2 Sm Wo
abbrev nA : FS := (sAsg (eTup (aCons (eCall m__law_bare (aCons (eBin oAdd (eVar 0) (eVar 1)) aNil)) (aCons (eCall m__law_bare (aCons (eBin oAdd (eVar 1) (eVar 0)) aNil)) aNil))) (gNm 3))
abbrev nB : FS := (sAsg (eLst (aCons (eVar 2) (aCons (eCall fList (aCons (eVar 2) aNil)) (aCons (eSl oSl (eVar 2) pNo (pAt (eUn oNeg (eC (.int 1))))) (aCons (eBin oAdd (eVar 2) (eTup (aCons (eC (.int 0)) aNil))) (aCons (eC .non) (aCons (eC (.int 0)) (aCons (eTup aNil) (aCons (eBin oAdd (eTup (aCons (eC (.str "unlike")) aNil)) (eVar 3)) (aCons (eBin oAdd (eTup (aCons (eC (.str "unlike")) aNil)) (eUn oRev (eVar 3))) aNil)))))))))) (gNm 4))
abbrev nC : FS := (sAsg (eBin oAdd (eVar 4) (eLst (aCons (eTup (aCons (eC (.str "unlike")) (aCons (eVar 0) (aCons (eVar 1) aNil)))) (aCons (eTup (aCons (eC (.str "root")) (aCons (eTup (aCons (eC (.int 1)) aNil)) (aCons (eC (.int 0)) (aCons (eC (.int 0)) aNil))))) (aCons (eTup (aCons (eC (.str "root")) (aCons (eTup aNil) (aCons (eC (.int 1)) (aCons (eC (.int 1)) aNil))))) (aCons (eTup (aCons (eC (.str "root")) (aCons (eVar 0) (aCons (eC (.int 1)) (aCons (eC (.int 1)) aNil))))) aNil)))))) (gNm 4))
abbrev nD : FS := (sEx (eBM isLst oAppend (eVar 4) (aCons (eBin oAdd (eTup (aCons (eC (.str "Root")) aNil)) (eSl oSl (eVar 2) (pAt (eC (.int 1))) pNo)) aNil)))
abbrev nE : FS := (sIf (tB (eBin oEq (eBin oIx (eVar 2) (eC (.int 0))) (eC (.str "root"))))
    (sSeq (sAsg (eBin oAdd (eVar 4) (eLst (aCons (eTup (aCons (eC (.str "root")) (aCons (eCall m__law_back (aCons (eBin oIx (eVar 2) (eC (.int 1))) aNil)) (aCons (eBin oSub (eC (.int 0)) (eBin oIx (eVar 2) (eC (.int 2)))) (aCons (eBin oSub (eC (.int 0)) (eBin oIx (eVar 2) (eC (.int 3)))) aNil))))) (aCons (eTup (aCons (eC (.str "root")) (aCons (eBin oIx (eVar 2) (eC (.int 1))) (aCons (eBin oIx (eVar 2) (eC (.int 3))) (aCons (eBin oIx (eVar 2) (eC (.int 2))) aNil))))) aNil)))) (gNm 4))
  (sSeq (sAsg (eBin oAdd (eVar 4) (eLst (aCons (eTup (aCons (eC (.str "root")) (aCons (eBin oIx (eVar 2) (eC (.int 1))) (aCons (eBin oIx (eVar 2) (eC (.int 2))) (aCons (eC .non) aNil))))) (aCons (eTup (aCons (eC (.str "root")) (aCons (eBin oIx (eVar 2) (eC (.int 1))) (aCons (eC (.bl true)) (aCons (eBin oIx (eVar 2) (eC (.int 3))) aNil))))) aNil)))) (gNm 4))
  (sEx (eBM isLst oAppend (eVar 4) (aCons (eBin oAdd (eTup (aCons (eC (.str "root")) (aCons (eCall fList (aCons (eBin oIx (eVar 2) (eC (.int 1))) aNil)) aNil))) (eSl oSl (eVar 2) (pAt (eC (.int 2))) pNo)) aNil)))))
    sPass)
theorem near_ap (d e f : D) (G : Hh) : m__law_near [d, e, f] G = fin G ((sSeq nA (sSeq nB (sSeq nC (sSeq nD (sSeq nE (sRet (eVar 4))))))) [some d, some e, some f, none, none] G) := rfl
section
variable {G : Hh} {a b P Q : List Int}
theorem nA_eq (la : a.length ≤ 200) (lb : b.length ≤ 200) {v2 v3 v4 : Option D} : nA [some (tints a), some (tints b), v2, v3, v4] G = .ok (.nx, [some (tints a), some (tints b), v2, some (.tup [tints (bareW (a ++ b)), tints (bareW (b ++ a))]), v4]) G := by
  have z2 : 2 ≤ sz := by decide
  have l1 := fun h => lbare_eq (h := h) (row := a ++ b) (by rw [List.length_append, sz_eq]; omega)
  have l2 := fun h => lbare_eq (h := h) (row := b ++ a) (by rw [List.length_append, sz_eq]; omega)
  have s1 : a.length + b.length ≤ sz := by rw [sz_eq]; omega
  have s2 : b.length + a.length ≤ sz := by rw [sz_eq]; omega
  have a1 : ∀ h, oAdd (tints a) (tints b) h = .ok (tints (a ++ b)) h := fun h => by simp [s1]
  have a2 : ∀ h, oAdd (tints b) (tints a) h = .ok (tints (b ++ a)) h := fun h => by simp [s2]
  simp [nA, a1, a2, l1, l2, z2, -oAdd_tup]
theorem cut_last {l : List D} {x : D} : cutD (l ++ [x]) none (some (-1)) = l := by
  have e2 : HT.sIx (l ++ [x]).length (l ++ [x]).length (some (-1)) = l.length := by
    unfold HT.sIx
    simp
    omega
  have e1 : HT.sIx (l ++ [x]).length 0 none = 0 := rfl
  unfold cutD
  rw [e1, e2]
  simp
theorem nB_eq {l : List D} {x : D} (hl : l.length ≤ 10) {v4 : Option D} : nB [some (tints a), some (tints b), some (.tup (l ++ [x])), some (.tup [tints P, tints Q]), v4] G = .ok (.nx, [some (tints a), some (tints b), some (.tup (l ++ [x])), some (.tup [tints P, tints Q]), some (.ref (G.length + 1))])
    (G ++ [.lst (l ++ [x]), .lst [.tup (l ++ [x]), .ref G.length, .tup l, .tup (l ++ [x] ++ [.int 0]), .non, .int 0, .tup [], .tup [tU, tints P, tints Q], .tup [tU, tints Q, tints P]]]) := by
  have z1 : 1 ≤ sz := by decide
  have z2 : 2 ≤ sz := by decide
  have z3 : 3 ≤ sz := by decide
  have z9 : 9 ≤ sz := by decide
  have hz : l.length + 1 ≤ sz := by rw [sz_eq]; omega
  have hz2 : l.length + 1 + 1 ≤ sz := by rw [sz_eq]; omega
  simp [nB, cut_last, z1, z2, z3, z9, hz, hz2]
theorem nC_eq {p : Nat} {items : List D} (hp : p < G.length) (hg : G[p]? = some (.lst items)) (hi : items.length = 9) {v2 v3 : Option D} : nC [some (tints a), some (tints b), v2, v3, some (.ref p)] G = .ok (.nx, [some (tints a), some (tints b), v2, v3, some (.ref (G.length + 1))])
    (G ++ [.lst [.tup [tU, tints a, tints b], .tup [tR, tints [1], .int 0, .int 0], .tup [tR, tints [], .int 1, .int 1], .tup [tR, tints a, .int 1, .int 1]], .lst (items ++ [.tup [tU, tints a, tints b], .tup [tR, tints [1], .int 0, .int 0], .tup [tR, tints [], .int 1, .int 1], .tup [tR, tints a, .int 1, .int 1]])]) := by
  have z1 : 1 ≤ sz := by decide
  have z3 : 3 ≤ sz := by decide
  have z4 : 4 ≤ sz := by decide
  have z13 : 13 ≤ sz := by decide
  have h4 := fun (x : O) (g : Hh) => (show (G ++ x :: g)[p]? = some (.lst items) by rw [List.getElem?_append_left hp]; exact hg)
  simp [nC, z1, z3, z4, z13, h4, hi]
theorem nD_eq {p : Nat} {items l : List D} {x : D} (hg : G[p]? = some (.lst items)) (hi : items.length = 13) (hl : l.length ≤ 10) {v0 v1 v3 : Option D} : nD [v0, v1, some (.tup (x :: l)), v3, some (.ref p)] G = .ok (.nx, [v0, v1, some (.tup (x :: l)), v3, some (.ref p)]) (G.set p (.lst (items ++ [.tup (tC :: l)]))) := by
  have z1 : 1 ≤ sz := by decide
  have hz : l.length + 1 ≤ sz := by rw [sz_eq]; omega
  have z13 : 13 < sz := by decide
  have hz' : 1 + l.length ≤ sz := by rw [sz_eq]; omega
  simp [nD, cutD_from, z1, hz, hz', hg, hi, z13]
theorem nE_no {v0 v1 v3 v4 : Option D} {l : List D} : nE [v0, v1, some (.tup (tU :: l)), v3, v4] G = .ok (.nx, [v0, v1, some (.tup (tU :: l)), v3, v4]) G := by
  simp [nE, pEq_UR]
theorem nE_eq {p : Nat} {items : List D} {w : List Int} {i j : Int} (hp : p < G.length) (hg : G[p]? = some (.lst items)) (hi : items.length = 14) (hw : w.length ≤ 1000) {v0 v1 v3 : Option D} : nE [v0, v1, some (.tup [tR, tints w, .int i, .int j]), v3, some (.ref p)] G = .ok (.nx, [v0, v1, some (.tup [tR, tints w, .int i, .int j]), v3, some (.ref (G.length + 3))])
    (G ++ [.lst [.tup [tR, tints (con w), .int (0 - i), .int (0 - j)], .tup [tR, tints w, .int j, .int i]], .lst (items ++ [.tup [tR, tints (con w), .int (0 - i), .int (0 - j)], .tup [tR, tints w, .int j, .int i]]), .lst [.tup [tR, tints w, .int i, .non], .tup [tR, tints w, .bl true, .int j]],
      .lst (items ++ [.tup [tR, tints (con w), .int (0 - i), .int (0 - j)], .tup [tR, tints w, .int j, .int i]] ++ [.tup [tR, tints w, .int i, .non], .tup [tR, tints w, .bl true, .int j]] ++ [.tup [tR, .ref (G.length + 4), .int i, .int j]]), .lst (w.map D.int)]) := by
  have z2 : 2 ≤ sz := by decide
  have z4 : 4 ≤ sz := by decide
  have z16 : 14 + 2 ≤ sz := by decide
  have z18 : 14 + 2 + 2 ≤ sz := by decide
  have z19 : 14 + 2 + 2 < sz := by decide
  have y16 : 16 ≤ sz := by decide
  have y18 : 18 ≤ sz := by decide
  have y19 : 18 < sz := by decide
  have hwz : w.length ≤ sz := by rw [sz_eq]; omega
  have h4 := fun (x : O) (g : Hh) => (show (G ++ x :: g)[p]? = some (.lst items) by rw [List.getElem?_append_left hp]; exact hg)
  have f2 := fun H => lback_eq (w := w) H (by rw [sz_eq]; omega)
  simp [nE, pEq_RR, f2, z2, z4, z16, z18, z19, y16, y18, y19, h4, hi, hwz, cutD_from]
end
end K01
namespace K01
open PySem L2 Sm Wo
theorem set_endk (G g : Hh) (k : Nat) (y : O) : (G ++ g).set (G.length + k) y = G ++ g.set k y := by
  rw [List.set_append_right _ _ (by omega), Nat.add_sub_cancel_left]
theorem get_endk' (G g : Hh) (k : Nat) : (G ++ g)[G.length + k]? = g[k]? := get_endk G g k
section
variable {n : Int} {a b : List Int} (h1 : 1 ≤ n) (h2 : n ≤ 5) (ha : Word n a = true) (hb : Word n b = true)
include h1 h2 ha hb
theorem near_no (G : Hh) : ∃ p g items, m__law_near [tints a, tints b, .tup [tU, tints (bareW (a ++ b)), tints (bareW (b ++ a))]] G = .ok (.ref p) (G ++ g) ∧ (G ++ g)[p]? = some (.lst items) ∧ ∀ d ∈ items, ∃ r, Same n a b (G ++ g) d r := by
  obtain ⟨ra, ba, la⟩ := parts ha
  obtain ⟨rb, bb, lb⟩ := parts hb
  have lP := bareW_len (a ++ b)
  have lQ := bareW_len (b ++ a)
  rw [List.length_append] at lP lQ
  have eA := nA_eq (G := G) (a := a) (b := b) la lb (v2 := some (.tup [tU, tints (bareW (a ++ b)), tints (bareW (b ++ a))])) (v3 := none) (v4 := none)
  generalize bareW (a ++ b) = P at *
  generalize bareW (b ++ a) = Q at *
  have eB := nB_eq (G := G) (a := a) (b := b) (P := P) (Q := Q) (l := [tU, tints P]) (x := tints Q) (by simp) (v4 := none)
  simp only [List.cons_append, List.nil_append] at eB
  obtain ⟨G1, hG1⟩ : ∃ G1, G1 = G ++ [O.lst [tU, tints P, tints Q], O.lst [.tup [tU, tints P, tints Q], .ref G.length, .tup [tU, tints P], .tup [tU, tints P, tints Q, .int 0], .non, .int 0, .tup [], .tup [tU, tints P, tints Q], .tup [tU, tints Q, tints P]]] := ⟨_, rfl⟩
  have l1 : G1.length = G.length + 2 := by rw [hG1]; simp
  have g1 : G1[G.length + 1]? = some (O.lst [.tup [tU, tints P, tints Q], .ref G.length, .tup [tU, tints P], .tup [tU, tints P, tints Q, .int 0], .non, .int 0, .tup [], .tup [tU, tints P, tints Q], .tup [tU, tints Q, tints P]]) := by rw [hG1, get_endk]; rfl
  rw [← hG1] at eB
  have eC := nC_eq (G := G1) (a := a) (b := b) (p := G.length + 1) (by omega) g1 rfl (v2 := some (.tup [tU, tints P, tints Q])) (v3 := some (.tup [tints P, tints Q]))
  simp only [List.cons_append, List.nil_append] at eC
  generalize hI : ([.tup [tU, tints P, tints Q], .ref G.length, .tup [tU, tints P], .tup [tU, tints P, tints Q, .int 0], .non, .int 0, .tup [], .tup [tU, tints P, tints Q], .tup [tU, tints Q, tints P], .tup [tU, tints a, tints b], .tup [tR, tints [1], .int 0, .int 0], .tup [tR, tints [], .int 1, .int 1], .tup [tR, tints a, .int 1, .int 1]] : List D) = I at eC
  generalize hX : (O.lst [.tup [tU, tints a, tints b], .tup [tR, tints [1], .int 0, .int 0], .tup [tR, tints [], .int 1, .int 1], .tup [tR, tints a, .int 1, .int 1]]) = X at eC
  have eD := nD_eq (G := G1 ++ [X, .lst I]) (p := G1.length + 1) (items := I) (l := [tints P, tints Q]) (x := tU) (by rw [get_endk]; rfl) (by rw [← hI]; rfl) (by simp) (v0 := some (tints a)) (v1 := some (tints b)) (v3 := some (.tup [tints P, tints Q]))
  rw [set_endk] at eD
  simp only [List.set_cons_succ, List.set_cons_zero] at eD
  have eE := nE_no (G := G1 ++ [X, .lst (I ++ [.tup (tC :: [tints P, tints Q])])]) (l := [tints P, tints Q]) (v0 := some (tints a)) (v1 := some (tints b)) (v3 := some (.tup [tints P, tints Q])) (v4 := some (.ref (G1.length + 1)))
  refine ⟨G1.length + 1, [O.lst [tU, tints P, tints Q], O.lst [.tup [tU, tints P, tints Q], .ref G.length, .tup [tU, tints P], .tup [tU, tints P, tints Q, .int 0], .non, .int 0, .tup [], .tup [tU, tints P, tints Q], .tup [tU, tints Q, tints P]]] ++ [X, .lst (I ++ [.tup (tC :: [tints P, tints Q])])], I ++ [.tup (tC :: [tints P, tints Q])], ?_, ?_, ?_⟩
  · rw [near_ap]
    generalize nA = A at *
    generalize nB = B at *
    generalize nC = C at *
    generalize nD = D' at *
    generalize nE = E at *
    simp only [sSeq_ap, eA, eB, eC, eD, eE, R.bind_ok, sRet_ap, eVar_ap, List.getElem?_cons_succ, List.getElem?_cons_zero]
    rw [fin_rt, gc_ref, ← List.append_assoc, ← hG1]
  · rw [← List.append_assoc, ← hG1, get_endk]
    rfl
  · rw [← List.append_assoc, ← hG1]
    have hr : ∃ o, (G1 ++ [X, O.lst (I ++ [.tup (tC :: [tints P, tints Q])])])[G.length]? = some o := ⟨_, List.getElem?_eq_getElem (by simp; omega)⟩
    generalize G1 ++ [X, O.lst (I ++ [.tup (tC :: [tints P, tints Q])])] = G2 at *
    intro d hd
    rw [← hI] at hd
    simp only [List.cons_append, List.nil_append, List.mem_cons, List.not_mem_nil, or_false] at hd
    rcases hd with rfl | rfl | rfl | rfl | rfl | rfl | rfl | rfl | rfl | rfl | rfl | rfl | rfl | rfl
    · exact ⟨_, same_unlike h1 h2 ha hb (by omega) (by omega)⟩
    · exact ⟨_, same_no h1 h2 ha hb hr (fun l e => nomatch e)⟩
    · exact ⟨_, same_unlike1 h1 h2 ha hb⟩
    · exact ⟨_, same_unlike3 h1 h2 ha hb⟩
    · exact ⟨_, same_no h1 h2 ha hb trivial (fun l e => nomatch e)⟩
    · exact ⟨_, same_no h1 h2 ha hb trivial (fun l e => nomatch e)⟩
    · exact ⟨_, same_nil h1 h2 ha hb⟩
    · exact ⟨_, same_unlike h1 h2 ha hb (by omega) (by omega)⟩
    · exact ⟨_, same_unlike h1 h2 ha hb (by omega) (by omega)⟩
    · exact ⟨_, same_unlike h1 h2 ha hb (by omega) (by omega)⟩
    · exact ⟨_, same_root h1 h2 ha hb (by simp) (by decide) (by decide)⟩
    · exact ⟨_, same_root h1 h2 ha hb (by simp) (by decide) (by decide)⟩
    · exact ⟨_, same_root h1 h2 ha hb (by omega) (by decide) (by decide)⟩
    · exact ⟨_, same_C2 h1 h2 ha hb⟩
theorem near_yes (G : Hh) {w : List Int} {i j : Int} (t : Told a b w i j) : ∃ p g items, m__law_near [tints a, tints b, .tup [tR, tints w, .int i, .int j]] G = .ok (.ref p) (G ++ g) ∧ (G ++ g)[p]? = some (.lst items) ∧ ∀ d ∈ items, ∃ r, Same n a b (G ++ g) d r := by
  obtain ⟨ra, ba, la⟩ := parts ha
  obtain ⟨rb, bb, lb⟩ := parts hb
  have lP := bareW_len (a ++ b)
  have lQ := bareW_len (b ++ a)
  have lw := t.len
  have bi := t.bi
  have bj := t.bj
  rw [List.length_append] at lP lQ
  have eA := nA_eq (G := G) (a := a) (b := b) la lb (v2 := some (.tup [tR, tints w, .int i, .int j])) (v3 := none) (v4 := none)
  generalize bareW (a ++ b) = P at *
  generalize bareW (b ++ a) = Q at *
  have eB := nB_eq (G := G) (a := a) (b := b) (P := P) (Q := Q) (l := [tR, tints w, .int i]) (x := .int j) (by simp) (v4 := none)
  simp only [List.cons_append, List.nil_append] at eB
  obtain ⟨G1, hG1⟩ : ∃ G1, G1 = G ++ [O.lst [tR, tints w, .int i, .int j], O.lst [.tup [tR, tints w, .int i, .int j], .ref G.length, .tup [tR, tints w, .int i], .tup [tR, tints w, .int i, .int j, .int 0], .non, .int 0, .tup [], .tup [tU, tints P, tints Q], .tup [tU, tints Q, tints P]]] := ⟨_, rfl⟩
  have l1 : G1.length = G.length + 2 := by rw [hG1]; simp
  have g1 : G1[G.length + 1]? = some (O.lst [.tup [tR, tints w, .int i, .int j], .ref G.length, .tup [tR, tints w, .int i], .tup [tR, tints w, .int i, .int j, .int 0], .non, .int 0, .tup [], .tup [tU, tints P, tints Q], .tup [tU, tints Q, tints P]]) := by rw [hG1, get_endk]; rfl
  rw [← hG1] at eB
  have eC := nC_eq (G := G1) (a := a) (b := b) (p := G.length + 1) (by omega) g1 rfl (v2 := some (.tup [tR, tints w, .int i, .int j])) (v3 := some (.tup [tints P, tints Q]))
  simp only [List.cons_append, List.nil_append] at eC
  generalize hI : ([.tup [tR, tints w, .int i, .int j], .ref G.length, .tup [tR, tints w, .int i], .tup [tR, tints w, .int i, .int j, .int 0], .non, .int 0, .tup [], .tup [tU, tints P, tints Q], .tup [tU, tints Q, tints P], .tup [tU, tints a, tints b], .tup [tR, tints [1], .int 0, .int 0], .tup [tR, tints [], .int 1, .int 1], .tup [tR, tints a, .int 1, .int 1]] : List D) = I at eC
  generalize hX : (O.lst [.tup [tU, tints a, tints b], .tup [tR, tints [1], .int 0, .int 0], .tup [tR, tints [], .int 1, .int 1], .tup [tR, tints a, .int 1, .int 1]]) = X at eC
  have eD := nD_eq (G := G1 ++ [X, .lst I]) (p := G1.length + 1) (items := I) (l := [tints w, .int i, .int j]) (x := tR) (by rw [get_endk]; rfl) (by rw [← hI]; rfl) (by simp) (v0 := some (tints a)) (v1 := some (tints b)) (v3 := some (.tup [tints P, tints Q]))
  rw [set_endk] at eD
  simp only [List.set_cons_succ, List.set_cons_zero] at eD
  obtain ⟨G2, hG2⟩ : ∃ G2, G2 = G1 ++ [X, .lst (I ++ [.tup (tC :: [tints w, .int i, .int j])])] := ⟨_, rfl⟩
  have l2 : G2.length = G.length + 4 := by rw [hG2]; simp; omega
  rw [← hG2] at eD
  have eE := nE_eq (G := G2) (p := G1.length + 1) (items := I ++ [.tup (tC :: [tints w, .int i, .int j])]) (w := w) (i := i) (j := j) (by omega) (by rw [hG2, get_endk]; rfl) (by rw [← hI]; rfl) (by omega) (v0 := some (tints a)) (v1 := some (tints b)) (v3 := some (.tup [tints P, tints Q]))
  generalize hA1 : O.lst [.tup [tR, tints (con w), .int (0 - i), .int (0 - j)], .tup [tR, tints w, .int j, .int i]] = A1 at eE
  generalize hA2 : O.lst (I ++ [.tup (tC :: [tints w, .int i, .int j])] ++ [.tup [tR, tints (con w), .int (0 - i), .int (0 - j)], .tup [tR, tints w, .int j, .int i]]) = A2 at eE
  generalize hA3 : O.lst [.tup [tR, tints w, .int i, .non], .tup [tR, tints w, .bl true, .int j]] = A3 at eE
  generalize hJ : I ++ [.tup (tC :: [tints w, .int i, .int j])] ++ [.tup [tR, tints (con w), .int (0 - i), .int (0 - j)], .tup [tR, tints w, .int j, .int i]] ++ [.tup [tR, tints w, .int i, .non], .tup [tR, tints w, .bl true, .int j]] ++ [.tup [tR, .ref (G2.length + 4), .int i, .int j]] = J at eE
  refine ⟨G2.length + 3, [O.lst [tR, tints w, .int i, .int j], O.lst [.tup [tR, tints w, .int i, .int j], .ref G.length, .tup [tR, tints w, .int i], .tup [tR, tints w, .int i, .int j, .int 0], .non, .int 0, .tup [], .tup [tU, tints P, tints Q], .tup [tU, tints Q, tints P]]] ++ [X, .lst (I ++ [.tup (tC :: [tints w, .int i, .int j])])] ++ [A1, A2, A3, .lst J, .lst (w.map D.int)], J, ?_, ?_, ?_⟩
  · rw [near_ap]
    generalize nA = A at *
    generalize nB = B at *
    generalize nC = C at *
    generalize nD = D' at *
    generalize nE = E at *
    simp only [sSeq_ap, eA, eB, eC, eD, eE, R.bind_ok, sRet_ap, eVar_ap, List.getElem?_cons_succ, List.getElem?_cons_zero]
    rw [fin_rt, gc_ref, ← List.append_assoc, ← List.append_assoc, ← hG1, ← hG2]
  · rw [← List.append_assoc, ← List.append_assoc, ← hG1, ← hG2, get_endk]
    rfl
  · rw [← List.append_assoc, ← List.append_assoc, ← hG1, ← hG2]
    have hr : ∃ o, (G2 ++ [A1, A2, A3, O.lst J, .lst (w.map D.int)])[G.length]? = some o := ⟨_, List.getElem?_eq_getElem (by simp; omega)⟩
    have hr2 : (G2 ++ [A1, A2, A3, O.lst J, .lst (w.map D.int)])[G2.length + 4]? = some (.lst (w.map D.int)) := by rw [get_endk]; rfl
    generalize G2 ++ [A1, A2, A3, O.lst J, .lst (w.map D.int)] = G3 at *
    intro d hd
    rw [← hJ, ← hI] at hd
    simp only [List.cons_append, List.nil_append, List.mem_cons, List.not_mem_nil, or_false] at hd
    rcases hd with rfl | rfl | rfl | rfl | rfl | rfl | rfl | rfl | rfl | rfl | rfl | rfl | rfl | rfl | rfl | rfl | rfl | rfl | rfl
    · exact ⟨_, same_root h1 h2 ha hb (by omega) (by omega) (by omega)⟩
    · exact ⟨_, same_no h1 h2 ha hb hr (fun l e => nomatch e)⟩
    · exact ⟨_, same_root2 h1 h2 ha hb⟩
    · exact ⟨_, same_root4 h1 h2 ha hb⟩
    · exact ⟨_, same_no h1 h2 ha hb trivial (fun l e => nomatch e)⟩
    · exact ⟨_, same_no h1 h2 ha hb trivial (fun l e => nomatch e)⟩
    · exact ⟨_, same_nil h1 h2 ha hb⟩
    · exact ⟨_, same_unlike h1 h2 ha hb (by omega) (by omega)⟩
    · exact ⟨_, same_unlike h1 h2 ha hb (by omega) (by omega)⟩
    · exact ⟨_, same_unlike h1 h2 ha hb (by omega) (by omega)⟩
    · exact ⟨_, same_root h1 h2 ha hb (by simp) (by decide) (by decide)⟩
    · exact ⟨_, same_root h1 h2 ha hb (by simp) (by decide) (by decide)⟩
    · exact ⟨_, same_root h1 h2 ha hb (by omega) (by decide) (by decide)⟩
    · exact ⟨_, same_C3 h1 h2 ha hb⟩
    · exact ⟨_, same_root h1 h2 ha hb (by rw [con_length]; omega) (by omega) (by omega)⟩
    · exact ⟨_, same_root h1 h2 ha hb (by omega) (by omega) (by omega)⟩
    · exact ⟨_, same_numb h1 h2 ha hb (by omega) (.inl ⟨_, rfl, by omega⟩) (.inr (.inl rfl)) (.inr rfl)⟩
    · exact ⟨_, same_numb h1 h2 ha hb (by omega) (.inr (.inr ⟨_, rfl⟩)) (.inl ⟨_, rfl, by omega⟩) (.inl rfl)⟩
    · exact ⟨_, same_ref h1 h2 ha hb hr2 (.inl ⟨_, rfl, by omega⟩) (.inl ⟨_, rfl, by omega⟩)⟩
end
abbrev nearB : FS := (sIf (tB (eBin oNe (eCall m_is_common_root (aCons (eVar 1) (aCons (eVar 4) (aCons (eVar 5) (aCons (eVar 3) aNil))))) (eCall m__law_is_due (aCons (eVar 1) (aCons (eVar 4) (aCons (eVar 5) (aCons (eVar 3) aNil)))))))
    (sRet (eC (.bl false)))
    sPass)
theorem near_loop {h : Hh} {n : Int} {a b : List Int} {good : Hh → Bool} {v0 v2 v6 v7 : Option D} (hg : good h = true) : ∀ (ds : List D) (v3 : Option D), (∀ d ∈ ds, ∃ r, Same n a b h d r) →
    ∃ v3', loop good (gNm 3) nearB ds [v0, some (.int n), v2, v3, some (tints a), some (tints b), v6, v7] h = .ok (.nx, [v0, some (.int n), v2, v3', some (tints a), some (tints b), v6, v7]) h
  | [], v3, _ => ⟨v3, by simp [hg]⟩
  | d :: ds, v3, ht => by
    obtain ⟨k, e1, e2⟩ := ht d List.mem_cons_self
    obtain ⟨v3', e⟩ := near_loop (v0 := v0) (v2 := v2) (v6 := v6) (v7 := v7) hg ds (some d) fun x hx => ht x (List.mem_cons_of_mem _ hx)
    refine ⟨v3', ?_⟩
    simp only [loop_cons, hg, if_true, gNm_ap, R.bind_ok, List.set_cons_succ, List.set_cons_zero, nearB, sIf_ap, tB_ap, eBin_ap, eCall_ap, aCons_ap, aNil_ap, eVar_ap, List.getElem?_cons_succ, List.getElem?_cons_zero, e1, e2, oNe_ap, pEq_bl, BEq.rfl, Bool.not_true, asB_bl, Bool.false_eq_true, if_false, sPass_ap]
    exact e
end K01
namespace K01
open PySem L2 Sm Wo
theorem Run.fin {i : Nat} {h H H' : Hh} {k j : Int} {d : D} (r : Run i h k H) (r' : Run i H j H') (p : D.pure d = true) : ∃ H2, gcR H d H' = .ok d H2 ∧ Run i h j H2 := by
  obtain ⟨o, g, e, po⟩ := r'.fo
  subst e
  have hp : (H.set i o).all O.pure = true := all_set r.pu po
  refine ⟨H.set i o, gc_setapp p hp, ?_⟩
  have s := r'.at_
  have hl : i < (H.set i o).length := by rw [List.length_set]; exact r.at_.lt
  obtain ⟨a, b, c, e1, q⟩ := s
  rw [List.getElem?_append_left hl] at e1
  exact r.set ⟨a, b, c, e1, q⟩ po
theorem run_word0 {i : Nat} {h H : Hh} {k n m : Int} (r : Run i h k H) (hk : k ≤ 100000) (hn1 : 1 ≤ n) (hn2 : n ≤ 5) (hm0 : 0 ≤ m) (hm : m ≤ 100) :
    ∃ w H', m__law_word [.ref i, .int n, .int m] H = .ok (tints w) H' ∧ Row n w = true ∧ Bare w ∧ (w.length : Int) ≤ m ∧ Run i h (k + 1000) H' := by
  obtain ⟨w, o, h1, h2, h3, h4, h5, h6⟩ := lword_eq r.at_ r.pu hk hn1 hn2 hm0 hm
  exact ⟨w, _, h1, h2, h3, h4, r.set h5 h6⟩
theorem Run.self {i : Nat} {h H : Hh} {k : Int} (r : Run i h k H) : Run i H k H := by
  obtain ⟨o, e, q⟩ := r.at_.same
  exact ⟨r.at_, r.pu, r.at_.lt, o, [], by rw [e, List.append_nil], q⟩
theorem pw_len {w : List Int} {k : Int} {m : Nat} (hw : w.length ≤ m) {c : Nat} (hk : k.natAbs ≤ c) : (pw w k).length ≤ c * m := by
  unfold pw
  refine Nat.le_trans (bareW_len _) ?_
  rw [rep_length]
  refine Nat.mul_le_mul hk ?_
  split
  · exact hw
  · rw [con_length]; exact hw
theorem pw_row {n : Int} {w : List Int} {k : Int} (h : Row n w = true) : Row n (pw w k) = true := by
  unfold pw
  refine bareW_row ?_
  have key : ∀ (m : Nat) {v : List Int}, Row n v = true → Row n (rep m v) = true := by
    intro m v hv
    induction m with
    | zero => rfl
    | succ m ih => rw [rep_succ, row_app, hv, ih]; rfl
  refine key _ ?_
  split
  · exact h
  · exact con_row h
theorem two_eq {i : Nat} {h H : Hh} {k n : Int} (r : Run i h k H) (hk : k ≤ 50000) (hn1 : 1 ≤ n) (hn2 : n ≤ 5) :
    ∃ a b H', m__law_two [.ref i, .int n] H = .ok (.tup [tints a, tints b]) H' ∧ Word n a = true ∧ Word n b = true ∧ a.length ≤ 28 ∧ b.length ≤ 28 ∧ Run i h (k + 10000) H' := by
  have r0 := r.self
  obtain ⟨p, H1, a1, a2, a3, a4, r1⟩ := run_word0 (n := n) (m := 3) r0 (by omega) hn1 hn2 (by decide) (by decide)
  obtain ⟨q, H2, b1, b2, b3, b4, r2⟩ := run_word0 (n := n) (m := 2) r1 (by omega) hn1 hn2 (by decide) (by decide)
  obtain ⟨x, H3, c1, c2, c3, r3⟩ := run_drawn (t := 5) r2 (by omega) (by decide) (by decide)
  obtain ⟨y, H4, d1, d2, d3, r4⟩ := run_drawn (t := 4) r3 (by omega) (by decide) (by decide)
  obtain ⟨z, H5, e1, e2, e3, r5⟩ := run_drawn (t := 3) r4 (by omega) (by decide) (by decide)
  have f8 := fun H => lbare_eq (h := H) (row := q ++ p ++ con q) (by rw [sz_eq]; simp only [List.length_append, con_length]; omega)
  have f9 := fun H => lback_eq (w := q) H (by rw [sz_eq]; omega)
  have z1 : q.length + p.length ≤ sz := by rw [sz_eq]; omega
  have z2 : q.length + p.length + (con q).length ≤ sz := by rw [sz_eq, con_length]; omega
  have hl := bareW_len (q ++ p ++ con q)
  simp only [List.length_append, con_length] at hl
  have s1 : ∀ H, oAdd (tints q) (tints p) H = .ok (tints (q ++ p)) H := fun H => by simp [z1]
  have s2 : ∀ H, oAdd (tints (q ++ p)) (tints (con q)) H = .ok (tints (q ++ p ++ con q)) H := fun H => by simp [z2]
  have rb : Row n (bareW (q ++ p ++ con q)) = true := bareW_row (by rw [row_app, row_app, b2, a2, con_row b2]; rfl)
  generalize bareW (q ++ p ++ con q) = base at *
  have m1 := fun H => powered_eq (h := H) (w := base) (k := x - 2) (by omega) (by omega)
  have m2 := fun H => powered_eq (h := H) (w := base) (k := y) (by omega) (by omega)
  have wa : Word n (pw base (x - 2)) = true := word_of (pw_row rb) (bareW_bare _) (by
    have := pw_len (w := base) (k := x - 2) (m := 7) (by omega) (c := 2) (by omega)
    omega)
  have la := pw_len (w := base) (k := x - 2) (m := 7) (by omega) (c := 2) (by omega)
  have lb := pw_len (w := base) (k := y) (m := 7) (by omega) (c := 3) (by omega)
  have wb : Word n (pw base y) = true := word_of (pw_row rb) (bareW_bare _) (by omega)
  generalize pw base (x - 2) = a at *
  generalize pw base y = b at *
  have zz : 2 ≤ sz := by decide
  have hap : m__law_two [.ref i, .int n] H = fin H (b__law_two [some (.ref i), some (.int n), none, none, none, none] H) := rfl
  by_cases hz : z = 0
  · subst hz
    obtain ⟨c, H6, g1, g2, g3, g4, r6⟩ := run_word0 (n := n) (m := 5) r5 (by omega) hn1 hn2 (by decide) (by decide)
    obtain ⟨H7, t1, t2⟩ := r.fin r6 (d := .tup [tints a, tints c]) (by simp)
    refine ⟨a, c, H7, ?_, wa, word_of g2 g3 (by omega), by omega, by omega, t2.mono (by omega)⟩
    rw [hap, ← t1]
    unfold b__law_two
    simp only [sSeq_ap, sPar_ap, aCons_ap, aNil_ap, eCall_ap, eVar_ap, eC_ap, List.getElem?_cons_succ, List.getElem?_cons_zero, R.bind_ok, a1, b1, List.set_cons_succ, List.set_cons_zero, sAsg_ap, eBin_ap, s1, s2, f9, f8, gNm_ap, c1, oSub_int, m1, d1, m2, sIf_ap, tB_ap, e1, oEq_ap, pEq_int, decide_true, asB_bl, if_true, g1, sRet_ap, eTup_ap, List.length_cons, List.length_nil, Nat.reduceAdd, zz, fin_rt]
  · obtain ⟨H7, t1, t2⟩ := r.fin r5 (d := .tup [tints a, tints b]) (by simp)
    refine ⟨a, b, H7, ?_, wa, wb, by omega, by omega, t2.mono (by omega)⟩
    rw [hap, ← t1]
    unfold b__law_two
    simp only [sSeq_ap, sPar_ap, aCons_ap, aNil_ap, eCall_ap, eVar_ap, eC_ap, List.getElem?_cons_succ, List.getElem?_cons_zero, R.bind_ok, a1, b1, List.set_cons_succ, List.set_cons_zero, sAsg_ap, eBin_ap, s1, s2, f9, f8, gNm_ap, c1, oSub_int, m1, d1, m2, sIf_ap, tB_ap, e1, oEq_ap, pEq_int, hz, decide_false, asB_bl, Bool.false_eq_true, if_false, sPass_ap, sRet_ap, eTup_ap, List.length_cons, List.length_nil, Nat.reduceAdd, zz, if_true, fin_rt]
theorem pEq_wi (s t : List Int) (i j : Int) (h : Hh) : pEq (.tup [tints s, .int i]) (.tup [tints t, .int j]) h = .ok (decide (s = t) && decide (i = j)) h := by
  unfold pEq
  rw [show (8 : Nat) = 7 + 1 from rfl, toP_tup, toP_tup]
  simp only [allP, show (7 : Nat) = 6 + 1 from rfl, toP_tup, allP_ints, toP_int]
  simp only [Option.map_some, PyData.eqv, PyData.eqvAll, eqvAll_ints, Bool.and_true]
  congr 2
abbrev wordB : FS := (sIf (tB (eBin oNe (eVar 2) (eTup aNil)))
    (sSeq (sAsg (eCall m_root (aCons (eVar 1) (aCons (eVar 2) aNil))) (gNm 6))
  (sSeq (sIf (tOr (tB (eBin oNe (eVar 6) (eCall m__law_root (aCons (eVar 2) aNil)))) (tB (eBin oNe (eCall m_power (aCons (eVar 1) (aCons (eBin oIx (eVar 6) (eC (.int 0))) (aCons (eBin oIx (eVar 6) (eC (.int 1))) aNil)))) (eVar 2))))
    (sRet (eC (.bl false)))
    sPass)
  (sIf (tB (eBin oNe (eCall m_root (aCons (eVar 1) (aCons (eBin oIx (eVar 6) (eC (.int 0))) aNil))) (eTup (aCons (eBin oIx (eVar 6) (eC (.int 0))) (aCons (eC (.int 1)) aNil)))))
    (sRet (eC (.bl false)))
    sPass)))
    sPass)
theorem word_step {n : Int} {w : List Int} (h1 : 1 ≤ n) (h2 : n ≤ 5) (hw : Word n w = true) (hl : w.length ≤ 50) (H : Hh) {v0 v3 v4 v5 v6 v7 : Option D} : ∃ v6', wordB [v0, some (.int n), some (tints w), v3, v4, v5, v6, v7] H = .ok (.nx, [v0, some (.int n), some (tints w), v3, v4, v5, v6', v7]) H := by
  obtain ⟨rw', bw, _⟩ := parts hw
  by_cases w0 : w = []
  · subst w0
    have e : pEq (.tup []) (.tup []) H = .ok true H := pEq_ints [] [] H
    exact ⟨v6, by simp [wordB, e]⟩
  · obtain ⟨j, s⟩ := stop_ex w (by omega)
    obtain ⟨x, m, r⟩ := root_ex bw (row_nz rw') w0 s
    obtain ⟨k1, k2, k3⟩ := root_word r (by omega)
    have hb := r.base bw
    have hm : m ≤ 50 := by
      have := congrArg List.length r.eq
      simp only [List.length_append, rep_length] at this
      have h3 : m * 1 ≤ m * x.length := Nat.mul_le_mul_left _ (List.length_pos_iff.mpr r.prim.1)
      omega
    have wb : Word n (w.take j ++ x ++ con (w.take j)) = true := word_of (row_sub rw' k3) hb (by omega)
    have f1 := fun H => root_i h1 h2 hw r H
    have f2 := fun H => lroot_at r bw (by omega) H
    have f3 := fun H => power_eq (h := H) (k := (m : Nat)) h1 h2 wb (by omega) (by omega)
    rw [root_bare r bw] at f3
    have f4 := fun H => root_i h1 h2 wb r.own H
    generalize w.take j ++ x ++ con (w.take j) = t at *
    have z2 : 2 ≤ sz := by decide
    exact ⟨some (.tup [tints t, .int (m : Nat)]), by simp [wordB, w0, f1, f2, f3, f4, pEq_wi, z2]⟩
end K01
namespace K01
open PySem L2 Sm Wo
abbrev restS : FS := (sSeq (sFor (iSeq (eTup (aCons (eVar 4) (aCons (eVar 5) aNil)))) (gNm 2) wordB)
  (sSeq (sPar 6 7 (aCons (eCall m_common_root (aCons (eVar 1) (aCons (eVar 4) (aCons (eVar 5) aNil)))) (aCons (eBin oEq (eCall m__law_bare (aCons (eBin oAdd (eVar 4) (eVar 5)) aNil)) (eCall m__law_bare (aCons (eBin oAdd (eVar 5) (eVar 4)) aNil))) aNil)))
  (sSeq (sIf (tOr (tB (eBin oNe (eBin oEq (eBin oIx (eVar 6) (eC (.int 0))) (eC (.str "root"))) (eVar 7))) (tNot (tB (eCall m__law_is_due (aCons (eVar 1) (aCons (eVar 4) (aCons (eVar 5) (aCons (eVar 6) aNil))))))))
    (sRet (eC (.bl false)))
    sPass)
  (sSeq (sIf (tB (eBin oNe (eBin oEq (eCall m_product (aCons (eVar 1) (aCons (eVar 4) (aCons (eVar 5) aNil)))) (eCall m_product (aCons (eVar 1) (aCons (eVar 5) (aCons (eVar 4) aNil))))) (eVar 7)))
    (sRet (eC (.bl false)))
    sPass)
  (sSeq (sFor (iSeq (eCall m__law_near (aCons (eVar 4) (aCons (eVar 5) (aCons (eVar 6) aNil))))) (gNm 3) nearB)
  (sRet (eC (.bl true))))))))
theorem rest_eq {i : Nat} {H : Hh} {n : Int} {a b : List Int} (h1 : 1 ≤ n) (h2 : n ≤ 5) (ha : Word n a = true) (hb : Word n b = true) (la : a.length ≤ 28) (lb : b.length ≤ 28) :
    ∃ l' g, restS [some (.ref i), some (.int n), none, none, some (tints a), some (tints b), none, none] H = .ok (.rt (.bl true), l') (H ++ g) := by
  obtain ⟨x1, w1⟩ := word_step (v0 := some (.ref i)) (v3 := none) (v4 := some (tints a)) (v5 := some (tints b)) (v6 := none) (v7 := none) h1 h2 ha (by omega) H
  obtain ⟨x2, w2⟩ := word_step (v0 := some (.ref i)) (v3 := none) (v4 := some (tints a)) (v5 := some (tints b)) (v6 := x1) (v7 := none) h1 h2 hb (by omega) H
  have f1 := fun H => lbare_eq (h := H) (row := a ++ b) (by rw [sz_eq, List.length_append]; omega)
  have f2 := fun H => lbare_eq (h := H) (row := b ++ a) (by rw [sz_eq, List.length_append]; omega)
  have s1 : a.length + b.length ≤ sz := by rw [sz_eq]; omega
  have s2 : b.length + a.length ≤ sz := by rw [sz_eq]; omega
  have a1 : ∀ h, oAdd (tints a) (tints b) h = .ok (tints (a ++ b)) h := fun h => by simp [s1]
  have a2 : ∀ h, oAdd (tints b) (tints a) h = .ok (tints (b ++ a)) h := fun h => by simp [s2]
  have p1 : m_product [.int n, tints a, tints b] H = .ok (tints (bareW (a ++ b))) H := by
    have := product_i (h := H) (ws := [a, b]) h1 h2 (by simp) (fun w hw => by
      simp at hw
      rcases hw with rfl | rfl
      · exact ha
      · exact hb)
    simpa [prodW] using this
  have p2 : m_product [.int n, tints b, tints a] H = .ok (tints (bareW (b ++ a))) H := by
    have := product_i (h := H) (ws := [b, a]) h1 h2 (by simp) (fun w hw => by
      simp at hw
      rcases hw with rfl | rfl
      · exact hb
      · exact ha)
    simpa [prodW] using this
  have z2 : 2 ≤ sz := by decide
  have start : (sFor (iSeq (eTup (aCons (eVar 4) (aCons (eVar 5) aNil)))) (gNm 2) wordB) [some (.ref i), some (.int n), none, none, some (tints a), some (tints b), none, none] H = .ok (.nx, [some (.ref i), some (.int n), some (tints b), none, some (tints a), some (tints b), x2, none]) H := by
    generalize wordB = B at *
    simp [w1, w2, z2]
  have hcm := common_at (h := H) h1 h2 ha hb
  rcases hcm with ⟨c, e⟩ | ⟨c, w, k, j, e, t⟩
  · obtain ⟨p, g, items, n1, n2, n3⟩ := near_no h1 h2 ha hb H
    have dd := (same_unlike (h := H) (u := bareW (a ++ b)) (v := bareW (b ++ a)) h1 h2 ha hb (by have := bareW_len (a ++ b); rw [List.length_append] at this; omega) (by have := bareW_len (b ++ a); rw [List.length_append] at this; omega)).2
    rw [decide_eq_true rfl, decide_eq_true rfl, decide_eq_false c] at dd
    obtain ⟨v3, lp⟩ := near_loop (v0 := some (.ref i)) (v2 := some (tints b)) (v6 := some (.tup [tU, tints (bareW (a ++ b)), tints (bareW (b ++ a))])) (v7 := some (.bl false)) (good := fun hh => decide (hh[p]? = some (.lst items))) (decide_eq_true n2) items none n3
    simp only [Bool.and_self, Bool.not_false] at dd
    generalize bareW (a ++ b) = P at *
    generalize bareW (b ++ a) = Q at *
    refine ⟨[some (.ref i), some (.int n), some (tints b), v3, some (tints a), some (tints b), some (.tup [tU, tints P, tints Q]), some (.bl false)], g, ?_⟩
    unfold restS
    rw [sSeq_ap, start]
    simp [a1, a2, f1, f2, e, c, pEq_UR, dd, p1, p2, n1, n2, lp, -oAdd_tup]
  · obtain ⟨p, g, items, n1, n2, n3⟩ := near_yes h1 h2 ha hb H t
    have lw := t.len
    have bi := t.bi
    have bj := t.bj
    have dd := (same_root (h := H) (w := w) (i := k) (j := j) h1 h2 ha hb (by omega) (by omega) (by omega)).2
    have ww : Word n w = true := word_of (row_sub (b := a ++ b) (by rw [row_app, (parts ha).1, (parts hb).1]; rfl) (fun y hy => List.mem_append.mpr (t.sub y hy))) t.bare (by omega)
    rw [decide_eq_true t.one, decide_eq_true t.other, ww] at dd
    obtain ⟨v3, lp⟩ := near_loop (v0 := some (.ref i)) (v2 := some (tints b)) (v6 := some (.tup [tR, tints w, .int k, .int j])) (v7 := some (.bl true)) (good := fun hh => decide (hh[p]? = some (.lst items))) (decide_eq_true n2) items none n3
    simp only [Bool.and_self] at dd
    rw [c] at f1 p1
    generalize bareW (b ++ a) = Q at *
    refine ⟨[some (.ref i), some (.int n), some (tints b), v3, some (tints a), some (tints b), some (.tup [tR, tints w, .int k, .int j]), some (.bl true)], g, ?_⟩
    unfold restS
    rw [sSeq_ap, start]
    simp [a1, a2, f1, f2, e, c, pEq_RR, dd, p1, p2, n1, n2, lp, -oAdd_tup]
theorem right_eq {h : Hh} {i : Nat} (s : SackAt i 0 h) (hp : h.all O.pure = true) : ∃ o, m__law_right [.ref i] h = .ok (.bl true) (h.set i o) ∧ (h.set i o).all O.pure = true := by
  have r0 : Run i h 0 h := by
    obtain ⟨o, e, q⟩ := s.same
    exact ⟨s, hp, s.lt, o, [], by rw [e, List.append_nil], q⟩
  obtain ⟨x1, H1, a1, a2, a3, r1⟩ := run_drawn (t := 4) r0 (by decide) (by decide) (by decide)
  obtain ⟨n, hn⟩ : ∃ n, n = 1 + x1 := ⟨_, rfl⟩
  obtain ⟨a, b, H2, b1, wa, wb, la, lb, r2⟩ := two_eq (n := n) r1 (by decide) (by omega) (by omega)
  obtain ⟨l', g, e⟩ := rest_eq (i := i) (H := H2) (n := n) (by omega) (by omega) wa wb la lb
  obtain ⟨o, g1, e2, po⟩ := r2.fo
  have hbd : b__law_right = (sSeq (sAsg (eBin oAdd (eC (.int 1)) (eCall m__law_drawn (aCons (eVar 0) (aCons (eC (.int 4)) aNil)))) (gNm 1))
    (sSeq (sAsg (eCall m__law_two (aCons (eVar 0) (aCons (eVar 1) aNil))) (gTp 2 (gCo (gNm 4) (gCo (gNm 5) gNo)))) restS)) := rfl
  have hap : m__law_right [.ref i] h = fin h (b__law_right [some (.ref i), none, none, none, none, none, none, none] h) := by
    simp [m__law_right, List.replicate]
  rw [hbd] at hap
  refine ⟨o, ?_, all_set hp po⟩
  generalize restS = RS at *
  subst hn
  rw [hap]
  simp only [sSeq_ap, sAsg_ap, eBin_ap, eC_ap, eCall_ap, aCons_ap, aNil_ap, eVar_ap, List.getElem?_cons_succ, List.getElem?_cons_zero, R.bind_ok, a1, oAdd_int, gNm_ap, List.set_cons_succ, List.set_cons_zero, b1, gTp_ap, itemsOf_tup, List.length_cons, List.length_nil, Nat.reduceAdd, if_true, gCo_ap, gNo_ap, e]
  rw [fin_rt, e2, List.append_assoc]
  exact gc_setapp (by simp) (all_set hp po)
abbrev turnBody : FS := (sIf (tNot (tB (eCall m__law_right (aCons (eCall m__law_sack (aCons (eVar 0) (aCons (eVar 1) aNil))) aNil))))
    (sRet (eC (.bl false)))
    sPass)
theorem turn_eq {ns : List Int} {k : Nat} (hk : k ≤ 1) {h : Hh} (hp : h.all O.pure = true) {v2 : Option D} : ∃ h', turnBody [some (.ro (ns.map D.int)), some (.int (k : Int)), v2] h = .ok (.nx, [some (.ro (ns.map D.int)), some (.int (k : Int)), v2]) h' ∧ h'.all O.pure = true := by
  obtain ⟨a, b, c, e1, s⟩ := sack_eq (ns := ns) hk h
  obtain ⟨o, e2, p⟩ := right_eq s (by rw [List.all_append, hp]; simp [O.pure])
  refine ⟨_, ?_, p⟩
  simp only [turnBody, sIf_ap, tNot_ap, tB_ap, eCall_ap, aCons_ap, aNil_ap, eVar_ap, List.getElem?_cons_succ, List.getElem?_cons_zero, R.bind_ok, e1, e2, asB_bl, Bool.not_true, Bool.false_eq_true, if_false, sPass_ap]
theorem turns_eq {ns : List Int} : ∃ v1 h', (sFor (iRange1 (aCons (eCall fMax2 (aCons (eC (.int 1)) (aCons (eCall fMin2 (aCons (eC (.int 2)) (aCons (eCall fLen (aCons (eVar 0) aNil)) aNil))) aNil))) aNil)) (gNm 1) turnBody) [some (.ro (ns.map D.int)), none, none] [] = .ok (.nx, [some (.ro (ns.map D.int)), v1, none]) h' := by
  obtain ⟨h1, e1, p1⟩ := turn_eq (ns := ns) (k := 0) (by decide) (h := []) (by simp) (v2 := none)
  obtain ⟨h2, e2, p2⟩ := turn_eq (ns := ns) (k := 1) (by decide) p1 (v2 := none)
  have i1 : inR 1 = true := inR_of (by decide) (by decide)
  have i2 : inR 2 = true := inR_of (by decide) (by decide)
  have l1 : rngL 0 (Int.toNat 1) = [.int ((0 : Nat) : Int)] := rfl
  have l2 : rngL 0 (Int.toNat 2) = [.int ((0 : Nat) : Int), .int ((1 : Nat) : Int)] := rfl
  by_cases hl : ns.length < 2
  · refine ⟨some (.int ((0 : Nat) : Int)), h1, ?_⟩
    have c1 : ¬ ((ns.length : Int) > 1) := by omega
    have c2 : (ns.length : Int) < 2 := by omega
    simp only [sFor_ap, iRange1_ap, aCons_ap, aNil_ap, eCall_ap, eC_ap, eVar_ap, List.getElem?_cons_zero, R.bind_ok, fLen_ro, fMin2_int, fMax2_int, List.length_map, c2, if_true, c1, if_false, rng1, i1, l1, loop_cons, loop_nil, gNm_ap, List.set_cons_succ, List.set_cons_zero, e1]
  · refine ⟨some (.int ((1 : Nat) : Int)), h2, ?_⟩
    have c2 : ¬ ((ns.length : Int) < 2) := by omega
    simp only [sFor_ap, iRange1_ap, aCons_ap, aNil_ap, eCall_ap, eC_ap, eVar_ap, List.getElem?_cons_zero, R.bind_ok, fLen_ro, fMin2_int, fMax2_int, List.length_map, c2, if_false, show ((2 : Int) > 1) from by decide, if_true, rng1, i2, l2, loop_cons, loop_nil, gNm_ap, List.set_cons_succ, List.set_cons_zero, e1, e2]
end K01
namespace K01
open PySem L2 Sm Wo
theorem prim_of {x : List Int} (h : x ≠ []) (h2 : ∀ q, q < x.length → 0 < q → perB x q = false) : Prim x := by
  obtain ⟨p, hp, hl⟩ := per_ex h
  have hpx : p = x.length := by
    by_cases q : p < x.length
    · have := (perB_iff hp.pos hp.le).mpr hp
      rw [h2 p q hp.pos] at this
      cases this
    · have := hp.le
      omega
  have := (per_prim hp hl).1
  rw [hpx, List.take_length] at this
  exact this
theorem prim12 : Prim [1, 2] := prim_of (by decide) (by decide)
theorem prim1 (x : Int) : Prim [x] := prim_of (by simp) (fun q h1 h2 => by simp at h1; omega)
theorem cyc_of {x : List Int} (h : ∀ a ∈ x, ∀ b ∈ x, a ≠ -b) : Cyc x := fun p q hp hq => h p (List.mem_of_getLast? hp) q (List.mem_of_head? hq)
abbrev lw1 : FS := (sAsg (eLst (aCons (eCall m_root (aCons (eC (.int 2)) (aCons (eTup (aCons (eC (.int 1)) (aCons (eC (.int 2)) (aCons (eC (.int 1)) (aCons (eC (.int 2)) aNil))))) aNil))) (aCons (eCall m_root (aCons (eC (.int 2)) (aCons (eTup (aCons (eC (.int 1)) (aCons (eC (.int 2)) (aCons (eC (.int 2)) (aCons (eUn oNeg (eC (.int 1))) aNil))))) aNil))) (aCons (eCall m_root (aCons (eC (.int 2)) (aCons (eTup (aCons (eC (.int 1)) aNil)) aNil))) (aCons (eCall m_common_root (aCons (eC (.int 2)) (aCons (eTup (aCons (eC (.int 1)) (aCons (eC (.int 2)) aNil))) (aCons (eTup (aCons (eC (.int 2)) (aCons (eC (.int 1)) aNil))) aNil)))) aNil))))) (gNm 2))
abbrev lw2 : FS := (sIf (tB (eBin oNe (eVar 2) (eLst (aCons (eTup (aCons (eTup (aCons (eC (.int 1)) (aCons (eC (.int 2)) aNil))) (aCons (eC (.int 2)) aNil))) (aCons (eTup (aCons (eTup (aCons (eC (.int 1)) (aCons (eC (.int 2)) (aCons (eUn oNeg (eC (.int 1))) aNil)))) (aCons (eC (.int 2)) aNil))) (aCons (eTup (aCons (eTup (aCons (eC (.int 1)) aNil)) (aCons (eC (.int 1)) aNil))) (aCons (eTup (aCons (eC (.str "unlike")) (aCons (eTup (aCons (eC (.int 1)) (aCons (eC (.int 2)) (aCons (eC (.int 2)) (aCons (eC (.int 1)) aNil))))) (aCons (eTup (aCons (eC (.int 2)) (aCons (eC (.int 1)) (aCons (eC (.int 1)) (aCons (eC (.int 2)) aNil))))) aNil)))) aNil)))))))
    (sRet (eC (.bl false)))
    sPass)
abbrev lw3 : FS := (sRet (eAnd (eCall m_is_common_root (aCons (eC (.int 2)) (aCons (eTup aNil) (aCons (eTup (aCons (eC (.int 1)) (aCons (eC (.int 2)) aNil))) (aCons (eTup (aCons (eC (.str "root")) (aCons (eTup (aCons (eUn oNeg (eC (.int 2))) (aCons (eUn oNeg (eC (.int 1))) aNil))) (aCons (eC (.int 0)) (aCons (eUn oNeg (eC (.int 1))) aNil))))) aNil))))) (eBin oEq (eBin oIx (eCall m_common_root (aCons (eC (.int 3)) (aCons (eTup aNil) (aCons (eTup aNil) aNil)))) (eC (.int 0))) (eC (.str "root")))))
theorem lw_eq {v0 v1 : Option D} (H : Hh) : ∃ l' H', (sSeq lw1 (sSeq lw2 lw3)) [v0, v1, none] H = .ok (.rt (.bl true), l') H' := by
  have a1 := fun H => root_i (n := 2) (w := [1, 2, 1, 2]) (u := []) (x := [1, 2]) (m := 2) (by decide) (by decide) (by decide) ⟨by decide, by decide, prim12, cyc_of (by decide)⟩ H
  have a2 := fun H => root_i (n := 2) (w := [1, 2, 2, -1]) (u := [1]) (x := [2]) (m := 2) (by decide) (by decide) (by decide) ⟨by decide, by decide, prim1 2, cyc_of (by decide)⟩ H
  have a3 := fun H => root_i (n := 2) (w := [1]) (u := []) (x := [1]) (m := 1) (by decide) (by decide) (by decide) ⟨by decide, by decide, prim1 1, cyc_of (by decide)⟩ H
  have a4 : ∀ H, m_common_root [.int 2, tints [1, 2], tints [2, 1]] H = .ok (.tup [tU, tints [1, 2, 2, 1], tints [2, 1, 1, 2]]) H := fun H => by
    rcases common_at (n := 2) (a := [1, 2]) (b := [2, 1]) (h := H) (by decide) (by decide) (by decide) (by decide) with ⟨_, e⟩ | ⟨e, _⟩
    · rw [show bareW ([1, 2] ++ [2, 1]) = [1, 2, 2, 1] by decide, show bareW ([2, 1] ++ [1, 2]) = [2, 1, 1, 2] by decide] at e
      exact e
    · exact absurd e (by decide)
  have a5 : ∀ H, ∃ l, m_common_root [.int 3, tints [], tints []] H = .ok (.tup (tR :: l)) H := fun H => by
    rcases common_at (n := 3) (a := []) (b := []) (h := H) (by decide) (by decide) (by decide) (by decide) with ⟨e, _⟩ | ⟨_, w, i, j, e, _⟩
    · exact absurd rfl e
    · exact ⟨_, e⟩
  have a6 := fun H => (same_root (n := 2) (a := []) (b := [1, 2]) (w := [-2, -1]) (i := 0) (j := -1) (h := H) (by decide) (by decide) (by decide) (by decide) (by decide) (by decide) (by decide)).1
  rw [show (Word 2 [-2, -1] && (decide (pw [-2, -1] 0 = []) && decide (pw [-2, -1] (-1) = [1, 2]))) = true by decide] at a6
  rw [show ([] : List Int) ++ [1, 2] ++ con [] = [1, 2] by decide] at a1
  rw [show ([1] : List Int) ++ [2] ++ con [1] = [1, 2, -1] by decide] at a2
  rw [show ([] : List Int) ++ [1] ++ con [] = [1] by decide] at a3
  simp only [tints, List.map_cons, List.map_nil] at a1 a2 a3 a4 a5 a6
  let L : List D := [.tup [.tup [.int 1, .int 2], .int 2], .tup [.tup [.int 1, .int 2, .int (-1)], .int 2], .tup [.tup [.int 1], .int 1], .tup [tU, .tup [.int 1, .int 2, .int 2, .int 1], .tup [.int 2, .int 1, .int 1, .int 2]]]
  have e : pEq (.ref H.length) (.ref (H.length + 1)) (H ++ [.lst L, .lst L]) = .ok true (H ++ [.lst L, .lst L]) := by
    unfold pEq
    rw [show (8 : Nat) = 7 + 1 from rfl, toP_ref, toP_ref, get_end, get_end1]
    simp [L, allP, toP_tup _ 6, toP_tup _ 5, toP_int, toP_str8 ok_U, PyData.eqv, PyData.eqvAll]
  have z1 : 1 ≤ sz := by decide
  have z2 : 2 ≤ sz := by decide
  have z3 : 3 ≤ sz := by decide
  have z4 : 4 ≤ sz := by decide
  obtain ⟨l, a7⟩ := a5 (H ++ [.lst L, .lst L])
  refine ⟨[v0, v1, some (.ref H.length)], H ++ [.lst L, .lst L], ?_⟩
  simp only [L] at e a7 ⊢
  simp [lw1, lw2, lw3, a1, a2, a3, a4, a6, a7, z1, z2, z3, z4, e, pEq_RR]
theorem law_true : LawOk m_law := by
  intro ns _
  obtain ⟨v1, h', e1⟩ := turns_eq (ns := ns)
  have hbd : b_law = sSeq (sFor (iRange1 (aCons (eCall fMax2 (aCons (eC (.int 1)) (aCons (eCall fMin2 (aCons (eC (.int 2)) (aCons (eCall fLen (aCons (eVar 0) aNil)) aNil))) aNil))) aNil)) (gNm 1)
    (sIf (tNot (tB (eCall m__law_right (aCons (eCall m__law_sack (aCons (eVar 0) (aCons (eVar 1) aNil))) aNil))))
    (sRet (eC (.bl false)))
    sPass)) (sSeq lw1 (sSeq lw2 lw3)) := rfl
  have hap : m_law [.ro (ns.map D.int)] [] = fin [] (b_law [some (.ro (ns.map D.int)), none, none] []) := by
    simp [m_law, List.replicate]
  rw [hbd] at hap
  obtain ⟨l', H1, q1⟩ := lw_eq (v0 := some (.ro (ns.map D.int))) (v1 := v1) h'
  rw [sSeq_ap, e1] at hap
  simp only [R.bind_ok] at hap
  rw [q1, fin_rt] at hap
  rw [hap]
  unfold gcR
  split
  · exact ⟨_, rfl⟩
  · exact ⟨_, rfl⟩
end K01
open PySem PySem.W PyProof.Rows in
set_option maxRecDepth 100000 in
set_option maxHeartbeats 0 in
theorem PySem.Challenge.cw_noroadback_k01_whole_roots_and_words_tha_holds : PySem.Challenge.rw_noroadback_k01_whole_roots_and_words_tha.Holds := by
  w_on; o_law; k_head; (case hw => w_witness2)
  k_fill
  refine K01.walk (l := PySem.Challenge.rw_noroadback_k01_whole_roots_and_words_tha) K01.law_true rfl rfl rfl (fun w h Y => PySem.W.kIn_of Y) ?F
  case F =>
    intro w mg h KX G
    have a_is_whole : Sm.DefAt (Sm.inOf KX) mg "is_whole" K01.s_is_whole := by
      refine' Sm.at_mk KX G ?a ?l ?c ?k
      (case a => (try unfold Sm.inOf); k_is)
      (case l => (try unfold Sm.inOf); k_is)
      (case c => (try unfold Sm.inOf); k_is)
      (case k => (try unfold Sm.inOf); k_is)
    have a_is_within : Sm.DefAt (Sm.inOf KX) mg "is_within" K01.s_is_within := by
      refine' Sm.at_mk KX G ?a ?l ?c ?k
      (case a => (try unfold Sm.inOf); k_is)
      (case l => (try unfold Sm.inOf); k_is)
      (case c => (try unfold Sm.inOf); k_is)
      (case k => (try unfold Sm.inOf); k_is)
    have a_are_wholes : Sm.DefAt (Sm.inOf KX) mg "are_wholes" K01.s_are_wholes := by
      refine' Sm.at_mk KX G ?a ?l ?c ?k
      (case a => (try unfold Sm.inOf); k_is)
      (case l => (try unfold Sm.inOf); k_is)
      (case c => (try unfold Sm.inOf); k_is)
      (case k => (try unfold Sm.inOf); k_is)
    have a_require_within : Sm.DefAt (Sm.inOf KX) mg "require_within" K01.s_require_within := by
      refine' Sm.at_mk KX G ?a ?l ?c ?k
      (case a => (try unfold Sm.inOf); k_is)
      (case l => (try unfold Sm.inOf); k_is)
      (case c => (try unfold Sm.inOf); k_is)
      (case k => (try unfold Sm.inOf); k_is)
    have a_require_letters : Sm.DefAt (Sm.inOf KX) mg "require_letters" K01.s_require_letters := by
      refine' Sm.at_mk KX G ?a ?l ?c ?k
      (case a => (try unfold Sm.inOf); k_is)
      (case l => (try unfold Sm.inOf); k_is)
      (case c => (try unfold Sm.inOf); k_is)
      (case k => (try unfold Sm.inOf); k_is)
    have a_contrary_in : Sm.DefAt (Sm.inOf KX) mg "contrary_in" K01.s_contrary_in := by
      refine' Sm.at_mk KX G ?a ?l ?c ?k
      (case a => (try unfold Sm.inOf); k_is)
      (case l => (try unfold Sm.inOf); k_is)
      (case c => (try unfold Sm.inOf); k_is)
      (case k => (try unfold Sm.inOf); k_is)
    have a_common_ends : Sm.DefAt (Sm.inOf KX) mg "common_ends" K01.s_common_ends := by
      refine' Sm.at_mk KX G ?a ?l ?c ?k
      (case a => (try unfold Sm.inOf); k_is)
      (case l => (try unfold Sm.inOf); k_is)
      (case c => (try unfold Sm.inOf); k_is)
      (case k => (try unfold Sm.inOf); k_is)
    have a_product_in : Sm.DefAt (Sm.inOf KX) mg "product_in" K01.s_product_in := by
      refine' Sm.at_mk KX G ?a ?l ?c ?k
      (case a => (try unfold Sm.inOf); k_is)
      (case l => (try unfold Sm.inOf); k_is)
      (case c => (try unfold Sm.inOf); k_is)
      (case k => (try unfold Sm.inOf); k_is)
    have a_core_in : Sm.DefAt (Sm.inOf KX) mg "core_in" K01.s_core_in := by
      refine' Sm.at_mk KX G ?a ?l ?c ?k
      (case a => (try unfold Sm.inOf); k_is)
      (case l => (try unfold Sm.inOf); k_is)
      (case c => (try unfold Sm.inOf); k_is)
      (case k => (try unfold Sm.inOf); k_is)
    have a_power_in : Sm.DefAt (Sm.inOf KX) mg "power_in" K01.s_power_in := by
      refine' Sm.at_mk KX G ?a ?l ?c ?k
      (case a => (try unfold Sm.inOf); k_is)
      (case l => (try unfold Sm.inOf); k_is)
      (case c => (try unfold Sm.inOf); k_is)
      (case k => (try unfold Sm.inOf); k_is)
    have a_root_in : Sm.DefAt (Sm.inOf KX) mg "root_in" K01.s_root_in := by
      refine' Sm.at_mk KX G ?a ?l ?c ?k
      (case a => (try unfold Sm.inOf); k_is)
      (case l => (try unfold Sm.inOf); k_is)
      (case c => (try unfold Sm.inOf); k_is)
      (case k => (try unfold Sm.inOf); k_is)
    have a_exponents_in : Sm.DefAt (Sm.inOf KX) mg "exponents_in" K01.s_exponents_in := by
      refine' Sm.at_mk KX G ?a ?l ?c ?k
      (case a => (try unfold Sm.inOf); k_is)
      (case l => (try unfold Sm.inOf); k_is)
      (case c => (try unfold Sm.inOf); k_is)
      (case k => (try unfold Sm.inOf); k_is)
    have a_is_row_in : Sm.DefAt (Sm.inOf KX) mg "is_row_in" K01.s_is_row_in := by
      refine' Sm.at_mk KX G ?a ?l ?c ?k
      (case a => (try unfold Sm.inOf); k_is)
      (case l => (try unfold Sm.inOf); k_is)
      (case c => (try unfold Sm.inOf); k_is)
      (case k => (try unfold Sm.inOf); k_is)
    have a_is_word_any : Sm.DefAt (Sm.inOf KX) mg "is_word_any" K01.s_is_word_any := by
      refine' Sm.at_mk KX G ?a ?l ?c ?k
      (case a => (try unfold Sm.inOf); k_is)
      (case l => (try unfold Sm.inOf); k_is)
      (case c => (try unfold Sm.inOf); k_is)
      (case k => (try unfold Sm.inOf); k_is)
    have a_is_word_in : Sm.DefAt (Sm.inOf KX) mg "is_word_in" K01.s_is_word_in := by
      refine' Sm.at_mk KX G ?a ?l ?c ?k
      (case a => (try unfold Sm.inOf); k_is)
      (case l => (try unfold Sm.inOf); k_is)
      (case c => (try unfold Sm.inOf); k_is)
      (case k => (try unfold Sm.inOf); k_is)
    have a_is_power_of : Sm.DefAt (Sm.inOf KX) mg "is_power_of" K01.s_is_power_of := by
      refine' Sm.at_mk KX G ?a ?l ?c ?k
      (case a => (try unfold Sm.inOf); k_is)
      (case l => (try unfold Sm.inOf); k_is)
      (case c => (try unfold Sm.inOf); k_is)
      (case k => (try unfold Sm.inOf); k_is)
    have a_is_root_paper : Sm.DefAt (Sm.inOf KX) mg "is_root_paper" K01.s_is_root_paper := by
      refine' Sm.at_mk KX G ?a ?l ?c ?k
      (case a => (try unfold Sm.inOf); k_is)
      (case l => (try unfold Sm.inOf); k_is)
      (case c => (try unfold Sm.inOf); k_is)
      (case k => (try unfold Sm.inOf); k_is)
    have a_is_unlike_paper : Sm.DefAt (Sm.inOf KX) mg "is_unlike_paper" K01.s_is_unlike_paper := by
      refine' Sm.at_mk KX G ?a ?l ?c ?k
      (case a => (try unfold Sm.inOf); k_is)
      (case l => (try unfold Sm.inOf); k_is)
      (case c => (try unfold Sm.inOf); k_is)
      (case k => (try unfold Sm.inOf); k_is)
    have a_require_word : Sm.DefAt (Sm.inOf KX) mg "require_word" K01.s_require_word := by
      refine' Sm.at_mk KX G ?a ?l ?c ?k
      (case a => (try unfold Sm.inOf); k_is)
      (case l => (try unfold Sm.inOf); k_is)
      (case c => (try unfold Sm.inOf); k_is)
      (case k => (try unfold Sm.inOf); k_is)
    have a_require_letters_and_word : Sm.DefAt (Sm.inOf KX) mg "require_letters_and_word" K01.s_require_letters_and_word := by
      refine' Sm.at_mk KX G ?a ?l ?c ?k
      (case a => (try unfold Sm.inOf); k_is)
      (case l => (try unfold Sm.inOf); k_is)
      (case c => (try unfold Sm.inOf); k_is)
      (case k => (try unfold Sm.inOf); k_is)
    have a_require_two_words : Sm.DefAt (Sm.inOf KX) mg "require_two_words" K01.s_require_two_words := by
      refine' Sm.at_mk KX G ?a ?l ?c ?k
      (case a => (try unfold Sm.inOf); k_is)
      (case l => (try unfold Sm.inOf); k_is)
      (case c => (try unfold Sm.inOf); k_is)
      (case k => (try unfold Sm.inOf); k_is)
    have a_product : Sm.DefAt (Sm.inOf KX) mg "product" K01.s_product := by
      refine' Sm.at_mk KX G ?a ?l ?c ?k
      (case a => (try unfold Sm.inOf); k_is)
      (case l => (try unfold Sm.inOf); k_is)
      (case c => (try unfold Sm.inOf); k_is)
      (case k => (try unfold Sm.inOf); k_is)
    have a_power : Sm.DefAt (Sm.inOf KX) mg "power" K01.s_power := by
      refine' Sm.at_mk KX G ?a ?l ?c ?k
      (case a => (try unfold Sm.inOf); k_is)
      (case l => (try unfold Sm.inOf); k_is)
      (case c => (try unfold Sm.inOf); k_is)
      (case k => (try unfold Sm.inOf); k_is)
    have a_root : Sm.DefAt (Sm.inOf KX) mg "root" K01.s_root := by
      refine' Sm.at_mk KX G ?a ?l ?c ?k
      (case a => (try unfold Sm.inOf); k_is)
      (case l => (try unfold Sm.inOf); k_is)
      (case c => (try unfold Sm.inOf); k_is)
      (case k => (try unfold Sm.inOf); k_is)
    have a_common_root : Sm.DefAt (Sm.inOf KX) mg "common_root" K01.s_common_root := by
      refine' Sm.at_mk KX G ?a ?l ?c ?k
      (case a => (try unfold Sm.inOf); k_is)
      (case l => (try unfold Sm.inOf); k_is)
      (case c => (try unfold Sm.inOf); k_is)
      (case k => (try unfold Sm.inOf); k_is)
    have a_is_common_root : Sm.DefAt (Sm.inOf KX) mg "is_common_root" K01.s_is_common_root := by
      refine' Sm.at_mk KX G ?a ?l ?c ?k
      (case a => (try unfold Sm.inOf); k_is)
      (case l => (try unfold Sm.inOf); k_is)
      (case c => (try unfold Sm.inOf); k_is)
      (case k => (try unfold Sm.inOf); k_is)
    have a__law_sack : Sm.DefAt (Sm.inOf KX) mg "_law_sack" K01.s__law_sack := by
      refine' Sm.at_mk KX G ?a ?l ?c ?k
      (case a => (try unfold Sm.inOf); k_is)
      (case l => (try unfold Sm.inOf); k_is)
      (case c => (try unfold Sm.inOf); k_is)
      (case k => (try unfold Sm.inOf); k_is)
    have a__law_drawn : Sm.DefAt (Sm.inOf KX) mg "_law_drawn" K01.s__law_drawn := by
      refine' Sm.at_mk KX G ?a ?l ?c ?k
      (case a => (try unfold Sm.inOf); k_is)
      (case l => (try unfold Sm.inOf); k_is)
      (case c => (try unfold Sm.inOf); k_is)
      (case k => (try unfold Sm.inOf); k_is)
    have a__law_bare : Sm.DefAt (Sm.inOf KX) mg "_law_bare" K01.s__law_bare := by
      refine' Sm.at_mk KX G ?a ?l ?c ?k
      (case a => (try unfold Sm.inOf); k_is)
      (case l => (try unfold Sm.inOf); k_is)
      (case c => (try unfold Sm.inOf); k_is)
      (case k => (try unfold Sm.inOf); k_is)
    have a__law_back : Sm.DefAt (Sm.inOf KX) mg "_law_back" K01.s__law_back := by
      refine' Sm.at_mk KX G ?a ?l ?c ?k
      (case a => (try unfold Sm.inOf); k_is)
      (case l => (try unfold Sm.inOf); k_is)
      (case c => (try unfold Sm.inOf); k_is)
      (case k => (try unfold Sm.inOf); k_is)
    have a__law_core : Sm.DefAt (Sm.inOf KX) mg "_law_core" K01.s__law_core := by
      refine' Sm.at_mk KX G ?a ?l ?c ?k
      (case a => (try unfold Sm.inOf); k_is)
      (case l => (try unfold Sm.inOf); k_is)
      (case c => (try unfold Sm.inOf); k_is)
      (case k => (try unfold Sm.inOf); k_is)
    have a__law_word : Sm.DefAt (Sm.inOf KX) mg "_law_word" K01.s__law_word := by
      refine' Sm.at_mk KX G ?a ?l ?c ?k
      (case a => (try unfold Sm.inOf); k_is)
      (case l => (try unfold Sm.inOf); k_is)
      (case c => (try unfold Sm.inOf); k_is)
      (case k => (try unfold Sm.inOf); k_is)
    have a__law_powered : Sm.DefAt (Sm.inOf KX) mg "_law_powered" K01.s__law_powered := by
      refine' Sm.at_mk KX G ?a ?l ?c ?k
      (case a => (try unfold Sm.inOf); k_is)
      (case l => (try unfold Sm.inOf); k_is)
      (case c => (try unfold Sm.inOf); k_is)
      (case k => (try unfold Sm.inOf); k_is)
    have a__law_root : Sm.DefAt (Sm.inOf KX) mg "_law_root" K01.s__law_root := by
      refine' Sm.at_mk KX G ?a ?l ?c ?k
      (case a => (try unfold Sm.inOf); k_is)
      (case l => (try unfold Sm.inOf); k_is)
      (case c => (try unfold Sm.inOf); k_is)
      (case k => (try unfold Sm.inOf); k_is)
    have a__law_is_word : Sm.DefAt (Sm.inOf KX) mg "_law_is_word" K01.s__law_is_word := by
      refine' Sm.at_mk KX G ?a ?l ?c ?k
      (case a => (try unfold Sm.inOf); k_is)
      (case l => (try unfold Sm.inOf); k_is)
      (case c => (try unfold Sm.inOf); k_is)
      (case k => (try unfold Sm.inOf); k_is)
    have a__law_is_due : Sm.DefAt (Sm.inOf KX) mg "_law_is_due" K01.s__law_is_due := by
      refine' Sm.at_mk KX G ?a ?l ?c ?k
      (case a => (try unfold Sm.inOf); k_is)
      (case l => (try unfold Sm.inOf); k_is)
      (case c => (try unfold Sm.inOf); k_is)
      (case k => (try unfold Sm.inOf); k_is)
    have a__law_near : Sm.DefAt (Sm.inOf KX) mg "_law_near" K01.s__law_near := by
      refine' Sm.at_mk KX G ?a ?l ?c ?k
      (case a => (try unfold Sm.inOf); k_is)
      (case l => (try unfold Sm.inOf); k_is)
      (case c => (try unfold Sm.inOf); k_is)
      (case k => (try unfold Sm.inOf); k_is)
    have a__law_two : Sm.DefAt (Sm.inOf KX) mg "_law_two" K01.s__law_two := by
      refine' Sm.at_mk KX G ?a ?l ?c ?k
      (case a => (try unfold Sm.inOf); k_is)
      (case l => (try unfold Sm.inOf); k_is)
      (case c => (try unfold Sm.inOf); k_is)
      (case k => (try unfold Sm.inOf); k_is)
    have a__law_right : Sm.DefAt (Sm.inOf KX) mg "_law_right" K01.s__law_right := by
      refine' Sm.at_mk KX G ?a ?l ?c ?k
      (case a => (try unfold Sm.inOf); k_is)
      (case l => (try unfold Sm.inOf); k_is)
      (case c => (try unfold Sm.inOf); k_is)
      (case k => (try unfold Sm.inOf); k_is)
    have a_law : Sm.DefAt (Sm.inOf KX) mg "law" K01.s_law := by
      refine' Sm.at_mk KX G ?a ?l ?c ?k
      (case a => (try unfold Sm.inOf); k_is)
      (case l => (try unfold Sm.inOf); k_is)
      (case c => (try unfold Sm.inOf); k_is)
      (case k => (try unfold Sm.inOf); k_is)
    have e_MAX_WORD := (by refine' Sm.int_mk KX G ?a; (case a => k_is) : ∃ t, mg "MAX_WORD" = some (.int 200 t))
    have e_MOST_LETTERS := (by refine' Sm.int_mk KX G ?a; (case a => k_is) : ∃ t, mg "MOST_LETTERS" = some (.int 5 t))
    have e_MOST_POWER := (by refine' Sm.int_mk KX G ?a; (case a => k_is) : ∃ t, mg "MOST_POWER" = some (.int 50 t))
    have e_ROOT := (by refine' Sm.str_mk KX G ?a; (case a => k_is) : ∃ t, mg "ROOT" = some (.str "root" t))
    have e_UNLIKE := (by refine' Sm.str_mk KX G ?a; (case a => k_is) : ∃ t, mg "UNLIKE" = some (.str "unlike" t))
    have n_abs : mg "abs" = none := by refine' PySem.W.mg_none_of KX G ?a; (case a => k_is)
    have n_all : mg "all" = none := by refine' PySem.W.mg_none_of KX G ?a; (case a => k_is)
    have n_bool : mg "bool" = none := by refine' PySem.W.mg_none_of KX G ?a; (case a => k_is)
    have n_int : mg "int" = none := by refine' PySem.W.mg_none_of KX G ?a; (case a => k_is)
    have n_isinstance : mg "isinstance" = none := by refine' PySem.W.mg_none_of KX G ?a; (case a => k_is)
    have n_len : mg "len" = none := by refine' PySem.W.mg_none_of KX G ?a; (case a => k_is)
    have n_list : mg "list" = none := by refine' PySem.W.mg_none_of KX G ?a; (case a => k_is)
    have n_max : mg "max" = none := by refine' PySem.W.mg_none_of KX G ?a; (case a => k_is)
    have n_min : mg "min" = none := by refine' PySem.W.mg_none_of KX G ?a; (case a => k_is)
    have n_range : mg "range" = none := by refine' PySem.W.mg_none_of KX G ?a; (case a => k_is)
    have n_str : mg "str" = none := by refine' PySem.W.mg_none_of KX G ?a; (case a => k_is)
    have n_tuple : mg "tuple" = none := by refine' PySem.W.mg_none_of KX G ?a; (case a => k_is)
    have n_zip : mg "zip" = none := by refine' PySem.W.mg_none_of KX G ?a; (case a => k_is)
    exact ⟨a_law, ⟨a_is_whole, a_is_within, a_are_wholes, a_require_within, a_require_letters, a_contrary_in, a_common_ends, a_product_in, a_core_in, a_power_in, a_root_in, a_exponents_in, a_is_row_in, a_is_word_any, a_is_word_in, a_is_power_of, a_is_root_paper, a_is_unlike_paper, a_require_word, a_require_letters_and_word, a_require_two_words, a_product, a_power, a_root, a_common_root, a_is_common_root, a__law_sack, a__law_drawn, a__law_bare, a__law_back, a__law_core, a__law_word, a__law_powered, a__law_root, a__law_is_word, a__law_is_due, a__law_near, a__law_two, a__law_right, e_MAX_WORD, e_MOST_LETTERS, e_MOST_POWER, e_ROOT, e_UNLIKE, n_abs, n_all, n_bool, n_int, n_isinstance, n_len, n_list, n_max, n_min, n_range, n_str, n_tuple, n_zip⟩⟩
