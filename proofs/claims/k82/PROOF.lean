import PyProof.Rows.All
import Wide.All
import OpenK.AllK
import Wide.FinOn
import HandS.ForMost
import HandS.Exc
import HandS.ExcOwn
import HandS.TryOnly
import HandS.WordsExc
import HandS.Defaults
import HandS.CallSlots
import HandS.TupAny
import HandS.TupMul
import HandS.Deep
import HandS.Style
import HandS.Wide
import PyProof.Rows.SeqMore
import HandS.Rev
import HandS.Zip
import HandS.IsInst
import HandS.SortInts
import HandS.ClsMeth
import HandS.Text
import HandS.SetFor
import HandS.Strs
import HandS.TupSets
import HandS.SetBool
import HandS.ExcInit
import HandS.ExcSuper
import HandS.FStr
import KE.KExcSuper
import HandS.ExcField
import HandS.ExcIs
import HandS.HotCalls
import KE.KExcIs
import PyProof.FitsInt
import HandS.GenYield
import HandS.GenList
import HandS.Head0
import HandS.Head1
import HandS.Head2
import HandS.HeadEnd
import HandS.HeadHook1
import HandS.HeadHook2
import HandS.Conv
import HandS.Star
import PyProof.GenRules
import PyProof.GenComp
import PyProof.ForAny
import PySem.Challenge.RW_endsastold_k82_best_messages_give_no_gai
set_option Elab.async false
set_option linter.all false
section
namespace Rx
/-! ## mixed radix -/
def prodL : List Nat → Nat
  | [] => 1
  | z :: zs => z * prodL zs
def digits : List Nat → Nat → List Nat
  | [], _ => []
  | z :: zs, n => (n / prodL zs % z) :: digits zs n
def num : List Nat → List Nat → Nat → Nat
  | z :: zs, d :: ds, acc => num zs ds (acc * z + d)
  | _, _, acc => acc
def ap (zs : List Nat) (k : Nat) : Nat := prodL (zs.drop (k + 1))
theorem digits_length : ∀ (zs : List Nat) (n : Nat), (digits zs n).length = zs.length
  | [], _ => rfl
  | z :: zs, n => by rw [digits, List.length_cons, List.length_cons, digits_length zs n]
theorem num_acc : ∀ (zs ds : List Nat) (acc : Nat), ds.length = zs.length → num zs ds acc = acc * prodL zs + num zs ds 0
  | [], [], acc, _ => by show acc = acc * 1 + 0; omega
  | z :: zs, d :: ds, acc, h => by
    have h' : ds.length = zs.length := by simpa using h
    show num zs ds (acc * z + d) = acc * (z * prodL zs) + num zs ds (0 * z + d)
    rw [num_acc zs ds _ h', num_acc zs ds (0 * z + d) h', Nat.add_mul, Nat.mul_assoc, Nat.zero_mul, Nat.zero_add]
    omega
  | [], d :: ds, _, h => by cases h
  | z :: zs, [], _, h => by cases h
theorem num_digits : ∀ (zs : List Nat) (n : Nat), num zs (digits zs n) 0 = n % prodL zs
  | [], n => by show 0 = n % 1; rw [Nat.mod_one]
  | z :: zs, n => by
    show num zs (digits zs n) (0 * z + n / prodL zs % z) = n % (z * prodL zs)
    rw [num_acc zs _ _ (digits_length zs n), num_digits zs n, Nat.zero_mul, Nat.zero_add, Nat.mul_comm z, Nat.mod_mul, Nat.mul_comm (prodL zs) (n / prodL zs % z)]
    omega
theorem digits_get : ∀ (zs : List Nat) (n k : Nat) (z : Nat), zs[k]? = some z → (digits zs n)[k]? = some (n / ap zs k % z)
  | [], n, k, z, h => by simp at h
  | y :: zs, n, 0, z, h => by
    have : y = z := by simpa using h
    subst this
    rfl
  | y :: zs, n, k + 1, z, h => by
    rw [digits, List.getElem?_cons_succ]
    rw [List.getElem?_cons_succ] at h
    exact digits_get zs n k z h
theorem num_set : ∀ (zs ds : List Nat) (k s d : Nat), ds.length = zs.length → ds[k]? = some d → num zs (ds.set k s) 0 + d * ap zs k = num zs ds 0 + s * ap zs k
  | [], [], k, s, d, _, h => by simp at h
  | z :: zs, x :: ds, 0, s, d, hl, h => by
    have h' : ds.length = zs.length := by simpa using hl
    have : x = d := by simpa using h
    subst this
    show num zs ds (0 * z + s) + x * prodL zs = num zs ds (0 * z + x) + s * prodL zs
    rw [num_acc zs ds (0 * z + s) h', num_acc zs ds (0 * z + x) h', Nat.zero_mul, Nat.zero_add, Nat.zero_add]
    omega
  | z :: zs, x :: ds, k + 1, s, d, hl, h => by
    have h' : ds.length = zs.length := by simpa using hl
    rw [List.getElem?_cons_succ] at h
    have ih := num_set zs ds k s d h' h
    show num zs (ds.set k s) (0 * z + x) + d * ap zs k = num zs ds (0 * z + x) + s * ap zs k
    rw [num_acc zs _ (0 * z + x) (by rw [List.length_set]; exact h'), num_acc zs ds (0 * z + x) h']
    omega
  | [], d :: ds, _, _, _, h, _ => by cases h
  | z :: zs, [], _, _, _, h, _ => by cases h
/-- a play -/
def Ply : List Nat → List Nat → Prop
  | [], [] => True
  | z :: zs, d :: ds => d < z ∧ Ply zs ds
  | _, _ => False
theorem Ply.length : ∀ {zs ds : List Nat}, Ply zs ds → ds.length = zs.length
  | [], [], _ => rfl
  | z :: zs, d :: ds, h => by rw [List.length_cons, List.length_cons, Ply.length h.2]
  | [], d :: ds, h => h.elim
  | z :: zs, [], h => h.elim
theorem num_lt : ∀ (zs ds : List Nat), Ply zs ds → num zs ds 0 < prodL zs
  | [], [], _ => by show 0 < 1; omega
  | z :: zs, d :: ds, h => by
    have ih := num_lt zs ds h.2
    show num zs ds (0 * z + d) < z * prodL zs
    rw [num_acc zs ds _ h.2.length, Nat.zero_mul, Nat.zero_add]
    have : (d + 1) * prodL zs ≤ z * prodL zs := Nat.mul_le_mul_right _ h.1
    rw [Nat.add_mul, Nat.one_mul] at this
    omega
  | [], d :: ds, h => h.elim
  | z :: zs, [], h => h.elim
theorem ply_digits : ∀ (zs : List Nat) (n : Nat), (∀ z ∈ zs, 0 < z) → Ply zs (digits zs n)
  | [], _, _ => trivial
  | z :: zs, n, h => ⟨Nat.mod_lt _ (h z List.mem_cons_self), ply_digits zs n fun y hy => h y (List.mem_cons_of_mem _ hy)⟩
theorem ply_set : ∀ (zs ds : List Nat) (k s z : Nat), Ply zs ds → zs[k]? = some z → s < z → Ply zs (ds.set k s)
  | [], _, k, s, z, _, h, _ => by simp at h
  | y :: zs, d :: ds, 0, s, z, hp, h, hs => by
    have : y = z := by simpa using h
    subst this
    exact ⟨hs, hp.2⟩
  | y :: zs, d :: ds, k + 1, s, z, hp, h, hs => by
    rw [List.getElem?_cons_succ] at h
    exact ⟨hp.1, ply_set zs ds k s z hp.2 h hs⟩
  | y :: zs, [], _, _, _, hp, _, _ => hp.elim
theorem ply_get : ∀ {zs ds : List Nat} {k z : Nat}, Ply zs ds → zs[k]? = some z → ∃ d, ds[k]? = some d ∧ d < z
  | [], _, k, z, _, h => by simp at h
  | y :: zs, d :: ds, 0, z, hp, h => by
    have : y = z := by simpa using h
    subst this
    exact ⟨d, rfl, hp.1⟩
  | y :: zs, d :: ds, k + 1, z, hp, h => by
    rw [List.getElem?_cons_succ] at h
    obtain ⟨e, h1, h2⟩ := ply_get hp.2 h
    exact ⟨e, by rw [List.getElem?_cons_succ]; exact h1, h2⟩
  | y :: zs, [], _, _, hp, _ => hp.elim
/-- the number of the play n with another message -/
def alt (zs : List Nat) (n k s : Nat) : Nat := num zs ((digits zs n).set k s) 0
theorem alt_lt {zs : List Nat} {n k s z : Nat} (hp : ∀ z ∈ zs, 0 < z) (hk : zs[k]? = some z) (hs : s < z) : alt zs n k s < prodL zs :=
  num_lt _ _ (ply_set _ _ _ _ _ (ply_digits zs n hp) hk hs)
theorem alt_eq {zs : List Nat} {n k s z : Nat} (hk : zs[k]? = some z) (hn : n < prodL zs) : (n : Int) + ((s : Int) - ((n / ap zs k % z : Nat) : Int)) * (ap zs k : Int) = (alt zs n k s : Int) := by
  have h := num_set zs (digits zs n) k s _ (digits_length zs n) (digits_get zs n k z hk)
  rw [num_digits, Nat.mod_eq_of_lt hn] at h
  have h2 : (((alt zs n k s + n / ap zs k % z * ap zs k : Nat)) : Int) = ((n + s * ap zs k : Nat) : Int) := congrArg Int.ofNat h
  rw [Int.natCast_add, Int.natCast_add, Int.natCast_mul, Int.natCast_mul] at h2
  rw [Int.sub_mul]
  omega
theorem prodL_append : ∀ (zs : List Nat) (z : Nat), prodL (zs ++ [z]) = prodL zs * z
  | [], z => by show z * 1 = 1 * z; omega
  | y :: zs, z => by show y * prodL (zs ++ [z]) = y * prodL zs * z; rw [prodL_append zs z, Nat.mul_assoc]
theorem digits_append : ∀ (zs : List Nat) (z n : Nat), digits (zs ++ [z]) n = digits zs (n / z) ++ [n % z]
  | [], z, n => by show [n / 1 % z] = [n % z]; rw [Nat.div_one]
  | y :: zs, z, n => by
    show (n / prodL (zs ++ [z]) % y) :: digits (zs ++ [z]) n = (n / z / prodL zs % y :: digits zs (n / z)) ++ [n % z]
    rw [prodL_append, digits_append zs z n, Nat.div_div_eq_div_mul, Nat.mul_comm z]
    rfl
def rows (zs : List Nat) : List (List Nat) := (List.range (prodL zs)).map (digits zs)
theorem range_mul {α : Type} (f : Nat → α) (a z : Nat) : (List.range (a * z)).map f = (List.range a).flatMap fun r => (List.range z).map fun w => f (r * z + w) := by
  induction a with
  | zero => rw [Nat.zero_mul]; rfl
  | succ a ih =>
    rw [Nat.add_mul, Nat.one_mul, List.range_add, List.map_append, ih, List.range_succ, List.flatMap_append, List.map_map]
    congr 1
    rw [List.flatMap_cons, List.flatMap_nil, List.append_nil]
    rfl
theorem rows_append (zs : List Nat) (z : Nat) : rows (zs ++ [z]) = (rows zs).flatMap fun r => (List.range z).map fun w => r ++ [w] := by
  unfold rows
  rw [prodL_append, range_mul, List.flatMap_map]
  congr 1
  funext r
  apply List.map_congr_left
  intro w hw
  have hw := List.mem_range.mp hw
  rw [digits_append, show (r * z + w) % z = w by rw [Nat.mul_comm, Nat.mul_add_mod, Nat.mod_eq_of_lt hw], show (r * z + w) / z = r by
    rw [Nat.mul_comm, Nat.mul_add_div (by omega), Nat.div_eq_of_lt hw, Nat.add_zero]]
theorem rows_get {zs : List Nat} {n : Nat} (h : n < prodL zs) : (rows zs)[n]? = some (digits zs n) := by
  unfold rows
  rw [List.getElem?_map, List.getElem?_range h]
  rfl
theorem rows_length (zs : List Nat) : (rows zs).length = prodL zs := by unfold rows; rw [List.length_map, List.length_range]
theorem prodL_pos : ∀ {zs : List Nat}, (∀ z ∈ zs, 0 < z) → 0 < prodL zs
  | [], _ => by show 0 < 1; omega
  | z :: zs, h => Nat.mul_pos (h z List.mem_cons_self) (prodL_pos fun y hy => h y (List.mem_cons_of_mem _ hy))
theorem set_cut {α : Type} : ∀ (l : List α) (k : Nat) (x : α), k < l.length → l.take k ++ [x] ++ l.drop (k + 1) = l.set k x
  | [], k, x, h => by cases h
  | y :: l, 0, x, _ => rfl
  | y :: l, k + 1, x, h => by
    show y :: (l.take k ++ [x] ++ l.drop (k + 1)) = y :: l.set k x
    rw [set_cut l k x (by simpa using h)]
/-- the first that is told -/
def firstS {α : Type} (r : Nat → Option α) (lo : Nat) : Nat → Option α
  | 0 => none
  | n + 1 => match r lo with
    | some x => some x
    | none => firstS r (lo + 1) n
end Rx
namespace Rx
theorem ap_pos {zs : List Nat} {k : Nat} (h : ∀ z ∈ zs, 0 < z) : 0 < ap zs k := prodL_pos fun z hz => h z (List.mem_of_mem_drop hz)
theorem prodL_drop_le : ∀ (zs : List Nat) (k : Nat), (∀ z ∈ zs, 0 < z) → prodL (zs.drop k) ≤ prodL zs
  | [], k, _ => by rw [List.drop_nil]; exact Nat.le_refl _
  | z :: zs, 0, _ => Nat.le_refl _
  | z :: zs, k + 1, h => by
    have ih := prodL_drop_le zs k fun y hy => h y (List.mem_cons_of_mem _ hy)
    have hz := h z List.mem_cons_self
    show prodL (zs.drop k) ≤ z * prodL zs
    exact Nat.le_trans ih (Nat.le_mul_of_pos_left _ hz)
theorem ap_le {zs : List Nat} {k : Nat} (h : ∀ z ∈ zs, 0 < z) : ap zs k ≤ prodL zs := prodL_drop_le zs (k + 1) h
theorem get_le_prod : ∀ {zs : List Nat} {k z : Nat}, (∀ z ∈ zs, 0 < z) → zs[k]? = some z → z ≤ prodL zs
  | [], k, z, _, h => by simp at h
  | y :: zs, 0, z, hp, h => by
    have : y = z := by simpa using h
    subst this
    exact Nat.le_mul_of_pos_right _ (prodL_pos fun x hx => hp x (List.mem_cons_of_mem _ hx))
  | y :: zs, k + 1, z, hp, h => by
    rw [List.getElem?_cons_succ] at h
    exact Nat.le_trans (get_le_prod (fun x hx => hp x (List.mem_cons_of_mem _ hx)) h) (Nat.le_mul_of_pos_left _ (hp y List.mem_cons_self))
theorem firstS_congr {α : Type} {r r' : Nat → Option α} : ∀ (n lo : Nat), (∀ i, lo ≤ i → i < lo + n → r i = r' i) → firstS r lo n = firstS r' lo n
  | 0, _, _ => rfl
  | n + 1, lo, h => by
    unfold firstS
    rw [h lo (Nat.le_refl _) (by omega), firstS_congr n (lo + 1) fun i h1 h2 => h i (by omega) (by omega)]
end Rx
end
section
set_option maxRecDepth 100000
set_option maxHeartbeats 4000000
namespace Mi
open PySem PySem.Spec PyProof.Rows L2

/-! ## data -/
/-- a Python value as pure data -/
inductive D where
  | non
  | bl (b : Bool)
  | int (i : Int)
  | str (s : Str)
  | tup (xs : List D)
  | lst (xs : List D)
  | ins (c : Nat) (fs : List (Str × D))
deriving Inhabited

/-- what the proof knows of the text: written part, the classes' addresses, the field that each error class keeps -/
structure Gc where
  K : PySem.W.Frag
  cls : Nat → Addr
  exf : Nat → Str

abbrev Own := Addr → Prop

def TupAt (G : Gc) (F : Own) (H : Hp) (a : Addr) (xs : List V) : Prop :=
  (¬ F a ∧ Rd H a (.tup xs)) ∨ ∃ (o : Obj) (its : Array Value) (n : Nat), G.K.lookup a = some o ∧ o.cls = .type "tuple" ∧ o.data = .seq its n ∧ its.size ≤ sizeLine ∧ Vals xs its.toList
def LstAt (G : Gc) (F : Own) (H : Hp) (a : Addr) (xs : List V) : Prop :=
  (¬ F a ∧ Rd H a (.lst xs)) ∨ ∃ (o : Obj) (its : Array Value) (n : Nat), G.K.lookup a = some o ∧ o.cls = .type "list" ∧ o.dict = none ∧ o.data = .seq its n ∧ its.size ≤ sizeLine ∧ Vals xs its.toList

mutual
/-- the value v stands for the datum, by objects that nobody owns -/
def Rep (G : Gc) (F : Own) (H : Hp) : D → V → Prop
  | .non, v => v = .non
  | .bl b, v => v = .bl b
  | .int i, v => v = .int i
  | .str s, v => v = .str s
  | .tup ds, v => ∃ a xs, v = .ref a ∧ TupAt G F H a xs ∧ Reps G F H ds xs
  | .lst ds, v => ∃ a xs, v = .ref a ∧ LstAt G F H a xs ∧ Reps G F H ds xs
  | .ins c fs, v => ∃ a dx us, v = .ref a ∧ ¬ F a ∧ H a = some (.ins (G.cls c) dx us) ∧ RepF G F H fs us
def Reps (G : Gc) (F : Own) (H : Hp) : List D → List V → Prop
  | [], xs => xs = []
  | d :: ds, xs => ∃ v vs, xs = v :: vs ∧ Rep G F H d v ∧ Reps G F H ds vs
def RepF (G : Gc) (F : Own) (H : Hp) : List (Str × D) → List (Str × V) → Prop
  | [], us => us = []
  | (n, d) :: fs, us => ∃ v r, us = (n, v) :: r ∧ Rep G F H d v ∧ RepF G F H fs r
end

/-- what nobody owned stays, and stays so -/
def Fz (F : Own) (H : Hp) (F' : Own) (H' : Hp) : Prop := ∀ a o, ¬ F a → H a = some o → ¬ F' a ∧ H' a = some o
theorem Fz.refl (F : Own) (H : Hp) : Fz F H F H := fun _ _ h e => ⟨h, e⟩
theorem Fz.trans {F F1 F2 : Own} {H H1 H2 : Hp} (a : Fz F H F1 H1) (b : Fz F1 H1 F2 H2) : Fz F H F2 H2 := fun x o h e =>
  let ⟨h1, e1⟩ := a x o h e
  b x o h1 e1
theorem Fz.same {F : Own} {H H' : Hp} (h : Same H H') : Fz F H F H' := fun a o hf e => ⟨hf, h a o e⟩

section
variable {G : Gc} {F F' : Own} {H H' : Hp}
theorem Fz.rd {a : Addr} {u : HO} (z : Fz F H F' H') (nf : ¬ F a) (h : Rd H a u) : ¬ F' a ∧ Rd H' a u := by
  rcases h with h | ⟨o, h⟩
  · exact ⟨(z _ _ nf h).1, .inl (z _ _ nf h).2⟩
  · exact ⟨(z _ _ nf h).1, .inr ⟨o, (z _ _ nf h).2⟩⟩
theorem TupAt.mono {a : Addr} {xs : List V} (z : Fz F H F' H') (h : TupAt G F H a xs) : TupAt G F' H' a xs := by
  rcases h with ⟨h1, h2⟩ | h
  · exact .inl (z.rd h1 h2)
  · exact .inr h
theorem LstAt.mono {a : Addr} {xs : List V} (z : Fz F H F' H') (h : LstAt G F H a xs) : LstAt G F' H' a xs := by
  rcases h with ⟨h1, h2⟩ | h
  · exact .inl (z.rd h1 h2)
  · exact .inr h
theorem TupAt.sq {a : Addr} {xs : List V} (h : TupAt G F H a xs) : SqT G.K H a xs := by
  rcases h with ⟨_, h⟩ | h
  · exact .inl h
  · exact .inr h
theorem LstAt.sq {a : Addr} {xs : List V} (h : LstAt G F H a xs) : SqL G.K H a xs := by
  rcases h with ⟨_, h⟩ | h
  · exact .inl h
  · exact .inr h
mutual
theorem Rep.mono (z : Fz F H F' H') : ∀ {d : D} {v : V}, Rep G F H d v → Rep G F' H' d v
  | .non, _, h => h
  | .bl _, _, h => h
  | .int _, _, h => h
  | .str _, _, h => h
  | .tup ds, v, h => by
    unfold Rep at h ⊢
    obtain ⟨a, xs, e, h1, h2⟩ := h
    exact ⟨a, xs, e, h1.mono z, Reps.mono z h2⟩
  | .lst ds, v, h => by
    unfold Rep at h ⊢
    obtain ⟨a, xs, e, h1, h2⟩ := h
    exact ⟨a, xs, e, h1.mono z, Reps.mono z h2⟩
  | .ins c fs, v, h => by
    unfold Rep at h ⊢
    obtain ⟨a, dx, us, e, h1, h2, h3⟩ := h
    exact ⟨a, dx, us, e, (z _ _ h1 h2).1, (z _ _ h1 h2).2, RepF.mono z h3⟩
theorem Reps.mono (z : Fz F H F' H') : ∀ {ds : List D} {vs : List V}, Reps G F H ds vs → Reps G F' H' ds vs
  | [], _, h => h
  | d :: ds, vs, h => by
    unfold Reps at h ⊢
    obtain ⟨v, r, e, h1, h2⟩ := h
    exact ⟨v, r, e, Rep.mono z h1, Reps.mono z h2⟩
theorem RepF.mono (z : Fz F H F' H') : ∀ {fs : List (Str × D)} {us : List (Str × V)}, RepF G F H fs us → RepF G F' H' fs us
  | [], _, h => h
  | (n, d) :: fs, us, h => by
    unfold RepF at h ⊢
    obtain ⟨v, r, e, h1, h2⟩ := h
    exact ⟨v, r, e, Rep.mono z h1, RepF.mono z h2⟩
end
theorem Reps.length : ∀ {ds : List D} {vs : List V}, Reps G F H ds vs → vs.length = ds.length
  | [], _, h => by
    unfold Reps at h
    rw [h]; rfl
  | d :: ds, vs, h => by
    unfold Reps at h
    obtain ⟨v, r, e, _, h2⟩ := h
    rw [e, List.length_cons, List.length_cons, Reps.length h2]
theorem Reps.get : ∀ {ds : List D} {vs : List V} {i : Nat} {d : D}, Reps G F H ds vs → ds[i]? = some d → ∃ v, vs[i]? = some v ∧ Rep G F H d v
  | [], _, _, _, _, e => by simp at e
  | d :: ds, vs, 0, d', h, e => by
    unfold Reps at h
    obtain ⟨v, r, e1, h1, _⟩ := h
    have : d = d' := by simpa using e
    subst this
    exact ⟨v, by rw [e1]; rfl, h1⟩
  | d :: ds, vs, i + 1, d', h, e => by
    unfold Reps at h
    obtain ⟨v, r, e1, _, h2⟩ := h
    obtain ⟨w, h3, h4⟩ := Reps.get (i := i) h2 (by simpa using e)
    exact ⟨w, by rw [e1]; simpa using h3, h4⟩
theorem Reps.get' : ∀ {ds : List D} {vs : List V} {i : Nat} {v : V}, Reps G F H ds vs → vs[i]? = some v → ∃ d, ds[i]? = some d ∧ Rep G F H d v := by
  intro ds vs i v h e
  have hl := h.length
  have hi : i < vs.length := (List.getElem?_eq_some_iff.mp e).1
  have hd : i < ds.length := by omega
  obtain ⟨w, h1, h2⟩ := h.get (List.getElem?_eq_getElem hd)
  rw [e] at h1
  cases h1
  exact ⟨_, List.getElem?_eq_getElem hd, h2⟩
theorem Reps.nil : Reps G F H [] [] := by unfold Reps; rfl
theorem Reps.cons {d : D} {v : V} {ds : List D} {vs : List V} (h : Rep G F H d v) (t : Reps G F H ds vs) : Reps G F H (d :: ds) (v :: vs) := by
  unfold Reps
  exact ⟨v, vs, rfl, h, t⟩
theorem Reps.append : ∀ {ds es : List D} {vs us : List V}, Reps G F H ds vs → Reps G F H es us → Reps G F H (ds ++ es) (vs ++ us)
  | [], _, _, _, h, k => by
    unfold Reps at h
    subst h
    exact k
  | d :: ds, es, vs, us, h, k => by
    unfold Reps at h
    obtain ⟨v, r, e, h1, h2⟩ := h
    subst e
    exact Reps.cons h1 (Reps.append h2 k)
theorem Reps.take : ∀ {ds : List D} {vs : List V} (n : Nat), Reps G F H ds vs → Reps G F H (ds.take n) (vs.take n)
  | _, _, 0, _ => by
    rw [List.take_zero, List.take_zero]
    exact Reps.nil
  | [], _, n + 1, h => by
    unfold Reps at h
    subst h
    exact Reps.nil
  | d :: ds, vs, n + 1, h => by
    unfold Reps at h
    obtain ⟨v, r, e, h1, h2⟩ := h
    subst e
    exact Reps.cons h1 (Reps.take n h2)
theorem Reps.drop : ∀ {ds : List D} {vs : List V} (n : Nat), Reps G F H ds vs → Reps G F H (ds.drop n) (vs.drop n)
  | _, _, 0, h => h
  | [], _, n + 1, h => by
    unfold Reps at h
    subst h
    exact Reps.nil
  | d :: ds, vs, n + 1, h => by
    unfold Reps at h
    obtain ⟨v, r, e, _, h2⟩ := h
    subst e
    exact Reps.drop n h2
theorem Reps.reverse : ∀ {ds : List D} {vs : List V}, Reps G F H ds vs → Reps G F H ds.reverse vs.reverse
  | [], _, h => by
    unfold Reps at h
    subst h
    exact Reps.nil
  | d :: ds, vs, h => by
    unfold Reps at h
    obtain ⟨v, r, e, h1, h2⟩ := h
    subst e
    rw [List.reverse_cons, List.reverse_cons]
    exact Reps.append (Reps.reverse h2) (Reps.cons h1 Reps.nil)
theorem Reps.set : ∀ {ds : List D} {vs : List V} {d : D} {v : V} (i : Nat), Reps G F H ds vs → Rep G F H d v → Reps G F H (ds.set i d) (vs.set i v)
  | [], _, _, _, _, h, _ => by
    unfold Reps at h
    subst h
    exact Reps.nil
  | d :: ds, vs, d', v', 0, h, k => by
    unfold Reps at h
    obtain ⟨v, r, e, _, h2⟩ := h
    subst e
    exact Reps.cons k h2
  | d :: ds, vs, d', v', i + 1, h, k => by
    unfold Reps at h
    obtain ⟨v, r, e, h1, h2⟩ := h
    subst e
    exact Reps.cons h1 (Reps.set i h2 k)
theorem RepF.lookup {n : Str} : ∀ {fs : List (Str × D)} {us : List (Str × V)} {d : D}, RepF G F H fs us → fs.lookup n = some d → ∃ v, us.lookup n = some v ∧ Rep G F H d v
  | [], _, _, _, e => by simp at e
  | (m, d) :: fs, us, d', h, e => by
    unfold RepF at h
    obtain ⟨v, r, e1, h1, h2⟩ := h
    subst e1
    rw [List.lookup_cons] at e ⊢
    cases q : (n == m) with
    | true =>
      rw [q] at e
      cases e
      exact ⟨v, rfl, h1⟩
    | false =>
      rw [q] at e
      exact RepF.lookup h2 e
theorem RepF.none {n : Str} : ∀ {fs : List (Str × D)} {us : List (Str × V)}, RepF G F H fs us → fs.lookup n = none → us.lookup n = none
  | [], _, h, _ => by
    unfold RepF at h
    subst h
    rfl
  | (m, d) :: fs, us, h, e => by
    unfold RepF at h
    obtain ⟨v, r, e1, h1, h2⟩ := h
    subst e1
    rw [List.lookup_cons] at e ⊢
    cases q : (n == m) with
    | true => rw [q] at e; cases e
    | false =>
      rw [q] at e
      exact RepF.none h2 e
theorem RepF.length : ∀ {fs : List (Str × D)} {us : List (Str × V)}, RepF G F H fs us → us.length = fs.length
  | [], _, h => by
    unfold RepF at h
    subst h; rfl
  | (m, d) :: fs, us, h => by
    unfold RepF at h
    obtain ⟨v, r, e1, h1, h2⟩ := h
    subst e1
    rw [List.length_cons, List.length_cons, RepF.length h2]
end
end Mi
end
section
set_option maxRecDepth 100000
set_option maxHeartbeats 4000000
namespace Mi
open PySem PySem.Spec PyProof.Rows L2

/-- what one variable owns -/
inductive Mu where
  | lst (ds : List D)
  | ins (c : Nat) (fs : List (Str × D))
def Mu.d : Mu → D
  | .lst ds => .lst ds
  | .ins c fs => .ins c fs
def MuRep (G : Gc) (F : Own) (H : Hp) : Mu → V → List Addr → Prop
  | .lst ds, v, fp => ∃ p xs, v = .ref p ∧ fp = [p] ∧ H p = some (.lst xs) ∧ Reps G F H ds xs
  | .ins c fs, v, fp => ∃ p dx us, v = .ref p ∧ fp = [p] ∧ H p = some (.ins (G.cls c) dx us) ∧ RepF G F H fs us
section
variable {G : Gc} {F F' : Own} {H H' : Hp}
theorem MuRep.mono {m : Mu} {v : V} {fp : List Addr} (z : Fz F H F' H') (k : ∀ a ∈ fp, ∀ o, H a = some o → H' a = some o) (h : MuRep G F H m v fp) : MuRep G F' H' m v fp := by
  cases m with
  | lst ds =>
    obtain ⟨p, xs, e1, e2, e3, h⟩ := h
    exact ⟨p, xs, e1, e2, k p (by rw [e2]; exact List.mem_singleton.mpr rfl) _ e3, h.mono z⟩
  | ins c fs =>
    obtain ⟨p, dx, us, e1, e2, e3, h⟩ := h
    exact ⟨p, dx, us, e1, e2, k p (by rw [e2]; exact List.mem_singleton.mpr rfl) _ e3, h.mono z⟩
theorem MuRep.at {m : Mu} {v : V} {fp : List Addr} (h : MuRep G F H m v fp) : ∀ a ∈ fp, H a ≠ none := by
  cases m with
  | lst ds =>
    obtain ⟨p, xs, e1, e2, e3, h⟩ := h
    intro a ha
    rw [e2] at ha
    rw [List.mem_singleton.mp ha, e3]
    exact fun z => nomatch z
  | ins c fs =>
    obtain ⟨p, dx, us, e1, e2, e3, h⟩ := h
    intro a ha
    rw [e2] at ha
    rw [List.mem_singleton.mp ha, e3]
    exact fun z => nomatch z
/-- nobody owns it any more -/
theorem MuRep.frozen {m : Mu} {v : V} {fp : List Addr} (h : MuRep G F H m v fp) (z : Fz F H F' H) (n : ∀ a ∈ fp, ¬ F' a) : Rep G F' H m.d v := by
  cases m with
  | lst ds =>
    obtain ⟨p, xs, e1, e2, e3, h⟩ := h
    unfold Mu.d Rep
    exact ⟨p, xs, e1, .inl ⟨n p (by rw [e2]; exact List.mem_singleton.mpr rfl), .inl e3⟩, h.mono z⟩
  | ins c fs =>
    obtain ⟨p, dx, us, e1, e2, e3, h⟩ := h
    unfold Mu.d Rep
    exact ⟨p, dx, us, e1, n p (by rw [e2]; exact List.mem_singleton.mpr rfl), e3, h.mono z⟩
end

inductive Slot where
  | no
  | val (d : D)
  | own (m : Mu)
  | ex (c : Nat) (x : Option D)
abbrev Envt := List Slot

/-- a body's frame: the text, what the callers own, the heap at the entry (less what the body may change), the wish about errors -/
structure Fm where
  G : Gc
  F0 : Own
  H0 : Hp
  f0 : ∀ a, F0 a → H0 a ≠ Option.none
  W : WX
  self : Option Addr := Option.none
  ea : Addr := 0
  ed : Option Addr := Option.none

structure EnvOk (M : Fm) (F : Own) (H : Hp) (env : Envt) (σ : L2.St) : Prop where
  len : σ.length = env.length
  old : Same M.H0 H
  dom : ∀ a, F a → H a ≠ Option.none
  f0 : ∀ a, M.F0 a → F a
  val : ∀ (i : Nat) (d : D), env[i]? = some (Slot.val d) → ∃ v, σ[i]? = some (some v) ∧ Rep M.G F H d v
  own : ∃ fp : Nat → List Addr, (∀ (i : Nat) (m : Mu), env[i]? = some (Slot.own m) → (∃ v, σ[i]? = some (some v) ∧ MuRep M.G F H m v (fp i)) ∧ ∀ a ∈ fp i, F a ∧ M.H0 a = none) ∧
    ∀ (i j : Nat) (m n : Mu), env[i]? = some (Slot.own m) → env[j]? = some (Slot.own n) → i ≠ j → ∀ a, a ∈ fp i → a ∉ fp j
  self : ∀ x, M.self = some x → ∀ (c : Nat) (fs : List (Str × D)), env[0]? = some (Slot.own (.ins c fs)) → σ[0]? = some (some (.ref x))
  ex : ∀ (i c : Nat) (x : Option D), env[i]? = some (Slot.ex c x) → σ[i]? = some (some (.ref M.ea)) ∧ ∀ d, x = some d → ∃ dd v, M.ed = some dd ∧ H dd = some (.xd [(M.G.exf c, v)]) ∧ Rep M.G F H d v

section
variable {M : Fm} {F F' : Own} {H H' : Hp} {env : Envt} {σ : L2.St}
theorem MuRep.nxd {m : Mu} {v : V} {fp : List Addr} {a : Addr} {l : List (Str × V)} (h : MuRep M.G F H m v fp) (e : H a = some (.xd l)) : a ∉ fp := fun ha => by
  cases m with
  | lst ds =>
    obtain ⟨p, xs, e1, e2, e3, h⟩ := h
    rw [e2] at ha
    rw [List.mem_singleton.mp ha, e3] at e
    cases e
  | ins c fs =>
    obtain ⟨p, dx, us, e1, e2, e3, h⟩ := h
    rw [e2] at ha
    rw [List.mem_singleton.mp ha, e3] at e
    cases e
theorem EnvOk.grow (I : EnvOk M F H env σ) (s : Same H H') : EnvOk M F H' env σ where
  len := I.len
  old := I.old.trans s
  dom := fun a h e => I.dom a h (s.free e)
  f0 := I.f0
  val := fun i d e => let ⟨v, h1, h2⟩ := I.val i d e; ⟨v, h1, h2.mono (Fz.same s)⟩
  own := by
    obtain ⟨fp, h1, h2⟩ := I.own
    refine ⟨fp, fun i m e => ?_, h2⟩
    obtain ⟨⟨v, h3, h4⟩, h5⟩ := h1 i m e
    exact ⟨⟨v, h3, h4.mono (Fz.same s) fun a _ o q => s a o q⟩, h5⟩
  self := I.self
  ex := fun i c x e => ⟨(I.ex i c x e).1, fun d hd => let ⟨dd, v, h1, h2, h3⟩ := (I.ex i c x e).2 d hd; ⟨dd, v, h1, s _ _ h2, h3.mono (Fz.same s)⟩⟩
theorem getset {α : Type} {l : List α} {i j : Nat} {x y : α} (h : (l.set i x)[j]? = some y) : (j = i ∧ y = x ∧ i < l.length) ∨ (j ≠ i ∧ l[j]? = some y) := by
  by_cases e : i = j
  · subst e
    by_cases hi : i < l.length
    · rw [List.getElem?_set_self hi] at h
      cases h
      exact .inl ⟨rfl, rfl, hi⟩
    · rw [List.getElem?_eq_none (by simpa using hi)] at h
      cases h
  · rw [List.getElem?_set_ne e] at h
    exact .inr ⟨Ne.symm e, h⟩
theorem EnvOk.set_val (I : EnvOk M F H env σ) {d : D} {v : V} (i : Nat) (h : Rep M.G F H d v) : EnvOk M F H (env.set i (.val d)) (σ.set i (some v)) where
  len := by rw [List.length_set, List.length_set, I.len]
  old := I.old
  dom := I.dom
  f0 := I.f0
  val := fun j d' e => by
    rcases getset e with ⟨rfl, e2, hl⟩ | ⟨ne, e2⟩
    · cases e2
      exact ⟨v, by rw [List.getElem?_set_self (by rw [I.len]; exact hl)], h⟩
    · obtain ⟨w, h1, h2⟩ := I.val j d' e2
      exact ⟨w, by rw [List.getElem?_set_ne (Ne.symm ne)]; exact h1, h2⟩
  own := by
    obtain ⟨fp, h1, h2⟩ := I.own
    refine ⟨fp, fun j m e => ?_, fun j k m n e1 e2 ne => ?_⟩
    · rcases getset e with ⟨_, e2, _⟩ | ⟨ne, e2⟩
      · cases e2
      · obtain ⟨⟨w, h3, h4⟩, h5⟩ := h1 j m e2
        exact ⟨⟨w, by rw [List.getElem?_set_ne (Ne.symm ne)]; exact h3, h4⟩, h5⟩
    · rcases getset e1 with ⟨_, e3, _⟩ | ⟨ne1, e3⟩
      · cases e3
      · rcases getset e2 with ⟨_, e4, _⟩ | ⟨ne2, e4⟩
        · cases e4
        · exact h2 j k m n e3 e4 ne
  self := fun x hx c fs e => by
    rcases getset e with ⟨_, e2, _⟩ | ⟨ne, e2⟩
    · cases e2
    · rw [List.getElem?_set_ne (Ne.symm ne)]
      exact I.self x hx c fs e2
  ex := fun j c x e => by
    rcases getset e with ⟨_, e2, _⟩ | ⟨ne, e2⟩
    · cases e2
    · rw [List.getElem?_set_ne (Ne.symm ne)]
      exact I.ex j c x e2
/-- a slot is forgotten -/
theorem EnvOk.set_no (I : EnvOk M F H env σ) (x : Option V) (i : Nat) : EnvOk M F H (env.set i .no) (σ.set i x) where
  len := by rw [List.length_set, List.length_set, I.len]
  old := I.old
  dom := I.dom
  f0 := I.f0
  val := fun j d' e => by
    rcases getset e with ⟨rfl, e2, hl⟩ | ⟨ne, e2⟩
    · cases e2
    · obtain ⟨w, h1, h2⟩ := I.val j d' e2
      exact ⟨w, by rw [List.getElem?_set_ne (Ne.symm ne)]; exact h1, h2⟩
  own := by
    obtain ⟨fp, h1, h2⟩ := I.own
    refine ⟨fp, fun j m e => ?_, fun j k m n e1 e2 ne => ?_⟩
    · rcases getset e with ⟨_, e2, _⟩ | ⟨ne, e2⟩
      · cases e2
      · obtain ⟨⟨w, h3, h4⟩, h5⟩ := h1 j m e2
        exact ⟨⟨w, by rw [List.getElem?_set_ne (Ne.symm ne)]; exact h3, h4⟩, h5⟩
    · rcases getset e1 with ⟨_, e3, _⟩ | ⟨ne1, e3⟩
      · cases e3
      · rcases getset e2 with ⟨_, e4, _⟩ | ⟨ne2, e4⟩
        · cases e4
        · exact h2 j k m n e3 e4 ne
  self := fun x hx c fs e => by
    rcases getset e with ⟨_, e2, _⟩ | ⟨ne, e2⟩
    · cases e2
    · rw [List.getElem?_set_ne (Ne.symm ne)]
      exact I.self x hx c fs e2
  ex := fun j c x e => by
    rcases getset e with ⟨_, e2, _⟩ | ⟨ne, e2⟩
    · cases e2
    · rw [List.getElem?_set_ne (Ne.symm ne)]
      exact I.ex j c x e2
/-- F and the addresses of fp -/
def plus (F : Own) (fp : List Addr) : Own := fun a => F a ∨ a ∈ fp
theorem fz_plus {fp : List Addr} (s : Same H H') (n : ∀ a ∈ fp, H a = none) : Fz F H (plus F fp) H' := fun a o hf e =>
  ⟨fun z => z.elim hf fun q => (by rw [n a q] at e; cases e), s a o e⟩
theorem EnvOk.set_own (I : EnvOk M F H env σ) {m : Mu} {v : V} {fp : List Addr} (i : Nat) (s : Same H H') (n : ∀ a ∈ fp, H a = none) (h : MuRep M.G (plus F fp) H' m v fp) (hs : M.self = none ∨ i ≠ 0 ∨ ∀ c fs, m ≠ .ins c fs) :
    EnvOk M (plus F fp) H' (env.set i (.own m)) (σ.set i (some v)) := by
  have z : Fz F H (plus F fp) H' := fz_plus s n
  have ap : ∀ a, F a → a ∉ fp := fun a hf q => I.dom a hf (n a q)
  refine ⟨by rw [List.length_set, List.length_set, I.len], I.old.trans s, fun a ha e => ?_, fun a ha => .inl (I.f0 a ha), fun j d' e => ?_, ?_, fun x hx c fs e => ?_, fun j c x e => ?_⟩
  · rcases ha with ha | ha
    · exact I.dom a ha (s.free e)
    · exact h.at a ha e
  · rcases getset e with ⟨_, e2, _⟩ | ⟨ne, e2⟩
    · cases e2
    · obtain ⟨w, h1, h2⟩ := I.val j d' e2
      exact ⟨w, by rw [List.getElem?_set_ne (Ne.symm ne)]; exact h1, h2.mono z⟩
  · obtain ⟨fq, h1, h2⟩ := I.own
    refine ⟨fun j => if j = i then fp else fq j, fun j m' e => ?_, fun j k m1 m2 e1 e2 ne => ?_⟩
    · rcases getset e with ⟨rfl, e2, hl⟩ | ⟨ne, e2⟩
      · cases e2
        simp only [if_true]
        refine ⟨⟨v, by rw [List.getElem?_set_self (by rw [I.len]; exact hl)], h⟩, fun a ha => ⟨.inr ha, ?_⟩⟩
        exact I.old.free (n a ha)
      · simp only [if_neg ne]
        obtain ⟨⟨w, h3, h4⟩, h5⟩ := h1 j m' e2
        exact ⟨⟨w, by rw [List.getElem?_set_ne (Ne.symm ne)]; exact h3, h4.mono z fun a _ o q => s a o q⟩, fun a ha => ⟨.inl (h5 a ha).1, (h5 a ha).2⟩⟩
    · intro a
      rcases getset e1 with ⟨j1, e3, _⟩ | ⟨j1, e3⟩
      · rcases getset e2 with ⟨k1, e4, _⟩ | ⟨k1, e4⟩
        · exact absurd (j1.trans k1.symm) ne
        · simp only [if_pos j1, if_neg k1]
          intro ha hb
          exact ap a ((h1 k m2 e4).2 a hb).1 ha
      · rcases getset e2 with ⟨k1, e4, _⟩ | ⟨k1, e4⟩
        · simp only [if_neg j1, if_pos k1]
          intro ha hb
          exact ap a ((h1 j m1 e3).2 a ha).1 hb
        · simp only [if_neg j1, if_neg k1]
          exact h2 j k m1 m2 e3 e4 ne a
  · rcases getset e with ⟨e0, e2, _⟩ | ⟨ne, e2⟩
    · cases e2
      rcases hs with hs | hs | hs
      · rw [hs] at hx; cases hx
      · exact absurd e0.symm hs
      · exact absurd rfl (hs c fs)
    · rw [List.getElem?_set_ne (Ne.symm ne)]
      exact I.self x hx c fs e2
  · rcases getset e with ⟨_, e2, _⟩ | ⟨ne, e2⟩
    · cases e2
    · rw [List.getElem?_set_ne (Ne.symm ne)]
      obtain ⟨q1, q2⟩ := I.ex j c x e2
      exact ⟨q1, fun d hd => let ⟨dd, v, h1, h2, h3⟩ := q2 d hd; ⟨dd, v, h1, s _ _ h2, h3.mono z⟩⟩
/-- what the i-th variable owns is changed in its place -/
theorem EnvOk.write (I : EnvOk M F H env σ) {m m' : Mu} {i : Nat} (hi : env[i]? = some (.own m)) (hk : ∀ c fs, m' = .ins c fs → ∃ c fs, m = .ins c fs) :
    ∃ v fp, σ[i]? = some (some v) ∧ MuRep M.G F H m v fp ∧ (∀ a ∈ fp, F a ∧ M.H0 a = none) ∧
      ∀ H', (∀ a o, a ∉ fp → H a = some o → H' a = some o) → MuRep M.G F H' m' v fp → EnvOk M F H' (env.set i (.own m')) σ ∧ Fz F H F H' := by
  obtain ⟨fq, h1, h2⟩ := I.own
  obtain ⟨⟨v, h3, h4⟩, h5⟩ := h1 i m hi
  refine ⟨v, fq i, h3, h4, h5, fun H' k hm => ?_⟩
  have z : Fz F H F H' := fun a o hf e => ⟨hf, k a o (fun q => hf (h5 a q).1) e⟩
  have hl : i < env.length := (List.getElem?_eq_some_iff.mp hi).1
  refine ⟨⟨by rw [List.length_set, I.len], fun a o e => ?_, fun a ha e => ?_, I.f0, fun j d' e => ?_, ⟨fq, fun j m1 e => ?_, fun j l m1 m2 e1 e2 ne => ?_⟩, fun x hx c fs e => ?_, fun j c x e => ?_⟩, z⟩
  · refine k a o (fun q => ?_) (I.old a o e)
    rw [(h5 a q).2] at e; cases e
  · by_cases q : a ∈ fq i
    · exact hm.at a q e
    · cases r : H a with
      | none => exact I.dom a ha r
      | some o =>
        have := k a o q r
        rw [e] at this; cases this
  · rcases getset e with ⟨_, e2, _⟩ | ⟨ne, e2⟩
    · cases e2
    · obtain ⟨w, h6, h7⟩ := I.val j d' e2
      exact ⟨w, h6, h7.mono z⟩
  · rcases getset e with ⟨rfl, e2, _⟩ | ⟨ne, e2⟩
    · cases e2
      exact ⟨⟨v, h3, hm⟩, h5⟩
    · obtain ⟨⟨w, h6, h7⟩, h8⟩ := h1 j m1 e2
      exact ⟨⟨w, h6, h7.mono z fun a ha o q => k a o (fun r => h2 j i m1 m e2 hi ne a ha r) q⟩, h8⟩
  · rcases getset e1 with ⟨j1, e3, _⟩ | ⟨j1, e3⟩
    · rcases getset e2 with ⟨k1, e4, _⟩ | ⟨k1, e4⟩
      · exact absurd (j1.trans k1.symm) ne
      · rw [j1] at ne ⊢
        exact h2 i l m m2 hi e4 ne
    · rcases getset e2 with ⟨k1, e4, _⟩ | ⟨k1, e4⟩
      · rw [k1] at ne ⊢
        exact h2 j i m1 m e3 hi ne
      · exact h2 j l m1 m2 e3 e4 ne
  · rcases getset e with ⟨e0, e2, _⟩ | ⟨ne, e2⟩
    · cases e2
      obtain ⟨c', fs', rfl⟩ := hk c fs rfl
      exact I.self x hx c' fs' (by rw [e0]; exact hi)
    · exact I.self x hx c fs e2
  · rcases getset e with ⟨_, e2, _⟩ | ⟨ne, e2⟩
    · cases e2
    · obtain ⟨q1, q2⟩ := I.ex j c x e2
      exact ⟨q1, fun d hd => let ⟨dd, v, k1, k2, k3⟩ := q2 d hd; ⟨dd, v, k1, k _ _ (h4.nxd k2) k2, k3.mono z⟩⟩
/-- the i-th variable's own thing is nobody's from now on -/
theorem EnvOk.freeze (I : EnvOk M F H env σ) {m : Mu} {i : Nat} (hi : env[i]? = some (.own m)) : ∃ F', EnvOk M F' H (env.set i (.val m.d)) σ ∧ Fz F H F' H := by
  obtain ⟨fq, h1, h2⟩ := I.own
  obtain ⟨⟨v, h3, h4⟩, h5⟩ := h1 i m hi
  have z : Fz F H (fun a => F a ∧ a ∉ fq i) H := fun a o hf e => ⟨fun q => hf q.1, e⟩
  have hl : i < env.length := (List.getElem?_eq_some_iff.mp hi).1
  refine ⟨fun a => F a ∧ a ∉ fq i, ⟨by rw [List.length_set, I.len], I.old, fun a ha => I.dom a ha.1, fun a ha => ⟨I.f0 a ha, fun q => M.f0 a ha (h5 a q).2⟩, fun j d' e => ?_, ⟨fq, fun j m1 e => ?_, fun j l m1 m2 e1 e2 ne => ?_⟩, fun x hx c fs e => ?_, fun j c x e => ?_⟩, z⟩
  · rcases getset e with ⟨rfl, e2, _⟩ | ⟨ne, e2⟩
    · cases e2
      exact ⟨v, h3, h4.frozen z fun a ha q => q.2 ha⟩
    · obtain ⟨w, h6, h7⟩ := I.val j d' e2
      exact ⟨w, h6, h7.mono z⟩
  · rcases getset e with ⟨_, e2, _⟩ | ⟨ne, e2⟩
    · cases e2
    · obtain ⟨⟨w, h6, h7⟩, h8⟩ := h1 j m1 e2
      exact ⟨⟨w, h6, h7.mono z fun a _ o q => q⟩, fun a ha => ⟨⟨(h8 a ha).1, h2 j i m1 m e2 hi ne a ha⟩, (h8 a ha).2⟩⟩
  · rcases getset e1 with ⟨_, e3, _⟩ | ⟨j1, e3⟩
    · cases e3
    · rcases getset e2 with ⟨_, e4, _⟩ | ⟨k1, e4⟩
      · cases e4
      · exact h2 j l m1 m2 e3 e4 ne
  · rcases getset e with ⟨_, e2, _⟩ | ⟨ne, e2⟩
    · cases e2
    · exact I.self x hx c fs e2
  · rcases getset e with ⟨_, e2, _⟩ | ⟨ne, e2⟩
    · cases e2
    · obtain ⟨q1, q2⟩ := I.ex j c x e2
      exact ⟨q1, fun d hd => let ⟨dd, v, k1, k2, k3⟩ := q2 d hd; ⟨dd, v, k1, k2, k3.mono z⟩⟩
end

/-! ## results -/
inductive Res (α : Type) where
  | ok (a : α)
  | exc (c : Nat) (x : Option D)
  | stuck
def Res.bind {α β : Type} : Res α → (α → Res β) → Res β
  | .ok a, f => f a
  | .exc c x, _ => .exc c x
  | .stuck, _ => .stuck
inductive Out where
  | nx (env : Envt)
  | rt (d : D) (env : Envt)
  | bk (env : Envt)
  | ct (env : Envt)
  | exc (c : Nat) (x : Option D) (env : Envt)
  | stuck
abbrev EF := Envt → Res D
abbrev TF := Envt → Res Bool
abbrev AF := Envt → Res (List D)
abbrev OF := Envt → Res Mu
abbrev SF := Envt → Out

/-- an error as it lies: its class, its own dict -/
def ExRep (G : Gc) (F : Own) (H : Hp) (c : Nat) (x : Option D) (cv : Value) (dd : Option Addr) : Prop :=
  cv = .ref (G.cls c) ∧ match x with
    | none => dd = none
    | some d => ∃ a v, dd = some a ∧ H a = some (.xd [(G.exf c, v)]) ∧ Rep G F H d v
/-- frozen, or still somebody's own -/
def RepV (G : Gc) (F : Own) (H : Hp) (d : D) (v : V) : Prop := Rep G F H d v ∨ ∃ m fp, d = m.d ∧ MuRep G F H m v fp
theorem Rep.view {G : Gc} {F : Own} {H : Hp} {d : D} {v : V} (h : Rep G F H d v) : RepV G F H d v := .inl h
theorem RepV.mono {G : Gc} {F : Own} {H H' : Hp} {d : D} {v : V} (s : Same H H') (h : RepV G F H d v) : RepV G F H' d v := by
  rcases h with h | ⟨m, fp, e, h⟩
  · exact .inl (h.mono (Fz.same s))
  · exact .inr ⟨m, fp, e, h.mono (Fz.same s) fun a _ o q => s a o q⟩
section
variable {G : Gc} {F : Own} {H : Hp} {v : V}
theorem RepV.lst {ds : List D} (h : RepV G F H (.lst ds) v) : ∃ p xs, v = .ref p ∧ SqL G.K H p xs ∧ Reps G F H ds xs := by
  rcases h with h | ⟨m, fp, e, h⟩
  · unfold Rep at h
    obtain ⟨a, xs, e, h1, h2⟩ := h
    exact ⟨a, xs, e, h1.sq, h2⟩
  · cases m with
    | lst es =>
      cases e
      obtain ⟨p, xs, e1, _, e3, h⟩ := h
      exact ⟨p, xs, e1, .inl (.inl e3), h⟩
    | ins c fs => cases e
theorem RepV.tup {ds : List D} (h : RepV G F H (.tup ds) v) : ∃ p xs, v = .ref p ∧ SqT G.K H p xs ∧ Reps G F H ds xs := by
  rcases h with h | ⟨m, fp, e, h⟩
  · unfold Rep at h
    obtain ⟨a, xs, e, h1, h2⟩ := h
    exact ⟨a, xs, e, h1.sq, h2⟩
  · cases m <;> cases e
theorem RepV.ins {c : Nat} {fs : List (Str × D)} (h : RepV G F H (.ins c fs) v) : ∃ p dx us, v = .ref p ∧ H p = some (.ins (G.cls c) dx us) ∧ RepF G F H fs us := by
  rcases h with h | ⟨m, fp, e, h⟩
  · unfold Rep at h
    obtain ⟨a, dx, us, e, h1, h2, h3⟩ := h
    exact ⟨a, dx, us, e, h2, h3⟩
  · cases m with
    | lst es => cases e
    | ins c fs =>
      cases e
      obtain ⟨p, dx, us, e1, _, e3, h⟩ := h
      exact ⟨p, dx, us, e1, e3, h⟩
theorem RepV.int {i : Int} (h : RepV G F H (.int i) v) : v = .int i := by
  rcases h with h | ⟨m, fp, e, h⟩
  · unfold Rep at h; exact h
  · cases m <;> cases e
theorem RepV.bl {b : Bool} (h : RepV G F H (.bl b) v) : v = .bl b := by
  rcases h with h | ⟨m, fp, e, h⟩
  · unfold Rep at h; exact h
  · cases m <;> cases e
theorem RepV.str {s : Str} (h : RepV G F H (.str s) v) : v = .str s := by
  rcases h with h | ⟨m, fp, e, h⟩
  · unfold Rep at h; exact h
  · cases m <;> cases e
theorem RepV.non (h : RepV G F H .non v) : v = .non := by
  rcases h with h | ⟨m, fp, e, h⟩
  · unfold Rep at h; exact h
  · cases m <;> cases e
theorem Rep.int_ {i : Int} : Rep G F H (.int i) (.int i) := by unfold Rep; rfl
theorem Rep.bl_ {i : Bool} : Rep G F H (.bl i) (.bl i) := by unfold Rep; rfl
theorem Rep.str_ {i : Str} : Rep G F H (.str i) (.str i) := by unfold Rep; rfl
theorem Rep.non_ : Rep G F H .non .non := by unfold Rep; rfl
theorem Rep.tup_ {p : Addr} {xs : List V} {ds : List D} (n : ¬ F p) (h : H p = some (.tup xs)) (r : Reps G F H ds xs) : Rep G F H (.tup ds) (.ref p) := by
  unfold Rep
  exact ⟨p, xs, rfl, .inl ⟨n, .inl h⟩, r⟩
theorem Rep.lst_ {p : Addr} {xs : List V} {ds : List D} (n : ¬ F p) (h : H p = some (.lst xs)) (r : Reps G F H ds xs) : Rep G F H (.lst ds) (.ref p) := by
  unfold Rep
  exact ⟨p, xs, rfl, .inl ⟨n, .inl h⟩, r⟩
end

/-! ## readings -/
abbrev RP := Own → Hp → D → V → Prop
/-- behind an expression that came to r -/
def post (M : Fm) {α : Type} (R : Own → Hp → α → V → Prop) (F : Own) (σ : L2.St) (H : Hp) (r : Res α) (Q : VK) : Prop :=
  match r with
  | .ok d => ∀ v H', Same H H' → R F H' d v → Q v H'
  | .exc c x => ∀ cv dd H', Same H H' → ExRep M.G F H' c x cv dd → M.W cv dd σ H'
  | .stuck => False
def tX (M : Fm) (R : RP) (f : EF) : TE := fun σ H Q => ∃ F env, EnvOk M F H env σ ∧ post M R F σ H (f env) Q
abbrev tE (M : Fm) (f : EF) : TE := tX M (Rep M.G) f
abbrev tV (M : Fm) (f : EF) : TE := tX M (RepV M.G) f
def tT (M : Fm) (f : TF) : TT := fun σ H Q => ∃ F env, EnvOk M F H env σ ∧ match f env with
  | .ok b => ∀ H', Same H H' → Q b H'
  | .exc c x => ∀ cv dd H', Same H H' → ExRep M.G F H' c x cv dd → M.W cv dd σ H'
  | .stuck => False
def tA (M : Fm) (f : AF) : TA := fun σ H Q => ∃ F env, EnvOk M F H env σ ∧ match f env with
  | .ok ds => ∀ vs H', Same H H' → Reps M.G F H' ds vs → Q vs H'
  | .exc c x => ∀ cv dd H', Same H H' → ExRep M.G F H' c x cv dd → M.W cv dd σ H'
  | .stuck => False
/-- an expression that makes something new -/
def tO (M : Fm) (f : OF) : TE := fun σ H Q => ∃ F env, EnvOk M F H env σ ∧ match f env with
  | .ok m => ∀ v H' fp, Same H H' → (∀ a ∈ fp, H a = none) → MuRep M.G (plus F fp) H' m v fp → Q v H'
  | .exc c x => ∀ cv dd H', Same H H' → ExRep M.G F H' c x cv dd → M.W cv dd σ H'
  | .stuck => False
def spost (M : Fm) (F : Own) (H : Hp) (o : Out) (D : Ends) : Prop :=
  match o with
  | .nx env => ∀ F' σ' H', EnvOk M F' H' env σ' → Fz F H F' H' → D.nx σ' H'
  | .bk env => ∀ F' σ' H', EnvOk M F' H' env σ' → Fz F H F' H' → D.bk σ' H'
  | .ct env => ∀ F' σ' H', EnvOk M F' H' env σ' → Fz F H F' H' → D.ct σ' H'
  | .rt d env => ∀ F' v σ' H', EnvOk M F' H' env σ' → Fz F H F' H' → Rep M.G F' H' d v → D.rt v H'
  | .exc c x env => ∀ F' cv dd σ' H', EnvOk M F' H' env σ' → Fz F H F' H' → ExRep M.G F' H' c x cv dd → M.W cv dd σ' H'
  | .stuck => False
def tS (M : Fm) (f : SF) : TS := fun D σ H => ∃ F env, EnvOk M F H env σ ∧ spost M F H (f env) D
theorem ExRep.mono {G : Gc} {F : Own} {H H' : Hp} {c : Nat} {x : Option D} {cv : Value} {dd : Option Addr} (s : Same H H') (h : ExRep G F H c x cv dd) : ExRep G F H' c x cv dd := by
  obtain ⟨h1, h2⟩ := h
  refine ⟨h1, ?_⟩
  cases x with
  | none => exact h2
  | some d =>
    obtain ⟨a, v, e, q, r⟩ := h2
    exact ⟨a, v, e, s _ _ q, r.mono (Fz.same s)⟩
theorem post.grow {M : Fm} {α : Type} {R : Own → Hp → α → V → Prop} {F : Own} {σ : L2.St} {H H' : Hp} {r : Res α} {Q : VK} (s : Same H H') (h : post M R F σ H r Q) : post M R F σ H' r Q := by
  cases r with
  | ok d => exact fun v H'' s' q => h v H'' (s.trans s') q
  | exc c x => exact fun cv dd H'' s' q => h cv dd H'' (s.trans s') q
  | stuck => exact h
theorem spost.grow {M : Fm} {F F1 : Own} {H H1 : Hp} {o : Out} {D : Ends} (z : Fz F H F1 H1) (h : spost M F H o D) : spost M F1 H1 o D := by
  cases o with
  | nx env => exact fun F' σ' H' e z' => h F' σ' H' e (z.trans z')
  | bk env => exact fun F' σ' H' e z' => h F' σ' H' e (z.trans z')
  | ct env => exact fun F' σ' H' e z' => h F' σ' H' e (z.trans z')
  | rt d env => exact fun F' v σ' H' e z' => h F' v σ' H' e (z.trans z')
  | exc c x env => exact fun F' cv dd σ' H' e z' => h F' cv dd σ' H' e (z.trans z')
  | stuck => exact h
end Mi
end
section
set_option maxRecDepth 100000
set_option maxHeartbeats 4000000
namespace Mi
open PySem PySem.Spec PyProof.Rows L2

theorem PE.weak {X : Cx} {e : Expr} {t t' : TE} (h : PE X e t) (k : ∀ σ H Q, t' σ H Q → t σ H Q) : PE X e t' := ⟨fun pins s σ H Q I q => h.run pins s σ H Q I (k σ H Q q)⟩
theorem PT.weak {X : Cx} {e : Expr} {t t' : TT} (h : PT X e t) (k : ∀ σ H Q, t' σ H Q → t σ H Q) : PT X e t' := ⟨fun pins s σ H Q I q => h.run pins s σ H Q I (k σ H Q q)⟩
theorem PA.weak {X : Cx} {e : List Expr} {t t' : TA} (h : PA X e t) (k : ∀ σ H Q, t' σ H Q → t σ H Q) : PA X e t' := ⟨fun pos pins s σ H Q I q => h.run pos pins s σ H Q I (k σ H Q q)⟩
theorem PS.weak {X : Cx} {e : Stmt} {t t' : TS} (h : PS X e t) (k : ∀ D σ H, t' D σ H → t D σ H) : PS X e t' := ⟨fun pins s σ H D I q => h.run pins s σ H D I (k D σ H q)⟩
theorem PSs.weak {X : Cx} {e : List Stmt} {t t' : TS} (h : PSs X e t) (k : ∀ D σ H, t' D σ H → t D σ H) : PSs X e t' := ⟨fun pins s σ H D I q => h.run pins s σ H D I (k D σ H q)⟩

section
variable {M : Fm} {X : Cx} {e a b c : Expr} {es : List Expr} {pos : Pos}
/-- frozen is a view -/
theorem m_v {f : EF} (h : PE X e (tE M f)) : PE X e (tV M f) := PE.weak h fun σ H Q ⟨F, env, I, q⟩ => by
  refine ⟨F, env, I, ?_⟩
  cases r : f env with
  | ok d => rw [r] at q; exact fun v H' s h => q v H' s (.inl h)
  | exc c x => rw [r] at q; exact q
  | stuck => rw [r] at q; exact q
/-- something new, frozen at once -/
theorem Mu.frozen_new {F : Own} {H H' : Hp} {m : Mu} {v : V} {fp : List Addr} (dom : ∀ a, F a → H a ≠ none) (n : ∀ a ∈ fp, H a = none) (h : MuRep M.G (plus F fp) H' m v fp) : Rep M.G F H' m.d v :=
  h.frozen (fun a o hf e => ⟨fun q => hf (.inl q), e⟩) fun a ha q => dom a q (n a ha)
def eO (f : OF) : EF := fun env => (f env).bind fun m => .ok m.d
theorem m_o {f : OF} (h : PE X e (tO M f)) : PE X e (tE M (eO f)) := PE.weak h fun σ H Q ⟨F, env, I, q⟩ => by
  refine ⟨F, env, I, ?_⟩
  unfold eO at q
  cases r : f env with
  | ok m =>
    rw [r] at q
    intro v H' fp s n h
    exact q v H' s (Mu.frozen_new I.dom n h)
  | exc c x => rw [r] at q; exact q
  | stuck => rw [r] at q; exact q

/-! ### names, constants -/
def eVar (i : Nat) : EF := fun env => match env[i]? with
  | some (.val d) => .ok d
  | _ => .stuck
def eView (i : Nat) : EF := fun env => match env[i]? with
  | some (.val d) => .ok d
  | some (.own m) => .ok m.d
  | _ => .stuck
def eC (d : D) : EF := fun _ => .ok d
theorem w_var {i : Nat} (h : PE X e (tVar i)) : PE X e (tE M (eVar i)) := PE.weak h fun σ H Q ⟨F, env, I, q⟩ => by
  unfold eVar at q
  cases r : env[i]? with
  | none => rw [r] at q; exact q.elim
  | some s =>
    rw [r] at q
    cases s with
    | no => exact q.elim
    | ex c x => exact q.elim
    | own m => exact q.elim
    | val d =>
      obtain ⟨v, h1, h2⟩ := I.val i d r
      exact ⟨v, h1, q v H (Same.refl H) h2⟩
theorem w_view {i : Nat} (h : PE X e (tVar i)) : PE X e (tV M (eView i)) := PE.weak h fun σ H Q ⟨F, env, I, q⟩ => by
  unfold eView at q
  cases r : env[i]? with
  | none => rw [r] at q; exact q.elim
  | some s =>
    rw [r] at q
    cases s with
    | no => exact q.elim
    | ex c x => exact q.elim
    | own m =>
      obtain ⟨fp, h1, _⟩ := I.own
      obtain ⟨⟨v, h2, h3⟩, _⟩ := h1 i m r
      exact ⟨v, h2, q v H (Same.refl H) (.inr ⟨m, _, rfl, h3⟩)⟩
    | val d =>
      obtain ⟨v, h1, h2⟩ := I.val i d r
      exact ⟨v, h1, q v H (Same.refl H) (.inl h2)⟩
theorem m_var (i : Nat) {x : Str} {pos : Pos} (hN : X.N[i]? = some x := by rfl) (hv : Vis X.env.scope x := by first | exact Or.inl rfl | exact Or.inr (Or.inl rfl) | exact Or.inr (Or.inr rfl)) (hd : (x == ("__debug__" : Str)) = false := by decide)
    (hcd : (x == ("__classdict__" : Str)) = false := by decide) : PE X (.Name x pos) (tE M (eVar i)) := w_var (pe_var hN hv hd hcd)
theorem m_view (i : Nat) {x : Str} {pos : Pos} (hN : X.N[i]? = some x := by rfl) (hv : Vis X.env.scope x := by first | exact Or.inl rfl | exact Or.inr (Or.inl rfl) | exact Or.inr (Or.inr rfl)) (hd : (x == ("__debug__" : Str)) = false := by decide)
    (hcd : (x == ("__classdict__" : Str)) = false := by decide) : PE X (.Name x pos) (tV M (eView i)) := w_view (pe_var hN hv hd hcd)
theorem w_c {d : D} {v : V} (h : PE X e (tC v)) (r : ∀ F H, Rep M.G F H d v) : PE X e (tE M (eC d)) := PE.weak h fun σ H Q ⟨F, env, I, q⟩ => q v H (Same.refl H) (r F H)
theorem m_int {i j pos} : PE X (.Constant (.int i) j pos) (tE M (eC (.int i))) := w_c pe_int fun _ _ => Rep.int_
theorem m_bl {i j pos} : PE X (.Constant (.bool i) j pos) (tE M (eC (.bl i))) := w_c pe_bl fun _ _ => Rep.bl_
theorem m_non {j pos} : PE X (.Constant .none j pos) (tE M (eC .non)) := w_c pe_non fun _ _ => Rep.non_
theorem m_str {x j pos} : PE X (.Constant (.str x) j pos) (tE M (eC (.str x))) := w_c pe_str fun _ _ => Rep.str_
/-- a module's whole number -/
theorem m_gint {x : Str} {i : Int} {pos : Pos} (hm : ∃ t, X.mg x = some (.int i t)) (hg : Gl X x := by rfl) (hd : (x == ("__debug__" : Str)) = false := by decide) : PE X (.Name x pos) (tE M (eC (.int i))) := by
  obtain ⟨t, hm⟩ := hm
  exact w_c (pe_glob (v := .int i) hg hm ⟨_, rfl⟩ hd) fun _ _ => Rep.int_
theorem m_gstr {x : Str} {i : Str} {pos : Pos} (hm : ∃ t, X.mg x = some (.str i t)) (hg : Gl X x := by rfl) (hd : (x == ("__debug__" : Str)) = false := by decide) : PE X (.Name x pos) (tE M (eC (.str i))) := by
  obtain ⟨t, hm⟩ := hm
  exact w_c (pe_glob (v := .str i) hg hm ⟨_, rfl⟩ hd) fun _ _ => Rep.str_

/-! ### two operands -/
def eBin (k : D → D → Res D) (f g : EF) : EF := fun env => (f env).bind fun x => (g env).bind fun y => k x y
/-- what an operation on values asks, told by data -/
def Des (M : Fm) (r : R2) (R : RP) (k : D → D → Res D) : Prop := ∀ F σ x y v w H Q, (∀ a, F a → H a ≠ none) → RepV M.G F H x v → RepV M.G F H y w → post M R F σ H (k x y) Q → r v w H Q
theorem w_bin {r : R2} {R : RP} {k : D → D → Res D} {f g : EF} (d : Des M r R k) {σ : L2.St} {H : Hp} {Q : VK} (h : tX M R (eBin k f g) σ H Q) : tOp r (tV M f) (tV M g) σ H Q := by
  obtain ⟨F, env, I, q⟩ := h
  refine ⟨F, env, I, ?_⟩
  unfold eBin at q
  cases r1 : f env with
  | stuck => rw [r1] at q; exact q
  | exc c x => rw [r1] at q; exact q
  | ok x =>
    rw [r1] at q
    intro v H1 s1 h1
    refine ⟨F, env, I.grow s1, ?_⟩
    show post M _ F σ H1 (g env) _
    have q : post M R F σ H ((g env).bind fun y => k x y) Q := q
    cases r2 : g env with
    | stuck => rw [r2] at q; exact q
    | exc c x => rw [r2] at q; exact post.grow (r := Res.exc c x) (R := R) (Q := Q) s1 q
    | ok y =>
      rw [r2] at q
      intro w H2 s2 h2
      exact d F σ x y v w H2 Q ((I.grow s1).grow s2).dom (h1.mono s2) h2 (post.grow (s1.trans s2) q)
theorem m_op {op : Operator} {r : R2} {R : RP} {k : D → D → Res D} {f g : EF} (o : OpR X (binaryOp op) r) (d : Des M r R k) (ha : PE X a (tV M f)) (hb : PE X b (tV M g)) : PE X (.BinOp a op b pos) (tX M R (eBin k f g)) :=
  PE.weak (pe_op o ha hb) fun _ _ _ h => w_bin d h
theorem m_cmp {op : CmpOp} {r : R2} {k : D → D → Res D} {f g : EF} (o : OpR X (compareOp op) r) (d : Des M r (Rep M.G) k) (ha : PE X a (tV M f)) (hb : PE X b (tV M g)) (h1 : behindInMarks op b = false) : PE X (.Compare a [op] [b] pos) (tE M (eBin k f g)) :=
  PE.weak (pe_cmpR o ha hb h1) fun _ _ _ h => w_bin d h

theorem OpR.or {f : Value → Value → Sem Value} {r q : R2} (h : OpR X f r) (k : OpR X f q) : OpR X f (fun x y H Q => r x y H Q ∨ q x y H Q) := by
  intro pins s σ H x y v u Q I rx ry hh
  rcases hh with hh | hh
  · exact h pins s σ H x y v u Q I rx ry hh
  · exact k pins s σ H x y v u Q I rx ry hh
end
end Mi
end
section
set_option maxRecDepth 100000
set_option maxHeartbeats 4000000
namespace Mi
open PySem PySem.Spec PyProof.Rows L2

/-! ## operations on data -/
def dAdd : D → D → Res D
  | .int i, .int j => .ok (.int (i + j))
  | .str s, .str t => if s.length + t.length ≤ sizeLine then .ok (.str (s ++ t)) else .stuck
  | .tup xs, .tup ys => if xs.length + ys.length ≤ sizeLine then .ok (.tup (xs ++ ys)) else .stuck
  | .lst xs, .lst ys => if xs.length + ys.length ≤ sizeLine then .ok (.lst (xs ++ ys)) else .stuck
  | _, _ => .stuck
def dSub : D → D → Res D
  | .int i, .int j => .ok (.int (i - j))
  | _, _ => .stuck
def dMul : D → D → Res D
  | .int i, .int j => if i.natAbs < 2 ^ 64 ∨ j.natAbs < 2 ^ 64 then .ok (.int (i * j)) else .stuck
  | _, _ => .stuck
def dDiv : D → D → Res D
  | .int i, .int j => if 0 < j ∧ j < 1073741824 then .ok (.int (i / j)) else .stuck
  | _, _ => .stuck
def dMod : D → D → Res D
  | .int i, .int j => if 0 < j then .ok (.int (i % j)) else .stuck
  | _, _ => .stuck
def dPow : D → D → Res D
  | .int i, .int j => if 0 ≤ j ∧ j ≤ 1000000 ∧ i.natAbs < 2 ^ 64 then .ok (.int (i ^ j.toNat)) else .stuck
  | _, _ => .stuck
def dLt : D → D → Res D
  | .int i, .int j => .ok (.bl (decide (i < j)))
  | _, _ => .stuck
def dLe : D → D → Res D
  | .int i, .int j => .ok (.bl (decide (i ≤ j)))
  | _, _ => .stuck
def dGt : D → D → Res D
  | .int i, .int j => .ok (.bl (decide (j < i)))
  | _, _ => .stuck
def dGe : D → D → Res D
  | .int i, .int j => .ok (.bl (decide (j ≤ i)))
  | _, _ => .stuck
mutual
def D.toP : D → PyData
  | .non => .none
  | .bl b => .bool b
  | .int i => .int i
  | .str s => .str s
  | .tup xs => .tuple (D.toPs xs)
  | .lst xs => .list (D.toPs xs)
  | .ins _ _ => .dict []
def D.toPs : List D → List PyData
  | [] => []
  | d :: ds => D.toP d :: D.toPs ds
end
def D.shaped (d : D) : Bool := SeqAt.shaped d.toP
def dEq (x y : D) : Res D := if x.shaped = true ∧ y.shaped = true then .ok (.bl (PyData.eqv x.toP y.toP)) else .stuck
def dNe (x y : D) : Res D := if x.shaped = true ∧ y.shaped = true then .ok (.bl (!PyData.eqv x.toP y.toP)) else .stuck
def D.items : D → Option (List D)
  | .tup xs => some xs
  | .lst xs => some xs
  | _ => none
def dInB (x y : D) : Res Bool := match y.items with
  | some ds => if x.shaped = true ∧ y.shaped = true then .ok (ds.any fun z => PyData.eqv z.toP x.toP) else .stuck
  | none => .stuck
def dIn (x y : D) : Res D := (dInB x y).bind fun b => .ok (.bl b)
def dNotIn (x y : D) : Res D := (dInB x y).bind fun b => .ok (.bl (!b))
def D.isNon : D → Bool
  | .non => true
  | _ => false
def D.isBl (b : Bool) : D → Bool
  | .bl a => decide (a = b)
  | _ => false
/-- x is None, x is True, x is False -/
def dIs : D → D → Res D
  | x, .non => .ok (.bl x.isNon)
  | x, .bl b => .ok (.bl (x.isBl b))
  | _, _ => .stuck
def dIsNot : D → D → Res D
  | x, .non => .ok (.bl (!x.isNon))
  | _, _ => .stuck
def dIx : D → D → Res D
  | .lst xs, .int i => match atI xs i with
    | some d => .ok d
    | none => .stuck
  | .tup xs, .int i => match atI xs i with
    | some d => .ok d
    | none => .stuck
  | .str s, .int i => if s.length ≤ sizeLine then match atI s.cps.toList i with
    | some c => .ok (.str ⟨#[c]⟩)
    | none => .stuck else .stuck
  | _, _ => .stuck

section
variable {M : Fm} {X : Cx} {R : RP}
theorem post_ok {F : Own} {σ : L2.St} {H : Hp} {d : D} {Q : VK} {v : V} (h : post M (Rep M.G) F σ H (.ok d) Q) (r : Rep M.G F H d v) : Q v H := h v H (Same.refl H) r

theorem d_int {g : Int → Int → V} {C : Int → Int → Prop} {k : D → D → Res D} (hk : ∀ x y, k x y = .stuck ∨ ∃ i j, x = .int i ∧ y = .int j)
    (hi : ∀ i j, k (.int i) (.int j) = .stuck ∨ (C i j ∧ ∃ d, k (.int i) (.int j) = .ok d ∧ ∀ F H, Rep M.G F H d (g i j))) : Des M (rI C g) (Rep M.G) k := by
  intro F σ x y v w H Q dom hx hy hq
  rcases hk x y with e | ⟨i, j, rfl, rfl⟩
  · rw [e] at hq; exact hq.elim
  · rcases hi i j with e | ⟨c, d, e, r⟩
    · rw [e] at hq; exact hq.elim
    · rw [e] at hq
      exact ⟨i, j, hx.int, hy.int, c, post_ok hq (r F H)⟩
theorem d_int0 {g : Int → Int → V} {k : D → D → Res D} (hk : ∀ x y, k x y = .stuck ∨ ∃ i j, x = .int i ∧ y = .int j)
    (hi : ∀ i j, ∃ d, k (.int i) (.int j) = .ok d ∧ ∀ F H, Rep M.G F H d (g i j)) : Des M (rI0 g) (Rep M.G) k := by
  intro F σ x y v w H Q dom hx hy hq
  rcases hk x y with e | ⟨i, j, rfl, rfl⟩
  · rw [e] at hq; exact hq.elim
  · obtain ⟨d, e, r⟩ := hi i j
    rw [e] at hq
    exact ⟨i, j, hx.int, hy.int, post_ok hq (r F H)⟩
theorem d_sub : Des M (rI0 fun i j => .int (i - j)) (Rep M.G) dSub := d_int0 (fun x y => by cases x <;> cases y <;> first | exact .inl rfl | exact .inr ⟨_, _, rfl, rfl⟩) fun i j => ⟨_, rfl, fun _ _ => Rep.int_⟩
theorem d_lt : Des M (rI0 fun i j => .bl (decide (i < j))) (Rep M.G) dLt := d_int0 (fun x y => by cases x <;> cases y <;> first | exact .inl rfl | exact .inr ⟨_, _, rfl, rfl⟩) fun i j => ⟨_, rfl, fun _ _ => Rep.bl_⟩
theorem d_le : Des M (rI0 fun i j => .bl (decide (i ≤ j))) (Rep M.G) dLe := d_int0 (fun x y => by cases x <;> cases y <;> first | exact .inl rfl | exact .inr ⟨_, _, rfl, rfl⟩) fun i j => ⟨_, rfl, fun _ _ => Rep.bl_⟩
theorem d_gt : Des M (rI0 fun i j => .bl (decide (j < i))) (Rep M.G) dGt := d_int0 (fun x y => by cases x <;> cases y <;> first | exact .inl rfl | exact .inr ⟨_, _, rfl, rfl⟩) fun i j => ⟨_, rfl, fun _ _ => Rep.bl_⟩
theorem d_ge : Des M (rI0 fun i j => .bl (decide (j ≤ i))) (Rep M.G) dGe := d_int0 (fun x y => by cases x <;> cases y <;> first | exact .inl rfl | exact .inr ⟨_, _, rfl, rfl⟩) fun i j => ⟨_, rfl, fun _ _ => Rep.bl_⟩
theorem nat64 {i : Int} (h : i.natAbs < 2 ^ 64) : -(2 ^ 64) < i ∧ i < 2 ^ 64 := by omega
theorem d_mul : Des M (rI CMul fun i j => .int (i * j)) (Rep M.G) dMul := d_int (fun x y => by cases x <;> cases y <;> first | exact .inl rfl | exact .inr ⟨_, _, rfl, rfl⟩) fun i j => by
  unfold dMul
  dsimp only
  by_cases h : i.natAbs < 2 ^ 64 ∨ j.natAbs < 2 ^ 64
  · rw [if_pos h]
    exact .inr ⟨h.elim (fun z => .inl (nat64 z)) fun z => .inr (nat64 z), _, rfl, fun _ _ => Rep.int_⟩
  · rw [if_neg h]; exact .inl rfl
theorem d_div : Des M (rI CDiv fun i j => .int (i / j)) (Rep M.G) dDiv := d_int (fun x y => by cases x <;> cases y <;> first | exact .inl rfl | exact .inr ⟨_, _, rfl, rfl⟩) fun i j => by
  unfold dDiv
  dsimp only
  by_cases h : 0 < j ∧ j < 1073741824
  · rw [if_pos h]
    exact .inr ⟨h, _, rfl, fun _ _ => Rep.int_⟩
  · rw [if_neg h]; exact .inl rfl
theorem d_mod : Des M (rI (fun _ j => 0 < j) fun i j => .int (i % j)) (Rep M.G) dMod := d_int (fun x y => by cases x <;> cases y <;> first | exact .inl rfl | exact .inr ⟨_, _, rfl, rfl⟩) fun i j => by
  unfold dMod
  dsimp only
  by_cases h : 0 < j
  · rw [if_pos h]
    exact .inr ⟨h, _, rfl, fun _ _ => Rep.int_⟩
  · rw [if_neg h]; exact .inl rfl
theorem d_pow : Des M (rI CPow fun i j => .int (i ^ j.toNat)) (Rep M.G) dPow := d_int (fun x y => by cases x <;> cases y <;> first | exact .inl rfl | exact .inr ⟨_, _, rfl, rfl⟩) fun i j => by
  unfold dPow
  dsimp only
  by_cases h : 0 ≤ j ∧ j ≤ 1000000 ∧ i.natAbs < 2 ^ 64
  · rw [if_pos h]
    exact .inr ⟨h, _, rfl, fun _ _ => Rep.int_⟩
  · rw [if_neg h]; exact .inl rfl

/-! ### + -/
def rCatL (K : PySem.W.Frag) : R2 := fun x y H Q => ∃ a b xs ys, x = .ref a ∧ y = .ref b ∧ SqL K H a xs ∧ SqL K H b ys ∧ xs.length + ys.length ≤ sizeLine ∧ ∀ p, H p = none → Q (.ref p) (upd H p (.lst (xs ++ ys)))
theorem op_catL : OpR X (binaryOp .Add) (rCatL X.K) := by
  intro pins s σ H x y v u Q I rx ry h
  obtain ⟨a, b, xs, ys, rfl, rfl, ha, hb, hz, q⟩ := h
  cases rx
  cases ry
  obtain ⟨its, r1, p1, _⟩ := I.list ha
  obtain ⟨its2, r2, p2, _⟩ := I.list hb
  obtain ⟨⟨cls, dd, data, sl⟩, n, ho, hc, _, hd⟩ := p1
  obtain ⟨⟨cls2, dd2, data2, sl2⟩, n2, ho2, hc2, _, hd2⟩ := p2
  simp only at hc hd hc2 hd2
  subst hc hd hc2 hd2
  have l1 := r1.length
  have l2 := r2.length
  refine concat_meets ⟨_, ho, rfl⟩ ⟨_, ho2, rfl⟩ noFill_list_add seq_list_add PySem.F.slot_list_add PySem.F.entry_list_add (PySem.F.args_list_add_2 _ _) (list_addW a b its.toArray its2.toArray n n2 dd dd2 sl sl2 (by simp; omega)) ⟨ho, ho2, ?_⟩
  have hn := I.hok.fresh (Nat.le_refl s.heap.objs.size)
  exact ⟨.ref _, upd H s.heap.objs.size (.lst (xs ++ ys)), I.laid (t' := s.toks) (fun c o e => Heap.get?_push_of_some _ e) (Nat.le_refl _) ⟨by rw [List.length_append]; exact hz, its ++ its2, 0, r1.append r2, by rw [Heap.get?_push_size _ rfl]; simp⟩, rfl, q _ hn⟩
def rAdd3 (K : PySem.W.Frag) : R2 := fun x y H Q => ((rI0 (fun i j => .int (i + j)) x y H Q ∨ ∃ i j, x = .str i ∧ y = .str j ∧ i.length + j.length ≤ sizeLine ∧ Q (.str (i ++ j)) H) ∨ rCatA K x y H Q) ∨ rCatL K x y H Q
theorem o_add : OpR X (binaryOp .Add) (rAdd3 X.K) := OpR.or (OpR.or (OpR.or op_add op_add_str) op_catA) op_catL
theorem Reps.nil_iff {G : Gc} {F : Own} {H : Hp} {ds : List D} {vs : List V} (h : Reps G F H ds vs) : vs = [] ↔ ds = [] := by
  have e := h.length
  constructor
  · intro q; rw [q] at e; exact List.eq_nil_of_length_eq_zero e.symm
  · intro q; rw [q] at e; exact List.eq_nil_of_length_eq_zero e
theorem dom_no {F : Own} {H : Hp} {p : Addr} (dom : ∀ a, F a → H a ≠ none) (h : H p = none) : ¬ F p := fun q => dom p q h
theorem RepV.tupR {G : Gc} {F : Own} {H : Hp} {ds : List D} {v : V} (h : RepV G F H (.tup ds) v) : Rep G F H (.tup ds) v := by
  rcases h with h | ⟨m, fp, e, _⟩
  · exact h
  · cases m <;> cases e
theorem d_add : Des M (rAdd3 M.G.K) (Rep M.G) dAdd := by
  intro F σ x y v w H Q dom hx hy hq
  unfold dAdd at hq
  split at hq
  · exact .inl (.inl (.inl ⟨_, _, hx.int, hy.int, post_ok hq Rep.int_⟩))
  · split at hq
    · rename_i h
      exact .inl (.inl (.inr ⟨_, _, hx.str, hy.str, h, post_ok hq Rep.str_⟩))
    · exact hq.elim
  · split at hq
    · rename_i xs ys h
      have hx' := hx.tupR
      have hy' := hy.tupR
      have hx := hx'
      have hy := hy'
      unfold Rep at hx hy
      obtain ⟨a, vs, rfl, ha, ra⟩ := hx
      obtain ⟨b, ws, rfl, hb, rb⟩ := hy
      refine .inl (.inr ⟨a, b, vs, ws, rfl, rfl, ha.sq, hb.sq, by rw [ra.length, rb.length]; exact h, fun e => ?_, fun e1 e2 => ?_, fun _ _ p np => ?_⟩)
      · have z := ra.nil_iff.mp e
        subst z
        exact post_ok hq hy'
      · have z := rb.nil_iff.mp e2
        subst z
        rw [List.append_nil] at hq
        exact post_ok hq hx'
      · have s : Same H (upd H p (.tup (vs ++ ws))) := fun c o e => by rw [upd_ne (ne_of_none e np)]; exact e
        exact hq _ _ s (Rep.tup_ (dom_no dom np) upd_same ((ra.mono (Fz.same s)).append (rb.mono (Fz.same s))))
    · exact hq.elim
  · split at hq
    · rename_i xs ys h
      obtain ⟨a, vs, rfl, ha, ra⟩ := hx.lst
      obtain ⟨b, ws, rfl, hb, rb⟩ := hy.lst
      refine .inr ⟨a, b, vs, ws, rfl, rfl, ha, hb, by rw [ra.length, rb.length]; exact h, fun p np => ?_⟩
      have s : Same H (upd H p (.lst (vs ++ ws))) := fun c o e => by rw [upd_ne (ne_of_none e np)]; exact e
      exact hq _ _ s (Rep.lst_ (dom_no dom np) upd_same ((ra.mono (Fz.same s)).append (rb.mono (Fz.same s))))
    · exact hq.elim
  · exact hq.elim

/-! ### ==, in -/
mutual
theorem Rep.dp {G : Gc} {F : Own} {H : Hp} : ∀ {d : D} {v : V}, Rep G F H d v → d.toP.canLay0 = true → Dp G.K H v d.toP
  | .non, _, h, _ => by
    unfold Rep at h
    rw [h]
    exact Dp.non
  | .bl b, _, h, _ => by
    unfold Rep at h
    rw [h]
    exact Dp.bl b
  | .int b, _, h, _ => by
    unfold Rep at h
    rw [h]
    exact Dp.int b
  | .str b, _, h, _ => by
    unfold Rep at h
    rw [h]
    exact Dp.str b
  | .tup ds, _, h, c => by
    unfold Rep at h
    obtain ⟨a, xs, rfl, h1, h2⟩ := h
    exact Dp.tup h1.sq (Reps.dp h2 c)
  | .lst ds, _, h, c => by
    unfold Rep at h
    obtain ⟨a, xs, rfl, h1, h2⟩ := h
    exact Dp.lst h1.sq (Reps.dp h2 c)
  | .ins _ _, _, _, c => Bool.noConfusion (show false = true from c)
theorem Reps.dp {G : Gc} {F : Own} {H : Hp} : ∀ {ds : List D} {vs : List V}, Reps G F H ds vs → PyData.canLayAll0 (D.toPs ds) = true → DpAll G.K H vs (D.toPs ds)
  | [], _, h, _ => by
    unfold Reps at h
    rw [h]
    exact DpAll.nil
  | d :: ds, _, h, c => by
    unfold Reps at h
    obtain ⟨v, r, rfl, h1, h2⟩ := h
    have c' : (d.toP.canLay0 && PyData.canLayAll0 (D.toPs ds)) = true := c
    obtain ⟨c1, c2⟩ := Bool.and_eq_true_iff.mp c'
    exact DpAll.cons (Rep.dp h1 c1) (Reps.dp h2 c2)
end
theorem RepV.dp {G : Gc} {F : Own} {H : Hp} {d : D} {v : V} (h : RepV G F H d v) (c : d.shaped = true) : Dp G.K H v d.toP := by
  have c1 := SeqAt.canLay_of_shaped c
  rcases h with h | ⟨m, fp, e, h⟩
  · exact h.dp c1
  · cases m with
    | lst ds =>
      subst e
      obtain ⟨p, xs, rfl, _, e3, r⟩ := h
      exact Dp.lst (.inl (.inl e3)) (r.dp c1)
    | ins c fs =>
      subst e
      exact Bool.noConfusion (show false = true from c1)
theorem d_eq : Des M (rEqD M.G.K) (Rep M.G) dEq := by
  intro F σ x y v w H Q dom hx hy hq
  unfold dEq at hq
  split at hq
  · rename_i h
    exact ⟨_, _, hx.dp h.1, hy.dp h.2, h.1, h.2, post_ok hq Rep.bl_⟩
  · exact hq.elim
theorem d_ne : Des M (rNeD M.G.K) (Rep M.G) dNe := by
  intro F σ x y v w H Q dom hx hy hq
  unfold dNe at hq
  split at hq
  · rename_i h
    exact ⟨_, _, hx.dp h.1, hy.dp h.2, h.1, h.2, post_ok hq Rep.bl_⟩
  · exact hq.elim
/-- x in a list or a tuple -/
def rInA (K : PySem.W.Frag) (neg : Bool) : R2 := fun x y H Q => ∃ d ds, Dp K H x d ∧ (Dp K H y (.list ds) ∨ Dp K H y (.tuple ds)) ∧ SeqAt.shaped d = true ∧ PyData.canLayAll0 ds = true ∧ Q (.bl (if neg then !ds.any fun z => PyData.eqv z d else ds.any fun z => PyData.eqv z d)) H
theorem o_in (hu : X.A.units + 65 < cLine) : OpR X (compareOp .In) (rInA X.K false) := by
  intro pins s σ H x y v u Q I rx ry h
  obtain ⟨d, ds, hd, he, sd, se, q⟩ := h
  obtain ⟨as, r1⟩ := Dp.reads I d x v hd rx
  rcases he with he | he
  · obtain ⟨bs, r2⟩ := Dp.reads I (.list ds) y u he ry
    exact SeqAt.in_list_reads r2 r1 se (SeqAt.canLay_of_shaped sd) (PyProof.Rows.room_in_shaped sd hu) ⟨.bl _, H, I, rfl, q⟩
  · obtain ⟨bs, r2⟩ := Dp.reads I (.tuple ds) y u he ry
    exact SeqAt.in_tuple_reads r2 r1 se (SeqAt.canLay_of_shaped sd) (PyProof.Rows.room_in_shaped sd hu) ⟨.bl _, H, I, rfl, q⟩
theorem o_notIn (hu : X.A.units + 65 < cLine) : OpR X (compareOp .NotIn) (rInA X.K true) := by
  intro pins s σ H x y v u Q I rx ry h
  obtain ⟨d, ds, hd, he, sd, se, q⟩ := h
  obtain ⟨as, r1⟩ := Dp.reads I d x v hd rx
  rcases he with he | he
  · obtain ⟨bs, r2⟩ := Dp.reads I (.list ds) y u he ry
    exact SeqAt.notIn_list_reads r2 r1 se (SeqAt.canLay_of_shaped sd) (PyProof.Rows.room_in_shaped sd hu) ⟨.bl _, H, I, rfl, q⟩
  · obtain ⟨bs, r2⟩ := Dp.reads I (.tuple ds) y u he ry
    exact SeqAt.notIn_tuple_reads r2 r1 se (SeqAt.canLay_of_shaped sd) (PyProof.Rows.room_in_shaped sd hu) ⟨.bl _, H, I, rfl, q⟩
theorem any_toPs (x : PyData) : ∀ ds : List D, (D.toPs ds).any (fun z => PyData.eqv z x) = ds.any fun z => PyData.eqv z.toP x
  | [] => rfl
  | d :: ds => by
    rw [D.toPs, List.any_cons, List.any_cons, any_toPs x ds]
theorem in_dp {G : Gc} {F : Own} {H : Hp} {y : D} {ds : List D} {v : V} (e : y.items = some ds) (h : RepV G F H y v) (c : y.shaped = true) : (Dp G.K H v (.list (D.toPs ds)) ∨ Dp G.K H v (.tuple (D.toPs ds))) ∧ PyData.canLayAll0 (D.toPs ds) = true := by
  have c1 := SeqAt.canLay_of_shaped c
  have z := h.dp c
  cases y with
  | tup xs =>
    cases e
    exact ⟨.inr z, c1⟩
  | lst xs =>
    cases e
    exact ⟨.inl z, c1⟩
  | _ => cases e
theorem d_in : Des M (rInA M.G.K false) (Rep M.G) dIn := by
  intro F σ x y v w H Q dom hx hy hq
  unfold dIn dInB at hq
  split at hq
  · rename_i ds e
    split at hq
    · rename_i h
      obtain ⟨z1, z2⟩ := in_dp e hy h.2
      refine ⟨_, _, hx.dp h.1, z1, h.1, z2, ?_⟩
      rw [if_neg Bool.false_ne_true, any_toPs]
      exact post_ok hq Rep.bl_
    · exact hq.elim
  · exact hq.elim
theorem d_notIn : Des M (rInA M.G.K true) (Rep M.G) dNotIn := by
  intro F σ x y v w H Q dom hx hy hq
  unfold dNotIn dInB at hq
  split at hq
  · rename_i ds e
    split at hq
    · rename_i h
      obtain ⟨z1, z2⟩ := in_dp e hy h.2
      refine ⟨_, _, hx.dp h.1, z1, h.1, z2, ?_⟩
      rw [if_pos rfl, any_toPs]
      exact post_ok hq Rep.bl_
    · exact hq.elim
  · exact hq.elim
/-! ### is -/
def rIs3 : R2 := fun x y H Q => ∃ b : Bool, y = .bl b ∧ Q (.bl (decide (x = .bl b))) H
theorem op_is3 : OpR X (compareOp .Is) rIs3 := by
  intro pins s σ H x y v u Q I rx ry h
  obtain ⟨b, rfl, q⟩ := h
  cases (show u = Value.bool b from ry)
  have fin : ∀ z : Bool, plainIs v (.bool b) = true → (v == Value.bool b) = z → decide (x = V.bl b) = z → wpAny (model X.prog X.w) X.A (compareOp .Is v (.bool b)) (EP X pins σ Q) X.xe s := fun z h1 h2 h3 => by
    show wpAny _ _ ((isSame v (Value.bool b)) >>= fun z => pure (Value.bool z)) _ _ s
    exact wpAny_bind (wpAny_isSame_plain h1 (wpAny_pure (fin_bl I q (by rw [h2, h3]))))
  cases x with
  | ref a => cases rx; exact fin false rfl rfl (by simp)
  | non => cases rx; exact fin false rfl rfl (by simp)
  | bl a =>
    cases (show v = Value.bool a from rx)
    exact fin (decide (a = b)) rfl (by cases a <;> cases b <;> rfl) (by cases a <;> cases b <;> simp)
  | int i => obtain ⟨t, rfl⟩ := rx; exact fin false rfl rfl (by simp)
  | str x => obtain ⟨t, rfl⟩ := rx; exact fin false rfl rfl (by simp)
  | byt x => obtain ⟨t, rfl⟩ := rx; exact fin false rfl rfl (by simp)
  | flt x => obtain ⟨t, rfl⟩ := rx; exact fin false rfl rfl (by simp)
  | ty n => cases rx; exact fin false rfl rfl (by simp)
def rIs2 : R2 := fun x y H Q => (y = .non ∧ Q (.bl (decide (x = .non))) H) ∨ rIs3 x y H Q
theorem o_is : OpR X (compareOp .Is) rIs2 := OpR.or op_isN op_is3
theorem RepV.isB {G : Gc} {F : Own} {H : Hp} {d : D} {v : V} {c : Bool} (h : RepV G F H d v) : decide (v = .bl c) = d.isBl c := by
  cases d with
  | non => rw [h.non]; rfl
  | bl b => rw [h.bl]; cases b <;> cases c <;> rfl
  | int b => rw [h.int]; rfl
  | str b => rw [h.str]; rfl
  | tup ds => obtain ⟨a, _, e, _⟩ := h.tup; rw [e]; rfl
  | lst ds => obtain ⟨a, _, e, _⟩ := h.lst; rw [e]; rfl
  | ins cc fs => obtain ⟨_, _, _, e, _⟩ := h.ins; rw [e]; rfl
theorem RepV.isN {G : Gc} {F : Own} {H : Hp} {d : D} {v : V} (h : RepV G F H d v) : decide (v = .non) = d.isNon := by
  cases d with
  | non => rw [h.non]; rfl
  | bl b => rw [h.bl]; rfl
  | int b => rw [h.int]; rfl
  | str b => rw [h.str]; rfl
  | tup b =>
    obtain ⟨p, xs, e, _⟩ := h.tup
    rw [e]; rfl
  | lst b =>
    obtain ⟨p, xs, e, _⟩ := h.lst
    rw [e]; rfl
  | ins c b =>
    obtain ⟨p, xs, us, e, _⟩ := h.ins
    rw [e]; rfl
theorem d_is : Des M rIs2 (Rep M.G) dIs := by
  intro F σ x y v w H Q dom hx hy hq
  unfold dIs at hq
  split at hq
  · refine .inl ⟨hy.non, ?_⟩
    rw [hx.isN]
    exact post_ok hq Rep.bl_
  · refine .inr ⟨_, hy.bl, ?_⟩
    rw [hx.isB]
    exact post_ok hq Rep.bl_
  · exact hq.elim
theorem d_isNot : Des M (fun x y H Q => y = .non ∧ Q (.bl (!decide (x = .non))) H) (Rep M.G) dIsNot := by
  intro F σ x y v w H Q dom hx hy hq
  unfold dIsNot at hq
  split at hq
  · refine ⟨hy.non, ?_⟩
    rw [hx.isN]
    exact post_ok hq Rep.bl_
  · exact hq.elim

/-! ### a[i] -/
theorem Reps.atI {G : Gc} {F : Own} {H : Hp} {ds : List D} {vs : List V} {i : Int} {d : D} (h : Reps G F H ds vs) (e : L2.atI ds i = some d) : ∃ v, L2.atI vs i = some v ∧ Rep G F H d v := by
  unfold L2.atI at e ⊢
  rw [h.length]
  cases q : ixN ds.length i with
  | none => rw [q] at e; cases e
  | some j =>
    rw [q] at e
    exact h.get e
theorem d_ix : Des M (rIx M.G.K) (Rep M.G) dIx := by
  intro F σ x y v w H Q dom hx hy hq
  unfold dIx at hq
  split at hq
  · split at hq
    · rename_i e
      obtain ⟨p, xs, rfl, h1, h2⟩ := hx.lst
      obtain ⟨v, e2, r⟩ := h2.atI e
      exact .inl ⟨p, xs, _, v, rfl, hy.int, h1, e2, post_ok hq r⟩
    · exact hq.elim
  · split at hq
    · rename_i e
      obtain ⟨p, xs, rfl, h1, h2⟩ := hx.tup
      obtain ⟨v, e2, r⟩ := h2.atI e
      exact .inr (.inl ⟨p, xs, _, v, rfl, hy.int, h1, e2, post_ok hq r⟩)
    · exact hq.elim
  · split at hq
    · rename_i hz
      split at hq
      · rename_i e
        exact .inr (.inr ⟨_, _, _, hx.str, hy.int, hz, e, post_ok hq Rep.str_⟩)
      · exact hq.elim
    · exact hq.elim
  · exact hq.elim
end

/-! ## the constructs -/
section
variable {M : Fm} {X : Cx} {a b c : Expr} {pos : Pos} {f g h : EF}
theorem m_add (ha : PE X a (tV M f)) (hb : PE X b (tV M g)) (hK : X.K = M.G.K := by rfl) : PE X (.BinOp a .Add b pos) (tE M (eBin dAdd f g)) := m_op (r := rAdd3 M.G.K) (hK ▸ o_add) d_add ha hb
theorem m_sub (ha : PE X a (tV M f)) (hb : PE X b (tV M g)) : PE X (.BinOp a .Sub b pos) (tE M (eBin dSub f g)) := m_op op_sub d_sub ha hb
theorem m_mul (ha : PE X a (tV M f)) (hb : PE X b (tV M g)) : PE X (.BinOp a .Mult b pos) (tE M (eBin dMul f g)) := m_op op_mul d_mul ha hb
theorem m_div (ha : PE X a (tV M f)) (hb : PE X b (tV M g)) : PE X (.BinOp a .FloorDiv b pos) (tE M (eBin dDiv f g)) := m_op op_fdiv d_div ha hb
theorem m_mod (ha : PE X a (tV M f)) (hb : PE X b (tV M g)) : PE X (.BinOp a .Mod b pos) (tE M (eBin dMod f g)) := m_op op_mod d_mod ha hb
theorem m_pow (ha : PE X a (tV M f)) (hb : PE X b (tV M g)) : PE X (.BinOp a .Pow b pos) (tE M (eBin dPow f g)) := m_op op_pow d_pow ha hb
theorem m_lt (ha : PE X a (tV M f)) (hb : PE X b (tV M g)) : PE X (.Compare a [.Lt] [b] pos) (tE M (eBin dLt f g)) := m_cmp op_lt d_lt ha hb (nobehind _ (by decide) (by decide))
theorem m_le (ha : PE X a (tV M f)) (hb : PE X b (tV M g)) : PE X (.Compare a [.LtE] [b] pos) (tE M (eBin dLe f g)) := m_cmp op_le d_le ha hb (nobehind _ (by decide) (by decide))
theorem m_gt (ha : PE X a (tV M f)) (hb : PE X b (tV M g)) : PE X (.Compare a [.Gt] [b] pos) (tE M (eBin dGt f g)) := m_cmp op_gt d_gt ha hb (nobehind _ (by decide) (by decide))
theorem m_ge (ha : PE X a (tV M f)) (hb : PE X b (tV M g)) : PE X (.Compare a [.GtE] [b] pos) (tE M (eBin dGe f g)) := m_cmp op_ge d_ge ha hb (nobehind _ (by decide) (by decide))
theorem m_eq (hu : X.A.units + 65 < cLine) (ha : PE X a (tV M f)) (hb : PE X b (tV M g)) (hK : X.K = M.G.K := by rfl) : PE X (.Compare a [.Eq] [b] pos) (tE M (eBin dEq f g)) :=
  m_cmp (r := rEqD M.G.K) (hK ▸ op_eqD (Nat.lt_of_succ_lt hu)) d_eq ha hb (nobehind _ (by decide) (by decide))
theorem m_ne (hu : X.A.units + 65 < cLine) (ha : PE X a (tV M f)) (hb : PE X b (tV M g)) (hK : X.K = M.G.K := by rfl) : PE X (.Compare a [.NotEq] [b] pos) (tE M (eBin dNe f g)) :=
  m_cmp (r := rNeD M.G.K) (hK ▸ op_neD (Nat.lt_of_succ_lt hu)) d_ne ha hb (nobehind _ (by decide) (by decide))
theorem m_in (hu : X.A.units + 65 < cLine) (ha : PE X a (tV M f)) (hb : PE X b (tV M g)) (hm : behindInMarks .In b = false := by rfl) (hK : X.K = M.G.K := by rfl) : PE X (.Compare a [.In] [b] pos) (tE M (eBin dIn f g)) :=
  m_cmp (r := rInA M.G.K false) (hK ▸ o_in hu) d_in ha hb hm
theorem m_notIn (hu : X.A.units + 65 < cLine) (ha : PE X a (tV M f)) (hb : PE X b (tV M g)) (hm : behindInMarks .NotIn b = false := by rfl) (hK : X.K = M.G.K := by rfl) : PE X (.Compare a [.NotIn] [b] pos) (tE M (eBin dNotIn f g)) :=
  m_cmp (r := rInA M.G.K true) (hK ▸ o_notIn hu) d_notIn ha hb hm
theorem m_is (ha : PE X a (tV M f)) (hb : PE X b (tV M g)) : PE X (.Compare a [.Is] [b] pos) (tE M (eBin dIs f g)) := m_cmp o_is d_is ha hb (nobehind _ (by decide) (by decide))
theorem m_isNot (ha : PE X a (tV M f)) (hb : PE X b (tV M g)) : PE X (.Compare a [.IsNot] [b] pos) (tE M (eBin dIsNot f g)) := m_cmp op_notN d_isNot ha hb (nobehind _ (by decide) (by decide))
theorem m_ix (ha : PE X a (tV M f)) (hb : PE X b (tV M g)) (hs : PlainIx b := by exact fun _ _ => rfl) (hK : X.K = M.G.K := by rfl) : PE X (.Subscript a b pos) (tE M (eBin dIx f g)) :=
  PE.weak (pe_ix (r := rIx M.G.K) (hK ▸ ix_seq) ha hb hs) fun _ _ _ h => w_bin d_ix h
end
end Mi
end
section
set_option maxRecDepth 100000
set_option maxHeartbeats 4000000
namespace Mi
open PySem PySem.Spec PyProof.Rows L2

section
variable {M : Fm} {X : Cx} {a b c e : Expr} {es : List Expr} {pos : Pos} {f g h : EF} {t u : TF} {af : AF}

/-! ## comparisons as tests, chains -/
def CmpOk (X : Cx) (M : Fm) (op : CmpOp) (k : D → D → Res D) : Prop := ∃ r, OpR X (compareOp op) r ∧ Des M r (Rep M.G) k
theorem k_lt : CmpOk X M .Lt dLt := ⟨_, op_lt, d_lt⟩
theorem k_le : CmpOk X M .LtE dLe := ⟨_, op_le, d_le⟩
theorem k_gt : CmpOk X M .Gt dGt := ⟨_, op_gt, d_gt⟩
theorem k_ge : CmpOk X M .GtE dGe := ⟨_, op_ge, d_ge⟩
theorem k_eq (hu : X.A.units + 65 < cLine) (hK : X.K = M.G.K := by rfl) : CmpOk X M .Eq dEq := ⟨_, op_eqD (Nat.lt_of_succ_lt hu), hK ▸ d_eq⟩
theorem k_ne (hu : X.A.units + 65 < cLine) (hK : X.K = M.G.K := by rfl) : CmpOk X M .NotEq dNe := ⟨_, op_neD (Nat.lt_of_succ_lt hu), hK ▸ d_ne⟩
theorem k_in (hu : X.A.units + 65 < cLine) (hK : X.K = M.G.K := by rfl) : CmpOk X M .In dIn := ⟨_, o_in hu, hK ▸ d_in⟩
theorem k_notIn (hu : X.A.units + 65 < cLine) (hK : X.K = M.G.K := by rfl) : CmpOk X M .NotIn dNotIn := ⟨_, o_notIn hu, hK ▸ d_notIn⟩
theorem k_is : CmpOk X M .Is dIs := ⟨_, o_is, d_is⟩
theorem k_isNot : CmpOk X M .IsNot dIsNot := ⟨_, op_notN, d_isNot⟩
theorem c_cmp {op : CmpOp} {k : D → D → Res D} (o : CmpOk X M op k) (ha : PE X a (tV M f)) (hb : PE X b (tV M g)) (h1 : behindInMarks op b = false := by first | exact nobehind _ (by decide) (by decide) | rfl) : PE X (.Compare a [op] [b] pos) (tE M (eBin k f g)) := by
  obtain ⟨r, o, d⟩ := o
  exact m_cmp o d ha hb h1

/-- a value that is a bool, as a test's answer -/
def tfE (f : EF) : TF := fun env => (f env).bind fun d => match d with
  | .bl b => .ok b
  | _ => .stuck
theorem w_test {σ : L2.St} {H : Hp} {Q : Bool → Hp → Prop} (h : tT M (tfE f) σ H Q) : tE M f σ H fun x H' => ∃ k, x = .bl k ∧ Q k H' := by
  obtain ⟨F, env, I, q⟩ := h
  refine ⟨F, env, I, ?_⟩
  unfold tfE at q
  cases r : f env with
  | stuck => rw [r] at q; exact q
  | exc c x => rw [r] at q; exact q
  | ok d =>
    rw [r] at q
    cases d with
    | bl k =>
      intro v H' s hv
      unfold Rep at hv
      exact ⟨k, hv, q H' s⟩
    | _ => exact q.elim
theorem t_cmp {op : CmpOp} {k : D → D → Res D} (o : CmpOk X M op k) (ha : PE X a (tV M f)) (hb : PE X b (tV M g)) (h1 : behindInMarks op b = false := by first | exact nobehind _ (by decide) (by decide) | rfl) : PT X (.Compare a [op] [b] pos) (tT M (tfE (eBin k f g))) := by
  obtain ⟨r, o, d⟩ := o
  exact PT.weak (pt_cmpR o ha hb h1) fun σ H Q q => w_bin d (w_test q)
/-- an expression that gives a bool -/
theorem t_e (h : PE X e (tE M f)) (he : ∀ whole, isTrue e X.env whole = (do let v ← whole; standAt e.pos; holding [v] (truthy v)) := by intro _; rfl) : PT X e (tT M (tfE f)) := PT.weak (pt_val h he) fun σ H Q q => w_test q

/-- a < b < c and its like -/
def eChain (k k' : D → D → Res D) (f g h : EF) : EF := fun env => (f env).bind fun x => (g env).bind fun y => (k x y).bind fun z => match z with
  | .bl true => (h env).bind fun w => k' y w
  | .bl false => .ok (.bl false)
  | _ => .stuck
/-- an expression in hand, then what follows -/
theorem w_then {R R' : RP} {k : D → Res D} {Q : VK} {P : VK} {F : Own} {env : Envt} {σ : L2.St} {H : Hp} (I : EnvOk M F H env σ) (q : post M R F σ H ((f env).bind k) Q)
    (hk : ∀ d v H', Same H H' → R' F H' d v → post M R F σ H' (k d) Q → P v H') : tX M R' f σ H P := by
  refine ⟨F, env, I, ?_⟩
  cases r : f env with
  | stuck => rw [r] at q; exact q
  | exc c x => rw [r] at q; exact q
  | ok d =>
    rw [r] at q
    exact fun v H' s hv => hk d v H' s hv (post.grow s q)
theorem w_chain {r r' : R2} {k k' : D → D → Res D} (d : Des M r (Rep M.G) k) (d' : Des M r' (Rep M.G) k') {σ : L2.St} {H : Hp} {Q : VK} (q : tE M (eChain k k' f g h) σ H Q) : tChain r r' (tV M f) (tV M g) (tV M h) σ H Q := by
  obtain ⟨F, env, I, q⟩ := q
  refine w_then I q fun x v H1 s1 hx q1 => ?_
  have I1 := I.grow s1
  refine w_then I1 q1 fun y w H2 s2 hy q2 => ?_
  have I2 := I1.grow s2
  refine d F σ x y v w H2 _ I2.dom (hx.mono s2) hy ?_
  cases rk : k x y with
  | stuck => rw [rk] at q2; exact q2
  | exc c z => rw [rk] at q2; exact q2
  | ok z =>
    rw [rk] at q2
    intro zv H3 s3 hz
    have I3 := I2.grow s3
    have q3 := post.grow s3 q2
    cases z with
    | bl bb =>
      unfold Rep at hz
      refine ⟨bb, hz, ?_⟩
      cases bb with
      | false =>
        rw [if_neg Bool.false_ne_true]
        exact post_ok q3 Rep.bl_
      | true =>
        rw [if_pos rfl]
        refine w_then I3 q3 fun w' vw H4 s4 hw q4 => ?_
        exact d' F σ y w' w vw H4 Q (I3.grow s4).dom ((hy.mono s3).mono s4) hw q4
    | _ => exact q3.elim
theorem c_chain {op op' : CmpOp} {k k' : D → D → Res D} (o : CmpOk X M op k) (o' : CmpOk X M op' k') (ha : PE X a (tV M f)) (hb : PE X b (tV M g)) (hc : PE X c (tV M h)) (hm : lastMarks [op, op'] [b, c] = false := by with_unfolding_all rfl) :
    PE X (.Compare a [op, op'] [b, c] pos) (tE M (eChain k k' f g h)) := by
  obtain ⟨r, o, d⟩ := o
  obtain ⟨r', o', d'⟩ := o'
  exact PE.weak (pe_chain o o' ha hb hc hm) fun _ _ _ q => w_chain d d' q
theorem t_chain {op op' : CmpOp} {k k' : D → D → Res D} (o : CmpOk X M op k) (o' : CmpOk X M op' k') (ha : PE X a (tV M f)) (hb : PE X b (tV M g)) (hc : PE X c (tV M h)) (hm : lastMarks [op, op'] [b, c] = false := by with_unfolding_all rfl) :
    PT X (.Compare a [op, op'] [b, c] pos) (tT M (tfE (eChain k k' f g h))) := by
  obtain ⟨r, o, d⟩ := o
  obtain ⟨r', o', d'⟩ := o'
  exact PT.weak (pt_chain o o' ha hb hc hm) fun _ _ _ q => w_chain d d' (w_test q)

/-! ## and, or, not -/
def tfAnd (t u : TF) : TF := fun env => (t env).bind fun b => if b = true then u env else .ok false
def tfOr (t u : TF) : TF := fun env => (t env).bind fun b => if b = true then .ok true else u env
def tfNot (t : TF) : TF := fun env => (t env).bind fun b => .ok (!b)
def tpost (M : Fm) (F : Own) (σ : L2.St) (H : Hp) (r : Res Bool) (Q : Bool → Hp → Prop) : Prop := match r with
  | .ok b => ∀ H', Same H H' → Q b H'
  | .exc c x => ∀ cv dd H', Same H H' → ExRep M.G F H' c x cv dd → M.W cv dd σ H'
  | .stuck => False
theorem tpost.grow {F : Own} {σ : L2.St} {H H' : Hp} {r : Res Bool} {Q : Bool → Hp → Prop} (s : Same H H') (h : tpost M F σ H r Q) : tpost M F σ H' r Q := by
  cases r with
  | ok b => exact fun H'' s' => h H'' (s.trans s')
  | exc c x => exact fun cv dd H'' s' q => h cv dd H'' (s.trans s') q
  | stuck => exact h
theorem wt_then {k : Bool → Res Bool} {Q : Bool → Hp → Prop} {P : Bool → Hp → Prop} {F : Own} {env : Envt} {σ : L2.St} {H : Hp} (I : EnvOk M F H env σ) (q : tpost M F σ H ((t env).bind k) Q)
    (hk : ∀ d H', Same H H' → tpost M F σ H' (k d) Q → P d H') : tT M t σ H P := by
  refine ⟨F, env, I, ?_⟩
  cases r : t env with
  | stuck => rw [r] at q; exact q
  | exc c x => rw [r] at q; exact q
  | ok d =>
    rw [r] at q
    exact fun H' s => hk d H' s (tpost.grow s q)
theorem tpost_ok {F : Own} {σ : L2.St} {H : Hp} {d : Bool} {Q : Bool → Hp → Prop} (h : tpost M F σ H (.ok d) Q) : Q d H := h H (Same.refl H)
theorem w_tand {σ : L2.St} {H : Hp} {Q : Bool → Hp → Prop} (q : tT M (tfAnd t u) σ H Q) : tAnd (tT M t) (tT M u) σ H Q := by
  obtain ⟨F, env, I, q⟩ := q
  refine wt_then I q fun d H' s q1 => ?_
  cases d with
  | true =>
    rw [if_pos rfl] at q1 ⊢
    exact ⟨F, env, I.grow s, q1⟩
  | false =>
    rw [if_neg Bool.false_ne_true] at q1 ⊢
    exact tpost_ok q1
theorem w_tor {σ : L2.St} {H : Hp} {Q : Bool → Hp → Prop} (q : tT M (tfOr t u) σ H Q) : tOr (tT M t) (tT M u) σ H Q := by
  obtain ⟨F, env, I, q⟩ := q
  refine wt_then I q fun d H' s q1 => ?_
  cases d with
  | true =>
    rw [if_pos rfl] at q1 ⊢
    exact tpost_ok q1
  | false =>
    rw [if_neg Bool.false_ne_true] at q1 ⊢
    exact ⟨F, env, I.grow s, q1⟩
theorem PW.weak {e : Expr} {t t' : TT} (h : PW X e t) (k : ∀ σ H Q, t' σ H Q → t σ H Q) : PW X e t' := ⟨fun wh pins s σ H Q I q => h.run wh pins s σ H Q I (k σ H Q q)⟩
theorem t_and1 (ha : PT X a (tT M t)) : PW X (.BoolOp .And [a] pos) (tT M t) := pw_and1 ha
theorem t_or1 (ha : PT X a (tT M t)) : PW X (.BoolOp .Or [a] pos) (tT M t) := pw_or1 ha
theorem t_and {rest : List Expr} (ha : PT X a (tT M t)) (hb : PW X (.BoolOp .And (b :: rest) pos) (tT M u)) : PW X (.BoolOp .And (a :: b :: rest) pos) (tT M (tfAnd t u)) := PW.weak (pw_and ha hb) fun _ _ _ q => w_tand q
theorem t_or {rest : List Expr} (ha : PT X a (tT M t)) (hb : PW X (.BoolOp .Or (b :: rest) pos) (tT M u)) : PW X (.BoolOp .Or (a :: b :: rest) pos) (tT M (tfOr t u)) := PW.weak (pw_or ha hb) fun _ _ _ q => w_tor q
theorem t_not (ha : PT X a (tT M t)) : PT X (.UnaryOp .Not a pos) (tT M (tfNot t)) := PT.weak (pt_not ha) fun σ H Q ⟨F, env, I, q⟩ => wt_then I q fun _ _ _ q1 => tpost_ok q1
def eAnd (f g : EF) : EF := fun env => (f env).bind fun d => match d with
  | .bl true => g env
  | .bl false => .ok (.bl false)
  | _ => .stuck
def eOr (f g : EF) : EF := fun env => (f env).bind fun d => match d with
  | .bl false => g env
  | .bl true => .ok (.bl true)
  | _ => .stuck
def eNot (f : EF) : EF := fun env => (f env).bind fun d => match d with
  | .bl b => .ok (.bl (!b))
  | _ => .stuck
theorem m_one {op : BoolOp} (h : PE X a (tE M f)) : PE X (.BoolOp op [a] pos) (tE M f) := pe_one h
theorem m_and {rest : List Expr} (ha : PE X a (tE M f)) (hb : PE X (.BoolOp .And (b :: rest) pos) (tE M g)) : PE X (.BoolOp .And (a :: b :: rest) pos) (tE M (eAnd f g)) := PE.weak (pe_and ha hb) fun σ H Q ⟨F, env, I, q⟩ => by
  refine w_then I q fun d v H' s hv q1 => ?_
  cases d with
  | bl k =>
    unfold Rep at hv
    refine ⟨k, hv, ?_⟩
    cases k with
    | true =>
      rw [if_pos rfl]
      exact ⟨F, env, I.grow s, q1⟩
    | false =>
      rw [if_neg Bool.false_ne_true]
      exact post_ok q1 Rep.bl_
  | _ => exact q1.elim
theorem m_or {rest : List Expr} (ha : PE X a (tE M f)) (hb : PE X (.BoolOp .Or (b :: rest) pos) (tE M g)) : PE X (.BoolOp .Or (a :: b :: rest) pos) (tE M (eOr f g)) := PE.weak (pe_or ha hb) fun σ H Q ⟨F, env, I, q⟩ => by
  refine w_then I q fun d v H' s hv q1 => ?_
  cases d with
  | bl k =>
    unfold Rep at hv
    refine ⟨k, hv, ?_⟩
    cases k with
    | true =>
      rw [if_pos rfl]
      exact post_ok q1 Rep.bl_
    | false =>
      rw [if_neg Bool.false_ne_true]
      exact ⟨F, env, I.grow s, q1⟩
  | _ => exact q1.elim
theorem m_not (ha : PE X a (tE M f)) : PE X (.UnaryOp .Not a pos) (tE M (eNot f)) := PE.weak (pe_not ha) fun σ H Q ⟨F, env, I, q⟩ => by
  refine w_then I q fun d v H' s hv q1 => ?_
  cases d with
  | bl k =>
    unfold Rep at hv
    exact ⟨k, hv, post_ok q1 Rep.bl_⟩
  | _ => exact q1.elim
def eIf (t : TF) (f g : EF) : EF := fun env => match t env with
  | .ok true => f env
  | .ok false => g env
  | .exc c x => .exc c x
  | .stuck => .stuck
theorem m_ifExp {c : Expr} (hc : PT X c (tT M t)) (ha : PE X a (tE M f)) (hb : PE X b (tE M g)) : PE X (.IfExp c a b pos) (tE M (eIf t f g)) := PE.weak (pe_ifExp hc ha hb) fun σ H Q ⟨F, env, I, q⟩ => by
  refine ⟨F, env, I, ?_⟩
  unfold eIf at q
  cases r : t env with
  | stuck => rw [r] at q; exact q
  | exc c x => rw [r] at q; exact q
  | ok d =>
    rw [r] at q
    intro H' s
    cases d with
    | true =>
      rw [if_pos rfl]
      exact ⟨F, env, I.grow s, post.grow s q⟩
    | false =>
      rw [if_neg Bool.false_ne_true]
      exact ⟨F, env, I.grow s, post.grow s q⟩
def eNeg (f : EF) : EF := fun env => (f env).bind fun d => match d with
  | .int i => .ok (.int (-i))
  | _ => .stuck
theorem m_neg (ha : PE X a (tE M f)) : PE X (.UnaryOp .USub a pos) (tE M (eNeg f)) := PE.weak (pe_un un_neg ha) fun σ H Q ⟨F, env, I, q⟩ => by
  refine w_then I q fun d v H' s hv q1 => ?_
  cases d with
  | int k =>
    unfold Rep at hv
    exact ⟨k, hv, post_ok q1 Rep.int_⟩
  | _ => exact q1.elim

/-! ## argument lists, displays -/
def aNil : AF := fun _ => .ok []
def aCons (f : EF) (g : AF) : AF := fun env => (f env).bind fun d => (g env).bind fun ds => .ok (d :: ds)
theorem m_anil : PA X [] (tA M aNil) := PA.weak pa_nil fun σ H Q ⟨F, env, I, q⟩ => q [] H (Same.refl H) Reps.nil
theorem m_acons (ha : PE X e (tE M f)) (hr : PA X es (tA M af)) (hs : starEach (e :: es) X.env = (false, eval e X.env) :: starEach es X.env := by rfl) : PA X (e :: es) (tA M (aCons f af)) := PA.weak (pa_cons ha hr hs) fun σ H Q ⟨F, env, I, q⟩ => by
  refine ⟨F, env, I, ?_⟩
  unfold aCons at q
  cases r : f env with
  | stuck => rw [r] at q; exact q
  | exc c x => rw [r] at q; exact q
  | ok d =>
    rw [r] at q
    intro v H1 s1 hv
    refine ⟨F, env, I.grow s1, ?_⟩
    cases r2 : af env with
    | stuck => rw [show (Res.ok d).bind (fun d => (af env).bind fun ds => Res.ok (d :: ds)) = (af env).bind fun ds => Res.ok (d :: ds) from rfl, r2] at q; exact q
    | exc c x =>
      rw [show (Res.ok d).bind (fun d => (af env).bind fun ds => Res.ok (d :: ds)) = (af env).bind fun ds => Res.ok (d :: ds) from rfl, r2] at q
      exact fun cv dd H' s h => q cv dd H' (s1.trans s) h
    | ok ds =>
      rw [show (Res.ok d).bind (fun d => (af env).bind fun ds => Res.ok (d :: ds)) = (af env).bind fun ds => Res.ok (d :: ds) from rfl, r2] at q
      intro vs H2 s2 hvs
      exact q (v :: vs) H2 (s1.trans s2) (Reps.cons (hv.mono (Fz.same s2)) hvs)
def eTup (g : AF) : EF := fun env => (g env).bind fun ds => if ds.length ≤ sizeLine then .ok (.tup ds) else .stuck
theorem wa_then {k : List D → Res D} {R : RP} {Q : VK} {P : List V → Hp → Prop} {F : Own} {env : Envt} {σ : L2.St} {H : Hp} (I : EnvOk M F H env σ) (q : post M R F σ H ((af env).bind k) Q)
    (hk : ∀ ds vs H', Same H H' → Reps M.G F H' ds vs → post M R F σ H' (k ds) Q → P vs H') : tA M af σ H P := by
  refine ⟨F, env, I, ?_⟩
  cases r : af env with
  | stuck => rw [r] at q; exact q
  | exc c x => rw [r] at q; exact q
  | ok d =>
    rw [r] at q
    exact fun v H' s hv => hk d v H' s hv (post.grow s q)
theorem same_new {H : Hp} {p : Addr} {o : HO} (h : H p = none) : Same H (upd H p o) := fun b x e => by
  rw [upd_ne (ne_of_none e h)]
  exact e
theorem m_tup {x1} (h : PA X es (tA M af)) : PE X (.Tuple es x1 pos) (tE M (eTup af)) := PE.weak (pe_tup h) fun σ H Q ⟨F, env, I, q⟩ => by
  refine wa_then I q fun ds vs H1 s1 hvs q1 => ?_
  by_cases hz : ds.length ≤ sizeLine
  · rw [if_pos hz] at q1
    refine ⟨by rw [hvs.length]; exact hz, fun p np => ?_⟩
    exact q1 _ _ (same_new np) (Rep.tup_ (dom_no (I.grow s1).dom np) upd_same (hvs.mono (Fz.same (same_new np))))
  · rw [if_neg hz] at q1
    exact q1.elim
def oLst (g : AF) : OF := fun env => (g env).bind fun ds => if ds.length ≤ sizeLine then .ok (.lst ds) else .stuck
def opost (M : Fm) (F : Own) (σ : L2.St) (H : Hp) (r : Res Mu) (Q : VK) : Prop := match r with
  | .ok m => ∀ v H' fp, Same H H' → (∀ a ∈ fp, H a = none) → MuRep M.G (plus F fp) H' m v fp → Q v H'
  | .exc c x => ∀ cv dd H', Same H H' → ExRep M.G F H' c x cv dd → M.W cv dd σ H'
  | .stuck => False
theorem opost.grow {F : Own} {σ : L2.St} {H H' : Hp} {r : Res Mu} {Q : VK} (s : Same H H') (h : opost M F σ H r Q) : opost M F σ H' r Q := by
  cases r with
  | ok d => exact fun v H'' fp s' n q => h v H'' fp (s.trans s') (fun a ha => s.free (n a ha)) q
  | exc c x => exact fun cv dd H'' s' q => h cv dd H'' (s.trans s') q
  | stuck => exact h
/-- a new list that is laid at p -/
theorem opost_new {F : Own} {σ : L2.St} {H : Hp} {ds : List D} {vs : List V} {Q : VK} (h : opost M F σ H (.ok (.lst ds)) Q) (r : Reps M.G F H ds vs) {p : Addr} (np : H p = none) : Q (.ref p) (upd H p (.lst vs)) := by
  have n1 : ∀ a ∈ [p], H a = none := fun a ha => by rw [List.mem_singleton.mp ha]; exact np
  exact h _ _ [p] (same_new np) n1 ⟨p, vs, rfl, rfl, upd_same, r.mono (fz_plus (same_new np) n1)⟩
theorem wao_then {k : List D → Res Mu} {Q : VK} {P : List V → Hp → Prop} {F : Own} {env : Envt} {σ : L2.St} {H : Hp} (I : EnvOk M F H env σ) (q : opost M F σ H ((af env).bind k) Q)
    (hk : ∀ ds vs H', Same H H' → Reps M.G F H' ds vs → opost M F σ H' (k ds) Q → P vs H') : tA M af σ H P := by
  refine ⟨F, env, I, ?_⟩
  cases r : af env with
  | stuck => rw [r] at q; exact q
  | exc c x => rw [r] at q; exact q
  | ok d =>
    rw [r] at q
    exact fun v H' s hv => hk d v H' s hv (opost.grow s q)
theorem wo_then {R' : RP} {k : D → Res Mu} {Q : VK} {P : VK} {F : Own} {env : Envt} {σ : L2.St} {H : Hp} (I : EnvOk M F H env σ) (q : opost M F σ H ((f env).bind k) Q)
    (hk : ∀ d v H', Same H H' → R' F H' d v → opost M F σ H' (k d) Q → P v H') : tX M R' f σ H P := by
  refine ⟨F, env, I, ?_⟩
  cases r : f env with
  | stuck => rw [r] at q; exact q
  | exc c x => rw [r] at q; exact q
  | ok d =>
    rw [r] at q
    exact fun v H' s hv => hk d v H' s hv (opost.grow s q)
theorem m_lst (h : PA X es (tA M af)) : PE X (.List es pos) (tO M (oLst af)) := PE.weak (pe_lst h) fun σ H Q ⟨F, env, I, q⟩ => by
  refine wao_then I q fun ds vs H1 s1 hvs q1 => ?_
  by_cases hz : ds.length ≤ sizeLine
  · rw [if_pos hz] at q1
    exact ⟨by rw [hvs.length]; exact hz, fun p np => opost_new q1 hvs np⟩
  · rw [if_neg hz] at q1
    exact q1.elim
end
end Mi
end
section
set_option maxRecDepth 100000
set_option maxHeartbeats 4000000
namespace Mi
open PySem PySem.Spec PyProof.Rows L2

/-- what a context gives -/
structure Cxx (X : Cx) (M : Fm) (k : Nat) : Prop where
  hK : X.K = M.G.K
  calm : X.calm = true
  nd : X.N.Nodup
  hr : Room k X.A
  hp : PassesOwn (model X.prog X.w) X.A X.env X.xe
  tk : Takes X M.W
theorem Cxx.hu {X : Cx} {M : Fm} {k : Nat} (C : Cxx X M k) : X.A.units + 65 < cLine := by have := C.hr.un; omega

section
variable {M : Fm} {X : Cx} {a b c e : Expr} {es : List Expr} {pos : Pos} {f g h : EF} {t u : TF} {af : AF} {st : Stmt} {rest body body2 : List Stmt} {sf sg : SF} {k : Nat}

/-! ## statements -/
def sNil : SF := Out.nx
def sSeq (f g : SF) : SF := fun env => match f env with
  | .nx e => g e
  | .rt d e => .rt d e
  | .bk e => .bk e
  | .ct e => .ct e
  | .exc c x e => .exc c x e
  | .stuck => .stuck
def sAsg (i : Nat) (f : EF) : SF := fun env => match f env with
  | .ok d => .nx (env.set i (.val d))
  | .exc c x => .exc c x env
  | .stuck => .stuck
/-- an instance is not given to the slot of self -/
def ownOk (i : Nat) : Mu → Bool
  | .ins _ _ => i != 0
  | _ => true
theorem ownOk_ne {i : Nat} {m : Mu} (h : ownOk i m = true) : i ≠ 0 ∨ ∀ c fs, m ≠ .ins c fs := by
  cases m with
  | lst ds => exact .inr fun c fs e => by cases e
  | ins c fs => exact .inl (by simpa [ownOk] using h)
def sOwn (i : Nat) (f : OF) : SF := fun env => match f env with
  | .ok m => if ownOk i m = true then .nx (env.set i (.own m)) else .stuck
  | .exc c x => .exc c x env
  | .stuck => .stuck
def sExp (f : EF) : SF := fun env => match f env with
  | .ok _ => .nx env
  | .exc c x => .exc c x env
  | .stuck => .stuck
def sRet (f : EF) : SF := fun env => match f env with
  | .ok d => .rt d env
  | .exc c x => .exc c x env
  | .stuck => .stuck
def sRetN : SF := fun env => .rt .non env
def sIf (t : TF) (f g : SF) : SF := fun env => match t env with
  | .ok true => f env
  | .ok false => g env
  | .exc c x => .exc c x env
  | .stuck => .stuck
def frz (i : Nat) (env : Envt) : Envt := match env[i]? with
  | some (.own m) => env.set i (.val m.d)
  | _ => env
def sFrz (i : Nat) (f : SF) : SF := fun env => f (frz i env)
theorem EnvOk.frz {F : Own} {H : Hp} {env : Envt} {σ : L2.St} (I : EnvOk M F H env σ) (i : Nat) : ∃ F', EnvOk M F' H (frz i env) σ ∧ Fz F H F' H := by
  unfold Mi.frz
  split
  · rename_i m e
    exact I.freeze e
  · exact ⟨F, I, Fz.refl F H⟩
theorem m_frz (i : Nat) (h : PS X st (tS M sf)) : PS X st (tS M (sFrz i sf)) := PS.weak h fun D σ H ⟨F, env, I, q⟩ => by
  obtain ⟨F', I', z⟩ := I.frz i
  exact ⟨F', _, I', spost.grow z q⟩
theorem m_nil : PSs X [] (tS M sNil) := PSs.weak pss_nil fun D σ H ⟨F, env, I, q⟩ => q F σ H I (Fz.refl F H)
theorem m_seq (h1 : PS X st (tS M sf)) (h2 : PSs X rest (tS M sg)) : PSs X (st :: rest) (tS M (sSeq sf sg)) := PSs.weak (pss_cons h1 h2) fun D σ H ⟨F, env, I, q⟩ => by
  refine ⟨F, env, I, ?_⟩
  unfold sSeq at q
  cases r : sf env with
  | nx e2 =>
    rw [r] at q
    exact fun F' σ' H' I' z => ⟨F', e2, I', spost.grow z q⟩
  | rt d e2 => rw [r] at q; exact q
  | bk e2 => rw [r] at q; exact q
  | ct e2 => rw [r] at q; exact q
  | exc c x e2 => rw [r] at q; exact q
  | stuck => rw [r] at q; exact q
theorem m_last (h1 : PS X st (tS M sf)) : PSs X [st] (tS M sf) := pss_one h1
theorem m_pass : PS X (.Pass pos) (tS M sNil) := PS.weak ps_pass fun D σ H ⟨F, env, I, q⟩ => q F σ H I (Fz.refl F H)
def sBrk : SF := Out.bk
def sCont : SF := Out.ct
theorem m_break : PS X (.Break pos) (tS M sBrk) := PS.weak ps_break fun D σ H ⟨F, env, I, q⟩ => q F σ H I (Fz.refl F H)
theorem m_cont : PS X (.Continue pos) (tS M sCont) := PS.weak ps_continue fun D σ H ⟨F, env, I, q⟩ => q F σ H I (Fz.refl F H)
/-- code that is never reached -/
def sNever : SF := fun _ => .stuck
theorem m_never : PS X st (tS M sNever) := PS.weak ps_never fun D σ H ⟨F, env, I, q⟩ => q
theorem m_expr (he : PE X e (tE M f)) (hs : swapsWith e none pos.line X.env = pure false := by rfl) : PS X (.Expr e pos) (tS M (sExp f)) := PS.weak (ps_expr he hs) fun D σ H ⟨F, env, I, q⟩ => by
  refine ⟨F, env, I, ?_⟩
  unfold sExp at q
  cases r : f env with
  | stuck => rw [r] at q; exact q
  | exc c x => rw [r] at q; exact fun cv dd H' s z => q F cv dd σ H' (I.grow s) (Fz.same s) z
  | ok d =>
    rw [r] at q
    exact fun v H' s hv => q F σ H' (I.grow s) (Fz.same s)
theorem m_ret (he : PE X e (tE M f)) : PS X (.Return (some e) pos) (tS M (sRet f)) := PS.weak (ps_ret he) fun D σ H ⟨F, env, I, q⟩ => by
  refine ⟨F, env, I, ?_⟩
  unfold sRet at q
  cases r : f env with
  | stuck => rw [r] at q; exact q
  | exc c x => rw [r] at q; exact fun cv dd H' s z => q F cv dd σ H' (I.grow s) (Fz.same s) z
  | ok d =>
    rw [r] at q
    exact fun v H' s hv => q F v σ H' (I.grow s) (Fz.same s) hv
theorem m_retN : PS X (.Return none pos) (tS M sRetN) := PS.weak ps_retN fun D σ H ⟨F, env, I, q⟩ => q F .non σ H I (Fz.refl F H) Rep.non_
theorem m_if {c : Expr} (hc : PT X c (tT M t)) (ha : PSs X body (tS M sf)) (hb : PSs X body2 (tS M sg)) : PS X (.If c body body2 pos) (tS M (sIf t sf sg)) := PS.weak (ps_if hc ha hb) fun D σ H ⟨F, env, I, q⟩ => by
  refine ⟨F, env, I, ?_⟩
  unfold sIf at q
  cases r : t env with
  | stuck => rw [r] at q; exact q
  | exc c x => rw [r] at q; exact fun cv dd H' s z => q F cv dd σ H' (I.grow s) (Fz.same s) z
  | ok d =>
    rw [r] at q
    intro H' s
    cases d with
    | true =>
      rw [if_pos rfl]
      exact ⟨F, env, I.grow s, spost.grow (Fz.same s) q⟩
    | false =>
      rw [if_neg Bool.false_ne_true]
      exact ⟨F, env, I.grow s, spost.grow (Fz.same s) q⟩
/-- x = e -/
theorem w_asg {i : Nat} {D : Ends} {σ : L2.St} {H : Hp} (q : tS M (sAsg i f) D σ H) : tAsg (tE M f) (gName i) D σ H := by
  obtain ⟨F, env, I, q⟩ := q
  refine ⟨F, env, I, ?_⟩
  unfold sAsg at q
  cases r : f env with
  | stuck => rw [r] at q; exact q
  | exc c x => rw [r] at q; exact fun cv dd H' s z => q F cv dd σ H' (I.grow s) (Fz.same s) z
  | ok d =>
    rw [r] at q
    exact fun v H' s hv => q F _ H' ((I.grow s).set_val i hv) (Fz.same s)
theorem w_own {i : Nat} {of : OF} {D : Ends} {σ : L2.St} {H : Hp} (q : tS M (sOwn i of) D σ H) : tAsg (tO M of) (gName i) D σ H := by
  obtain ⟨F, env, I, q⟩ := q
  refine ⟨F, env, I, ?_⟩
  unfold sOwn at q
  cases r : of env with
  | stuck => rw [r] at q; exact q
  | exc c x => rw [r] at q; exact fun cv dd H' s z => q F cv dd σ H' (I.grow s) (Fz.same s) z
  | ok m =>
    rw [r] at q
    dsimp only at q
    by_cases ho : ownOk i m = true
    · rw [if_pos ho] at q
      exact fun v H' fp s n hm => q _ _ H' (I.set_own i s n hm (.inr (ownOk_ne ho))) (fz_plus s n)
    · rw [if_neg ho] at q; exact q.elim
theorem m_asg (C : Cxx X M k) (i : Nat) {x : Str} {pos' : Pos} (he : PE X e (tE M f)) (hi : X.N[i]? = some x := by rfl) (hx : Loc X.env.scope x := by first | exact Or.inl rfl | exact Or.inr rfl) (hs : swapsWith e (some (.Name x pos')) pos.line X.env = pure false := by rfl)
    (hf : X.fn x = true ∨ X.env.scope.names.lookup x = some .local := by first | exact .inl rfl | exact .inr rfl) : PS X (.Assign [.Name x pos'] e pos) (tS M (sAsg i f)) :=
  PS.weak (ps_set C.nd hi hx he hs hf) fun _ _ _ q => w_asg q
theorem m_own (C : Cxx X M k) (i : Nat) {x : Str} {pos' : Pos} {of : OF} (he : PE X e (tO M of)) (hi : X.N[i]? = some x := by rfl) (hx : Loc X.env.scope x := by first | exact Or.inl rfl | exact Or.inr rfl) (hs : swapsWith e (some (.Name x pos')) pos.line X.env = pure false := by rfl)
    (hf : X.fn x = true ∨ X.env.scope.names.lookup x = some .local := by first | exact .inl rfl | exact .inr rfl) : PS X (.Assign [.Name x pos'] e pos) (tS M (sOwn i of)) :=
  PS.weak (ps_set C.nd hi hx he hs hf) fun _ _ _ q => w_own q

/-! ### targets -/
abbrev GF := D → Envt → Option Envt
/-- the slots outside of ix stay -/
def Outs (ix : List Nat) (σ σ' : L2.St) : Prop := σ'.length = σ.length ∧ ∀ j, j ∉ ix → σ'[j]? = σ[j]?
theorem Outs.refl (ix : List Nat) (σ : L2.St) : Outs ix σ σ := ⟨rfl, fun _ _ => rfl⟩
def tG (M : Fm) (ix : List Nat) (gf : GF) : TG := fun v σ H Q => ∃ F env d, EnvOk M F H env σ ∧ Rep M.G F H d v ∧ match gf d env with
  | some env' => ∀ σ', EnvOk M F H env' σ' → Outs ix σ σ' → Q σ' H
  | none => False
abbrev GFs := List D → Envt → Option Envt
def tGs (M : Fm) (ix : List Nat) (gf : GFs) : TGs := fun vs σ H Q => ∃ F env ds, EnvOk M F H env σ ∧ Reps M.G F H ds vs ∧ match gf ds env with
  | some env' => ∀ σ', EnvOk M F H env' σ' → Outs ix σ σ' → Q σ' H
  | none => False
theorem PG.weak {e : Expr} {t t' : TG} (h : PG X e t) (w : ∀ v σ H Q, t' v σ H Q → t v σ H Q) : PG X e t' := ⟨fun pins s σ H v u Q I r q => h.run pins s σ H v u Q I r (w v σ H Q q)⟩
theorem PGs.weak {e : List Expr} {t t' : TGs} (h : PGs X e t) (w : ∀ v σ H Q, t' v σ H Q → t v σ H Q) : PGs X e t' := ⟨fun pins s σ H v u Q I r q => h.run pins s σ H v u Q I r (w v σ H Q q)⟩
def gaName (i : Nat) : GF := fun d env => some (env.set i (.val d))
def gaNil : GFs := fun ds env => match ds with
  | [] => some env
  | _ => none
def gaCons (g : GF) (gs : GFs) : GFs := fun ds env => match ds with
  | d :: r => (g d env).bind fun env1 => gs r env1
  | [] => none
def gaTup (n : Nat) (gs : GFs) : GF := fun d env => match d with
  | .tup ds => if ds.length = n then gs ds env else none
  | _ => none
theorem m_gname (nd : X.N.Nodup) (i : Nat) {x : Str} {pos : Pos} (hi : X.N[i]? = some x := by rfl) (hx : Loc X.env.scope x := by first | exact Or.inl rfl | exact Or.inr rfl)
    (hf : X.fn x = true ∨ X.env.scope.names.lookup x = some .local := by first | exact .inl rfl | exact .inr rfl) : PG X (.Name x pos) (tG M [i] (gaName i)) := PG.weak (pg_name nd hi hx hf) fun v σ H Q ⟨F, env, d, I, r, q⟩ =>
  q _ (I.set_val i r) ⟨List.length_set, fun j hj => List.getElem?_set_ne (fun e => hj (by rw [e]; exact List.mem_singleton.mpr rfl))⟩
theorem m_gnil : PGs X [] (tGs M [] gaNil) := PGs.weak pgs_nil fun vs σ H Q ⟨F, env, ds, I, r, q⟩ => by
  unfold gaNil at q
  cases ds with
  | nil =>
    unfold Reps at r
    exact ⟨r, q σ I (Outs.refl _ _)⟩
  | cons d ds => exact q.elim
theorem m_gcons {ga : GF} {gs : GFs} {ix iy : List Nat} (h1 : PG X e (tG M ix ga)) (h2 : PGs X es (tGs M iy gs)) (hs : (assignEach (e :: es) X.env).map (·.2) = assign e X.env :: (assignEach es X.env).map (·.2) := by rfl) : PGs X (e :: es) (tGs M (ix ++ iy) (gaCons ga gs)) := PGs.weak (pgs_cons h1 h2 hs) fun vs σ H Q ⟨F, env, ds, I, r, q⟩ => by
  unfold gaCons at q
  cases ds with
  | nil => exact q.elim
  | cons d ds =>
    unfold Reps at r
    obtain ⟨v, vr, rfl, r1, r2⟩ := r
    refine ⟨v, vr, rfl, F, env, d, I, r1, ?_⟩
    dsimp only at q
    cases e1 : ga d env with
    | none => rw [e1] at q; exact q
    | some env1 =>
      rw [e1] at q
      have q : match gs ds env1 with
        | some env' => ∀ σ', EnvOk M F H env' σ' → Outs (ix ++ iy) σ σ' → Q σ' H
        | none => False := q
      refine fun σ1 I1 o1 => ⟨F, env1, ds, I1, r2, ?_⟩
      cases e2 : gs ds env1 with
      | none => rw [e2] at q; exact q
      | some env2 =>
        rw [e2] at q
        exact fun σ2 I2 o2 => q σ2 I2 ⟨o2.1.trans o1.1, fun j hj => (o2.2 j fun z => hj (List.mem_append_right _ z)).trans (o1.2 j fun z => hj (List.mem_append_left _ z))⟩
theorem m_gtup {gs : GFs} {kk n : Nat} {ix : List Nat} (hK : X.K = M.G.K) (hc : X.calm = true) (h : PGs X es (tGs M ix gs)) (hn : (assignEach es X.env).length = n := by rfl) (hst : (assignEach es X.env).findIdx? (·.1) = none := by rfl) : PG X (.Tuple es kk pos) (tG M ix (gaTup n gs)) := PG.weak (pg_tup hc h hn hst) fun v σ H Q ⟨F, env, d, I, r, q⟩ => by
  unfold gaTup at q
  cases d with
  | tup ds =>
    dsimp only at q
    by_cases hl : ds.length = n
    · rw [if_pos hl] at q
      obtain ⟨p, xs, rfl, h1, h2⟩ := r.view.tup
      exact ⟨p, xs, rfl, hK ▸ h1, by rw [h2.length]; exact hl, F, env, ds, I, h2, q⟩
    · rw [if_neg hl] at q
      exact q.elim
  | _ => exact q.elim
/-- a, b = e -/
def sAsgG (ga : GF) (f : EF) : SF := fun env => match f env with
  | .ok d => (match ga d env with
    | some env' => .nx env'
    | none => .stuck)
  | .exc c x => .exc c x env
  | .stuck => .stuck
theorem m_asgG {tg : Expr} {ga : GF} {ix : List Nat} (he : PE X e (tE M f)) (hg : PG X tg (tG M ix ga)) (hs : swapsWithSole [tg] e pos.line X.env = pure false := by rfl) (hw : swappedStores [tg] e X.env = pure none := by rfl)
    (h1 : (assignEach [tg] X.env).map (·.2) = [assign tg X.env] := by rfl) : PS X (.Assign [tg] e pos) (tS M (sAsgG ga f)) := PS.weak (ps_asg he hg hs hw h1) fun D σ H ⟨F, env, I, q⟩ => by
  refine ⟨F, env, I, ?_⟩
  unfold sAsgG at q
  cases r : f env with
  | stuck => rw [r] at q; exact q
  | exc c x => rw [r] at q; exact fun cv dd H' s z => q F cv dd σ H' (I.grow s) (Fz.same s) z
  | ok d =>
    rw [r] at q
    intro v H' s hv
    refine ⟨F, env, d, I.grow s, hv, ?_⟩
    have q2 : spost M F H (match ga d env with
      | some env' => .nx env'
      | none => .stuck) D := q
    cases r2 : ga d env with
    | none => rw [r2] at q2; exact q2
    | some env' => rw [r2] at q2; exact fun σ' I' _ => q2 F σ' H' I' (Fz.same s)

/-! ### what is walked -/
/-- J hands out the data ds, as long as what was frozen at (F0, H0) stays -/
structure ItOk (M : Fm) (J : It) (F0 : Own) (H0 : Hp) (ds : List D) : Prop where
  go : ∀ i F H, Fz F0 H0 F H → i < ds.length → J.go i H
  yld : ∀ i F H x H', Fz F0 H0 F H → (∀ a, F a → H a ≠ none) → i < ds.length → J.yld i H x H' → ∃ d, ds[i]? = some d ∧ Same H H' ∧ Rep M.G F H' d x
  stop : ∀ i F H, Fz F0 H0 F H → ds.length ≤ i → J.stop i H
abbrev IF := Envt → Res (List D)
def tI (M : Fm) (f : IF) : TI := fun σ H R => ∃ F env, EnvOk M F H env σ ∧ match f env with
  | .ok ds => ∀ J H', Same H H' → ItOk M J F H' ds → R J H'
  | .exc c x => ∀ cv dd H', Same H H' → ExRep M.G F H' c x cv dd → M.W cv dd σ H'
  | .stuck => False
def forL (ga : GF) (body : SF) : List D → Envt → Out
  | [], env => .nx env
  | d :: ds, env => match ga d env with
    | none => .stuck
    | some env1 => match body env1 with
      | .nx e => forL ga body ds e
      | .ct e => forL ga body ds e
      | .bk e => .nx e
      | .rt d e => .rt d e
      | .exc c x e => .exc c x e
      | .stuck => .stuck
def sFor (ga : GF) (it : IF) (body : SF) : SF := fun env => match it env with
  | .ok ds => forL ga body ds env
  | .exc c x => .exc c x env
  | .stuck => .stuck
theorem PI.weak {tg iter : Expr} {t t' : TI} (h : PI X tg iter t) (w : ∀ σ H R, t' σ H R → t σ H R) : PI X tg iter t' := ⟨fun pins s σ H R I q => h.run pins s σ H R I (w σ H R q)⟩
theorem m_for (C : Cxx X M k) {tg iter : Expr} {ga : GF} {it : IF} {ix : List Nat} (hi : PI X tg iter (tI M it)) (hg : PG X tg (tG M ix ga)) (hb : PSs X body (tS M sf)) (hs : ∀ x, foldedSetIterable iter X.env x = pure x := by intro _; rfl) :
    PS X (.For tg iter body [] pos) (tS M (sFor ga it sf)) := PS.weak (ps_for C.hp C.calm hi hg hb hs) fun D σ H ⟨F, env, I, q⟩ => by
  refine ⟨F, env, I, ?_⟩
  unfold sFor at q
  cases r : it env with
  | stuck => rw [r] at q; exact q
  | exc c x => rw [r] at q; exact fun cv dd H' s z => q F cv dd σ H' (I.grow s) (Fz.same s) z
  | ok ds =>
    rw [r] at q
    intro J H1 s1 hJ
    refine ⟨fun i m σ' H' => ∃ F' env', m = ds.length - i ∧ i ≤ ds.length ∧ EnvOk M F' H' env' σ' ∧ Fz F H1 F' H' ∧ spost M F' H' (forL ga sf (ds.drop i) env') D,
      ⟨_, F, env, rfl, Nat.zero_le _, I.grow s1, Fz.refl _ _, spost.grow (Fz.same s1) (by rw [List.drop_zero]; exact q)⟩, ?_⟩
    rintro i m σ' H' ⟨F', env', rfl, hle, I', z', q'⟩
    by_cases hlt : i < ds.length
    · refine .inr ⟨hJ.go i F' H' z' hlt, ?_⟩
      refine ⟨fun σ2 H2 => ∃ F2 env2, EnvOk M F2 H2 env2 σ2 ∧ Fz F H1 F2 H2 ∧ spost M F2 H2 (forL ga sf (ds.drop (i + 1)) env2) D, fun σ2 H2 ⟨F2, env2, I2, z2, q2⟩ => ⟨ds.length - (i + 1), by omega, F2, env2, rfl, hlt, I2, z2, q2⟩, fun x H2 hy => ?_⟩
      obtain ⟨d, hd, s2, hr⟩ := hJ.yld i F' H' x H2 z' I'.dom hlt hy
      have e1 : ds.drop i = d :: ds.drop (i + 1) := by
        rw [List.drop_eq_getElem_cons hlt]
        rw [List.getElem?_eq_getElem hlt] at hd
        rw [Option.some.inj hd]
      rw [e1] at q'
      refine ⟨F', env', d, I'.grow s2, hr, ?_⟩
      have q2 : spost M F' H' (match ga d env' with
        | none => .stuck
        | some env1 => match sf env1 with
          | .nx e => forL ga sf (ds.drop (i + 1)) e
          | .ct e => forL ga sf (ds.drop (i + 1)) e
          | .bk e => .nx e
          | .rt d e => .rt d e
          | .exc c x e => .exc c x e
          | .stuck => .stuck) D := q'
      cases r2 : ga d env' with
      | none => rw [r2] at q2; exact q2
      | some env1 =>
        rw [r2] at q2
        intro σ1 I1 _
        refine ⟨F', env1, I1, ?_⟩
        have q2 : spost M F' H' (match sf env1 with
          | .nx e => forL ga sf (ds.drop (i + 1)) e
          | .ct e => forL ga sf (ds.drop (i + 1)) e
          | .bk e => .nx e
          | .rt d e => .rt d e
          | .exc c x e => .exc c x e
          | .stuck => .stuck) D := q2
        cases r3 : sf env1 with
        | nx e => rw [r3] at q2; exact fun F3 σ3 H3 I3 z3 => ⟨F3, e, I3, (z'.trans (Fz.same s2)).trans z3, spost.grow ((Fz.same s2).trans z3) q2⟩
        | ct e => rw [r3] at q2; exact fun F3 σ3 H3 I3 z3 => ⟨F3, e, I3, (z'.trans (Fz.same s2)).trans z3, spost.grow ((Fz.same s2).trans z3) q2⟩
        | bk e => rw [r3] at q2; exact fun F3 σ3 H3 I3 z3 => q2 F3 σ3 H3 I3 ((Fz.same s2).trans z3)
        | rt d e => rw [r3] at q2; exact fun F3 v σ3 H3 I3 z3 => q2 F3 v σ3 H3 I3 ((Fz.same s2).trans z3)
        | exc c x e => rw [r3] at q2; exact fun F3 cv dd σ3 H3 I3 z3 => q2 F3 cv dd σ3 H3 I3 ((Fz.same s2).trans z3)
        | stuck => rw [r3] at q2; exact q2
    · have e : i = ds.length := by omega
      subst e
      refine .inl ⟨hJ.stop _ F' H' z' (Nat.le_refl _), ?_⟩
      rw [List.drop_length] at q'
      exact q' F' σ' H' I' (Fz.refl _ _)
/-! ### while -/
def whileL (c : TF) (body : SF) : Nat → Envt → Out
  | 0, _ => .stuck
  | n + 1, env => match c env with
    | .ok true => (match body env with
      | .nx e => whileL c body n e
      | .ct e => whileL c body n e
      | .bk e => .nx e
      | .rt d e => .rt d e
      | .exc c x e => .exc c x e
      | .stuck => .stuck)
    | .ok false => .nx env
    | .exc c x => .exc c x env
    | .stuck => .stuck
def sWhile (fuel : Nat) (c : TF) (body : SF) : SF := whileL c body fuel
theorem m_while (C : Cxx X M k) (fuel : Nat) {c : Expr} (hc : PT X c (tT M t)) (hb : PSs X body (tS M sf)) : PS X (.While c body [] pos) (tS M (sWhile fuel t sf)) := PS.weak (ps_while C.hp hc hb) fun D σ H ⟨F, env, I, q⟩ => by
  refine ⟨fun m σ' H' => ∃ F' env', EnvOk M F' H' env' σ' ∧ spost M F' H' (whileL t sf m env') D, ⟨fuel, F, env, I, q⟩, ?_⟩
  rintro m σ' H' ⟨F', env', I', q'⟩
  refine ⟨F', env', I', ?_⟩
  cases m with
  | zero => exact q'.elim
  | succ m =>
    have q2 : spost M F' H' (match t env' with
      | .ok true => (match sf env' with
        | .nx e => whileL t sf m e
        | .ct e => whileL t sf m e
        | .bk e => .nx e
        | .rt d e => .rt d e
        | .exc c x e => .exc c x e
        | .stuck => .stuck)
      | .ok false => .nx env'
      | .exc c x => .exc c x env'
      | .stuck => .stuck) D := q'
    cases r : t env' with
    | stuck => rw [r] at q2; exact q2
    | exc c x => rw [r] at q2; exact fun cv dd H2 s z => q2 F' cv dd σ' H2 (I'.grow s) (Fz.same s) z
    | ok b =>
      rw [r] at q2
      intro H2 s2
      cases b with
      | false =>
        rw [if_neg Bool.false_ne_true]
        exact q2 F' σ' H2 (I'.grow s2) (Fz.same s2)
      | true =>
        rw [if_pos rfl]
        refine ⟨fun σ3 H3 => ∃ F3 env3, EnvOk M F3 H3 env3 σ3 ∧ spost M F3 H3 (whileL t sf m env3) D, fun σ3 H3 h => ⟨m, Nat.lt_succ_self _, h⟩, F', env', I'.grow s2, ?_⟩
        have q2 : spost M F' H' (match sf env' with
          | .nx e => whileL t sf m e
          | .ct e => whileL t sf m e
          | .bk e => .nx e
          | .rt d e => .rt d e
          | .exc c x e => .exc c x e
          | .stuck => .stuck) D := q2
        cases r3 : sf env' with
        | nx e => rw [r3] at q2; exact fun F3 σ3 H3 I3 z3 => ⟨F3, e, I3, spost.grow ((Fz.same s2).trans z3) q2⟩
        | ct e => rw [r3] at q2; exact fun F3 σ3 H3 I3 z3 => ⟨F3, e, I3, spost.grow ((Fz.same s2).trans z3) q2⟩
        | bk e => rw [r3] at q2; exact fun F3 σ3 H3 I3 z3 => q2 F3 σ3 H3 I3 ((Fz.same s2).trans z3)
        | rt d e => rw [r3] at q2; exact fun F3 v σ3 H3 I3 z3 => q2 F3 v σ3 H3 I3 ((Fz.same s2).trans z3)
        | exc c x e => rw [r3] at q2; exact fun F3 cv dd σ3 H3 I3 z3 => q2 F3 cv dd σ3 H3 I3 ((Fz.same s2).trans z3)
        | stuck => rw [r3] at q2; exact q2
end
end Mi
end
section
set_option maxRecDepth 100000
set_option maxHeartbeats 4000000
namespace Mi
open PySem PySem.Spec PyProof.Rows L2

section
variable {M : Fm} {X : Cx} {a b c e : Expr} {es : List Expr} {pos p : Pos} {f g h : EF} {t u : TF} {af : AF} {st : Stmt} {rest body body2 : List Stmt} {sf sg : SF} {k : Nat} {tg : Expr}

/-! ## what is walked -/
theorem itok_l {F : Own} {H : Hp} {p : Addr} {xs : List V} {ds : List D} (h : LstAt M.G F H p xs) (r : Reps M.G F H ds xs) : ItOk M (Itl M.G.K p) F H ds where
  go := fun i F' H' z hi => ⟨xs, xs[i]'(by rw [r.length]; exact hi), (h.mono z).sq, List.getElem?_eq_getElem _⟩
  yld := fun i F' H' x H2 z dom hi hy => by
    obtain ⟨rfl, hy⟩ := hy
    have e := hy xs (h.mono z).sq
    obtain ⟨d, hd, hr⟩ := (r.mono z).get' e
    exact ⟨d, hd, Same.refl _, hr⟩
  stop := fun i F' H' z hi => ⟨xs, (h.mono z).sq, by rw [r.length]; exact hi⟩
theorem itok_t {F : Own} {H : Hp} {p : Addr} {xs : List V} {ds : List D} (h : TupAt M.G F H p xs) (r : Reps M.G F H ds xs) : ItOk M (Itt M.G.K p) F H ds where
  go := fun i F' H' z hi => ⟨xs, xs[i]'(by rw [r.length]; exact hi), (h.mono z).sq, List.getElem?_eq_getElem _⟩
  yld := fun i F' H' x H2 z dom hi hy => by
    obtain ⟨rfl, hy⟩ := hy
    have e := hy xs (h.mono z).sq
    obtain ⟨d, hd, hr⟩ := (r.mono z).get' e
    exact ⟨d, hd, Same.refl _, hr⟩
  stop := fun i F' H' z hi => ⟨xs, (h.mono z).sq, by rw [r.length]; exact hi⟩
def itSeq (f : EF) : IF := fun env => (f env).bind fun d => match d with
  | .lst ds => .ok ds
  | .tup ds => .ok ds
  | _ => .stuck
theorem m_iseq (hK : X.K = M.G.K) (he : PE X e (tE M f)) : PI X tg e (tI M (itSeq f)) := by
  refine ⟨fun pins s σ H R I hw => ?_⟩
  obtain ⟨F, env, J, q⟩ := hw
  unfold itSeq at q
  cases r : f env with
  | stuck => rw [r] at q; exact q.elim
  | exc c x =>
    refine (pi_list (tl := tE M f) he).run pins s σ H R I ⟨F, env, J, ?_⟩
    rw [r] at q ⊢
    exact q
  | ok d =>
    cases d with
    | lst ds =>
      refine (pi_list (tl := tE M f) he).run pins s σ H R I ⟨F, env, J, ?_⟩
      rw [r] at q ⊢
      intro v H' s' hv
      have hv2 := hv
      unfold Rep at hv2
      obtain ⟨p, xs, rfl, h1, h2⟩ := hv2
      rw [hK]
      exact ⟨p, rfl, ⟨xs, h1.sq⟩, q _ H' s' (itok_l h1 h2)⟩
    | tup ds =>
      refine (pi_tup (tl := tE M f) he).run pins s σ H R I ⟨F, env, J, ?_⟩
      rw [r] at q ⊢
      intro v H' s' hv
      have hv2 := hv
      unfold Rep at hv2
      obtain ⟨p, xs, rfl, h1, h2⟩ := hv2
      rw [hK]
      exact ⟨p, rfl, ⟨xs, h1.sq⟩, q _ H' s' (itok_t h1 h2)⟩
    | _ => rw [r] at q; exact q.elim
def rangeD (lo : Int) : Nat → List D
  | 0 => []
  | n + 1 => .int lo :: rangeD (lo + 1) n
theorem rangeD_length (lo : Int) : ∀ n, (rangeD lo n).length = n
  | 0 => rfl
  | n + 1 => by rw [rangeD, List.length_cons, rangeD_length]
theorem rangeD_get (lo : Int) : ∀ n i, i < n → (rangeD lo n)[i]? = some (.int (lo + i))
  | 0, _, h => absurd h (Nat.not_lt_zero _)
  | n + 1, 0, _ => by simp [rangeD]
  | n + 1, i + 1, h => by
    rw [rangeD, List.getElem?_cons_succ, rangeD_get (lo + 1) n i (by omega)]
    congr 2
    omega
theorem itok_r {F : Own} {H : Hp} {lo : Int} {n : Nat} : ItOk M (Itr lo n) F H (rangeD lo n) where
  go := fun i F' H' z hi => by rw [rangeD_length] at hi; exact hi
  yld := fun i F' H' x H2 z dom hi hy => by
    obtain ⟨rfl, rfl⟩ := hy
    rw [rangeD_length] at hi
    exact ⟨_, rangeD_get lo n i hi, Same.refl _, Rep.int_⟩
  stop := fun i F' H' z hi => by rw [rangeD_length] at hi; exact hi
def itR1 (f : EF) : IF := fun env => (f env).bind fun d => match d with
  | .int j => if j < 2 ^ 62 ∧ -(2 ^ 62) ≤ j then .ok (rangeD 0 j.toNat) else .stuck
  | _ => .stuck
def itR2 (f g : EF) : IF := fun env => (f env).bind fun d => (g env).bind fun d2 => match d, d2 with
  | .int i, .int j => if (-(2 ^ 62) ≤ i ∧ i < 2 ^ 62) ∧ -(2 ^ 62) ≤ j ∧ j < 2 ^ 62 then .ok (rangeD i (j - i).toNat) else .stuck
  | _, _ => .stuck
def ipost (M : Fm) (F : Own) (σ : L2.St) (H : Hp) (r : Res (List D)) (R : It → Hp → Prop) : Prop := match r with
  | .ok ds => ∀ J H', Same H H' → ItOk M J F H' ds → R J H'
  | .exc c x => ∀ cv dd H', Same H H' → ExRep M.G F H' c x cv dd → M.W cv dd σ H'
  | .stuck => False
theorem ipost.grow {F : Own} {σ : L2.St} {H H' : Hp} {r : Res (List D)} {R : It → Hp → Prop} (s : Same H H') (h : ipost M F σ H r R) : ipost M F σ H' r R := by
  cases r with
  | ok b => exact fun J H'' s' => h J H'' (s.trans s')
  | exc c x => exact fun cv dd H'' s' q => h cv dd H'' (s.trans s') q
  | stuck => exact h
theorem wi_then {kk : D → Res (List D)} {R : It → Hp → Prop} {R' : RP} {P : VK} {F : Own} {env : Envt} {σ : L2.St} {H : Hp} (I : EnvOk M F H env σ) (q : ipost M F σ H ((f env).bind kk) R)
    (hk : ∀ d v H', Same H H' → R' F H' d v → ipost M F σ H' (kk d) R → P v H') : tX M R' f σ H P := by
  refine ⟨F, env, I, ?_⟩
  cases r : f env with
  | stuck => rw [r] at q; exact q
  | exc c x => rw [r] at q; exact q
  | ok d =>
    rw [r] at q
    exact fun v H' s hv => hk d v H' s hv (ipost.grow s q)
theorem m_ir1 (C : Cxx X M k) (hm : X.mg "range" = none) (he : PE X a (tV M f)) (hg : Gl X "range" := by rfl) (hs : starEach [a] X.env = (false, eval a X.env) :: starEach [] X.env := by rfl) (hs' : starEach [a] X.env = [(false, eval a X.env)] := by rfl) :
    PI X tg (.Call (.Name "range" p) [a] [] pos) (tI M (itR1 f)) := PI.weak (pi_range1 hg hm (pa_cons he pa_nil hs) hs') fun σ H R ⟨F, env, I, q⟩ => by
  refine wi_then I q fun d v H' s hv q1 => ?_
  cases d with
  | int j =>
    dsimp only at q1
    by_cases hj : j < 2 ^ 62 ∧ -(2 ^ 62) ≤ j
    · rw [if_pos hj] at q1
      rw [hv.int]
      exact ⟨j, rfl, hj.2, hj.1, q1 _ H' (Same.refl _) itok_r⟩
    · rw [if_neg hj] at q1; exact q1.elim
  | _ => exact q1.elim
theorem m_ir2 (C : Cxx X M k) (hm : X.mg "range" = none) (he : PE X a (tV M f)) (he2 : PE X b (tV M g)) (hg : Gl X "range" := by rfl) (hs : starEach [a, b] X.env = (false, eval a X.env) :: starEach [b] X.env := by rfl) (hs1 : starEach [b] X.env = (false, eval b X.env) :: starEach [] X.env := by rfl)
    (hs' : starEach [a, b] X.env = [(false, eval a X.env), (false, eval b X.env)] := by rfl) (hs2 : starEach [b] X.env = [(false, eval b X.env)] := by rfl) :
    PI X tg (.Call (.Name "range" p) [a, b] [] pos) (tI M (itR2 f g)) := PI.weak (pi_range2 hg hm (pa_cons he (pa_cons he2 pa_nil hs1) hs) hs' hs2) fun σ H R ⟨F, env, I, q⟩ => by
  refine wi_then I q fun d v H' s hv q1 => ?_
  refine wi_then (I.grow s) q1 fun d2 v2 H2 s2 hv2 q2 => ?_
  cases d with
  | int i =>
    cases d2 with
    | int j =>
      dsimp only at q2
      by_cases hj : (-(2 ^ 62) ≤ i ∧ i < 2 ^ 62) ∧ -(2 ^ 62) ≤ j ∧ j < 2 ^ 62
      · rw [if_pos hj] at q2
        rw [hv.int, hv2.int]
        exact ⟨i, j, rfl, ⟨hj.1.1, hj.1.2, hj.2.1, hj.2.2⟩, q2 _ H2 (Same.refl _) itok_r⟩
      · rw [if_neg hj] at q2; exact q2.elim
    | _ => exact q2.elim
  | _ => exact q2.elim
/-! ### reversed(x), x a list or a tuple -/
def itRev (f : EF) : IF := fun env => (itSeq f env).bind fun ds => .ok ds.reverse
theorem rev_ix {α : Type} (xs : List α) (i : Nat) (h : i < xs.length) : xs.reverse[i]? = xs[xs.length - 1 - i]? := by
  rw [List.getElem?_reverse h]
theorem m_irev (C : Cxx X M k) (hm : X.mg "reversed" = none) (he : PE X e (tE M f)) (hg : Gl X "reversed" := by rfl) (hs : starEach [e] X.env = (false, eval e X.env) :: starEach [] X.env := by rfl) :
    PI X tg (.Call (.Name "reversed" p) [e] [] pos) (tI M (itRev f)) := PI.weak (RT.pi_revA hg hm he hs) fun σ H R ⟨F, env, I, q⟩ => by
  refine ⟨F, env, I, ?_⟩
  unfold itRev itSeq at q
  cases r : f env with
  | stuck => rw [r] at q; exact q
  | exc c x => rw [r] at q; exact q
  | ok d =>
    rw [r] at q
    intro v H' s hv
    cases d with
    | lst ds =>
      unfold Rep at hv
      obtain ⟨p, xs, rfl, h1, h2⟩ := hv
      refine ⟨p, xs, rfl, .inl ⟨C.hK ▸ h1.sq, q _ H' s ?_⟩⟩
      rw [C.hK]
      have hl := h2.length
      refine ⟨fun i F' H2 z hi => ?_, fun i F' H2 x H3 z dom hi hy => ?_, fun i F' H2 z hi => ?_⟩
      · rw [List.length_reverse] at hi
        exact ⟨by omega, xs, xs[xs.length - 1 - i]'(by omega), (h1.mono z).sq, List.getElem?_eq_getElem _⟩
      · rw [List.length_reverse] at hi
        obtain ⟨rfl, hy⟩ := hy
        have e := hy xs (h1.mono z).sq
        obtain ⟨d, hd, hr⟩ := (h2.mono z).get' e
        refine ⟨d, ?_, Same.refl _, hr⟩
        rw [rev_ix ds i hi, ← hl]
        exact hd
      · rw [List.length_reverse] at hi
        show xs.length ≤ i
        omega
    | tup ds =>
      unfold Rep at hv
      obtain ⟨p, xs, rfl, h1, h2⟩ := hv
      refine ⟨p, xs, rfl, .inr ⟨C.hK ▸ h1.sq, q _ H' s ?_⟩⟩
      rw [C.hK]
      have hl := h2.length
      refine ⟨fun i F' H2 z hi => ?_, fun i F' H2 x H3 z dom hi hy => ?_, fun i F' H2 z hi => ?_⟩
      · rw [List.length_reverse] at hi
        exact ⟨by omega, xs, xs[xs.length - 1 - i]'(by omega), (h1.mono z).sq, List.getElem?_eq_getElem _⟩
      · rw [List.length_reverse] at hi
        obtain ⟨rfl, hy⟩ := hy
        have e := hy xs (h1.mono z).sq
        obtain ⟨d, hd, hr⟩ := (h2.mono z).get' e
        refine ⟨d, ?_, Same.refl _, hr⟩
        rw [rev_ix ds i hi, ← hl]
        exact hd
      · rw [List.length_reverse] at hi
        show xs.length ≤ i
        omega
    | _ => exact q.elim

/-! ## calls of built-ins -/
def eU (k : D → Res D) (f : EF) : EF := fun env => (f env).bind k
def Des1 (M : Fm) (r : List V → Hp → VK → Prop) (R : RP) (k : D → Res D) : Prop := ∀ F σ x v H Q, (∀ a, F a → H a ≠ none) → RepV M.G F H x v → post M R F σ H (k x) Q → r [v] H Q
theorem w_u {r : List V → Hp → VK → Prop} {R : RP} {kk : D → Res D} (d : Des1 M r R kk) {σ : L2.St} {H : Hp} {Q : VK} (q : tX M R (eU kk f) σ H Q) : tCB r (tCons (tV M f) tNil) σ H Q := by
  obtain ⟨F, env, I, q⟩ := q
  exact w_then I q fun x v H' s hv q1 => d F σ x v H' Q (I.grow s).dom hv q1
theorem m_b1 {x : Str} {id : String} {r : List V → Hp → VK → Prop} {kk : D → Res D} (hc : CallR X (.builtin id) r) (d : Des1 M r (Rep M.G) kk) (hv : bootBuiltins x = some (.builtin id)) (hm : X.mg x = none) (ha : PE X e (tV M f)) (hg : Gl X x := by rfl) (hn : x ≠ "__name__" := by decide) (hdb : (x == ("__debug__" : Str)) = false := by decide)
    (he : starEach [e] X.env = (false, eval e X.env) :: starEach [] X.env := by rfl) (hpl : (backTo pos (starEach [] X.env)).any (·.1) = false := by rfl) : PE X (.Call (.Name x p) [e] [] pos) (tE M (eU kk f)) :=
  PE.weak (pe_callB hc hg hm hv (pa_cons ha pa_nil he) hn hdb he hpl) fun _ _ _ q => w_u d q
theorem m_t1 {x : Str} {T : String} {r : List V → Hp → VK → Prop} {kk : D → Res D} (hc : CallR X (.type T) r) (d : Des1 M r (Rep M.G) kk) (hv : bootBuiltins x = some (.type T)) (hm : X.mg x = none) (ha : PE X e (tV M f)) (hg : Gl X x := by rfl) (hn : x ≠ "__name__" := by decide) (hdb : (x == ("__debug__" : Str)) = false := by decide)
    (he : starEach [e] X.env = (false, eval e X.env) :: starEach [] X.env := by rfl) (hpl : (backTo pos (starEach [] X.env)).any (·.1) = false := by rfl) : PE X (.Call (.Name x p) [e] [] pos) (tE M (eU kk f)) :=
  PE.weak (pe_callTy hc hg hm hv (pa_cons ha pa_nil he) hn hdb he hpl) fun _ _ _ q => w_u d q
def oU (k : D → Res Mu) (f : EF) : OF := fun env => (f env).bind k
def ODes1 (M : Fm) (r : List V → Hp → VK → Prop) (k : D → Res Mu) : Prop := ∀ F σ x v H Q, (∀ a, F a → H a ≠ none) → RepV M.G F H x v → opost M F σ H (k x) Q → r [v] H Q
theorem w_ou {r : List V → Hp → VK → Prop} {kk : D → Res Mu} (d : ODes1 M r kk) {σ : L2.St} {H : Hp} {Q : VK} (q : tO M (oU kk f) σ H Q) : tCB r (tCons (tV M f) tNil) σ H Q := by
  obtain ⟨F, env, I, q⟩ := q
  exact wo_then I q fun x v H' s hv q1 => d F σ x v H' Q (I.grow s).dom hv q1
theorem m_ob1 {x : Str} {id : String} {r : List V → Hp → VK → Prop} {kk : D → Res Mu} (hc : CallR X (.builtin id) r) (d : ODes1 M r kk) (hv : bootBuiltins x = some (.builtin id)) (hm : X.mg x = none) (ha : PE X e (tV M f)) (hg : Gl X x := by rfl) (hn : x ≠ "__name__" := by decide) (hdb : (x == ("__debug__" : Str)) = false := by decide)
    (he : starEach [e] X.env = (false, eval e X.env) :: starEach [] X.env := by rfl) (hpl : (backTo pos (starEach [] X.env)).any (·.1) = false := by rfl) : PE X (.Call (.Name x p) [e] [] pos) (tO M (oU kk f)) :=
  PE.weak (pe_callB hc hg hm hv (pa_cons ha pa_nil he) hn hdb he hpl) fun _ _ _ q => w_ou d q
theorem m_ot1 {x : Str} {T : String} {r : List V → Hp → VK → Prop} {kk : D → Res Mu} (hc : CallR X (.type T) r) (d : ODes1 M r kk) (hv : bootBuiltins x = some (.type T)) (hm : X.mg x = none) (ha : PE X e (tV M f)) (hg : Gl X x := by rfl) (hn : x ≠ "__name__" := by decide) (hdb : (x == ("__debug__" : Str)) = false := by decide)
    (he : starEach [e] X.env = (false, eval e X.env) :: starEach [] X.env := by rfl) (hpl : (backTo pos (starEach [] X.env)).any (·.1) = false := by rfl) : PE X (.Call (.Name x p) [e] [] pos) (tO M (oU kk f)) :=
  PE.weak (pe_callTy hc hg hm hv (pa_cons ha pa_nil he) hn hdb he hpl) fun _ _ _ q => w_ou d q

/-! ### len -/
def dLen : D → Res D
  | .lst ds => .ok (.int ds.length)
  | .tup ds => .ok (.int ds.length)
  | .str s => if s.length ≤ sizeLine then .ok (.int s.length) else .stuck
  | _ => .stuck
theorem d_len : Des1 M (fun xs H Q => ∃ x n, xs = [x] ∧ LenV M.G.K x H n ∧ Q (.int n) H) (Rep M.G) dLen := by
  intro F σ x v H Q dom hx q
  cases x with
  | lst ds =>
    obtain ⟨p, xs, rfl, h1, h2⟩ := hx.lst
    exact ⟨_, ds.length, rfl, .inl ⟨xs, h1, h2.length.symm⟩, post_ok q Rep.int_⟩
  | tup ds =>
    obtain ⟨p, xs, rfl, h1, h2⟩ := hx.tup
    exact ⟨_, ds.length, rfl, .inr ⟨xs, h1, h2.length.symm⟩, post_ok q Rep.int_⟩
  | str s =>
    unfold dLen at q
    dsimp only at q
    by_cases hs : s.length ≤ sizeLine
    · rw [if_pos hs] at q
      rw [hx.str]
      exact ⟨_, s.length, rfl, ⟨hs, rfl⟩, post_ok q Rep.int_⟩
    · rw [if_neg hs] at q; exact q.elim
  | _ => exact q.elim
theorem m_len (hK : X.K = M.G.K) (hm : X.mg "len" = none) (ha : PE X e (tV M f)) (hg : Gl X "len" := by rfl) (he : starEach [e] X.env = (false, eval e X.env) :: starEach [] X.env := by rfl) (hpl : (backTo pos (starEach [] X.env)).any (·.1) = false := by rfl) :
    PE X (.Call (.Name "len" p) [e] [] pos) (tE M (eU dLen f)) := m_b1 (call_len (X := X)) (hK ▸ d_len) PySem.boot_len hm ha hg (by decide) (by decide) he hpl
/-! ### tuple(x), list(x) -/
def dTuple : D → Res D
  | .lst ds => .ok (.tup ds)
  | .tup ds => .ok (.tup ds)
  | _ => .stuck
theorem d_tuple : Des1 M (fun xs H Q => ∃ p ys, xs = [.ref p] ∧ ((SqL M.G.K H p ys ∧ ∀ l, H l = none → Q (.ref l) (upd H l (.tup ys))) ∨ (SqT M.G.K H p ys ∧ Q (.ref p) H))) (Rep M.G) dTuple := by
  intro F σ x v H Q dom hx q
  cases x with
  | lst ds =>
    obtain ⟨p, xs, rfl, h1, h2⟩ := hx.lst
    exact ⟨p, xs, rfl, .inl ⟨h1, fun l nl => q _ _ (same_new nl) (Rep.tup_ (dom_no dom nl) upd_same (h2.mono (Fz.same (same_new nl))))⟩⟩
  | tup ds =>
    have hx' := hx.tupR
    obtain ⟨p, xs, rfl, h1, h2⟩ := hx.tup
    exact ⟨p, xs, rfl, .inr ⟨h1, post_ok q hx'⟩⟩
  | _ => exact q.elim
theorem m_tuple (hK : X.K = M.G.K) (hm : X.mg "tuple" = none) (ha : PE X e (tV M f)) (hg : Gl X "tuple" := by rfl) (he : starEach [e] X.env = (false, eval e X.env) :: starEach [] X.env := by rfl) (hpl : (backTo pos (starEach [] X.env)).any (·.1) = false := by rfl) :
    PE X (.Call (.Name "tuple" p) [e] [] pos) (tE M (eU dTuple f)) := m_t1 (call_tuple_of (X := X)) (hK ▸ d_tuple) (by decide +kernel) hm ha hg (by decide) (by decide) he hpl
def dList : D → Res Mu
  | .lst ds => .ok (.lst ds)
  | .tup ds => .ok (.lst ds)
  | _ => .stuck
theorem d_list : ODes1 M (fun xs H Q => ∃ p ys, xs = [.ref p] ∧ (SqL M.G.K H p ys ∨ SqT M.G.K H p ys) ∧ ∀ l, H l = none → Q (.ref l) (upd H l (.lst ys))) dList := by
  intro F σ x v H Q dom hx q
  cases x with
  | lst ds =>
    obtain ⟨p, xs, rfl, h1, h2⟩ := hx.lst
    exact ⟨p, xs, rfl, .inl h1, fun l nl => opost_new q h2 nl⟩
  | tup ds =>
    obtain ⟨p, xs, rfl, h1, h2⟩ := hx.tup
    exact ⟨p, xs, rfl, .inr h1, fun l nl => opost_new q h2 nl⟩
  | _ => exact q.elim
theorem m_list (hK : X.K = M.G.K) (hm : X.mg "list" = none) (ha : PE X e (tV M f)) (hg : Gl X "list" := by rfl) (he : starEach [e] X.env = (false, eval e X.env) :: starEach [] X.env := by rfl) (hpl : (backTo pos (starEach [] X.env)).any (·.1) = false := by rfl) :
    PE X (.Call (.Name "list" p) [e] [] pos) (tO M (oU dList f)) := m_ot1 (call_list_of (X := X)) (hK ▸ d_list) (by decide +kernel) hm ha hg (by decide) (by decide) he hpl
/-! ### int(x), abs(x) -/
def dInt : D → Res D
  | .int i => .ok (.int i)
  | .bl b => .ok (.int (if b then 1 else 0))
  | _ => .stuck
theorem d_int1 : Des1 M (fun xs H Q => (∃ i, xs = [.int i] ∧ Q (.int i) H) ∨ ∃ k, xs = [.bl k] ∧ Q (.int (if k then 1 else 0)) H) (Rep M.G) dInt := by
  intro F σ x v H Q dom hx q
  cases x with
  | int i => rw [hx.int]; exact .inl ⟨i, rfl, post_ok q Rep.int_⟩
  | bl i => rw [hx.bl]; exact .inr ⟨i, rfl, post_ok q Rep.int_⟩
  | _ => exact q.elim
theorem m_toint (C : Cxx X M k) (hm : X.mg "int" = none) (ha : PE X e (tV M f)) (hg : Gl X "int" := by rfl) (he : starEach [e] X.env = (false, eval e X.env) :: starEach [] X.env := by rfl) (hpl : (backTo pos (starEach [] X.env)).any (·.1) = false := by rfl) :
    PE X (.Call (.Name "int" p) [e] [] pos) (tE M (eU dInt f)) := m_t1 (call_int1 (X := X)) d_int1 (by decide +kernel) hm ha hg (by decide) (by decide) he hpl
def dAbs : D → Res D
  | .int i => .ok (.int (if i < 0 then -i else i))
  | _ => .stuck
theorem d_abs : Des1 M (fun xs H Q => ∃ i, xs = [.int i] ∧ Q (.int (if i < 0 then -i else i)) H) (Rep M.G) dAbs := by
  intro F σ x v H Q dom hx q
  cases x with
  | int i => rw [hx.int]; exact ⟨i, rfl, post_ok q Rep.int_⟩
  | _ => exact q.elim
theorem m_abs (C : Cxx X M k) (hm : X.mg "abs" = none) (ha : PE X e (tV M f)) (hg : Gl X "abs" := by rfl) (he : starEach [e] X.env = (false, eval e X.env) :: starEach [] X.env := by rfl) (hpl : (backTo pos (starEach [] X.env)).any (·.1) = false := by rfl) :
    PE X (.Call (.Name "abs" p) [e] [] pos) (tE M (eU dAbs f)) := m_b1 (call_abs (X := X)) d_abs (by decide +kernel) hm ha hg (by decide) (by decide) he hpl
end
end Mi
end
section
set_option maxRecDepth 100000
set_option maxHeartbeats 4000000
namespace Mi
open PySem PySem.Spec PyProof.Rows L2

section
variable {M : Fm} {X : Cx} {a b c e o : Expr} {es : List Expr} {pos p apos cpos : Pos} {f g h : EF} {t u : TF} {af : AF} {st : Stmt} {rest body body2 : List Stmt} {sf sg : SF} {k : Nat} {tg : Expr}

/-! ## own lists changed in their place -/
def sApp (i : Nat) (f : EF) : SF := fun env => match env[i]? with
  | some (.own (.lst ds)) => (match f env with
    | .ok d => if ds.length < sizeLine then .nx (env.set i (.own (.lst (ds ++ [d])))) else .stuck
    | .exc c x => .exc c x env
    | .stuck => .stuck)
  | _ => .stuck
theorem own_lst {F : Own} {H : Hp} {env : Envt} {σ : L2.St} {i : Nat} {ds : List D} (I : EnvOk M F H env σ) (hi : env[i]? = some (.own (.lst ds))) :
    ∃ q vs, σ[i]? = some (some (.ref q)) ∧ H q = some (.lst vs) ∧ Reps M.G F H ds vs ∧ F q ∧
      ∀ H1 (es : List D) ws, Same H H1 → Reps M.G F H1 es ws → EnvOk M F (upd H1 q (.lst ws)) (env.set i (.own (.lst es))) σ ∧ Fz F H F (upd H1 q (.lst ws)) := by
  obtain ⟨v, fp, h1, h2, h3, _⟩ := I.write (m' := .lst []) hi (fun c fs e => by cases e)
  obtain ⟨q, vs, rfl, rfl, h5, h6⟩ := h2
  have hF : F q := (h3 q (List.mem_singleton.mpr rfl)).1
  refine ⟨q, vs, h1, h5, h6, hF, fun H1 es ws s r => ?_⟩
  have I1 := I.grow s
  obtain ⟨v', fp', h1', h2', h3', h4'⟩ := I1.write (m' := .lst es) hi (fun c fs e => by cases e)
  rw [h1] at h1'
  cases h1'
  obtain ⟨q', vs', e1, rfl, h5', h6'⟩ := h2'
  cases e1
  have z : Fz F H1 F (upd H1 q (.lst ws)) := fun a o hf e => ⟨hf, by rw [upd_ne (show a ≠ q from fun w => hf (by rw [w]; exact hF))]; exact e⟩
  obtain ⟨k1, k2⟩ := h4' (upd H1 q (.lst ws)) (fun a o ha e => by rw [upd_ne (show a ≠ q from fun w => ha (List.mem_singleton.mpr w))]; exact e) ⟨q, ws, rfl, rfl, upd_same, r.mono z⟩
  exact ⟨k1, (Fz.same s).trans k2⟩
theorem m_app (C : Cxx X M k) (i : Nat) {x : Str} {pos' : Pos} (he : PE X e (tE M f)) (hN : X.N[i]? = some x := by rfl) (hv : Vis X.env.scope x := by first | exact Or.inl rfl | exact Or.inr (Or.inl rfl) | exact Or.inr (Or.inr rfl)) (hd : (x == ("__debug__" : Str)) = false := by decide) (hcd : (x == ("__classdict__" : Str)) = false := by decide)
    (hbase : attributeBase (.Name x p) "append" X.env (eval (.Name x p) X.env) = eval (.Name x p) X.env := by rfl)
    (hfew : ((backTo cpos (starEach [e] X.env)).all (fun x => !x.1) && (backToKw cpos (keywordEach [] X.env)).all (fun x => x.1.isSome)
      && decide (([e] : List Expr).length + ([] : List Keyword).length + (if ([] : List Keyword).isEmpty then 0 else 1) < 30)) = true := by rfl)
    (hline : (apos.endLine == cpos.line) = true := by rfl) (hs : starEach [e] X.env = (false, eval e X.env) :: starEach [] X.env := by rfl) (hplain : (backTo cpos (starEach [] X.env)).any (·.1) = false := by rfl)
    (hsw : swapsWith (.Call (.Attribute (.Name x p) "append" apos) [e] [] cpos) none pos.line X.env = pure false := by rfl) :
    PS X (.Expr (.Call (.Attribute (.Name x p) "append" apos) [e] [] cpos) pos) (tS M (sApp i f)) :=
  PS.weak (ps_expr (pe_bm PySem.F.plainAttrs_list PySem.F.slot_list_append PySem.F.type_list_append mt_append (pe_var hN hv hd hcd) (pa_cons he pa_nil hs) hbase hfew hline hs hplain) hsw) fun D σ H ⟨F, env, I, q⟩ => by
    unfold sApp at q
    split at q
    · rename_i ds hi
      obtain ⟨r, vs, h1, h2, h3, hF, hw⟩ := own_lst I hi
      refine ⟨.ref r, h1, .inl ⟨rfl, vs, .inl (.inl h2)⟩, F, env, I, ?_⟩
      cases r2 : f env with
      | stuck => rw [r2] at q; exact q
      | exc c x => rw [r2] at q; exact fun cv dd H' s z => q F cv dd σ H' (I.grow s) (Fz.same s) z
      | ok d =>
        rw [r2] at q
        intro v H1 s1 hv1
        dsimp only at q
        by_cases hz : ds.length < sizeLine
        · rw [if_pos hz] at q
          refine ⟨r, vs, v, rfl, rfl, s1 _ _ h2, by rw [h3.length]; exact hz, ?_⟩
          obtain ⟨k1, k2⟩ := hw H1 (ds ++ [d]) (vs ++ [v]) s1 ((h3.mono (Fz.same s1)).append (Reps.cons hv1 Reps.nil))
          exact q F σ _ k1 k2
        · rw [if_neg hz] at q; exact q.elim
    · exact q.elim
/-- x[j] = e -/
def sSetIx (i : Nat) (g f : EF) : SF := fun env => match env[i]? with
  | some (.own (.lst ds)) => (match f env with
    | .ok d => (match g env with
      | .ok (.int j) => (match ixN ds.length j with
        | some n => .nx (env.set i (.own (.lst (ds.set n d))))
        | none => .stuck)
      | .exc c x => .exc c x env
      | _ => .stuck)
    | .exc c x => .exc c x env
    | .stuck => .stuck)
  | _ => .stuck
theorem m_setIx (C : Cxx X M k) (i : Nat) {x : Str} {pos' : Pos} (hg' : PE X b (tV M g)) (he : PE X e (tE M f)) (hN : X.N[i]? = some x := by rfl) (hv : Vis X.env.scope x := by first | exact Or.inl rfl | exact Or.inr (Or.inl rfl) | exact Or.inr (Or.inr rfl)) (hd : (x == ("__debug__" : Str)) = false := by decide) (hcd : (x == ("__classdict__" : Str)) = false := by decide)
    (ha : ∀ v, assign (.Subscript (.Name x p) b cpos) X.env v = (do
      let ov ← holding [v] (eval (.Name x p) X.env)
      let iv ← holding [v, ov] (eval b X.env)
      standAt cpos
      holding [v, ov, iv] (setItem ov iv v)
      release [v, ov, iv] []) := by intro _; rfl)
    (hs : swapsWithSole [.Subscript (.Name x p) b cpos] e pos.line X.env = pure false := by rfl) (hw : swappedStores [.Subscript (.Name x p) b cpos] e X.env = pure none := by rfl)
    (h1 : (assignEach [.Subscript (.Name x p) b cpos] X.env).map (·.2) = [assign (.Subscript (.Name x p) b cpos) X.env] := by rfl) :
    PS X (.Assign [.Subscript (.Name x p) b cpos] e pos) (tS M (sSetIx i g f)) :=
  PS.weak (ps_asg he (pg_sub (pe_var hN hv hd hcd) hg' set_list ha) hs hw h1) fun D σ H ⟨F, env, I, q⟩ => by
    unfold sSetIx at q
    split at q
    · rename_i ds hi
      refine ⟨F, env, I, ?_⟩
      cases r2 : f env with
      | stuck => rw [r2] at q; exact q
      | exc c x => rw [r2] at q; exact fun cv dd H' s z => q F cv dd σ H' (I.grow s) (Fz.same s) z
      | ok d =>
        rw [r2] at q
        intro v H1 s1 hv1
        dsimp only at q
        have I1 := I.grow s1
        obtain ⟨r, vs, k1, k2, k3, hF, kw⟩ := own_lst I1 hi
        refine ⟨.ref r, k1, F, env, I1, ?_⟩
        cases r3 : g env with
        | stuck => rw [r3] at q; exact q
        | exc c x => rw [r3] at q; exact fun cv dd H' s z => q F cv dd σ H' (I1.grow s) ((Fz.same s1).trans (Fz.same s)) z
        | ok dj =>
          rw [r3] at q
          intro vj H2 s2 hvj
          cases dj with
          | int j =>
            dsimp only at q
            split at q
            · rename_i n hn
              refine ⟨r, vs, j, n, rfl, hvj.int, s2 _ _ k2, by rw [k3.length]; exact hn, ?_⟩
              obtain ⟨w1, w2⟩ := kw H2 (ds.set n d) (vs.set n v) s2 ((k3.mono (Fz.same s2)).set n (hv1.mono (Fz.same s2)))
              exact q F σ _ w1 ((Fz.same s1).trans w2)
            · exact q.elim
          | _ => exact q.elim
    · exact q.elim

/-! ## name op= e -/
def sAug (i : Nat) (kk : D → D → Res D) (f : EF) : SF := fun env => match env[i]? with
  | some (.val d) => (match f env with
    | .ok y => (match kk d y with
      | .ok z => .nx (env.set i (.val z))
      | .exc c x => .exc c x env
      | .stuck => .stuck)
    | .exc c x => .exc c x env
    | .stuck => .stuck)
  | _ => .stuck
theorem m_aug (C : Cxx X M k) (i : Nat) {op : Operator} {r : R2} {kk : D → D → Res D} {x : Str} {pos' : Pos} (ho : OpR X (inplaceOp op) r) (d : Des M r (Rep M.G) kk) (he : PE X e (tV M f)) (hi : X.N[i]? = some x := by rfl) (hx : Loc X.env.scope x := by first | exact Or.inl rfl | exact Or.inr rfl)
    (hf : X.fn x = true ∨ X.env.scope.names.lookup x = some .local := by first | exact .inl rfl | exact .inr rfl) : PS X (.AugAssign (.Name x pos') op e pos) (tS M (sAug i kk f)) :=
  PS.weak (ps_aug C.nd hi hx he (ti := r) ho hf) fun D σ H ⟨F, env, I, q⟩ => by
    unfold sAug at q
    split at q
    · rename_i dx hi
      obtain ⟨v, h1, h2⟩ := I.val i dx hi
      refine ⟨v, h1, F, env, I, ?_⟩
      cases r2 : f env with
      | stuck => rw [r2] at q; exact q
      | exc c x => rw [r2] at q; exact fun cv dd H' s z => q F cv dd σ H' (I.grow s) (Fz.same s) z
      | ok y =>
        rw [r2] at q
        intro w H1 s1 hw
        have I1 := I.grow s1
        refine d F σ dx y v w H1 _ I1.dom (.inl (h2.mono (Fz.same s1))) hw ?_
        dsimp only at q
        cases r3 : kk dx y with
        | stuck => rw [r3] at q; exact q
        | exc c x => rw [r3] at q; exact fun cv dd H' s z => q F cv dd σ H' (I1.grow s) ((Fz.same s1).trans (Fz.same s)) z
        | ok z =>
          rw [r3] at q
          exact fun vz H2 s2 hz => q F _ H2 ((I1.grow s2).set_val i hz) ((Fz.same s1).trans (Fz.same s2))
    · exact q.elim
def dAddI : D → D → Res D
  | .int i, .int j => .ok (.int (i + j))
  | .str s, .str t => if s.length + t.length ≤ sizeLine then .ok (.str (s ++ t)) else .stuck
  | _, _ => .stuck
theorem o_iadd : OpR X (inplaceOp .Add) (fun x y H Q => rI0 (fun i j => .int (i + j)) x y H Q ∨ ∃ i j, x = .str i ∧ y = .str j ∧ i.length + j.length ≤ sizeLine ∧ Q (.str (i ++ j)) H) := OpR.or iop_add iop_add_str
theorem d_iadd : Des M (fun x y H Q => rI0 (fun i j => .int (i + j)) x y H Q ∨ ∃ i j, x = .str i ∧ y = .str j ∧ i.length + j.length ≤ sizeLine ∧ Q (.str (i ++ j)) H) (Rep M.G) dAddI := by
  intro F σ x y v w H Q dom hx hy hq
  unfold dAddI at hq
  split at hq
  · exact .inl ⟨_, _, hx.int, hy.int, post_ok hq Rep.int_⟩
  · split at hq
    · rename_i h
      exact .inr ⟨_, _, hx.str, hy.str, h, post_ok hq Rep.str_⟩
    · exact hq.elim
  · exact hq.elim
theorem m_iadd (C : Cxx X M k) (i : Nat) {x : Str} {pos' : Pos} (he : PE X e (tV M f)) (hi : X.N[i]? = some x := by rfl) (hx : Loc X.env.scope x := by first | exact Or.inl rfl | exact Or.inr rfl)
    (hf : X.fn x = true ∨ X.env.scope.names.lookup x = some .local := by first | exact .inl rfl | exact .inr rfl) : PS X (.AugAssign (.Name x pos') .Add e pos) (tS M (sAug i dAddI f)) := m_aug C i o_iadd d_iadd he hi hx hf
theorem m_isub (C : Cxx X M k) (i : Nat) {x : Str} {pos' : Pos} (he : PE X e (tV M f)) (hi : X.N[i]? = some x := by rfl) (hx : Loc X.env.scope x := by first | exact Or.inl rfl | exact Or.inr rfl)
    (hf : X.fn x = true ∨ X.env.scope.names.lookup x = some .local := by first | exact .inl rfl | exact .inr rfl) : PS X (.AugAssign (.Name x pos') .Sub e pos) (tS M (sAug i dSub f)) := m_aug C i iop_sub d_sub he hi hx hf
theorem m_imul (C : Cxx X M k) (i : Nat) {x : Str} {pos' : Pos} (he : PE X e (tV M f)) (hi : X.N[i]? = some x := by rfl) (hx : Loc X.env.scope x := by first | exact Or.inl rfl | exact Or.inr rfl)
    (hf : X.fn x = true ∨ X.env.scope.names.lookup x = some .local := by first | exact .inl rfl | exact .inr rfl) : PS X (.AugAssign (.Name x pos') .Mult e pos) (tS M (sAug i dMul f)) := m_aug C i iop_mul d_mul he hi hx hf

/-! ## x[j] += e -/
theorem pget_list : PGet X (rIxL X.K) := by
  intro pins s σ H o i ov iv Q I ro ri h
  obtain ⟨p, xs, j, z, rfl, rfl, hq, he, q⟩ := h
  cases ro
  obtain ⟨t, rfl⟩ := ri
  obtain ⟨its, r, pl, hz⟩ := I.list hq
  obtain ⟨n, h1, h2, h3, h4, h5⟩ := atI_get he
  obtain ⟨w, ew, rw'⟩ := r.get h2
  have hl := r.length
  have hn := line63
  have fin : EP X pins σ Q w s := ⟨z, H, I, rw', q⟩
  by_cases h0 : 0 ≤ j
  · have hj : j.toNat = n := by
      rw [seqIndex_of h0 h5] at h1
      exact Option.some.inj h1
    exact wpAny_getItem_list pl.isList h0 (by omega) (by rw [hj]; simpa using ew) fin
  · have hj : (j + (its.toArray.size : Int)).toNat = n := by
      rw [seqIndex_neg (by omega) h4] at h1
      rw [List.size_toArray, ← hl]
      exact Option.some.inj h1
    exact wpAny_getItem_list_neg pl.isList (by omega) (by rw [List.size_toArray] <;> omega) (by omega) (by rw [hj]; simpa using ew) fin
def sAugIx (i : Nat) (g : EF) (kk : D → D → Res D) (f : EF) : SF := fun env => match env[i]? with
  | some (.own (.lst ds)) => (match g env with
    | .ok (.int j) => (match ixN ds.length j with
      | some n => (match ds[n]? with
        | some d => (match f env with
          | .ok y => (match kk d y with
            | .ok z => .nx (env.set i (.own (.lst (ds.set n z))))
            | _ => .stuck)
          | _ => .stuck)
        | none => .stuck)
      | none => .stuck)
    | _ => .stuck)
  | _ => .stuck
theorem m_augIx (C : Cxx X M k) (i : Nat) {op : Operator} {r : R2} {kk : D → D → Res D} {x : Str} {tpos : Pos} (ho : OpR X (inplaceOp op) r) (d : Des M r (Rep M.G) kk) (hg' : PE X b (tV M g)) (he : PE X e (tV M f)) (hN : X.N[i]? = some x := by rfl) (hv : Vis X.env.scope x := by first | exact Or.inl rfl | exact Or.inr (Or.inl rfl) | exact Or.inr (Or.inr rfl)) (hd : (x == ("__debug__" : Str)) = false := by decide) (hcd : (x == ("__classdict__" : Str)) = false := by decide)
    (ha : ∀ ov iv new, augStore b ov iv new = (do holding [new, ov, iv] (setItem ov iv new); release [new, ov, iv] []; pure .next) := by intros; rfl) :
    PS X (.AugAssign (.Subscript (.Name x p) b tpos) op e pos) (tS M (sAugIx i g kk f)) :=
  PS.weak (ps_augS (pe_var hN hv hd hcd) hg' (tget := rIxL M.G.K) (C.hK ▸ pget_list) he (tip := r) ho set_list ha) fun D σ H ⟨F, env, I, q⟩ => by
    unfold sAugIx at q
    split at q
    · rename_i ds hi
      obtain ⟨rq, vs, k1, k2, k3, hF, kw⟩ := own_lst I hi
      refine ⟨.ref rq, k1, F, env, I, ?_⟩
      cases r2 : g env with
      | stuck => rw [r2] at q; exact q.elim
      | exc c x => rw [r2] at q; exact q.elim
      | ok dj =>
        rw [r2] at q
        intro vj H1 s1 hvj
        have I1 := I.grow s1
        cases dj with
        | int j =>
          dsimp only at q
          split at q
          · rename_i n hn
            split at q
            · rename_i dd hdd
              obtain ⟨v1, e1, r1⟩ := k3.get hdd
              have e2 : atI vs j = some v1 := by
                unfold atI
                rw [k3.length, hn]
                exact e1
              refine ⟨rq, vs, j, v1, rfl, hvj.int, .inl (.inl (s1 _ _ k2)), e2, F, env, I1, ?_⟩
              cases r3 : f env with
              | stuck => rw [r3] at q; exact q.elim
              | exc c x => rw [r3] at q; exact q.elim
              | ok y =>
                rw [r3] at q
                intro w H2 s2 hw
                have I2 := I1.grow s2
                refine d F σ dd y v1 w H2 _ I2.dom (.inl (r1.mono (Fz.same (s1.trans s2)))) hw ?_
                dsimp only at q
                cases r4 : kk dd y with
                | stuck => rw [r4] at q; exact q.elim
                | exc c x => rw [r4] at q; exact q.elim
                | ok z =>
                  rw [r4] at q
                  intro vz H3 s3 hz
                  have s13 := (s1.trans s2).trans s3
                  refine ⟨rq, vs, j, n, rfl, hvj.int, s13 _ _ k2, by rw [k3.length]; exact hn, ?_⟩
                  obtain ⟨w1, w2⟩ := kw H3 (ds.set n z) (vs.set n vz) s13 ((k3.mono (Fz.same s13)).set n hz)
                  exact q F σ _ w1 w2
            · exact q.elim
          · exact q.elim
        | _ => exact q.elim
    · exact q.elim
theorem m_iaddIx (C : Cxx X M k) (i : Nat) {x : Str} {tpos : Pos} (hg' : PE X b (tV M g)) (he : PE X e (tV M f)) (hN : X.N[i]? = some x := by rfl) (hv : Vis X.env.scope x := by first | exact Or.inl rfl | exact Or.inr (Or.inl rfl) | exact Or.inr (Or.inr rfl)) (hd : (x == ("__debug__" : Str)) = false := by decide) (hcd : (x == ("__classdict__" : Str)) = false := by decide)
    (ha : ∀ ov iv new, augStore b ov iv new = (do holding [new, ov, iv] (setItem ov iv new); release [new, ov, iv] []; pure .next) := by intros; rfl) :
    PS X (.AugAssign (.Subscript (.Name x p) b tpos) .Add e pos) (tS M (sAugIx i g dAddI f)) := m_augIx C i o_iadd d_iadd hg' he hN hv hd hcd ha

/-! ## [x] * n -/
def oRep (of : OF) (g : EF) : OF := fun env => (of env).bind fun m => (g env).bind fun d => match m, d with
  | .lst ds, .int n => if (-(2 ^ 63) ≤ n ∧ n < 2 ^ 63) ∧ ds.length * n.toNat ≤ sizeLine then .ok (.lst (List.replicate n.toNat ds).flatten) else .stuck
  | _, _ => .stuck
theorem Reps.rep {G : Gc} {F : Own} {H : Hp} {ds : List D} {vs : List V} (h : Reps G F H ds vs) : ∀ n : Nat, Reps G F H (List.replicate n ds).flatten (List.replicate n vs).flatten
  | 0 => Reps.nil
  | n + 1 => by
    rw [List.replicate_succ, List.flatten_cons, List.replicate_succ, List.flatten_cons]
    exact h.append (Reps.rep h n)
theorem m_rep {of : OF} (ha : PE X a (tO M of)) (hb : PE X b (tV M g)) : PE X (.BinOp a .Mult b pos) (tO M (oRep of g)) := PE.weak (pe_op op_rep ha hb) fun σ H Q ⟨F, env, I, q⟩ => by
  refine ⟨F, env, I, ?_⟩
  have q : opost M F σ H ((of env).bind fun m => (g env).bind fun d => match m, d with
    | .lst ds, .int n => if (-(2 ^ 63) ≤ n ∧ n < 2 ^ 63) ∧ ds.length * n.toNat ≤ sizeLine then .ok (.lst (List.replicate n.toNat ds).flatten) else .stuck
    | _, _ => .stuck) Q := q
  cases r : of env with
  | stuck => rw [r] at q; exact q
  | exc c x => rw [r] at q; exact q
  | ok m =>
    rw [r] at q
    intro v H1 fp s1 n1 hm
    refine wo_then (I.grow s1) (opost.grow s1 q) fun d w H2 s2 hw q2 => ?_
    cases m with
    | lst ds =>
      cases d with
      | int n =>
        obtain ⟨p, xs, rfl, rfl, h3, h4⟩ := hm
        dsimp only at q2
        by_cases hc : (-(2 ^ 63) ≤ n ∧ n < 2 ^ 63) ∧ ds.length * n.toNat ≤ sizeLine
        · rw [if_pos hc] at q2
          refine ⟨p, n, xs, rfl, hw.int, s2 _ _ h3, hc.1.1, hc.1.2, by rw [h4.length]; exact hc.2, fun l nl => ?_⟩
          refine opost_new q2 (Reps.rep (h4.mono fun a o hf e => ⟨fun z => hf (.inl z), s2 _ _ e⟩) _) nl
        · rw [if_neg hc] at q2; exact q2.elim
      | _ => exact q2.elim
    | ins c fs => exact q2.elim
end
end Mi
end
section
set_option maxRecDepth 100000
set_option maxHeartbeats 4000000
namespace Mi
open PySem PySem.Spec PyProof.Rows L2

/-- no error leaves -/
def Fm.nx (M : Fm) : Fm := { M with W := fun _ _ _ _ => False }
theorem EnvOk.nx {M : Fm} {F : Own} {H : Hp} {env : Envt} {σ : L2.St} (I : EnvOk M F H env σ) : EnvOk M.nx F H env σ := ⟨I.len, I.old, I.dom, I.f0, I.val, I.own, I.self, I.ex⟩
theorem EnvOk.unx {M : Fm} {F : Own} {H : Hp} {env : Envt} {σ : L2.St} (I : EnvOk M.nx F H env σ) : EnvOk M F H env σ := ⟨I.len, I.old, I.dom, I.f0, I.val, I.own, I.self, I.ex⟩
theorem Cxx.blk {X : Cx} {M : Fm} {k : Nat} (C : Cxx X M k) (s : Shared) (H : Hp) (scope : Scope) (cenv : Env) (fp : List Addr) : Cxx (X.blk s H scope cenv fp) M.nx k :=
  ⟨C.hK, C.calm, C.nd, C.hr, PassesOwn.never, takes0⟩
def wipeE (env : Envt) : List Nat → Envt
  | [] => env
  | v :: vs => (wipeE env vs).set v .no
theorem EnvOk.wipe {M : Fm} {F : Own} {H : Hp} {env : Envt} {σ : L2.St} (I : EnvOk M F H env σ) : ∀ vs : List Nat, EnvOk M F H (wipeE env vs) (L2.wipe σ vs)
  | [] => I
  | v :: vs => (I.wipe vs).set_no none v
theorem wipe_in {σ : L2.St} {i : Nat} : ∀ {vs : List Nat}, i ∈ vs → i < σ.length → (L2.wipe σ vs)[i]? = some none
  | [], h, _ => nomatch h
  | v :: vs, h, hl => by
    unfold L2.wipe
    by_cases e : v = i
    · subst e
      rw [List.getElem?_set_self (by rw [wipe_length]; exact hl)]
    · rw [List.getElem?_set_ne e]
      rcases List.mem_cons.mp h with z | z
      · exact absurd z.symm e
      · exact wipe_in z hl
theorem wipe_outs {ix vs : List Nat} {σ σ' : L2.St} (h : Outs ix σ σ') (hs : ∀ i ∈ ix, i ∈ vs) : L2.wipe σ' vs = L2.wipe σ vs := by
  apply List.ext_getElem?
  intro i
  by_cases hv : i ∈ vs
  · by_cases hl : i < σ.length
    · rw [wipe_in hv hl, wipe_in hv (by rw [h.1]; exact hl)]
    · rw [List.getElem?_eq_none (by rw [wipe_length, h.1]; omega), List.getElem?_eq_none (by rw [wipe_length]; omega)]
  · rw [wipe_out hv, wipe_out hv]
    exact h.2 i fun z => hv (hs i z)
theorem wipe_wipe (σ : L2.St) (vs : List Nat) : L2.wipe (L2.wipe σ vs) vs = L2.wipe σ vs := by
  apply List.ext_getElem?
  intro i
  by_cases hv : i ∈ vs
  · by_cases hl : i < σ.length
    · rw [wipe_in hv hl, wipe_in hv (by rw [wipe_length]; exact hl)]
    · rw [List.getElem?_eq_none (by rw [wipe_length, wipe_length]; omega), List.getElem?_eq_none (by rw [wipe_length]; omega)]
  · rw [wipe_out hv]

section
variable {M : Fm} {X : Cx} {a b c e o elt tg iter tg1 iter1 : Expr} {es ifs ifs1 : List Expr} {pos spos p : Pos} {f g h fe : EF} {t t1 u : TF} {k : Nat} {ga ga1 : GF} {ix ix1 : List Nat} {it it1 : IF} {scope : Scope} {own : List (Str × Nat)}

theorem PTs.weak {t t' : TT} (h : PTs X ifs t) (w : ∀ σ H Q, t' σ H Q → t σ H Q) : PTs X ifs t' := ⟨fun pins s σ H Q I q => h.run pins s σ H Q I (w σ H Q q)⟩
def tfTrue : TF := fun _ => .ok true
theorem m_tnil : PTs X [] (tT M tfTrue) := PTs.weak pts_nil fun σ H Q ⟨F, env, I, q⟩ => q H (Same.refl H)
theorem m_tone (h : PT X c (tT M t)) : PTs X [c] (tT M t) := pts_one h

/-- the items of a comprehension -/
def lcL (ga : GF) (t : TF) (fe : EF) (env : Envt) : List D → Res (List D)
  | [] => .ok []
  | d :: ds => match ga d env with
    | none => .stuck
    | some env1 => match t env1 with
      | .ok true => (match fe env1 with
        | .ok y => (lcL ga t fe env ds).bind fun r => .ok (y :: r)
        | _ => .stuck)
      | .ok false => lcL ga t fe env ds
      | _ => .stuck
theorem lcL_noexc {env : Envt} : ∀ (l : List D) c x, lcL ga t fe env l ≠ .exc c x := by
  intro l
  induction l with
  | nil => intro c x e; cases e
  | cons d l ih =>
    intro c x e
    unfold lcL at e
    split at e
    · cases e
    · split at e
      · split at e
        · cases r2 : lcL ga t fe env l with
          | ok z => rw [r2] at e; cases e
          | exc c' x' => exact ih c' x' r2
          | stuck => rw [r2] at e; cases e
        · cases e
      · exact ih c x e
      · cases e
theorem EnvOk.push_no {F : Own} {H : Hp} {env : Envt} {σ : L2.St} (I : EnvOk M F H env σ) : EnvOk M F H (env ++ [.no]) (σ ++ [none]) := by
  have lo : ∀ i (s : Slot), (env ++ [Slot.no])[i]? = some s → env[i]? = some s ∨ s = .no := fun i s e => by
    by_cases hi : i < env.length
    · rw [List.getElem?_append_left hi] at e; exact .inl e
    · rw [List.getElem?_append_right (by omega)] at e
      cases q : i - env.length with
      | zero => rw [q] at e; exact .inr (Option.some.inj e).symm
      | succ n => rw [q] at e; cases e
  have ls : ∀ (i : Nat) (x : Option V), σ[i]? = some x → (σ ++ [none])[i]? = some x := fun i x e => by
    rw [List.getElem?_append_left (List.getElem?_eq_some_iff.mp e).1]; exact e
  obtain ⟨fp, h1, h2⟩ := I.own
  refine ⟨by rw [List.length_append, List.length_append, I.len]; rfl, I.old, I.dom, I.f0, fun i d e => ?_, ⟨fp, fun i m e => ?_, fun i j m n e1 e2 ne => ?_⟩, fun x hx c fs e => ?_, fun j c x e => ?_⟩
  · rcases lo i _ e with z | z
    · obtain ⟨v, q1, q2⟩ := I.val i d z
      exact ⟨v, ls i _ q1, q2⟩
    · cases z
  · rcases lo i _ e with z | z
    · obtain ⟨⟨v, q1, q2⟩, q3⟩ := h1 i m z
      exact ⟨⟨v, ls i _ q1, q2⟩, q3⟩
    · cases z
  · rcases lo i _ e1 with z1 | z1
    · rcases lo j _ e2 with z2 | z2
      · exact h2 i j m n z1 z2 ne
      · cases z2
    · cases z1
  · rcases lo 0 _ e with z | z
    · exact ls 0 _ (I.self x hx c fs z)
    · cases z
  · rcases lo j _ e with z | z
    · obtain ⟨q1, q2⟩ := I.ex j c x z
      exact ⟨ls j _ q1, q2⟩
    · cases z
theorem EnvOk.pop {F : Own} {H : Hp} {env : Envt} {σ : L2.St} {s : Slot} {x : Option V} (I : EnvOk M F H (env ++ [s]) (σ ++ [x])) : EnvOk M F H env σ := by
  have hl : σ.length = env.length := by
    have := I.len
    rw [List.length_append, List.length_append] at this
    simpa using this
  have lo : ∀ (i : Nat) (s' : Slot), env[i]? = some s' → (env ++ [s])[i]? = some s' := fun i s' e => by
    rw [List.getElem?_append_left (List.getElem?_eq_some_iff.mp e).1]; exact e
  have ls : ∀ (i : Nat) (s' : Slot) (y : Option V), env[i]? = some s' → (σ ++ [x])[i]? = some y → σ[i]? = some y := fun i s' y e q => by
    rw [List.getElem?_append_left (by rw [hl]; exact (List.getElem?_eq_some_iff.mp e).1)] at q; exact q
  obtain ⟨fp, h1, h2⟩ := I.own
  refine ⟨hl, I.old, I.dom, I.f0, fun i d e => ?_, ⟨fp, fun i m e => ?_, fun i j m n e1 e2 ne => h2 i j m n (lo i _ e1) (lo j _ e2) ne⟩, fun y hy c fs e => ls 0 _ _ e (I.self y hy c fs (lo 0 _ e)), fun j c x e => ⟨ls j _ _ e (I.ex j c x (lo j _ e)).1, (I.ex j c x (lo j _ e)).2⟩⟩
  · obtain ⟨v, q1, q2⟩ := I.val i d (lo i _ e)
    exact ⟨v, ls i _ _ e q1, q2⟩
  · obtain ⟨⟨v, q1, q2⟩, q3⟩ := h1 i m (lo i _ e)
    exact ⟨⟨v, ls i _ _ e q1, q2⟩, q3⟩
/-- a further thing that is owned, at the end of the slots -/
theorem EnvOk.push_own {F : Own} {H H' : Hp} {env : Envt} {σ : L2.St} {m : Mu} {v : V} {fp : List Addr} (I : EnvOk M F H env σ) (s : Same H H') (n : ∀ a ∈ fp, H a = none) (h : MuRep M.G (plus F fp) H' m v fp) (hm : ∀ c fs, m ≠ .ins c fs) :
    EnvOk M (plus F fp) H' (env ++ [.own m]) (σ ++ [some v]) := by
  have J := I.push_no.set_own env.length s n h (.inr (.inr hm))
  have e1 : (env ++ [Slot.no]).set env.length (.own m) = env ++ [.own m] := by simp
  have e2 : (σ ++ [none]).set env.length (some v) = σ ++ [some v] := by rw [← I.len]; simp
  rw [e1, e2] at J
  exact J
/-- the list at the end of the slots grows -/
theorem EnvOk.last_app {F : Own} {H H1 : Hp} {env : Envt} {σ : L2.St} {ds : List D} {L : Addr} {d : D} {v : V} (I : EnvOk M F H (env ++ [.own (.lst ds)]) (σ ++ [some (.ref L)])) (s : Same H H1) (r : Rep M.G F H1 d v) :
    ∃ vs, H1 L = some (.lst vs) ∧ vs.length = ds.length ∧ EnvOk M F (upd H1 L (.lst (vs ++ [v]))) (env ++ [.own (.lst (ds ++ [d]))]) (σ ++ [some (.ref L)]) ∧ Fz F H F (upd H1 L (.lst (vs ++ [v]))) := by
  have hl : σ.length = env.length := by
    have := I.len
    rw [List.length_append, List.length_append] at this
    simpa using this
  obtain ⟨q, vs, h1, h2, h3, hF, hw⟩ := own_lst I (i := env.length) (ds := ds) (by simp)
  have e : q = L := by
    rw [← hl] at h1
    have : (σ ++ [some (V.ref L)])[σ.length]? = some (some (.ref L)) := by simp
    rw [this] at h1
    cases h1
    rfl
  subst e
  obtain ⟨k1, k2⟩ := hw H1 (ds ++ [d]) (vs ++ [v]) s ((h3.mono (Fz.same s)).append (Reps.cons r Reps.nil))
  have e1 : (env ++ [Slot.own (.lst ds)]).set env.length (.own (.lst (ds ++ [d]))) = env ++ [.own (.lst (ds ++ [d]))] := by simp
  rw [e1] at k1
  exact ⟨vs, s _ _ h2, h3.length, k1, k2⟩

def oLc (vs : List Nat) (it : IF) (ga : GF) (t : TF) (fe : EF) : OF := fun env => (it env).bind fun ds => (lcL ga t fe (wipeE env vs) ds).bind fun r => if r.length ≤ sizeLine then .ok (.lst r) else .stuck
theorem own_end {F : Own} {H : Hp} {env : Envt} {σ : L2.St} {ds : List D} {L : Addr} (I : EnvOk M F H (env ++ [.own (.lst ds)]) (σ ++ [some (.ref L)])) : ∃ vs, H L = some (.lst vs) ∧ Reps M.G F H ds vs := by
  have hl : σ.length = env.length := by
    have := I.len
    rw [List.length_append, List.length_append] at this
    simpa using this
  obtain ⟨q, vs, h1, h2, h3, hF, hw⟩ := own_lst I (i := env.length) (ds := ds) (by simp)
  have e : q = L := by
    rw [← hl] at h1
    have : (σ ++ [some (V.ref L)])[σ.length]? = some (some (.ref L)) := by simp
    rw [this] at h1
    cases h1
    rfl
  subst e
  exact ⟨vs, h2, h3⟩
theorem w_lc {σ : L2.St} {H : Hp} {Q : VK} {vs : List Nat} (hix : ∀ i ∈ ix, i ∈ vs) (q : tO M (oLc vs it ga t fe) σ H Q) : tLc (tI M it) (tG M.nx ix ga) (tT M.nx t) (tE M.nx fe) vs σ H Q := by
  obtain ⟨F, env, I, q⟩ := q
  refine ⟨F, env, I, ?_⟩
  unfold oLc at q
  cases r : it env with
  | stuck => rw [r] at q; exact q
  | exc c x => rw [r] at q; exact q
  | ok ds =>
    rw [r] at q
    intro J H1 s1 hJ L nL
    have q : opost M F σ H ((lcL ga t fe (wipeE env vs) ds).bind fun r => if r.length ≤ sizeLine then .ok (.lst r) else .stuck) Q := q
    cases r1 : lcL ga t fe (wipeE env vs) ds with
    | stuck => rw [r1] at q; exact q.elim
    | exc c x => exact absurd r1 (lcL_noexc ds c x)
    | ok total =>
      rw [r1] at q
      have q : opost M F σ H (if total.length ≤ sizeLine then .ok (.lst total) else .stuck) Q := q
      by_cases hz : total.length ≤ sizeLine
      · rw [if_pos hz] at q
        have q : opost M F σ H1 (.ok (.lst total)) Q := opost.grow s1 q
        have n1 : ∀ a ∈ [L], H1 a = none := fun a ha => by rw [List.mem_singleton.mp ha]; exact nL
        have s2 : Same H1 (upd H1 L (.lst [])) := same_new nL
        have I1 : EnvOk M.nx (plus F [L]) (upd H1 L (.lst [])) (wipeE env vs ++ [.own (.lst [])]) (L2.wipe σ vs ++ [some (.ref L)]) :=
          ((I.grow s1).nx.wipe vs).push_own s2 n1 ⟨L, [], rfl, rfl, upd_same, Reps.nil⟩ (fun c fs e => by cases e)
        refine ⟨fun i m H' => ∃ acc rest, m = ds.length - i ∧ i ≤ ds.length ∧ EnvOk M.nx (plus F [L]) H' (wipeE env vs ++ [.own (.lst acc)]) (L2.wipe σ vs ++ [some (.ref L)]) ∧ lcL ga t fe (wipeE env vs) (ds.drop i) = .ok rest ∧ acc ++ rest = total ∧ Same H1 H',
          ⟨_, [], total, rfl, Nat.zero_le _, I1, by rw [List.drop_zero]; exact r1, rfl, s2⟩, ?_⟩
        rintro i m H' ⟨acc, rest, rfl, hle, I', hr, ht, s'⟩
        have z' : Fz F H1 (plus F [L]) H' := fz_plus s' n1
        by_cases hlt : i < ds.length
        · refine .inr ⟨hJ.go i _ H' z' hlt, fun H2 => ∃ acc' rest', EnvOk M.nx (plus F [L]) H2 (wipeE env vs ++ [.own (.lst acc')]) (L2.wipe σ vs ++ [some (.ref L)]) ∧ lcL ga t fe (wipeE env vs) (ds.drop (i + 1)) = .ok rest' ∧ acc' ++ rest' = total ∧ Same H1 H2,
            fun H2 ⟨acc', rest', h1, h2, h3, h4⟩ => ⟨ds.length - (i + 1), by omega, acc', rest', rfl, hlt, h1, h2, h3, h4⟩, fun x H2 hy => ?_⟩
          obtain ⟨d, hd, s3, hrep⟩ := hJ.yld i _ H' x H2 z' I'.dom hlt hy
          have e1 : ds.drop i = d :: ds.drop (i + 1) := by
            rw [List.drop_eq_getElem_cons hlt]
            rw [List.getElem?_eq_getElem hlt] at hd
            rw [Option.some.inj hd]
          rw [e1] at hr
          unfold lcL at hr
          refine ⟨plus F [L], wipeE env vs, d, (I'.pop).grow s3, hrep, ?_⟩
          cases r2 : ga d (wipeE env vs) with
          | none => rw [r2] at hr; cases hr
          | some env1 =>
            rw [r2] at hr
            dsimp only at hr ⊢
            intro σ2 I2 o2
            refine ⟨(wipe_outs o2 hix).trans (wipe_wipe σ vs), plus F [L], env1, I2, ?_⟩
            cases r3 : t env1 with
            | stuck => rw [r3] at hr; cases hr
            | exc c x => rw [r3] at hr; cases hr
            | ok b =>
              rw [r3] at hr
              intro H3 s4
              cases b with
              | false =>
                rw [if_neg Bool.false_ne_true]
                exact ⟨acc, rest, (I'.grow s3).grow s4, hr, ht, (s'.trans s3).trans s4⟩
              | true =>
                rw [if_pos rfl]
                dsimp only at hr
                refine ⟨plus F [L], env1, I2.grow s4, ?_⟩
                cases r4 : fe env1 with
                | stuck => rw [r4] at hr; cases hr
                | exc c x => rw [r4] at hr; cases hr
                | ok y =>
                  rw [r4] at hr
                  dsimp only at hr
                  intro v H4 s5 hv
                  cases r5 : lcL ga t fe (wipeE env vs) (ds.drop (i + 1)) with
                  | stuck => rw [r5] at hr; cases hr
                  | exc c x => rw [r5] at hr; cases hr
                  | ok rest2 =>
                    rw [r5] at hr
                    have er : y :: rest2 = rest := by
                      have : Res.ok (y :: rest2) = Res.ok rest := hr
                      cases this
                      rfl
                    have s35 : Same H' H4 := (s3.trans s4).trans s5
                    obtain ⟨ws, k1, k2, k3, k4⟩ := I'.last_app s35 hv
                    refine ⟨ws, k1, ?_, acc ++ [y], rest2, k3, rfl, by rw [List.append_assoc, List.singleton_append, er]; exact ht, fun a o e => ?_⟩
                    · rw [k2]
                      have : total.length = acc.length + (rest2.length + 1) := by rw [← ht, ← er, List.length_append, List.length_cons]
                      omega
                    · rw [upd_ne (ne_of_none e nL)]
                      exact (s'.trans s35) a o e
        · have e : i = ds.length := by omega
          subst e
          rw [List.drop_length] at hr
          have er : [] = rest := by
            have : Res.ok ([] : List D) = Res.ok rest := hr
            cases this
            rfl
          rw [← er, List.append_nil] at ht
          subst ht
          obtain ⟨ws, k1, k2⟩ := own_end I'
          exact .inl ⟨hJ.stop _ _ H' z' (Nat.le_refl _), q _ H' [L] s' n1 ⟨L, ws, rfl, rfl, k1, k2⟩⟩
      · rw [if_neg hz] at q
        exact q.elim
theorem m_lc (C : Cxx X M k) (own : List (Str × Nat)) (hi : PI X tg iter (tI M it)) (ok : blkC X.N X.env.scope scope own = true)
    (hg : ∀ (s : Shared) (H : Hp) (Ca : Addr) (cl : List (Str × Addr)) (fp : List Addr), Cxx (X.blk s H scope (compEnvC scope cl Ca X.env) fp) M.nx k → PG (X.blk s H scope (compEnvC scope cl Ca X.env) fp) tg (tG M.nx ix ga))
    (ht : ∀ (s : Shared) (H : Hp) (Ca : Addr) (cl : List (Str × Addr)) (fp : List Addr), Cxx (X.blk s H scope (compEnvC scope cl Ca X.env) fp) M.nx k → PTs (X.blk s H scope (compEnvC scope cl Ca X.env) fp) ifs (tT M.nx t))
    (he : ∀ (s : Shared) (H : Hp) (Ca : Addr) (cl : List (Str × Addr)) (fp : List Addr), Cxx (X.blk s H scope (compEnvC scope cl Ca X.env) fp) M.nx k → PE (X.blk s H scope (compEnvC scope cl Ca X.env) fp) elt (tE M.nx fe))
    (hix : ix.all (fun i => (own.map (·.2)).contains i) = true := by rfl) (hs : ∀ x, foldedSetIterable iter X.env x = pure x := by intro _; rfl) :
    PE X (.ListComp elt [⟨tg, iter, ifs, 0⟩] scope pos) (tO M (oLc (own.map (·.2)) it ga t fe)) :=
  PE.weak (pe_lc C.calm C.nd hi (blkOk_by ok) (fun s H Ca cl fp => hg s H Ca cl fp (C.blk ..)) (fun s H Ca cl fp => ht s H Ca cl fp (C.blk ..)) (fun s H Ca cl fp => he s H Ca cl fp (C.blk ..)) hs)
    fun σ H Q q => w_lc (fun i hi => by simpa using List.all_eq_true.mp hix i hi) q
theorem m_setLc (C : Cxx X M k) (i : Nat) (own : List (Str × Nat)) {y : Str} {py : Pos} (hi : PI X tg iter (tI M it)) (ok : blkC X.N X.env.scope scope own = true)
    (hg : ∀ (s : Shared) (H : Hp) (Ca : Addr) (cl : List (Str × Addr)) (fp : List Addr), Cxx (X.blk s H scope (compEnvC scope cl Ca X.env) fp) M.nx k → PG (X.blk s H scope (compEnvC scope cl Ca X.env) fp) tg (tG M.nx ix ga))
    (ht : ∀ (s : Shared) (H : Hp) (Ca : Addr) (cl : List (Str × Addr)) (fp : List Addr), Cxx (X.blk s H scope (compEnvC scope cl Ca X.env) fp) M.nx k → PTs (X.blk s H scope (compEnvC scope cl Ca X.env) fp) ifs (tT M.nx t))
    (he : ∀ (s : Shared) (H : Hp) (Ca : Addr) (cl : List (Str × Addr)) (fp : List Addr), Cxx (X.blk s H scope (compEnvC scope cl Ca X.env) fp) M.nx k → PE (X.blk s H scope (compEnvC scope cl Ca X.env) fp) elt (tE M.nx fe))
    (hix : ix.all (fun i => (own.map (·.2)).contains i) = true := by rfl) (hs : ∀ x, foldedSetIterable iter X.env x = pure x := by intro _; rfl)
    (hy : X.N[i]? = some y := by rfl) (hyl : X.env.scope.names.lookup y = some .local := by rfl)
    (hsw : swapsWith (.ListComp elt [⟨tg, iter, ifs, 0⟩] scope pos) (some (.Name y py)) spos.line X.env = pure true := by exact sw_true rfl rfl rfl (by decide +kernel)) :
    PS X (.Assign [.Name y py] (.ListComp elt [⟨tg, iter, ifs, 0⟩] scope pos) spos) (tS M (sOwn i (oLc (own.map (·.2)) it ga t fe))) :=
  PS.weak (ps_setLc C.calm C.nd hy hyl hsw hi (blkOk_by ok) (fun s H Ca cl fp => hg s H Ca cl fp (C.blk ..)) (fun s H Ca cl fp => ht s H Ca cl fp (C.blk ..)) (fun s H Ca cl fp => he s H Ca cl fp (C.blk ..)) hs)
    fun D σ H q => by
      obtain ⟨F, env, I, q⟩ := q
      refine w_lc (fun i hi => by simpa using List.all_eq_true.mp hix i hi) ⟨F, env, I, ?_⟩
      unfold sOwn at q
      cases r : oLc (own.map (·.2)) it ga t fe env with
      | stuck => rw [r] at q; exact q
      | exc c x => rw [r] at q; exact fun cv dd H' s z => q F cv dd σ H' (I.grow s) (Fz.same s) z
      | ok m =>
        rw [r] at q
        dsimp only at q
        by_cases ho : ownOk i m = true
        · rw [if_pos ho] at q
          exact fun v H' fp s n hm => q _ _ H' (I.set_own i s n hm (.inr (ownOk_ne ho))) (fz_plus s n)
        · rw [if_neg ho] at q; exact q.elim
end
end Mi
end
section
set_option maxRecDepth 100000
set_option maxHeartbeats 4000000
namespace Mi
open PySem PySem.Spec PyProof.Rows L2

/-! ## a def's promise -/
/-- called with data ds the def gives back φ ds, and nothing that was there is changed -/
def spN (G : Gc) (φ : List D → Res D) : Sp := fun vs H Q E => ∃ F0 ds, (∀ a, F0 a → H a ≠ none) ∧ Reps G F0 H ds vs ∧ match φ ds with
  | .ok d => ∀ v H', Same H H' → Rep G F0 H' d v → Q v H'
  | .exc c x => ∀ cv dd H', Same H H' → ExRep G F0 H' c x cv dd → E cv dd H'
  | .stuck => False
def Out.res : Out → Res D
  | .nx _ => .ok .non
  | .rt d _ => .ok d
  | .exc c x _ => .exc c x
  | _ => .stuck
/-- the def of np parameters and n names with this body -/
def dfn (np n : Nat) (f : SF) : List D → Res D := fun ds => if ds.length = np then (f (ds.map Slot.val ++ List.replicate (n - np) Slot.no)).res else .stuck
theorem start_get {N : List Str} {vs : List V} {i : Nat} {v : V} (h : vs[i]? = some v) : (start N vs)[i]? = some (some v) := by
  have hi : i < vs.length := (List.getElem?_eq_some_iff.mp h).1
  unfold L2.start
  rw [List.getElem?_append_left (by rw [List.length_map]; exact hi), List.getElem?_map, h]
  rfl
theorem val_of_start {ds : List D} {m i : Nat} {d : D} (e : (ds.map Slot.val ++ List.replicate m Slot.no)[i]? = some (.val d)) : ds[i]? = some d := by
  by_cases hi : i < ds.length
  · rw [List.getElem?_append_left (by rw [List.length_map]; exact hi), List.getElem?_map] at e
    rw [List.getElem?_eq_getElem hi] at e ⊢
    cases e
    rfl
  · rw [List.getElem?_append_right (by rw [List.length_map]; omega), List.getElem?_replicate] at e
    split at e <;> cases e
theorem own_of_start {ds : List D} {k i : Nat} {m : Mu} (e : (ds.map Slot.val ++ List.replicate k Slot.no)[i]? = some (.own m)) : False := by
  by_cases hi : i < ds.length
  · rw [List.getElem?_append_left (by rw [List.length_map]; exact hi), List.getElem?_map, List.getElem?_eq_getElem hi] at e
    cases e
  · rw [List.getElem?_append_right (by rw [List.length_map]; omega), List.getElem?_replicate] at e
    split at e <;> cases e
theorem ex_of_start {ds : List D} {k i c : Nat} {x : Option D} (e : (ds.map Slot.val ++ List.replicate k Slot.no)[i]? = some (.ex c x)) : False := by
  by_cases hi : i < ds.length
  · rw [List.getElem?_append_left (by rw [List.length_map]; exact hi), List.getElem?_map, List.getElem?_eq_getElem hi] at e
    cases e
  · rw [List.getElem?_append_right (by rw [List.length_map]; omega), List.getElem?_replicate] at e
    split at e <;> cases e
theorem env_start {M : Fm} {H : Hp} {ds : List D} {vs : List V} {N : List Str} (hs : M.self = none) (hH : M.H0 = H) (r : Reps M.G M.F0 H ds vs) (hl : ds.length ≤ N.length) : EnvOk M M.F0 H (ds.map Slot.val ++ List.replicate (N.length - ds.length) Slot.no) (start N vs) where
  len := by
    unfold L2.start
    rw [List.length_append, List.length_append, List.length_map, List.length_map, List.length_replicate, List.length_replicate, r.length]
  old := by rw [hH]; exact Same.refl H
  dom := fun a h => by rw [← hH]; exact M.f0 a h
  f0 := fun _ h => h
  val := fun i d e => by
    obtain ⟨v, h1, h2⟩ := r.get (val_of_start e)
    exact ⟨v, start_get h1, h2⟩
  own := ⟨fun _ => [], fun i m e => (own_of_start e).elim, fun i j m n e => (own_of_start e).elim⟩
  self := fun x hx => by rw [hs] at hx; cases hx
  ex := fun i c x e => (ex_of_start e).elim
abbrev cxd (P : Program) (w : World) (K : PySem.W.Frag) (mg : Str → Option Value) (base : Heap) (N : List Str) (qual : Str) (scope : Scope) (f : Addr) (cd : Value) (A : Around) (outer : List Env) (s : Shared) (H : Hp) (E : XK) : Cx :=
  cxOf (L2.CX P w) P w K mg base N qual scope f cd A outer s H E
theorem cxx_def {P : Program} {w : World} {K : PySem.W.Frag} {mg : Str → Option Value} {base : Heap} {N : List Str} {qual : Str} {scope : Scope} {f : Addr} {cd : Value} {A : Around} {outer : List Env} {s : Shared} {H : Hp} {E : XK} {M : Fm} {k : Nat}
    (nd : N.Nodup) (hr : Room k (A.deeper (envOfC qual scope s.heap.objs.size f cd))) (hK : K = M.G.K) (hW : M.W = fun cls d _ H => E cls d H) : Cxx (cxd P w K mg base N qual scope f cd A outer s H E) M k :=
  ⟨hK, rfl, nd, hr, passes_of rfl, by rw [hW]; exact takes_of rfl rfl rfl rfl⟩

section
variable {P : Program} {w : World} {K : PySem.W.Frag} {mg : Str → Option Value} {base : Heap}
/-- what it takes of an exception does not hang on the names -/
def NoSt (M : Fm) : Prop := ∀ cv dd σ σ' H, M.W cv dd σ H → M.W cv dd σ' H
theorem ok_def {G : Gc} {x qual : Str} {params : Arguments} {body : List Stmt} {scope : Scope} {dvs : List V} {kws : List (Str × V)} {f : Addr} {fd : FuncData} {N ps : List Str} {k np n : Nat} {φ : List D → Res D} {sf : SF} (F : FunD K x qual params body scope dvs kws f fd) (S : FnScope N ps scope) (hφ : φ = dfn np n sf)
    (hn : N.length = n) (hnp : ps.length = np) (hle : np ≤ n) (hK : K = G.K)
    (hb : ∀ (cdv : Value) (A : Around) (outer : List Env) (s : Shared) (H : Hp) (E : XK) (M : Fm), M.G = G → NoSt M → Cxx (cxd P w K mg base N qual scope f cdv A outer s H E) M k → PSs (cxd P w K mg base N qual scope f cdv A outer s H E) body (tS M sf)) :
    FnOk P w K mg base (L2.CX P w) (k + 1) f fd ps (spN G φ) := by
  subst hφ
  refine F.ok S (fun vs H Q E h => ?_) (fun cdv A outer s H vs Q E hr h => ?_)
  · obtain ⟨F0, ds, _, r, q⟩ := h
    unfold dfn at q
    by_cases hl : ds.length = np
    · rw [r.length, hl, hnp]
    · rw [if_neg hl] at q; exact q.elim
  · obtain ⟨F0, ds, dom, r, q⟩ := h
    unfold dfn at q
    by_cases hl : ds.length = np
    · rw [if_pos hl] at q
      refine ⟨tS ⟨G, F0, H, dom, fun cls d _ H => E cls d H, none, 0, none⟩ sf, hb cdv A outer s H E ⟨G, F0, H, dom, fun cls d _ H => E cls d H, none, 0, none⟩ rfl (fun _ _ _ _ _ h => h) (cxx_def S.nd hr hK rfl), F0, _, env_start (M := ⟨G, F0, H, dom, fun cls d _ H => E cls d H, none, 0, none⟩) rfl rfl r (by rw [hl, hn]; exact hle), ?_⟩
      rw [hl, hn]
      cases e : sf (ds.map Slot.val ++ List.replicate (n - np) Slot.no) with
      | nx env => rw [e] at q; exact fun F' σ' H' I z => q .non H' I.old Rep.non_
      | rt d env => rw [e] at q; exact fun F' v σ' H' I z hv => q v H' I.old (hv.mono fun a o hf e => ⟨fun y => hf (I.f0 a y), e⟩)
      | bk env => rw [e] at q; exact q.elim
      | ct env => rw [e] at q; exact q.elim
      | exc c x env =>
        rw [e] at q
        intro F' cv dd σ' H' I z hx
        refine q cv dd H' I.old ⟨hx.1, ?_⟩
        obtain ⟨_, hx⟩ := hx
        cases x with
        | none => exact hx
        | some d =>
          obtain ⟨a, v, e1, e2, e3⟩ := hx
          exact ⟨a, v, e1, e2, e3.mono fun a o hf e => ⟨fun y => hf (I.f0 a y), e⟩⟩
      | stuck => rw [e] at q; exact q.elim
    · rw [if_neg hl] at q; exact q.elim
/-- a def that stands at a name -/
structure FnR (P : Program) (w : World) (K : PySem.W.Frag) (mg : Str → Option Value) (base : Heap) (G : Gc) (k : Nat) (x : Str) (φ : List D → Res D) : Prop where
  ex : ∃ (f : Addr) (fd : FuncData) (ps : List Str), mg x = some (.ref f) ∧ PySem.W.keepIn K (.ref f) = true ∧ Binds K fd ps [] ∧ FnOk P w K mg base (L2.CX P w) k f fd ps (spN G φ)
end

section
variable {M : Fm} {X : Cx} {a b c e o value : Expr} {es : List Expr} {pos p apos cpos pos' : Pos} {f g h : EF} {t u : TF} {af : AF} {st : Stmt} {rest body body2 : List Stmt} {sf sg : SF} {k j : Nat} {tg : Expr} {x n : Str} {φ : List D → Res D}
def eCall (φ : List D → Res D) (af : AF) : EF := fun env => (af env).bind φ
theorem w_call {σ : L2.St} {H : Hp} {Q : VK} (q : tE M (eCall φ af) σ H Q) : tCallS (spN M.G φ) (WE M.W) (tA M af) σ H Q := by
  obtain ⟨F, env, I, q⟩ := q
  refine wa_then I q fun ds vs H' s r q1 => ⟨F, ds, (I.grow s).dom, r, ?_⟩
  cases e : φ ds with
  | ok d => rw [e] at q1; exact q1
  | exc c x => rw [e] at q1; exact q1
  | stuck => rw [e] at q1; exact q1
theorem m_call (C : Cxx X M k) (F : FnR X.prog X.w X.K X.mg X.base M.G j x φ) (hj : j ≤ k) (ha : PA X (e :: es) (tA M af)) (hg : Gl X x := by rfl) (hdb : (x == ("__debug__" : Str)) = false := by decide) (he : starEach (e :: es) X.env = (false, eval e X.env) :: starEach es X.env := by rfl) (hpl : (backTo pos (starEach es X.env)).any (·.1) = false := by rfl) :
    PE X (.Call (.Name x p) (e :: es) [] pos) (tE M (eCall φ af)) := by
  obtain ⟨f, fd, ps, hm, hk, hb, F⟩ := F.ex
  exact PE.weak (pe_callS F (C.hr.mono hj) hg hm hk hb (fun σ => passAt C.tk σ) ha hdb he hpl) fun _ _ _ q => w_call q
/-- f() -/
theorem m_call0 (C : Cxx X M k) (F : FnR X.prog X.w X.K X.mg X.base M.G j x φ) (hj : j ≤ k) (hW : ∀ cv dd σ σ' H, M.W cv dd σ H → M.W cv dd σ' H) (hg : Gl X x := by rfl) (hdb : (x == ("__debug__" : Str)) = false := by decide) :
    PE X (.Call (.Name x p) [] [] pos) (tE M (eCall φ aNil)) := by
  obtain ⟨f, fd, ps, hm, hk, hb, F⟩ := F.ex
  refine PE.weak (pe_call0 F (C.hr.mono hj) hg hm hk hb .nil (E := fun cv dd H => ∀ σ, M.W cv dd σ H) (passes_call C.tk fun _ _ σ _ h => h σ) hdb) fun σ H Q ⟨F, env, I, q⟩ => ?_
  refine ⟨F, [], I.dom, Reps.nil, ?_⟩
  have q : post M (Rep M.G) F σ H (φ []) Q := q
  cases e : φ [] with
  | ok d => rw [e] at q; exact q
  | exc c x => rw [e] at q; exact fun cv dd H' s hx σ' => hW cv dd σ σ' H' (q cv dd H' s hx)
  | stuck => rw [e] at q; exact q

/-! ## attributes -/
def eFld (cs : List Nat) (n : Str) (f : EF) : EF := fun env => (f env).bind fun d => match d with
  | .ins c fs => if cs.contains c = true then (match fs.lookup n with
    | some y => .ok y
    | none => .stuck) else .stuck
  | _ => .stuck
/-- instances of these classes have attributes of their own under this name -/
def Flds (X : Cx) (M : Fm) (cs : List Nat) (n : Str) : Prop := ∀ c ∈ cs, Cls X.K (M.G.cls c) ∧ NoAttr X.K (M.G.cls c) n
theorem m_fld (cs : List Nat) (hF : Flds X M cs n) (he : PE X e (tV M f)) (hb : attributeBase e n X.env (eval e X.env) = eval e X.env := by rfl) : PE X (.Attribute e n pos) (tE M (eFld cs n f)) := PE.weak (pe_fld he hb) fun σ H Q ⟨F, env, I, q⟩ => by
  refine w_then I q fun d v H' s hv q1 => ?_
  cases d with
  | ins c fs =>
    obtain ⟨p, dx, us, rfl, h1, h2⟩ := hv.ins
    dsimp only at q1
    by_cases hc : cs.contains c = true
    · rw [if_pos hc] at q1
      cases e : fs.lookup n with
      | none => rw [e] at q1; exact q1.elim
      | some y =>
        rw [e] at q1
        obtain ⟨v, h3, h4⟩ := h2.lookup e
        obtain ⟨k1, k2⟩ := hF c (by simpa using hc)
        exact ⟨p, _, dx, us, v, rfl, h1, k1, k2, h3, post_ok q1 h4⟩
    · rw [if_neg hc] at q1; exact q1.elim
  | _ => exact q1.elim
/-- a whole number that a class keeps -/
theorem m_cint {i : Int} {C : Addr} {mc : Value} (hm : X.mg x = some (.ref C)) (r : ClX.CRead X.K C mc) (cv : ∃ t, ClX.CVal X.K C mc n (.int i) (.int i t)) (hg : Gl X x := by rfl) (hb : attributeBase (.Name x p) n X.env (eval (.Name x p) X.env) = eval (.Name x p) X.env := by rfl) (hd : (x == ("__debug__" : Str)) = false := by decide) :
    PE X (.Attribute (.Name x p) n pos) (tE M (eC (.int i))) := by
  obtain ⟨t, cv⟩ := cv
  exact PE.weak (ClX.pe_cval (pe_glob (v := .ref C) hg hm rfl hd) hb) fun σ H Q ⟨F, env, I, q⟩ => ⟨C, mc, .int i, _, rfl, r, cv, post_ok q Rep.int_⟩
def putD (n : Str) (d : D) : List (Str × D) → List (Str × D)
  | [] => [(n, d)]
  | (g, x) :: r => if g = n then (g, d) :: r else (g, x) :: putD n d r
theorem RepF.put {G : Gc} {F : Own} {H : Hp} {n : Str} {d : D} {v : V} (h : Rep G F H d v) : ∀ {fs : List (Str × D)} {us : List (Str × V)}, RepF G F H fs us → RepF G F H (putD n d fs) (putF n v us)
  | [], us, r => by
    unfold RepF at r
    subst r
    unfold putD RepF
    exact ⟨v, [], rfl, h, by unfold RepF; rfl⟩
  | (m, x) :: fs, us, r => by
    unfold RepF at r
    obtain ⟨y, ys, rfl, r1, r2⟩ := r
    unfold putD putF
    by_cases hm : m = n
    · rw [if_pos hm, if_pos hm]
      unfold RepF
      exact ⟨v, ys, rfl, h, r2⟩
    · rw [if_neg hm, if_neg hm]
      unfold RepF
      exact ⟨y, _, rfl, r1, RepF.put h r2⟩
/-- self.n = e -/
def sFldSet (i c0 : Nat) (n : Str) (f : EF) : SF := fun env => match env[i]? with
  | some (.own (.ins c fs)) => if c = c0 then (match f env with
    | .ok d => if fs.length < 1000 then .nx (env.set i (.own (.ins c (putD n d fs)))) else .stuck
    | .exc c' x => .exc c' x env
    | .stuck => .stuck) else .stuck
  | _ => .stuck
theorem m_fldSet (C : Cxx X M k) (i : Nat) {c0 : Nat} (hF : Flds X M [c0] n) (he : PE X value (tE M f)) (hN : X.N[i]? = some x := by rfl) (hv : Vis X.env.scope x := by first | exact Or.inl rfl | exact Or.inr (Or.inl rfl) | exact Or.inr (Or.inr rfl)) (hd : (x == ("__debug__" : Str)) = false := by decide) (hcd : (x == ("__classdict__" : Str)) = false := by decide)
    (hs : swapsWith value (some (.Attribute (.Name x p) n pos')) pos.line X.env = pure false := by rfl) :
    PS X (.Assign [.Attribute (.Name x p) n pos'] value pos) (tS M (sFldSet i c0 n f)) := PS.weak (ps_fld (pe_var hN hv hd hcd) he hs) fun D σ H ⟨F, env, I, q⟩ => by
  have hc0 := hF c0 (List.mem_singleton.mpr rfl)
  unfold sFldSet at q
  split at q
  · rename_i c fs hi
    by_cases hc : c = c0
    · subst hc
      rw [if_pos rfl] at q
      refine ⟨F, env, I, ?_⟩
      cases r2 : f env with
      | stuck => rw [r2] at q; exact q
      | exc c x => rw [r2] at q; exact fun cv dd H' s z => q F cv dd σ H' (I.grow s) (Fz.same s) z
      | ok d =>
        rw [r2] at q
        dsimp only at q
        by_cases hz : fs.length < 1000
        · rw [if_pos hz] at q
          intro v H1 s1 hv1
          have I1 := I.grow s1
          obtain ⟨w, fp, k1, k2, k3, kw⟩ := I1.write (m' := .ins c (putD n d fs)) hi (fun _ _ _ => ⟨_, _, rfl⟩)
          obtain ⟨r, dx, us, rfl, rfl, k5, k6⟩ := k2
          have hF : F r := (k3 r (List.mem_singleton.mpr rfl)).1
          refine ⟨.ref r, k1, r, _, dx, us, rfl, k5, hc0.1, hc0.2, by rw [k6.length]; exact hz, ?_⟩
          have z : Fz F H1 F (upd H1 r (.ins (M.G.cls c) dx (putF n v us))) := fun a o hf e => ⟨hf, by rw [upd_ne (show a ≠ r from fun w => hf (by rw [w]; exact hF))]; exact e⟩
          obtain ⟨w1, w2⟩ := kw (upd H1 r (.ins (M.G.cls c) dx (putF n v us))) (fun a o ha e => by rw [upd_ne (show a ≠ r from fun w => ha (List.mem_singleton.mpr w))]; exact e)
            ⟨r, dx, _, rfl, rfl, upd_same, RepF.put (hv1.mono z) (k6.mono z)⟩
          exact q F σ _ w1 ((Fz.same s1).trans w2)
        · rw [if_neg hz] at q; exact q.elim
    · rw [if_neg hc] at q; exact q.elim
  · exact q.elim
end
end Mi
end
section
set_option maxRecDepth 100000
set_option maxHeartbeats 4000000
namespace Mi
open PySem PySem.Spec PyProof.Rows L2

/-! ## instances made -/
def del1 (H : Hp) (x : Addr) : Hp := fun a => if a = x then none else H a
theorem del1_self {H : Hp} {x : Addr} : del1 H x x = none := if_pos rfl
theorem del1_ne {H : Hp} {x a : Addr} (h : a ≠ x) : del1 H x a = H a := if_neg h
/-- __init__ of the class numbered c: it fills the new object at the head of its arguments -/
def spI (G : Gc) (c : Nat) (φ : List D → Res (List (Str × D))) : Sp := fun vs H Q E => ∃ F0 ds x dx ws, vs = .ref x :: ws ∧ H x = some (.ins (G.cls c) dx []) ∧ ¬ F0 x ∧ (∀ a, F0 a → H a ≠ none) ∧ Reps G (plus F0 [x]) H ds ws ∧ match φ ds with
  | .ok fs => ∀ H' us dx', Same (del1 H x) H' → H' x = some (.ins (G.cls c) dx' us) → RepF G (plus F0 [x]) H' fs us → Q .non H'
  | .exc c' y => ∀ cv dd H', Same (del1 H x) H' → ExRep G F0 H' c' y cv dd → E cv dd H'
  | .stuck => False
def Out.fields (c : Nat) : Out → Res (List (Str × D))
  | .nx env => (match env[0]? with
    | some (Slot.own (Mu.ins c' fs)) => if c' = c then .ok fs else .stuck
    | _ => .stuck)
  | .rt .non env => (match env[0]? with
    | some (Slot.own (Mu.ins c' fs)) => if c' = c then .ok fs else .stuck
    | _ => .stuck)
  | .exc c x _ => .exc c x
  | _ => .stuck
/-- __init__ of np parameters besides self, n names -/
def dinit (c np n : Nat) (f : SF) : List D → Res (List (Str × D)) := fun ds => if ds.length = np then (f (Slot.own (.ins c []) :: (ds.map Slot.val ++ List.replicate (n - (np + 1)) Slot.no))).fields c else .stuck

section
variable {P : Program} {w : World} {K : PySem.W.Frag} {mg : Str → Option Value} {base : Heap}
theorem env_init {M : Fm} {H : Hp} {ds : List D} {ws : List V} {N : List Str} {c : Nat} {x dx : Addr} {F0 : Own} (hx : H x = some (.ins (M.G.cls c) dx [])) (hH : M.H0 = del1 H x) (hF : M.F0 = F0) (hf : ¬ F0 x) (hs : M.self = some x) (r : Reps M.G (plus F0 [x]) H ds ws) (hl : ds.length + 1 ≤ N.length) :
    EnvOk M (plus F0 [x]) H (Slot.own (.ins c []) :: (ds.map Slot.val ++ List.replicate (N.length - (ds.length + 1)) Slot.no)) (L2.start N (.ref x :: ws)) where
  len := by
    unfold L2.start
    simp only [List.length_append, List.length_map, List.length_replicate, List.length_cons, r.length]
    omega
  old := by
    rw [hH]
    intro a o e
    by_cases h : a = x
    · rw [h, del1_self] at e; cases e
    · rw [del1_ne h] at e; exact e
  dom := fun a h e => by
    rcases h with h | h
    · have := M.f0 a (by rw [hF]; exact h)
      rw [hH] at this
      by_cases hax : a = x
      · rw [hax] at h; exact hf h
      · rw [del1_ne hax] at this; exact this e
    · rw [List.mem_singleton.mp h, hx] at e; cases e
  f0 := fun a h => .inl (by rw [← hF]; exact h)
  val := fun i d e => by
    cases i with
    | zero => cases e
    | succ i =>
      rw [List.getElem?_cons_succ] at e
      obtain ⟨v, h1, h2⟩ := r.get (val_of_start e)
      refine ⟨v, start_get (vs := .ref x :: ws) ?_, h2⟩
      rw [List.getElem?_cons_succ]
      exact h1
  own := by
    refine ⟨fun _ => [x], fun i m e => ?_, fun i j m n e1 e2 ne => ?_⟩
    · cases i with
      | zero =>
        cases e
        refine ⟨⟨.ref x, rfl, x, dx, [], rfl, rfl, hx, by unfold RepF; rfl⟩, fun a ha => ⟨.inr ha, ?_⟩⟩
        rw [hH, List.mem_singleton.mp ha]
        exact del1_self
      | succ i =>
        rw [List.getElem?_cons_succ] at e
        exact (own_of_start e).elim
    · cases i with
      | zero => cases j with
        | zero => exact absurd rfl ne
        | succ j =>
          rw [List.getElem?_cons_succ] at e2
          exact (own_of_start e2).elim
      | succ i =>
        rw [List.getElem?_cons_succ] at e1
        exact (own_of_start e1).elim
  self := fun y hy c fs e => by
    rw [hs] at hy
    cases hy
    rfl
  ex := fun i c x e => by
    cases i with
    | zero => cases e
    | succ i =>
      rw [List.getElem?_cons_succ] at e
      exact (ex_of_start e).elim
theorem ok_init {G : Gc} {c : Nat} {x qual : Str} {params : Arguments} {body : List Stmt} {scope : Scope} {dvs : List V} {kws : List (Str × V)} {f : Addr} {fd : FuncData} {N ps : List Str} {k np n : Nat} {φ : List D → Res (List (Str × D))} {sf : SF} (F : FunD K x qual params body scope dvs kws f fd) (S : FnScope N ps scope) (hφ : φ = dinit c np n sf)
    (hn : N.length = n) (hnp : ps.length = np + 1) (hle : np + 1 ≤ n) (hK : K = G.K)
    (hb : ∀ (cdv : Value) (A : Around) (outer : List Env) (s : Shared) (H : Hp) (E : XK) (M : Fm), M.G = G → NoSt M → Cxx (cxd P w K mg base N qual scope f cdv A outer s H E) M k → PSs (cxd P w K mg base N qual scope f cdv A outer s H E) body (tS M sf)) :
    FnOk P w K mg base (L2.CX P w) (k + 1) f fd ps (spI G c φ) := by
  subst hφ
  refine F.ok S (fun vs H Q E h => ?_) (fun cdv A outer s H vs Q E hr h => ?_)
  · obtain ⟨F0, ds, x, dx, ws, rfl, _, _, _, r, q⟩ := h
    unfold dinit at q
    by_cases hl : ds.length = np
    · rw [List.length_cons, r.length, hl, hnp]
    · rw [if_neg hl] at q; exact q.elim
  · obtain ⟨F0, ds, x, dx, ws, rfl, hx, hf, dom, r, q⟩ := h
    unfold dinit at q
    by_cases hl : ds.length = np
    · rw [if_pos hl] at q
      have dom' : ∀ a, F0 a → del1 H x a ≠ none := fun a ha => by
        rw [del1_ne (show a ≠ x from fun e => hf (by rw [← e]; exact ha))]
        exact dom a ha
      have I0 := env_init (M := ⟨G, F0, del1 H x, dom', fun cls d _ H => E cls d H, some x, 0, none⟩) (N := N) (c := c) hx rfl rfl hf rfl r (by omega)
      refine ⟨tS ⟨G, F0, del1 H x, dom', fun cls d _ H => E cls d H, some x, 0, none⟩ sf, hb cdv A outer s H E ⟨G, F0, del1 H x, dom', fun cls d _ H => E cls d H, some x, 0, none⟩ rfl (fun _ _ _ _ _ h => h) (cxx_def S.nd hr hK rfl), _, _, I0, ?_⟩
      rw [hl, hn]
      have fin : ∀ {env : Envt} {F' : Own} {σ' : L2.St} {H' : Hp} {fs : List (Str × D)}, EnvOk ⟨G, F0, del1 H x, dom', fun cls d _ H => E cls d H, some x, 0, none⟩ F' H' env σ' → env[0]? = some (.own (.ins c fs)) →
          (∀ H' us dx', Same (del1 H x) H' → H' x = some (.ins (G.cls c) dx' us) → RepF G (plus F0 [x]) H' fs us → Q .non H') → Q .non H' := by
        intro env F' σ' H' fs I e q
        obtain ⟨fp, h1, h2⟩ := I.own
        obtain ⟨⟨v, h3, h4⟩, h5⟩ := h1 0 _ e
        rw [I.self x rfl c fs e] at h3
        cases h3
        obtain ⟨p, dx', us', e4, e5, e6, e7⟩ := h4
        cases e4
        have hxF : F' x := (h5 x (by rw [e5]; exact List.mem_singleton.mpr rfl)).1
        refine q H' us' dx' I.old e6 (e7.mono fun a o hf' e => ⟨fun y => ?_, e⟩)
        rcases y with y | y
        · exact hf' (I.f0 a y)
        · rw [List.mem_singleton.mp y] at hf'
          exact hf' hxF
      have key : ∀ {env : Envt} {F' : Own} {σ' : L2.St} {H' : Hp}, EnvOk ⟨G, F0, del1 H x, dom', fun cls d _ H => E cls d H, some x, 0, none⟩ F' H' env σ' →
          (match (match env[0]? with
            | some (Slot.own (Mu.ins c' fs)) => if c' = c then (Res.ok fs : Res (List (Str × D))) else .stuck
            | _ => .stuck) with
            | .ok fs => ∀ H' us dx', Same (del1 H x) H' → H' x = some (.ins (G.cls c) dx' us) → RepF G (plus F0 [x]) H' fs us → Q .non H'
            | .exc c' y => ∀ cv dd H', Same (del1 H x) H' → ExRep G F0 H' c' y cv dd → E cv dd H'
            | .stuck => False) → Q .non H' := by
        intro env F' σ' H' I q
        split at q
        · rename_i fs e
          split at e
          · rename_i c' fs' e0
            by_cases hc : c' = c
            · rw [if_pos hc] at e
              cases e
              subst hc
              exact fin I e0 q
            · rw [if_neg hc] at e; cases e
          · cases e
        · rename_i e
          split at e
          · split at e <;> cases e
          · cases e
        · exact q.elim
      cases e : sf (Slot.own (.ins c []) :: (ds.map Slot.val ++ List.replicate (n - (np + 1)) Slot.no)) with
      | nx env => rw [e] at q; exact fun F' σ' H' I z => key I q
      | rt d env =>
        rw [e] at q
        cases d with
        | non =>
          intro F' v σ' H' I z hv
          unfold Rep at hv
          rw [hv]
          exact key I q
        | _ => exact q.elim
      | bk env => rw [e] at q; exact q.elim
      | ct env => rw [e] at q; exact q.elim
      | exc c' y env =>
        rw [e] at q
        intro F' cv dd σ' H' I z hx
        refine q cv dd H' I.old ⟨hx.1, ?_⟩
        obtain ⟨_, hx⟩ := hx
        cases y with
        | none => exact hx
        | some d =>
          obtain ⟨a, v, e1, e2, e3⟩ := hx
          exact ⟨a, v, e1, e2, e3.mono fun a o hf e => ⟨fun y => hf (I.f0 a y), e⟩⟩
      | stuck => rw [e] at q; exact q.elim
    · rw [if_neg hl] at q; exact q.elim
/-- a class that stands at a name -/
structure ClR (P : Program) (w : World) (K : PySem.W.Frag) (mg : Str → Option Value) (base : Heap) (G : Gc) (k : Nat) (x : Str) (c : Nat) (φ : List D → Res (List (Str × D))) : Prop where
  ex : ∃ (f : Addr) (fd : FuncData) (ps : List Str), mg x = some (.ref (G.cls c)) ∧ Mk K (G.cls c) f ∧ Binds K fd ps [] ∧ FnOk P w K mg base (L2.CX P w) k f fd ps (spI G c φ)
end

section
variable {M : Fm} {X : Cx} {a b c e o value : Expr} {es : List Expr} {pos p p2 apos cpos pos' : Pos} {f g h : EF} {t u : TF} {af : AF} {st : Stmt} {rest body body2 : List Stmt} {sf sg : SF} {k j : Nat} {tg : Expr} {x n : Str}
def oMake (c : Nat) (φ : List D → Res (List (Str × D))) (af : AF) : OF := fun env => (af env).bind fun ds => (φ ds).bind fun fs => .ok (.ins c fs)
theorem m_make {c : Nat} {φ : List D → Res (List (Str × D))} (C : Cxx X M k) (F : ClR X.prog X.w X.K X.mg X.base M.G j x c φ) (hj : j + 1 ≤ k) (hW : ∀ cv dd σ σ' H, M.W cv dd σ H → M.W cv dd σ' H) (ha : PA X (e :: es) (tA M af)) (hg : Gl X x := by rfl) (hdb : (x == ("__debug__" : Str)) = false := by decide) (he : starEach (e :: es) X.env = (false, eval e X.env) :: starEach es X.env := by rfl) (hpl : (backTo pos (starEach es X.env)).any (·.1) = false := by rfl) :
    PE X (.Call (.Name x p) (e :: es) [] pos) (tO M (oMake c φ af)) := by
  obtain ⟨f, fd, ps, hm, hk, hb, F⟩ := F.ex
  refine PE.weak (pe_make hk F (C.hr.mono hj) hg hm hb .nil (E := fun cv dd H => ∀ σ, M.W cv dd σ H) (passes_call C.tk fun _ _ σ _ h => h σ) ha hdb he hpl) fun σ H Q ⟨F, env, I, q⟩ => ?_
  refine wao_then I q fun ds vs H1 s1 r q1 y dy ny ndy ne => ?_
  have I1 := I.grow s1
  have fy : ¬ F y := dom_no I1.dom ny
  have s2 : Same H1 (upd (upd H1 dy (.own y)) y (.ins (M.G.cls c) dy [])) := fun b o e => by
    rw [upd_ne (ne_of_none e ny), upd_ne (ne_of_none e ndy)]; exact e
  have s3 : ∀ {H' : Hp}, Same (del1 (upd (upd H1 dy (.own y)) y (.ins (M.G.cls c) dy [])) y) H' → Same H1 H' := fun {H'} s b o e => s b o (by rw [del1_ne (ne_of_none e ny)]; exact s2 b o e)
  have nf : ∀ b ∈ [y], H1 b = none := fun b hb => by rw [List.mem_singleton.mp hb]; exact ny
  refine ⟨F, ds, y, dy, vs, by rw [List.append_nil], upd_same, fy, (I1.grow s2).dom, r.mono (fz_plus s2 nf), ?_⟩
  cases e : φ ds with
  | stuck => rw [e] at q1; exact q1
  | exc c' x' => rw [e] at q1; exact fun cv dd H' s hx σ' => hW cv dd σ σ' H' (q1 cv dd H' (s3 s) hx)
  | ok fs =>
    rw [e] at q1
    exact fun H' us dx' s hy hf => ⟨rfl, q1 (.ref y) H' [y] (s3 s) nf ⟨y, dx', us, rfl, rfl, hy, hf⟩⟩

/-! ## slices -/
abbrev NF := Envt → Res (Option Int)
def nNone : NF := fun _ => .ok none
def nSome (f : EF) : NF := fun env => (f env).bind fun d => match d with
  | .int i => .ok (some i)
  | _ => .stuck
def tN (M : Fm) (nf : NF) : TO := fun σ H Q => ∃ F env, EnvOk M F H env σ ∧ match nf env with
  | .ok i => ∀ H', Same H H' → Q i H'
  | .exc c x => ∀ cv dd H', Same H H' → ExRep M.G F H' c x cv dd → M.W cv dd σ H'
  | .stuck => False
theorem PO.weak {e : Option Expr} {t t' : TO} (h : PO X e t) (w : ∀ σ H Q, t' σ H Q → t σ H Q) : PO X e t' := ⟨fun pins s σ H Q I q => h.run pins s σ H Q I (w σ H Q q)⟩
theorem m_pnone : PO X none (tN M nNone) := PO.weak po_none fun σ H Q ⟨F, env, I, q⟩ => q H (Same.refl H)
theorem m_psome (h : PE X e (tV M f)) : PO X (some e) (tN M (nSome f)) := PO.weak (po_some h) fun σ H Q ⟨F, env, I, q⟩ => by
  refine ⟨F, env, I, ?_⟩
  unfold nSome at q
  cases r : f env with
  | stuck => rw [r] at q; exact q
  | exc c x => rw [r] at q; exact q
  | ok d =>
    rw [r] at q
    cases d with
    | int i => exact fun v H' s hv => ⟨i, hv.int, q H' s⟩
    | _ => exact q.elim
def cutD (ds : List D) (lo hi : Option Int) : List D := (ds.drop (HT.sIx ds.length 0 lo)).take (HT.sIx ds.length ds.length hi - HT.sIx ds.length 0 lo)
theorem Reps.cut {G : Gc} {F : Own} {H : Hp} {ds : List D} {vs : List V} (h : Reps G F H ds vs) (lo hi : Option Int) : Reps G F H (cutD ds lo hi) (cutV vs lo hi) := by
  unfold cutD cutV
  rw [h.length]
  exact (h.drop _).take _
def dSlice : D → Option Int → Option Int → Res D
  | .lst ds, lo, hi => .ok (.lst (cutD ds lo hi))
  | .tup ds, lo, hi => .ok (.tup (cutD ds lo hi))
  | .str s, lo, hi => if s.length ≤ sizeLine then .ok (.str (cutS s lo hi)) else .stuck
  | _, _, _ => .stuck
def eSlice (f : EF) (lo hi : NF) : EF := fun env => (f env).bind fun d => (lo env).bind fun i => (hi env).bind fun j => dSlice d i j
theorem cutD_whole {ds : List D} {lo hi : Option Int} (h : HT.sIx ds.length 0 lo = 0 ∧ HT.sIx ds.length ds.length hi = ds.length) : cutD ds lo hi = ds := by
  unfold cutD
  rw [h.1, h.2, List.drop_zero, Nat.sub_zero, List.take_length]
theorem o_slice : SlR X (fun x lo hi H Q => (rSlL X.K x lo hi H Q ∨ rSlA X.K x lo hi H Q) ∨ rSlS x lo hi H Q) := SlR.or (SlR.or sl_list sl_tupA) sl_str
theorem wn_then {nf : NF} {kk : Option Int → Res D} {R : RP} {Q : VK} {P : Option Int → Hp → Prop} {F : Own} {env : Envt} {σ : L2.St} {H : Hp} (I : EnvOk M F H env σ) (q : post M R F σ H ((nf env).bind kk) Q)
    (hk : ∀ i H', Same H H' → post M R F σ H' (kk i) Q → P i H') : tN M nf σ H P := by
  refine ⟨F, env, I, ?_⟩
  cases r : nf env with
  | stuck => rw [r] at q; exact q
  | exc c x => rw [r] at q; exact q
  | ok d =>
    rw [r] at q
    exact fun H' s => hk d H' s (post.grow s q)
theorem m_slice {lo hi : Option Expr} {nl nh : NF} (C : Cxx X M k) (he : PE X e (tV M f)) (hl : PO X lo (tN M nl)) (hu : PO X hi (tN M nh)) : PE X (.Subscript e (.Slice lo hi none p2) pos) (tE M (eSlice f nl nh)) := PE.weak (pe_slice o_slice he hl hu) fun σ H Q ⟨F, env, I, q⟩ => by
  refine w_then I q fun d v H1 s1 hv q1 => ?_
  have I1 := I.grow s1
  refine wn_then I1 q1 fun i H2 s2 q2 => ?_
  have I2 := I1.grow s2
  refine wn_then I2 q2 fun jj H3 s3 q3 => ?_
  have I3 := I2.grow s3
  have hv := (hv.mono s2).mono s3
  cases d with
  | lst ds =>
    obtain ⟨p, xs, rfl, h1, h2⟩ := hv.lst
    exact .inl (.inl ⟨p, xs, rfl, C.hK ▸ h1, fun l nl => q3 _ _ (same_new nl) (Rep.lst_ (dom_no I3.dom nl) upd_same ((h2.mono (Fz.same (same_new nl))).cut i jj))⟩)
  | tup ds =>
    have ht := hv.tupR
    obtain ⟨p, xs, rfl, h1, h2⟩ := hv.tup
    refine .inl (.inr ⟨p, xs, rfl, C.hK ▸ h1, fun hw => ?_, fun _ l nl => q3 _ _ (same_new nl) (Rep.tup_ (dom_no I3.dom nl) upd_same ((h2.mono (Fz.same (same_new nl))).cut i jj))⟩)
    rw [h2.length] at hw
    refine post_ok q3 ?_
    rw [cutD_whole hw]
    exact ht
  | str s =>
    unfold dSlice at q3
    dsimp only at q3
    by_cases hz : s.length ≤ sizeLine
    · rw [if_pos hz] at q3
      exact .inr ⟨s, hv.str, hz, post_ok q3 Rep.str_⟩
    · rw [if_neg hz] at q3; exact q3.elim
  | _ => exact q3.elim
end
end Mi
end
section
set_option maxRecDepth 100000
set_option maxHeartbeats 4000000
namespace Mi
open PySem PySem.Spec PyProof.Rows L2

section
variable {M : Fm}
/-- the slots' owners stay where they were -/
def OwnSub (env1 env : Envt) (σ1 σ : L2.St) : Prop := ∀ (j : Nat) (m : Mu), env1[j]? = some (.own m) → env[j]? = some (.own m) ∧ σ1[j]? = σ[j]?
theorem EnvOk.join {F : Own} {H : Hp} {env env1 : Envt} {σ σ1 : L2.St} {ds : List D} {L : Addr} (I : EnvOk M F H env1 σ1) (J : EnvOk M F H (env ++ [.own (.lst ds)]) (σ ++ [some (.ref L)])) (hs : OwnSub env1 env σ1 σ) :
    EnvOk M F H (env1 ++ [.own (.lst ds)]) (σ1 ++ [some (.ref L)]) := by
  have hl : σ.length = env.length := by
    have := J.len
    rw [List.length_append, List.length_append] at this
    simpa using this
  have lo : ∀ (i : Nat) (s : Slot), (env1 ++ [Slot.own (.lst ds)])[i]? = some s → (i < env1.length ∧ env1[i]? = some s) ∨ (i = env1.length ∧ s = .own (.lst ds)) := fun i s e => by
    by_cases hi : i < env1.length
    · rw [List.getElem?_append_left hi] at e; exact .inl ⟨hi, e⟩
    · rw [List.getElem?_append_right (by omega)] at e
      cases q : i - env1.length with
      | zero =>
        rw [q] at e
        exact .inr ⟨by omega, (Option.some.inj e).symm⟩
      | succ n => rw [q] at e; cases e
  have ls : ∀ (i : Nat) (x : Option V), σ1[i]? = some x → (σ1 ++ [some (.ref L)])[i]? = some x := fun i x e => by
    rw [List.getElem?_append_left (List.getElem?_eq_some_iff.mp e).1]; exact e
  obtain ⟨fp, h1, h2⟩ := J.own
  have jlast : (env ++ [Slot.own (.lst ds)])[env.length]? = some (.own (.lst ds)) := by simp
  have jlo : ∀ (i : Nat) (m : Mu), env[i]? = some (.own m) → (env ++ [Slot.own (.lst ds)])[i]? = some (.own m) ∧ i < env.length := fun i m e => by
    have := (List.getElem?_eq_some_iff.mp e).1
    rw [List.getElem?_append_left this]; exact ⟨e, this⟩
  refine ⟨by rw [List.length_append, List.length_append, I.len]; rfl, I.old, I.dom, I.f0, fun i d e => ?_, ⟨fun i => if i < env1.length then fp i else fp env.length, fun i m e => ?_, fun i j m n e1 e2 ne => ?_⟩, fun x hx c fs e => ?_, fun j c x e => ?_⟩
  · rcases lo i _ e with ⟨_, z⟩ | ⟨_, z⟩
    · obtain ⟨v, q1, q2⟩ := I.val i d z
      exact ⟨v, ls i _ q1, q2⟩
    · cases z
  · rcases lo i _ e with ⟨hi, z⟩ | ⟨hi, z⟩
    · dsimp only
      rw [if_pos hi]
      obtain ⟨k1, k2⟩ := hs i m z
      obtain ⟨j1, j2⟩ := jlo i m k1
      obtain ⟨⟨v, q1, q2⟩, q3⟩ := h1 i m j1
      rw [List.getElem?_append_left (by omega)] at q1
      exact ⟨⟨v, ls i _ (k2.trans q1), q2⟩, q3⟩
    · cases z
      subst hi
      dsimp only
      rw [if_neg (Nat.lt_irrefl _)]
      obtain ⟨⟨v, q1, q2⟩, q3⟩ := h1 env.length _ jlast
      refine ⟨⟨v, ?_, q2⟩, q3⟩
      rw [← I.len]
      rw [← hl] at q1
      simpa using q1
  · dsimp only
    rcases lo i _ e1 with ⟨hi, z⟩ | ⟨hi, z⟩
    · rw [if_pos hi]
      obtain ⟨j1, j1'⟩ := jlo i m (hs i m z).1
      rcases lo j _ e2 with ⟨hj, y⟩ | ⟨hj, y⟩
      · rw [if_pos hj]
        exact h2 i j m n j1 (jlo j n (hs j n y).1).1 ne
      · cases y
        rw [if_neg (by omega)]
        exact h2 i env.length m _ j1 jlast (by omega)
    · rw [if_neg (by omega)]
      cases z
      rcases lo j _ e2 with ⟨hj, y⟩ | ⟨hj, y⟩
      · rw [if_pos hj]
        obtain ⟨j1, j1'⟩ := jlo j n (hs j n y).1
        exact h2 env.length j _ n jlast j1 (by omega)
      · omega
  · rcases lo 0 _ e with ⟨_, z⟩ | ⟨_, z⟩
    · exact ls 0 _ (I.self x hx c fs z)
    · cases z
  · rcases lo j _ e with ⟨_, z⟩ | ⟨_, z⟩
    · obtain ⟨q1, q2⟩ := I.ex j c x z
      exact ⟨ls j _ q1, q2⟩
    · cases z
/-- a target gives no owner -/
def GaOk (ga : GF) (ix : List Nat) : Prop := ∀ d env env1, ga d env = some env1 → ∀ (j : Nat) (m : Mu), env1[j]? = some (.own m) → env[j]? = some (.own m) ∧ j ∉ ix
theorem ga_ok_name {i : Nat} : GaOk (gaName i) [i] := fun d env env1 e j m q => by
  unfold gaName at e
  cases e
  rcases getset q with ⟨_, e2, _⟩ | ⟨ne, e2⟩
  · cases e2
  · exact ⟨e2, fun z => ne (List.mem_singleton.mp z)⟩
def GsOk (ga : GFs) (ix : List Nat) : Prop := ∀ d env env1, ga d env = some env1 → ∀ (j : Nat) (m : Mu), env1[j]? = some (.own m) → env[j]? = some (.own m) ∧ j ∉ ix
theorem gs_ok_nil : GsOk gaNil [] := fun d env env1 e j m q => by
  cases d with
  | nil =>
    cases e
    exact ⟨q, fun z => nomatch z⟩
  | cons d ds => cases e
theorem gs_ok_cons {ga : GF} {gs : GFs} {ix iy : List Nat} (h1 : GaOk ga ix) (h2 : GsOk gs iy) : GsOk (gaCons ga gs) (ix ++ iy) := fun d env env1 e j m q => by
  cases d with
  | nil => cases e
  | cons d ds =>
    unfold gaCons at e
    dsimp only at e
    cases r : ga d env with
    | none => rw [r] at e; cases e
    | some env2 =>
      rw [r] at e
      obtain ⟨k1, k2⟩ := h2 ds env2 env1 e j m q
      obtain ⟨k3, k4⟩ := h1 d env env2 r j m k1
      exact ⟨k3, fun z => (List.mem_append.mp z).elim k4 k2⟩
theorem ga_ok_tup {gs : GFs} {n : Nat} {ix : List Nat} (h : GsOk gs ix) : GaOk (gaTup n gs) ix := fun d env env1 e j m q => by
  unfold gaTup at e
  split at e
  · split at e
    · exact h _ env env1 e j m q
    · cases e
  · cases e
theorem wipe_own {vs : List Nat} {env : Envt} {σ : L2.St} : OwnSub (wipeE env vs) env (L2.wipe σ vs) σ := by
  induction vs with
  | nil => exact fun j m e => ⟨e, rfl⟩
  | cons v vs ih =>
    intro j m e
    unfold wipeE at e
    rcases getset e with ⟨_, e2, _⟩ | ⟨ne, e2⟩
    · cases e2
    · obtain ⟨k1, k2⟩ := ih j m e2
      refine ⟨k1, ?_⟩
      unfold L2.wipe
      rw [List.getElem?_set_ne (Ne.symm ne)]
      exact k2
theorem OwnSub.trans {e1 e2 e3 : Envt} {s1 s2 s3 : L2.St} (a : OwnSub e1 e2 s1 s2) (b : OwnSub e2 e3 s2 s3) : OwnSub e1 e3 s1 s3 := fun j m e =>
  let ⟨h1, h2⟩ := a j m e
  let ⟨h3, h4⟩ := b j m h1
  ⟨h3, h2.trans h4⟩
theorem ownsub_ga {ga : GF} {ix : List Nat} {d : D} {env env1 : Envt} {σ σ1 : L2.St} (h : GaOk ga ix) (e : ga d env = some env1) (o : Outs ix σ σ1) : OwnSub env1 env σ1 σ := fun j m q =>
  let ⟨h1, h2⟩ := h d env env1 e j m q
  ⟨h1, o.2 j h2⟩
/-- both see the list that grows -/
theorem last_app2 {F : Own} {H H1 : Hp} {env env1 : Envt} {σ σ1 : L2.St} {ds : List D} {L : Addr} {d : D} {v : V} (I : EnvOk M F H (env ++ [.own (.lst ds)]) (σ ++ [some (.ref L)])) (J : EnvOk M F H (env1 ++ [.own (.lst ds)]) (σ1 ++ [some (.ref L)])) (s : Same H H1) (r : Rep M.G F H1 d v) :
    ∃ vs, H1 L = some (.lst vs) ∧ vs.length = ds.length ∧ EnvOk M F (upd H1 L (.lst (vs ++ [v]))) (env ++ [.own (.lst (ds ++ [d]))]) (σ ++ [some (.ref L)]) ∧ EnvOk M F (upd H1 L (.lst (vs ++ [v]))) (env1 ++ [.own (.lst (ds ++ [d]))]) (σ1 ++ [some (.ref L)]) ∧ Fz F H F (upd H1 L (.lst (vs ++ [v]))) := by
  obtain ⟨vs, h1, h2, h3, h4⟩ := I.last_app s r
  obtain ⟨ws, k1, k2, k3, k4⟩ := J.last_app s r
  have : ws = vs := by
    rw [h1] at k1
    cases k1
    rfl
  subst this
  exact ⟨ws, h1, h2, h3, k3, h4⟩
end

section
variable {M : Fm} {X : Cx} {a b c e o elt tg iter tg1 iter1 : Expr} {es ifs ifs1 : List Expr} {pos spos p : Pos} {f g h fe : EF} {t t1 u : TF} {k : Nat} {ga ga1 : GF} {ix ix1 : List Nat} {it it1 : IF} {scope : Scope} {own : List (Str × Nat)}
def lc2L (ga : GF) (t : TF) (it1 : IF) (ga1 : GF) (t1 : TF) (fe : EF) (vs1 : List Nat) (env : Envt) : List D → Res (List D)
  | [] => .ok []
  | d :: ds => match ga d env with
    | none => .stuck
    | some env1 => match t env1 with
      | .ok true => (match it1 env1 with
        | .ok ds1 => (match lcL ga1 t1 fe (wipeE env1 vs1) ds1 with
          | .ok ys => (lc2L ga t it1 ga1 t1 fe vs1 env ds).bind fun r => .ok (ys ++ r)
          | _ => .stuck)
        | _ => .stuck)
      | .ok false => lc2L ga t it1 ga1 t1 fe vs1 env ds
      | _ => .stuck
theorem lc2L_noexc {vs1 : List Nat} {env : Envt} : ∀ (l : List D) c x, lc2L ga t it1 ga1 t1 fe vs1 env l ≠ .exc c x := by
  intro l
  induction l with
  | nil => intro c x e; cases e
  | cons d l ih =>
    intro c x e
    unfold lc2L at e
    split at e
    · cases e
    · split at e
      · split at e
        · split at e
          · cases r2 : lc2L ga t it1 ga1 t1 fe vs1 env l with
            | ok z => rw [r2] at e; cases e
            | exc c' x' => exact ih c' x' r2
            | stuck => rw [r2] at e; cases e
          · cases e
        · cases e
      · exact ih c x e
      · cases e
def oLc2 (vs vs1 : List Nat) (it : IF) (ga : GF) (t : TF) (it1 : IF) (ga1 : GF) (t1 : TF) (fe : EF) : OF := fun env => (it env).bind fun ds => (lc2L ga t it1 ga1 t1 fe vs1 (wipeE env vs) ds).bind fun r => if r.length ≤ sizeLine then .ok (.lst r) else .stuck
/-- the inner loop -/
theorem w_lc2in {vs1 : List Nat} {F : Own} {L : Addr} {H1 H4 : Hp} {env env1 : Envt} {σ σ2 : L2.St} {J1 : It} {ds1 acc ys : List D} {Nx : Hp → Prop} (hL : F L) (nL : H1 L = none) (hix1 : ∀ i ∈ ix1, i ∈ vs1) (hga1 : GaOk ga1 ix1)
    (I : EnvOk M.nx F H4 (env ++ [.own (.lst acc)]) (σ ++ [some (.ref L)])) (K : EnvOk M.nx F H4 (wipeE env1 vs1 ++ [.own (.lst acc)]) (L2.wipe σ2 vs1 ++ [some (.ref L)])) (s4 : Same H1 H4) (hJ1 : ItOk M.nx J1 F H4 ds1)
    (hr : lcL ga1 t1 fe (wipeE env1 vs1) ds1 = .ok ys) (hz : acc.length + ys.length ≤ sizeLine)
    (hN : ∀ H', EnvOk M.nx F H' (env ++ [.own (.lst (acc ++ ys))]) (σ ++ [some (.ref L)]) → Same H1 H' → Nx H') :
    ∃ W1 : Nat → Nat → Hp → Prop, (∃ m, W1 0 m H4) ∧ ∀ j k H, W1 j k H →
      (J1.stop j H ∧ Nx H) ∨ (J1.go j H ∧ ∃ Nx1 : Hp → Prop, (∀ H', Nx1 H' → ∃ k', k' < k ∧ W1 (j + 1) k' H') ∧ ∀ x H', J1.yld j H x H' → tG M.nx ix1 ga1 x (L2.wipe σ2 vs1) H' fun σ3 H5 => L2.wipe σ3 vs1 = L2.wipe σ2 vs1 ∧ tT M.nx t1 σ3 H5 fun b H6 =>
        if b = true then tE M.nx fe σ3 H6 fun y H7 => ∃ acc, H7 L = some (.lst acc) ∧ acc.length < sizeLine ∧ Nx1 (upd H7 L (.lst (acc ++ [y]))) else Nx1 H6) := by
  refine ⟨fun j k H' => ∃ a1 rest, k = ds1.length - j ∧ j ≤ ds1.length ∧ EnvOk M.nx F H' (env ++ [.own (.lst a1)]) (σ ++ [some (.ref L)]) ∧ EnvOk M.nx F H' (wipeE env1 vs1 ++ [.own (.lst a1)]) (L2.wipe σ2 vs1 ++ [some (.ref L)]) ∧
      lcL ga1 t1 fe (wipeE env1 vs1) (ds1.drop j) = .ok rest ∧ a1 ++ rest = acc ++ ys ∧ Same H1 H' ∧ Fz F H4 F H', ⟨_, acc, ys, rfl, Nat.zero_le _, I, K, by rw [List.drop_zero]; exact hr, rfl, s4, Fz.refl _ _⟩, ?_⟩
  rintro j k H' ⟨a1, rest, rfl, hle, I', K', hr', ht, s', z'⟩
  by_cases hlt : j < ds1.length
  · refine .inr ⟨hJ1.go j _ H' z' hlt, fun H2 => ∃ a2 rest2, EnvOk M.nx F H2 (env ++ [.own (.lst a2)]) (σ ++ [some (.ref L)]) ∧ EnvOk M.nx F H2 (wipeE env1 vs1 ++ [.own (.lst a2)]) (L2.wipe σ2 vs1 ++ [some (.ref L)]) ∧
      lcL ga1 t1 fe (wipeE env1 vs1) (ds1.drop (j + 1)) = .ok rest2 ∧ a2 ++ rest2 = acc ++ ys ∧ Same H1 H2 ∧ Fz F H4 F H2, fun H2 ⟨a2, r2, q1, q2, q3, q4, q5, q6⟩ => ⟨ds1.length - (j + 1), by omega, a2, r2, rfl, hlt, q1, q2, q3, q4, q5, q6⟩, fun x H2 hy => ?_⟩
    obtain ⟨d, hd, s3, hrep⟩ := hJ1.yld j _ H' x H2 z' I'.dom hlt hy
    have e1 : ds1.drop j = d :: ds1.drop (j + 1) := by
      rw [List.drop_eq_getElem_cons hlt]
      rw [List.getElem?_eq_getElem hlt] at hd
      rw [Option.some.inj hd]
    rw [e1] at hr'
    unfold lcL at hr'
    refine ⟨F, wipeE env1 vs1, d, (K'.pop).grow s3, hrep, ?_⟩
    cases r2 : ga1 d (wipeE env1 vs1) with
    | none => rw [r2] at hr'; cases hr'
    | some env3 =>
      rw [r2] at hr'
      dsimp only at hr' ⊢
      intro σ3 I3 o3
      refine ⟨(wipe_outs o3 hix1).trans (wipe_wipe σ2 vs1), F, env3, I3, ?_⟩
      cases r3 : t1 env3 with
      | stuck => rw [r3] at hr'; cases hr'
      | exc c x => rw [r3] at hr'; cases hr'
      | ok b =>
        rw [r3] at hr'
        intro H3 s4'
        cases b with
        | false =>
          rw [if_neg Bool.false_ne_true]
          exact ⟨a1, rest, (I'.grow s3).grow s4', (K'.grow s3).grow s4', hr', ht, (s'.trans s3).trans s4', z'.trans (Fz.same (s3.trans s4'))⟩
        | true =>
          rw [if_pos rfl]
          dsimp only at hr'
          refine ⟨F, env3, I3.grow s4', ?_⟩
          cases r4 : fe env3 with
          | stuck => rw [r4] at hr'; cases hr'
          | exc c x => rw [r4] at hr'; cases hr'
          | ok y =>
            rw [r4] at hr'
            dsimp only at hr'
            intro v H4' s5 hv
            cases r5 : lcL ga1 t1 fe (wipeE env1 vs1) (ds1.drop (j + 1)) with
            | stuck => rw [r5] at hr'; cases hr'
            | exc c x => rw [r5] at hr'; cases hr'
            | ok rest2 =>
              rw [r5] at hr'
              have er : y :: rest2 = rest := by
                have : Res.ok (y :: rest2) = Res.ok rest := hr'
                cases this
                rfl
              have s35 : Same H' H4' := (s3.trans s4').trans s5
              obtain ⟨ws, k1, k2, k3, k4, k5⟩ := last_app2 I' K' s35 hv
              refine ⟨ws, k1, ?_, a1 ++ [y], rest2, k3, k4, rfl, by rw [List.append_assoc, List.singleton_append, er]; exact ht, fun a o e => ?_, z'.trans k5⟩
              · rw [k2]
                have := congrArg List.length ht
                rw [← er, List.length_append, List.length_append, List.length_cons] at this
                omega
              · rw [upd_ne (ne_of_none e nL)]
                exact (s'.trans s35) a o e
  · have e : j = ds1.length := by omega
    subst e
    rw [List.drop_length] at hr'
    have er : [] = rest := by
      have : Res.ok ([] : List D) = Res.ok rest := hr'
      cases this
      rfl
    rw [← er, List.append_nil] at ht
    subst ht
    exact .inl ⟨hJ1.stop _ _ H' z' (Nat.le_refl _), hN H' I' s'⟩
theorem w_lc2 {σ : L2.St} {H : Hp} {Q : VK} {vs vs1 : List Nat} (hix : ∀ i ∈ ix, i ∈ vs) (hix1 : ∀ i ∈ ix1, i ∈ vs1) (hga : GaOk ga ix) (hga1 : GaOk ga1 ix1) (q : tO M (oLc2 vs vs1 it ga t it1 ga1 t1 fe) σ H Q) : tLc2 (tI M it) (tG M.nx ix ga) (tT M.nx t) (tI M.nx it1) (tG M.nx ix1 ga1) (tT M.nx t1) (tE M.nx fe) vs vs1 σ H Q := by
  obtain ⟨F, env, I, q⟩ := q
  refine ⟨F, env, I, ?_⟩
  unfold oLc2 at q
  cases r : it env with
  | stuck => rw [r] at q; exact q
  | exc c x => rw [r] at q; exact q
  | ok ds =>
    rw [r] at q
    intro J H1 s1 hJ L nL
    have q : opost M F σ H ((lc2L ga t it1 ga1 t1 fe vs1 (wipeE env vs) ds).bind fun r => if r.length ≤ sizeLine then .ok (.lst r) else .stuck) Q := q
    cases r1 : lc2L ga t it1 ga1 t1 fe vs1 (wipeE env vs) ds with
    | stuck => rw [r1] at q; exact q.elim
    | exc c x => exact absurd r1 (lc2L_noexc ds c x)
    | ok total =>
      rw [r1] at q
      have q : opost M F σ H (if total.length ≤ sizeLine then .ok (.lst total) else .stuck) Q := q
      by_cases hz : total.length ≤ sizeLine
      · rw [if_pos hz] at q
        have q : opost M F σ H1 (.ok (.lst total)) Q := opost.grow s1 q
        have n1 : ∀ a ∈ [L], H1 a = none := fun a ha => by rw [List.mem_singleton.mp ha]; exact nL
        have s2 : Same H1 (upd H1 L (.lst [])) := same_new nL
        have I1 : EnvOk M.nx (plus F [L]) (upd H1 L (.lst [])) (wipeE env vs ++ [.own (.lst [])]) (L2.wipe σ vs ++ [some (.ref L)]) :=
          ((I.grow s1).nx.wipe vs).push_own s2 n1 ⟨L, [], rfl, rfl, upd_same, Reps.nil⟩ (fun c fs e => by cases e)
        refine ⟨fun i m H' => ∃ acc rest, m = ds.length - i ∧ i ≤ ds.length ∧ EnvOk M.nx (plus F [L]) H' (wipeE env vs ++ [.own (.lst acc)]) (L2.wipe σ vs ++ [some (.ref L)]) ∧ lc2L ga t it1 ga1 t1 fe vs1 (wipeE env vs) (ds.drop i) = .ok rest ∧ acc ++ rest = total ∧ Same H1 H',
          ⟨_, [], total, rfl, Nat.zero_le _, I1, by rw [List.drop_zero]; exact r1, rfl, s2⟩, ?_⟩
        rintro i m H' ⟨acc, rest, rfl, hle, I', hr, ht, s'⟩
        have z' : Fz F H1 (plus F [L]) H' := fz_plus s' n1
        by_cases hlt : i < ds.length
        · refine .inr ⟨hJ.go i _ H' z' hlt, fun H2 => ∃ acc' rest', EnvOk M.nx (plus F [L]) H2 (wipeE env vs ++ [.own (.lst acc')]) (L2.wipe σ vs ++ [some (.ref L)]) ∧ lc2L ga t it1 ga1 t1 fe vs1 (wipeE env vs) (ds.drop (i + 1)) = .ok rest' ∧ acc' ++ rest' = total ∧ Same H1 H2,
            fun H2 ⟨acc', rest', h1, h2, h3, h4⟩ => ⟨ds.length - (i + 1), by omega, acc', rest', rfl, hlt, h1, h2, h3, h4⟩, fun x H2 hy => ?_⟩
          obtain ⟨d, hd, s3, hrep⟩ := hJ.yld i _ H' x H2 z' I'.dom hlt hy
          have e1 : ds.drop i = d :: ds.drop (i + 1) := by
            rw [List.drop_eq_getElem_cons hlt]
            rw [List.getElem?_eq_getElem hlt] at hd
            rw [Option.some.inj hd]
          rw [e1] at hr
          unfold lc2L at hr
          refine ⟨plus F [L], wipeE env vs, d, (I'.pop).grow s3, hrep, ?_⟩
          cases r2 : ga d (wipeE env vs) with
          | none => rw [r2] at hr; cases hr
          | some env1 =>
            rw [r2] at hr
            dsimp only at hr ⊢
            intro σ2 I2 o2
            refine ⟨(wipe_outs o2 hix).trans (wipe_wipe σ vs), plus F [L], env1, I2, ?_⟩
            cases r3 : t env1 with
            | stuck => rw [r3] at hr; cases hr
            | exc c x => rw [r3] at hr; cases hr
            | ok b =>
              rw [r3] at hr
              intro H3 s4
              cases b with
              | false =>
                rw [if_neg Bool.false_ne_true]
                exact ⟨acc, rest, (I'.grow s3).grow s4, hr, ht, (s'.trans s3).trans s4⟩
              | true =>
                rw [if_pos rfl]
                dsimp only at hr
                refine ⟨plus F [L], env1, I2.grow s4, ?_⟩
                cases r4 : it1 env1 with
                | stuck => rw [r4] at hr; cases hr
                | exc c x => rw [r4] at hr; cases hr
                | ok ds1 =>
                  rw [r4] at hr
                  dsimp only at hr
                  intro J1 H4 s5 hJ1
                  cases r5 : lcL ga1 t1 fe (wipeE env1 vs1) ds1 with
                  | stuck => rw [r5] at hr; cases hr
                  | exc c x => rw [r5] at hr; cases hr
                  | ok ys =>
                    rw [r5] at hr
                    dsimp only at hr
                    cases r6 : lc2L ga t it1 ga1 t1 fe vs1 (wipeE env vs) (ds.drop (i + 1)) with
                    | stuck => rw [r6] at hr; cases hr
                    | exc c x => rw [r6] at hr; cases hr
                    | ok rest2 =>
                      rw [r6] at hr
                      have er : ys ++ rest2 = rest := by
                        have : Res.ok (ys ++ rest2) = Res.ok rest := hr
                        cases this
                        rfl
                      have I4 := ((I'.grow s3).grow s4).grow s5
                      have K4 := ((((I2.grow s4).grow s5).wipe vs1)).join I4 ((wipe_own (vs := vs1) (σ := σ2)).trans (ownsub_ga hga r2 o2))
                      refine w_lc2in (ys := ys) (.inr (List.mem_singleton.mpr rfl)) nL hix1 hga1 I4 K4 (((s'.trans s3).trans s4).trans s5) hJ1 r5 ?_ fun H5 I5 s6 => ⟨acc ++ ys, rest2, I5, rfl, by rw [List.append_assoc, er]; exact ht, s6⟩
                      have := congrArg List.length ht
                      rw [← er, List.length_append, List.length_append] at this
                      omega
        · have e : i = ds.length := by omega
          subst e
          rw [List.drop_length] at hr
          have er : [] = rest := by
            have : Res.ok ([] : List D) = Res.ok rest := hr
            cases this
            rfl
          rw [← er, List.append_nil] at ht
          subst ht
          obtain ⟨ws, k1, k2⟩ := own_end I'
          exact .inl ⟨hJ.stop _ _ H' z' (Nat.le_refl _), q _ H' [L] s' n1 ⟨L, ws, rfl, rfl, k1, k2⟩⟩
      · rw [if_neg hz] at q
        exact q.elim
theorem m_lc2 (C : Cxx X M k) (own : List (Str × Nat)) (vs1 : List Nat) (hi : PI X tg iter (tI M it)) (ok : blkC X.N X.env.scope scope own = true) (hga : GaOk ga ix) (hga1 : GaOk ga1 ix1)
    (hg : ∀ (s : Shared) (H : Hp) (Ca : Addr) (cl : List (Str × Addr)) (fp : List Addr), Cxx (X.blk s H scope (compEnvC scope cl Ca X.env) fp) M.nx k → PG (X.blk s H scope (compEnvC scope cl Ca X.env) fp) tg (tG M.nx ix ga))
    (ht : ∀ (s : Shared) (H : Hp) (Ca : Addr) (cl : List (Str × Addr)) (fp : List Addr), Cxx (X.blk s H scope (compEnvC scope cl Ca X.env) fp) M.nx k → PTs (X.blk s H scope (compEnvC scope cl Ca X.env) fp) ifs (tT M.nx t))
    (hi1 : ∀ (s : Shared) (H : Hp) (Ca : Addr) (cl : List (Str × Addr)) (fp : List Addr), Cxx (X.blk s H scope (compEnvC scope cl Ca X.env) fp) M.nx k → PI (X.blk s H scope (compEnvC scope cl Ca X.env) fp) tg1 iter1 (tI M.nx it1))
    (hg1 : ∀ (s : Shared) (H : Hp) (Ca : Addr) (cl : List (Str × Addr)) (fp : List Addr), Cxx (X.blk s H scope (compEnvC scope cl Ca X.env) fp) M.nx k → PG (X.blk s H scope (compEnvC scope cl Ca X.env) fp) tg1 (tG M.nx ix1 ga1))
    (ht1 : ∀ (s : Shared) (H : Hp) (Ca : Addr) (cl : List (Str × Addr)) (fp : List Addr), Cxx (X.blk s H scope (compEnvC scope cl Ca X.env) fp) M.nx k → PTs (X.blk s H scope (compEnvC scope cl Ca X.env) fp) ifs1 (tT M.nx t1))
    (he : ∀ (s : Shared) (H : Hp) (Ca : Addr) (cl : List (Str × Addr)) (fp : List Addr), Cxx (X.blk s H scope (compEnvC scope cl Ca X.env) fp) M.nx k → PE (X.blk s H scope (compEnvC scope cl Ca X.env) fp) elt (tE M.nx fe))
    (hix : ix.all (fun i => (own.map (·.2)).contains i) = true := by rfl) (hix1 : ix1.all (fun i => vs1.contains i) = true := by rfl) (hv : vs1.all (fun i => (own.map (·.2)).contains i) = true := by rfl)
    (hs : ∀ x, foldedSetIterable iter X.env x = pure x := by intro _; rfl) (hs1 : ∀ env x, foldedSetIterable iter1 env x = pure x := by intro _ _; rfl) :
    PE X (.ListComp elt [⟨tg, iter, ifs, 0⟩, ⟨tg1, iter1, ifs1, 0⟩] scope pos) (tO M (oLc2 (own.map (·.2)) vs1 it ga t it1 ga1 t1 fe)) :=
  PE.weak (pe_lc2 C.calm C.nd hi (blkOk_by ok) (fun i hi => by simpa using List.all_eq_true.mp hv i hi) (fun s H Ca cl fp => hg s H Ca cl fp (C.blk ..)) (fun s H Ca cl fp => ht s H Ca cl fp (C.blk ..)) (fun s H Ca cl fp => hi1 s H Ca cl fp (C.blk ..)) (fun s H Ca cl fp => hg1 s H Ca cl fp (C.blk ..)) (fun s H Ca cl fp => ht1 s H Ca cl fp (C.blk ..)) (fun s H Ca cl fp => he s H Ca cl fp (C.blk ..)) hs hs1)
    fun σ H Q q => w_lc2 (fun i hi => by simpa using List.all_eq_true.mp hix i hi) (fun i hi => by simpa using List.all_eq_true.mp hix1 i hi) hga hga1 q
theorem m_setLc2 (C : Cxx X M k) (i : Nat) (own : List (Str × Nat)) (vs1 : List Nat) {y : Str} {py : Pos} (hi : PI X tg iter (tI M it)) (ok : blkC X.N X.env.scope scope own = true) (hga : GaOk ga ix) (hga1 : GaOk ga1 ix1)
    (hg : ∀ (s : Shared) (H : Hp) (Ca : Addr) (cl : List (Str × Addr)) (fp : List Addr), Cxx (X.blk s H scope (compEnvC scope cl Ca X.env) fp) M.nx k → PG (X.blk s H scope (compEnvC scope cl Ca X.env) fp) tg (tG M.nx ix ga))
    (ht : ∀ (s : Shared) (H : Hp) (Ca : Addr) (cl : List (Str × Addr)) (fp : List Addr), Cxx (X.blk s H scope (compEnvC scope cl Ca X.env) fp) M.nx k → PTs (X.blk s H scope (compEnvC scope cl Ca X.env) fp) ifs (tT M.nx t))
    (hi1 : ∀ (s : Shared) (H : Hp) (Ca : Addr) (cl : List (Str × Addr)) (fp : List Addr), Cxx (X.blk s H scope (compEnvC scope cl Ca X.env) fp) M.nx k → PI (X.blk s H scope (compEnvC scope cl Ca X.env) fp) tg1 iter1 (tI M.nx it1))
    (hg1 : ∀ (s : Shared) (H : Hp) (Ca : Addr) (cl : List (Str × Addr)) (fp : List Addr), Cxx (X.blk s H scope (compEnvC scope cl Ca X.env) fp) M.nx k → PG (X.blk s H scope (compEnvC scope cl Ca X.env) fp) tg1 (tG M.nx ix1 ga1))
    (ht1 : ∀ (s : Shared) (H : Hp) (Ca : Addr) (cl : List (Str × Addr)) (fp : List Addr), Cxx (X.blk s H scope (compEnvC scope cl Ca X.env) fp) M.nx k → PTs (X.blk s H scope (compEnvC scope cl Ca X.env) fp) ifs1 (tT M.nx t1))
    (he : ∀ (s : Shared) (H : Hp) (Ca : Addr) (cl : List (Str × Addr)) (fp : List Addr), Cxx (X.blk s H scope (compEnvC scope cl Ca X.env) fp) M.nx k → PE (X.blk s H scope (compEnvC scope cl Ca X.env) fp) elt (tE M.nx fe))
    (hix : ix.all (fun i => (own.map (·.2)).contains i) = true := by rfl) (hix1 : ix1.all (fun i => vs1.contains i) = true := by rfl) (hv : vs1.all (fun i => (own.map (·.2)).contains i) = true := by rfl)
    (hs : ∀ x, foldedSetIterable iter X.env x = pure x := by intro _; rfl) (hs1 : ∀ env x, foldedSetIterable iter1 env x = pure x := by intro _ _; rfl)
    (hy : X.N[i]? = some y := by rfl) (hyl : X.env.scope.names.lookup y = some .local := by rfl)
    (hsw : swapsWith (.ListComp elt [⟨tg, iter, ifs, 0⟩, ⟨tg1, iter1, ifs1, 0⟩] scope pos) (some (.Name y py)) spos.line X.env = pure true := by exact sw_true rfl rfl rfl (by decide +kernel)) :
    PS X (.Assign [.Name y py] (.ListComp elt [⟨tg, iter, ifs, 0⟩, ⟨tg1, iter1, ifs1, 0⟩] scope pos) spos) (tS M (sOwn i (oLc2 (own.map (·.2)) vs1 it ga t it1 ga1 t1 fe))) :=
  PS.weak (ps_setLc2 C.calm C.nd hy hyl hsw hi (blkOk_by ok) (fun i hi => by simpa using List.all_eq_true.mp hv i hi) (fun s H Ca cl fp => hg s H Ca cl fp (C.blk ..)) (fun s H Ca cl fp => ht s H Ca cl fp (C.blk ..)) (fun s H Ca cl fp => hi1 s H Ca cl fp (C.blk ..)) (fun s H Ca cl fp => hg1 s H Ca cl fp (C.blk ..)) (fun s H Ca cl fp => ht1 s H Ca cl fp (C.blk ..)) (fun s H Ca cl fp => he s H Ca cl fp (C.blk ..)) hs hs1)
    fun D σ H q => by
      obtain ⟨F, env, I, q⟩ := q
      refine w_lc2 (fun i hi => by simpa using List.all_eq_true.mp hix i hi) (fun i hi => by simpa using List.all_eq_true.mp hix1 i hi) hga hga1 ⟨F, env, I, ?_⟩
      unfold sOwn at q
      cases r : oLc2 (own.map (·.2)) vs1 it ga t it1 ga1 t1 fe env with
      | stuck => rw [r] at q; exact q
      | exc c x => rw [r] at q; exact fun cv dd H' s z => q F cv dd σ H' (I.grow s) (Fz.same s) z
      | ok m =>
        rw [r] at q
        dsimp only at q
        by_cases ho : ownOk i m = true
        · rw [if_pos ho] at q
          exact fun v H' fp s n hm => q _ _ H' (I.set_own i s n hm (.inr (ownOk_ne ho))) (fz_plus s n)
        · rw [if_neg ho] at q; exact q.elim
end
end Mi
end
section
set_option maxRecDepth 100000
set_option maxHeartbeats 4000000
namespace Mi
open PySem PySem.Spec PyProof.Rows L2

/-! ## set(list of whole numbers) -/
section
variable {P : Program} {w : World} {A : Around} {E : Value → Shared → Prop} {s : Shared}
abbrev set0 (w : World) : Obj := { cls := .type "set", dict := none, data := .set #[] 0 (.fresh 0 0 (!w.params.followText "set-order")) }
set_option maxHeartbeats 8000000 in
theorem call_set_lstI {l : Addr} {items : Array Value} (ns : List Int) {Q : Value → Shared → Prop} (hh : A.handled = none) (hl : s.heap.IsList l items) (hit : IntsAre items.toList ns) (hb : ns.length + 1 < scanBound)
    (h : ∀ (h' : Heap) (tk c : Nat), SetR w h' s.heap.objs.size (fun j => decide (j ∈ ns)) c → c ≤ ns.length → (∀ b o, s.heap.get? b = some o → h'.get? b = some o) → Q (.ref s.heap.objs.size) { s with heap := h', toks := tk }) :
    wpAny (model P w) A (call (.type "set") [.ref l]) Q E s := by
  have hisz : items.size = ns.length := by simpa using IntsAre.length hit
  obtain ⟨c, tl, hmro⟩ := F.called_set.mro
  have hmade := F.called_set.made
  have hsub := F.called_set.sub
  refine wpAny_call (codeAny_of_tree ?_)
  show wpAny _ _ (callAny (.type "set") _) _ _ _
  refine wpAny_pure ⟨Code.quiet_builtin _ (by decide +kernel), codeAny_builtin F.entry_type_call ?_⟩
  rw [Around.under_plain (weight_type_call_type "set" [.ref l] []) rfl]
  have h1 := F.called_set.notType
  have h2 := F.called_set.canCreate
  have hct := F.typeCall_set_1 (.ref l)
  repeat (any_goals (first | assumption | wp_step))
  refine codeAny_mono (code_set_led1 (.ref l) (E := E) (Q₁ := fun obj s₁ => obj = .ref s.heap.objs.size ∧ s₁ = { s with heap := s.heap.push (set0 w) }) ⟨rfl, rfl⟩) fun r s₁ hr => ?_
  match r, hr with
  | .ok (.ret obj), hr =>
    obtain ⟨rfl, rfl⟩ := hr
    have hS : (s.heap.push (set0 w)).get? s.heap.objs.size = some (set0 w) := Heap.get?_push_size _ rfl
    have hT : Shared.TypeIs { s with heap := s.heap.push (set0 w) } (.ref s.heap.objs.size) "set" := ⟨_, hS, rfl⟩
    have hli := F.called_set.init.lookup
    have hbi := F.called_set.init.bind (.ref s.heap.objs.size)
    repeat (any_goals (first | assumption | wp_step))
    refine codeAny_mono (codeAny_call_builtin (R := wants (fun r s₂ => r = .none ∧ ∃ h' tk c, s₂ = { s with heap := h', toks := tk } ∧ SetR w h' s.heap.objs.size (fun j => decide (j ∈ ns)) c ∧ c ≤ ns.length ∧
        (∀ b o, s.heap.get? b = some o → h'.get? b = some o)) E) F.called_set.init.plain F.entry_set_init (check_set_init_1 hT ?_)) fun r₂ s₂ hr₂ => ?_
    · obtain ⟨⟨ocls, odict, odata, oslots⟩, hol, hcl, nl, hdl⟩ := hl
      simp only at hcl hdl
      subst hcl hdl
      have hol' : (s.heap.push (set0 w)).get? l = some { cls := .type "list", dict := odict, data := .seq items nl, slots := oslots } := Heap.get?_push_of_some _ hol
      have hsls := F.sub_list_set
      have hslf := F.sub_list_frozenset
      have hne : (Value.type "list" == Value.type "dict") = false := by decide
      have hl1 : (s.heap.push (set0 w)).IsList l items := ⟨_, hol', rfl, nl, rfl⟩
      unfold Builtin.«set.__init__» noKeywords Builtin.Frozenset.updateFrom
      generalize hPI : pyIter = PI
      wp_walk
      subst hPI
      refine wpAny_pyIter_list hl1 ?_
      refine wpAny_bind (wpAny_runValue ?_)
      have hlS : l < s.heap.objs.size := Heap.lt_size hol
      have hz : (s.heap.push (set0 w)).objs.size = s.heap.objs.size + 1 := Heap.size_push ..
      have hneI : l ≠ (s.heap.push (set0 w)).objs.size := by rw [hz]; exact Nat.ne_of_lt (Nat.lt_succ_of_lt hlS)
      have hSf : s.heap.objs.size ∉ [(s.heap.push (set0 w)).objs.size, l] := by
        rw [hz]
        simp only [List.mem_cons, List.not_mem_nil, or_false, not_or]
        exact ⟨Nat.ne_of_lt (Nat.lt_succ_self _), Nat.ne_of_gt hlS⟩
      have hval : ∀ (i : Nat) (v : Value), items[i]? = some v → ∃ k t, ns[i]? = some k ∧ v = .int k t := fun i v hv => by
        have hi : i < ns.length := by rw [← hisz]; exact (Array.getElem?_eq_some_iff.mp hv).1
        obtain ⟨t, e⟩ := PyProof.Rows.IntsAre.int_at hit i v (by rw [Array.getElem?_toList]; exact hv)
        refine ⟨ns[i], t, List.getElem?_eq_getElem hi, ?_⟩
        rw [e, List.getD_eq_getElem?_getD, List.getElem?_eq_getElem hi] <;> rfl
      refine set_update_ints ((Walks.list (show A.in1.in1.in1.handled = none by simp [hh]) _ l hneI items).toS) s.heap.objs.size hSf ns hisz hb hval (items.size - 0) 0 _ (by omega) (Nat.zero_le _)
        ⟨⟨_, Heap.get?_push_size _ rfl, rfl, rfl⟩, (hl1.push _)⟩ ⟨0, Nat.le_refl 0, setR_new_at (Heap.get?_push_of_some _ hS)⟩ fun s' c' hm hc' hS' => ?_
      obtain ⟨h', g2, d', tk', os'⟩ := s'
      have eg : g2 = s.gens := hm.gens
      have ed : d' = s.drawn := hm.drawn
      have eo : os' = s.os := hm.os
      subst eg ed eo
      show wpAny _ _ _ _ _ _
      refine wpAny_pure ?_
      show wpAny _ _ (ret Value.none) _ _ _
      rw [hisz] at hc'
      refine wpAny_pure ⟨rfl, h', tk', c', rfl, hS', hc', fun b o e => ?_⟩
      have hb0 : b < s.heap.objs.size := Heap.lt_size e
      refine hm.heap b o ?_ (Heap.get?_push_of_some _ (Heap.get?_push_of_some _ e))
      rw [hz]
      simp only [List.mem_cons, List.not_mem_nil, or_false, not_or]
      exact ⟨Nat.ne_of_lt hb0, Nat.ne_of_lt (Nat.lt_succ_of_lt hb0)⟩
    · match r₂, hr₂ with
      | .ok (.ret r), hr₂ =>
        obtain ⟨rfl, h', tk, c', rfl, hS', hc', hk'⟩ := hr₂
        repeat (any_goals (first | assumption | wp_step))
        exact h _ _ _ hS' hc' hk'
      | .error e, hr₂ => exact hr₂
  | .error e, hr => exact hr
end

/-! ## sorted(set(xs)) -/
/-- ascending, each once -/
def insD (k : Int) : List Int → List Int
  | [] => [k]
  | x :: r => if k < x then k :: x :: r else if k = x then x :: r else x :: insD k r
def sortD : List Int → List Int
  | [] => []
  | x :: r => insD x (sortD r)
theorem mem_insD {k j : Int} : ∀ {l : List Int}, j ∈ insD k l ↔ j = k ∨ j ∈ l
  | [] => by simp [insD]
  | x :: r => by
    unfold insD
    split
    · simp
    · split
      · rename_i h; subst h; simp
      · simp only [List.mem_cons, mem_insD (l := r)]
        exact ⟨fun h => by rcases h with h | h | h <;> simp [h], fun h => by rcases h with h | h | h <;> simp [h]⟩
theorem insD_lt {k : Int} : ∀ {l : List Int}, l.Pairwise (· < ·) → (insD k l).Pairwise (· < ·)
  | [], _ => by simp [insD]
  | x :: r, h => by
    have h' := List.pairwise_cons.mp h
    unfold insD
    split
    · rename_i hk
      refine List.pairwise_cons.mpr ⟨fun y hy => ?_, h⟩
      rcases List.mem_cons.mp hy with e | hy
      · rw [e]; exact hk
      · exact Int.lt_trans hk (h'.1 y hy)
    · split
      · exact h
      · refine List.pairwise_cons.mpr ⟨fun y hy => ?_, insD_lt h'.2⟩
        rcases mem_insD.mp hy with e | hy
        · rw [e]; omega
        · exact h'.1 y hy
theorem mem_sortD {j : Int} : ∀ {l : List Int}, j ∈ sortD l ↔ j ∈ l
  | [] => by simp [sortD]
  | x :: r => by rw [sortD, mem_insD, mem_sortD, List.mem_cons]
theorem sortD_lt : ∀ l : List Int, (sortD l).Pairwise (· < ·)
  | [] => List.Pairwise.nil
  | x :: r => insD_lt (sortD_lt r)
theorem asc_uniq : ∀ {l m : List Int}, l.Pairwise (· < ·) → m.Pairwise (· < ·) → (∀ k, k ∈ l ↔ k ∈ m) → l = m
  | [], [], _, _, _ => rfl
  | [], y :: m, _, _, h => absurd ((h y).mpr List.mem_cons_self) (by simp)
  | x :: l, [], _, _, h => absurd ((h x).mp List.mem_cons_self) (by simp)
  | x :: l, y :: m, h1, h2, h => by
    have a := List.pairwise_cons.mp h1
    have b := List.pairwise_cons.mp h2
    have e : x = y := by
      have q1 := (h x).mp List.mem_cons_self
      have q2 := (h y).mpr List.mem_cons_self
      rcases List.mem_cons.mp q1 with e | q1
      · exact e
      · rcases List.mem_cons.mp q2 with e | q2
        · exact e.symm
        · have := a.1 y q2
          have := b.1 x q1
          omega
    subst e
    rw [asc_uniq a.2 b.2 fun k => ?_]
    constructor
    · intro hk
      rcases List.mem_cons.mp ((h k).mp (List.mem_cons_of_mem _ hk)) with e | q
      · have := a.1 k hk; omega
      · exact q
    · intro hk
      rcases List.mem_cons.mp ((h k).mpr (List.mem_cons_of_mem _ hk)) with e | q
      · have := b.1 k hk; omega
      · exact q
def D.ints : List D → Option (List Int)
  | [] => some []
  | .int i :: r => (D.ints r).map (i :: ·)
  | _ :: _ => none
theorem Reps.ints {G : Gc} {F : Own} {H : Hp} : ∀ {ds : List D} {vs : List V} {ns : List Int}, Reps G F H ds vs → D.ints ds = some ns → vs = ns.map V.int ∧ ds = ns.map D.int
  | [], vs, ns, h, e => by
    unfold Reps at h
    cases e
    exact ⟨h, rfl⟩
  | d :: ds, vs, ns, h, e => by
    unfold Reps at h
    obtain ⟨v, r, rfl, h1, h2⟩ := h
    cases d with
    | int i =>
      unfold D.ints at e
      obtain ⟨ms, e1, rfl⟩ := Option.map_eq_some_iff.mp e
      obtain ⟨k1, k2⟩ := Reps.ints h2 e1
      unfold Rep at h1
      rw [h1, k1, k2]
      exact ⟨rfl, rfl⟩
    | _ => cases e
theorem reps_ints {G : Gc} {F : Own} {H : Hp} : ∀ ns : List Int, Reps G F H (ns.map D.int) (ns.map V.int)
  | [] => Reps.nil
  | n :: ns => Reps.cons Rep.int_ (reps_ints ns)
def rSetI (K : PySem.W.Frag) (w : World) : List V → Hp → VK → Prop := fun vs H Q => ∃ (a : Addr) (ns : List Int), vs = [.ref a] ∧ (SqL K H a (ns.map V.int) ∨ SqT K H a (ns.map V.int)) ∧ ns.length < 64 ∧
  ∀ p c, H p = none → c ≤ ns.length → Q (.ref p) (upd H p (SetO w p (fun j => decide (j ∈ ns)) c))
section
variable {M : Fm} {X : Cx} {a b c e : Expr} {es : List Expr} {pos p p2 q : Pos} {f g h : EF} {k : Nat}
theorem cr_setI (hc : X.calm = true) : CallR X (.type "set") (rSetI X.K X.w) := by
  intro pins s σ H vs us Q I r h
  obtain ⟨a, ns, rfl, hs, hl, q⟩ := h
  rw [Vals.ref1 r]
  have hd := I.ok.hd hc
  have fin : ∀ (h' : Heap) (tk c : Nat), SetR X.w h' s.heap.objs.size (fun j => decide (j ∈ ns)) c → c ≤ ns.length → (∀ b o, s.heap.get? b = some o → h'.get? b = some o) → EP X pins σ Q (.ref s.heap.objs.size) { s with heap := h', toks := tk } := fun h' tk c R hcn kk =>
    ⟨.ref _, upd H s.heap.objs.size (SetO X.w s.heap.objs.size (fun j => decide (j ∈ ns)) c), I.laid (t' := tk) kk (Nat.le_refl _) (setO_new R), rfl, q _ c (I.hok.fresh (Nat.le_refl _)) hcn⟩
  rcases hs with hs | hs
  · obtain ⟨its, rv, pl, hz⟩ := I.list hs
    exact call_set_lstI ns hd pl.isList (by simpa using rv.ints) (by unfold scanBound; omega) fin
  · obtain ⟨its, rv, pt, hz⟩ := I.tuple hs
    exact call_set_tupI ns hd (show s.heap.IsTuple a its.toArray from pt) (by simpa using rv.ints) (by unfold scanBound; omega) fin
def dSortSet : D → Res Mu := fun d => match d.items with
  | some ds => (match D.ints ds with
    | some ns => if ns.length < 64 then .ok (.lst ((sortD ns).map D.int)) else .stuck
    | none => .stuck)
  | none => .stuck
theorem RepV.items {G : Gc} {F : Own} {H : Hp} {d : D} {v : V} {ds : List D} (h : RepV G F H d v) (e : d.items = some ds) : ∃ a xs, v = .ref a ∧ (SqL G.K H a xs ∨ SqT G.K H a xs) ∧ Reps G F H ds xs := by
  cases d with
  | tup xs =>
    cases e
    obtain ⟨a, xs, e1, h1, h2⟩ := h.tup
    exact ⟨a, xs, e1, .inr h1, h2⟩
  | lst xs =>
    cases e
    obtain ⟨a, xs, e1, h1, h2⟩ := h.lst
    exact ⟨a, xs, e1, .inl h1, h2⟩
  | _ => cases e
theorem m_sortSet (C : Cxx X M k) (hm : X.mg "sorted" = none) (hm2 : X.mg "set" = none) (ha : PE X e (tV M f)) (hg : Gl X "sorted" := by rfl) (hg2 : Gl X "set" := by rfl) (he : starEach [e] X.env = (false, eval e X.env) :: starEach [] X.env := by rfl) (hpl : (backTo q (starEach [] X.env)).any (·.1) = false := by rfl)
    (he2 : starEach [.Call (.Name "set" p2) [e] [] q] X.env = (false, eval (.Call (.Name "set" p2) [e] [] q) X.env) :: starEach [] X.env := by rfl) (hpl2 : (backTo pos (starEach [] X.env)).any (·.1) = false := by rfl) :
    PE X (.Call (.Name "sorted" p) [.Call (.Name "set" p2) [e] [] q] [] pos) (tO M (oU dSortSet f)) :=
  PE.weak (pe_callB (cr_sortedSet C.calm) hg hm (by decide +kernel) (pa_cons (pe_callTy (cr_setI C.calm) hg2 hm2 PyProof.Rows.boot_set (pa_cons ha pa_nil he) (by decide) (by decide) he hpl) pa_nil he2) (by decide) (by decide) he2 hpl2) fun σ H Q ⟨F, env, I, q⟩ => by
    refine wo_then I q fun x v H1 s1 hv q1 => ?_
    unfold dSortSet at q1
    split at q1
    · rename_i ds e1
      split at q1
      · rename_i ns e2
        split at q1
        · rename_i hl
          obtain ⟨a, xs, rfl, h1, h2⟩ := hv.items e1
          obtain ⟨rfl, rfl⟩ := h2.ints e2
          refine ⟨a, ns, rfl, C.hK ▸ h1, hl, fun pp c np hc => ?_⟩
          refine ⟨pp, _, c, rfl, upd_same, by omega, fun ms p3 asc hm _ n3 => ?_⟩
          have e3 : ms = sortD ns := asc_uniq asc (sortD_lt ns) fun j => by rw [hm j, mem_sortD, decide_eq_true_eq]
          subst e3
          have s2 : Same H1 (upd H1 pp (SetO X.w pp (fun j => decide (j ∈ ns)) c)) := same_new np
          refine opost_new (opost.grow s2 q1) (reps_ints _) n3
        · exact q1.elim
      · exact q1.elim
    · exact q1.elim
end
end Mi
end
section
set_option maxRecDepth 100000
set_option maxHeartbeats 4000000
namespace Mi
open PySem PySem.Spec PyProof.Rows L2

/-! ## the set comprehension, whatever its items -/
/-- o0: the new set; r: what set.add asks and gives -/
def tScG (o0 : Addr → HO) (r : V → List V → Hp → VK → Prop) (wi : TI) (g : TG) (tt : TT) (te : TE) (vs : List Nat) : TE := fun σ H Q => wi σ H fun J H1 => ∀ D, H1 D = none → ∃ W : Nat → Nat → Hp → Prop, (∃ m, W 0 m (upd H1 D (o0 D))) ∧ ∀ i m H, W i m H →
  (J.stop i H ∧ Q (.ref D) H) ∨ (J.go i H ∧ ∃ Nx : Hp → Prop, (∀ H', Nx H' → ∃ m', m' < m ∧ W (i + 1) m' H') ∧ ∀ x H', J.yld i H x H' → g x (L2.wipe σ vs) H' fun σ2 H2 => L2.wipe σ2 vs = L2.wipe σ vs ∧ tt σ2 H2 fun b H3 =>
    if b = true then te σ2 H3 fun y H4 => r (.ref D) [y] H4 fun _ H5 => Nx H5 else Nx H3)
section
variable {X : Cx}
theorem sc_coreG {pins : List (Addr × Obj)} {s : Shared} {σ : L2.St} {H : Hp} {Q : VK} {elt tg iter : Expr} {ifs : List Expr} {scope : Scope} {own : List (Str × Nat)} {pos pos' : Pos} {o0 : Addr → HO} {r : V → List V → Hp → VK → Prop} {wi : TI} {g : TG} {tt : TT} {te : TE} {Qf : Value → Shared → Prop}
    (hc : X.calm = true) (hN : X.N.Nodup) (I : Inv X pins σ H s) (hi : PI X tg iter wi) (ok : BlkOk X.N X.env.scope scope own)
    (hnew : ∀ (h : Heap) (H' : Hp), ObjOk X.prog X.w H' (h.push (set0 X.w)) h.objs.size (o0 h.objs.size))
    (hadd : ∀ (s : Shared) (H : Hp) (C : Addr) (cl : List (Str × Addr)) (fp : List Addr), MtR (X.blk s H scope (compEnvC scope cl C X.env) fp) "set.add" r)
    (hg : ∀ (s : Shared) (H : Hp) (C : Addr) (cl : List (Str × Addr)) (fp : List Addr), PG (X.blk s H scope (compEnvC scope cl C X.env) fp) tg g) (ht : ∀ (s : Shared) (H : Hp) (C : Addr) (cl : List (Str × Addr)) (fp : List Addr), PTs (X.blk s H scope (compEnvC scope cl C X.env) fp) ifs tt)
    (he : ∀ (s : Shared) (H : Hp) (C : Addr) (cl : List (Str × Addr)) (fp : List Addr), PE (X.blk s H scope (compEnvC scope cl C X.env) fp) elt te) (hs : ∀ x, foldedSetIterable iter X.env x = pure x)
    (h : tScG o0 r wi g tt te (own.map (·.2)) σ H Q)
    (hRR : ∀ D C s' m H', Inv X pins σ H' s' → Q (.ref D) H' → s'.heap.Ns C m → FpOk X pins H' C → compPost (model X.prog X.w) X.A X.xe none Qf (.ref D) C (.ok .next) s') :
    wpAny (model X.prog X.w) X.A (comprehension (.SetComp elt [⟨tg, iter, ifs, 0⟩] scope pos) scope X.env pos' (newSet (.type "set")) false (eval iter X.env) none) Qf X.xe s := by
  have hfree : ∀ y ∈ scope.names, y.2 = .free → ∃ c, X.env.cells.lookup y.1 = some c := fun y hy e => (ok.free y hy e).elim (fun k => I.ok.has _ (.inl k)) fun k => I.ok.has _ (.inr k)
  refine wpAny_comprehension_free (use := none) rfl hs (closure_ok hfree) ok.kind (fun y hy e => by rw [ok.uniq y hy, e])
    (thn (hi.run pins s σ H _ I h) fun xv s1 hx => thn hx fun itv s2 h2 => ?_)
  obtain ⟨it, fp, tn, J, H2, e, I2, T, st2, f2, q⟩ := h2
  subst e
  refine PpSet.newSet_ok (newEnv_comp ?_)
  have hDn : H2 s2.heap.objs.size = none := I2.hok.fresh (Nat.le_refl _)
  obtain ⟨W, ⟨m0, w0⟩, turn⟩ := q _ hDn
  have I3' : Inv X pins σ (upd H2 s2.heap.objs.size (o0 s2.heap.objs.size)) { s2 with heap := s2.heap.push (set0 X.w) } :=
    I2.laid (t' := s2.toks) (fun b o e => Heap.get?_push_of_some _ e) (Nat.le_refl _) (hnew _ _)
  generalize hD : s2.heap.objs.size = D at hDn w0 turn I3' ⊢
  generalize hs3 : ({ s2 with heap := s2.heap.push { cls := .type "set", dict := none, data := .set #[] 0 (.fresh 0 0 (!X.w.params.followText "set-order")) } } : Shared) = s3
  have I3 : Inv X pins σ (upd H2 D (o0 D)) s3 := by rw [← hs3]; exact I3'
  have h3 : s3.heap = s2.heap.push (set0 X.w) := by rw [← hs3]
  have sz : ∀ b ∈ fp, b < s2.heap.objs.size := fun b hb => let ⟨_, e, _⟩ := T.obj _ _ st2 b hb; Heap.lt_size e
  have f3 : ∀ b ∈ fp, FpOk X pins (upd H2 D (o0 D)) b ∧ b < s3.heap.objs.size := fun b hb => by
    have hlt := sz b hb
    refine ⟨⟨?_, (f2 b hb).2⟩, by rw [h3, Heap.size_push]; exact Nat.lt_succ_of_lt hlt⟩
    rw [upd_ne (by rw [← hD]; exact Nat.ne_of_lt hlt)]
    exact (f2 b hb).1
  have st3 : tn 0 s3.heap := T.keep _ _ _ st2 fun b _ o e => by rw [h3]; exact Heap.get?_push_of_some _ e
  have I4 := block_start I3 ok hN f3
  generalize hcl : cellsFrom (s3.heap.objs.size + 1) scope.names (cloFrom X.env.cells scope.names []) = cl at I4 ⊢
  have pg := hg s3 (upd H2 D (o0 D)) s3.heap.objs.size cl fp
  have pt := ht s3 (upd H2 D (o0 D)) s3.heap.objs.size cl fp
  have pe := he s3 (upd H2 D (o0 D)) s3.heap.objs.size cl fp
  have pa := hadd s3 (upd H2 D (o0 D)) s3.heap.objs.size cl fp
  show codeAny _ _ (.compStart (.SetComp elt [⟨tg, iter, ifs, 0⟩] scope pos) 0 (.ref it) (.ref D) (compEnvC scope cl s3.heap.objs.size X.env)) (compPost (model X.prog X.w) X.A X.xe none Qf (.ref D) s3.heap.objs.size) { s3 with heap := pushCells (s3.heap.push { cls := .type "dict", data := .dict #[] }) scope.names }
  have nfp : ∀ b ∈ fp, (upd H2 D (o0 D)) b = none := fun b hb => (f3 b hb).1.1
  generalize hce : compEnvC scope cl s3.heap.objs.size X.env = ce at I4 pg pt pe pa ⊢
  have cL : ce.locals = s3.heap.objs.size := by subst hce; rfl
  generalize hH3 : upd H2 D (o0 D) = H3 at I3 I4 pg pt pe pa w0 nfp f3
  generalize hs4 : ({ s3 with heap := pushCells (s3.heap.push { cls := .type "dict", data := .dict #[] }) scope.names } : Shared) = s4 at I4 ⊢
  have st4 : tn 0 s4.heap := T.keep _ _ _ st3 fun b _ o e => by rw [← hs4]; exact pushCells_keeps _ _ _ _ (Heap.get?_push_of_some _ e)
  have stat : ∀ {σ' : L2.St} {H' : Hp} {s' : Shared}, Inv (X.blk s3 H3 scope ce fp) [] σ' H' s' → (∀ b ∈ fp, H' b = none) → ∀ b ∈ fp, FpOk (X.blk s3 H3 scope ce fp) [] H' b := fun {σ' H' s'} I' hn b hb =>
    ⟨hn b hb, (I'.ok.exf b hb).1, I'.ok.exfs b hb, .inl hb, fun x c e => (I'.ok.exf b hb).2 x c e, fun p hp => absurd (show p ∈ ([] : List (Addr × Obj)) ++ [] from hp) (by simp)⟩
  have loop : codeAny (model X.prog X.w) X.A (.compLoop (.SetComp elt [⟨tg, iter, ifs, 0⟩] scope pos) 0 (.ref it) (.ref D) ce) (compPost (model X.prog X.w) X.A X.xe none Qf (.ref D) s3.heap.objs.size) s4 := by
    refine PpSet.compLoopS_any (fun n s' => ∃ i H', Inv (X.blk s3 H3 scope ce fp) [] (L2.wipe σ (own.map (·.2))) H' s' ∧ tn i s'.heap ∧ (∀ b ∈ fp, H' b = none) ∧ W i n H') ?_ m0 ⟨0, H3, I4, st4, nfp, w0⟩
    rintro n s5 ⟨i, H5, I5, st5, n5, w5⟩
    rcases turn i n H5 w5 with ⟨stop, qq⟩ | ⟨go, Nx, hNx, step⟩
    · refine thnF (T.done (X.blk s3 H3 scope ce fp) rfl rfl rfl hc i [] s5 _ H5 (fun _ _ => False) I5 (stat I5 n5) st5 stop) fun r s6 ⟨hr, I6⟩ => ?_
      subst hr
      have I7 : Inv X pins σ H5 s6 := I3.call' (ch := fp) I6.os I6.base I6.hok I6.bare fun b hb => ⟨(f3 b hb).1.2.2.2.1, (f3 b hb).1.2.1, (f3 b hb).1.2.2.2.2.1, (f3 b hb).1.2.2.2.2.2⟩
      have nC : H5 s3.heap.objs.size = none := cL ▸ (show H5 ce.locals = none from I6.free)
      obtain ⟨m, hn, _⟩ := I6.loc
      have hn : s6.heap.Ns ce.locals m := hn
      rw [cL] at hn
      exact hRR D s3.heap.objs.size s6 m H5 I7 qq hn (I3.fpOk (Nat.le_refl _) nC)
    · refine thnF (T.item (X.blk s3 H3 scope ce fp) rfl rfl rfl hc i [] s5 _ H5 (fun _ _ => False) I5 (stat I5 n5) st5 go) fun r s6 ⟨u, hr, h6⟩ => ?_
      subst hr
      refine thnF h6 fun _ s7 ⟨x, H7, I7, r7, y7, st7, n7⟩ => ?_
      have I7' := I7.pinned (stat I7 n7) (T.obj _ _ st7)
      refine thnF (pg.run _ s7 _ H7 x u _ I7' r7 (step x H7 y7)) fun _ s8 ⟨σ8, H8, I8, hw8, q8⟩ => ?_
      refine thnF (pt.run _ s8 σ8 H8 _ I8 q8) fun b s9 ⟨H9, I9, q9⟩ => ?_
      have fin : ∀ {s' : Shared} {H' : Hp}, Inv (X.blk s3 H3 scope ce fp) ([] ++ pinsAt fp s7.heap) σ8 H' s' → Nx H' → ∃ m, m < n ∧ ∃ i H', Inv (X.blk s3 H3 scope ce fp) [] (L2.wipe σ (own.map (·.2))) H' s' ∧ tn i s'.heap ∧ (∀ b ∈ fp, H' b = none) ∧ W i m H' := fun {s' H'} I' nx => by
        obtain ⟨m', hm, w'⟩ := hNx H' nx
        have pin' : ∀ b ∈ fp, ∀ o, s7.heap.get? b = some o → s'.heap.get? b = some o ∧ H' b = none := fun b hb o e =>
          let z := I'.pin (b, o) (List.mem_append_right _ (List.mem_append_right _ (mem_pinsAt hb e)))
          ⟨z.1, z.2.1⟩
        have hl : (L2.wipe σ (own.map (·.2))).length = σ8.length := by rw [← hw8, wipe_length]
        refine ⟨m', hm, i + 1, H', (I'.unpinned (pins := [])).weak hl (fun j v e => ?_), T.keep _ _ _ st7 fun b hb o e => (pin' b hb o e).1, fun b hb => ?_, w'⟩
        · rw [← hw8] at e
          exact (wipe_some e).1
        · obtain ⟨o, e, _⟩ := T.obj _ _ st7 b hb
          exact (pin' b hb o e).2
      cases b with
      | false =>
        simp only [Bool.false_eq_true, if_false] at q9 ⊢
        exact fin I9 q9
      | true =>
        simp only [if_true] at q9 ⊢
        refine thnF (pe.run _ s9 σ8 H9 _ I9 q9) fun z s10 ⟨yv, H10, I10, r10, nx⟩ => ?_
        exact thnF (pa _ s10 σ8 H10 (.ref D) [yv] (.ref D) [z] _ I10 rfl (.cons r10 .nil) nx) fun _ s11 ⟨v, H11, I11, _, nx'⟩ => fin I11 nx'
  exact PpSet.codeAny_compStart_set loop (T.self X.A 0 _ _ _ st4 loop)
theorem pe_scG {elt tg iter : Expr} {ifs : List Expr} {scope : Scope} {own : List (Str × Nat)} {pos : Pos} {o0 : Addr → HO} {r : V → List V → Hp → VK → Prop} {wi : TI} {g : TG} {tt : TT} {te : TE} (hc : X.calm = true) (hN : X.N.Nodup) (hi : PI X tg iter wi) (ok : BlkOk X.N X.env.scope scope own)
    (hnew : ∀ (h : Heap) (H' : Hp), ObjOk X.prog X.w H' (h.push (set0 X.w)) h.objs.size (o0 h.objs.size))
    (hadd : ∀ (s : Shared) (H : Hp) (C : Addr) (cl : List (Str × Addr)) (fp : List Addr), MtR (X.blk s H scope (compEnvC scope cl C X.env) fp) "set.add" r)
    (hg : ∀ (s : Shared) (H : Hp) (C : Addr) (cl : List (Str × Addr)) (fp : List Addr), PG (X.blk s H scope (compEnvC scope cl C X.env) fp) tg g) (ht : ∀ (s : Shared) (H : Hp) (C : Addr) (cl : List (Str × Addr)) (fp : List Addr), PTs (X.blk s H scope (compEnvC scope cl C X.env) fp) ifs tt)
    (he : ∀ (s : Shared) (H : Hp) (C : Addr) (cl : List (Str × Addr)) (fp : List Addr), PE (X.blk s H scope (compEnvC scope cl C X.env) fp) elt te) (hs : ∀ x, foldedSetIterable iter X.env x = pure x := by intro _; rfl) :
    PE X (.SetComp elt [⟨tg, iter, ifs, 0⟩] scope pos) (tScG o0 r wi g tt te (own.map (·.2))) := by
  refine ⟨fun pins s σ H Q I h => ?_⟩
  rw [PpSet.eval_SetComp]
  refine sc_coreG hc hN I hi ok hnew hadd hg ht he hs h fun D C s' m H' I' q hn f => ⟨m, hn, fun h'' sb => ?_⟩
  obtain ⟨f0, f1, f2, f3, f4, f5⟩ := f
  exact ⟨.ref D, H', I'.turned (t' := s'.toks) (fun b o hb e => (sb.2 b hb).trans e) f0 f1 f3 f4 f5, rfl, q⟩
end

/-! ## set.add of a tuple of whole numbers -/
def rSAddT (K : PySem.W.Frag) (P : Program) (w : World) : V → List V → Hp → VK → Prop := fun x xs H Q => ∃ (a b : Addr) (k : List Int) (L : List (Addr × List Int)), x = .ref a ∧ xs = [.ref b] ∧ H a = some (SetTO P w a L) ∧ SqT K H b (k.map V.int) ∧ (∀ p ∈ L, SqT K H p.1 (p.2.map V.int)) ∧ L.length + 1 < 64 ∧
  ∀ L', (k ∈ L.map (·.2) → L' = L) → (k ∉ L.map (·.2) → L'.Perm ((b, k) :: L)) → Q .non (upd H a (SetTO P w a L'))
theorem mt_saddT {X : Cx} (hu : X.A.units + 64 < cLine) : MtR X "set.add" (rSAddT X.K X.prog X.w) := by
  intro pins s σ H x xs v us Q I rx rxs h
  obtain ⟨a, b, k, L, rfl, rfl, ha, hb, hL, hf, q⟩ := h
  cases rx
  cases rxs with
  | cons ry rt =>
    cases rt
    cases ry
    have R0 : SetT0 X.prog X.w s.heap a L := (I.hok a _ ha).1
    obtain ⟨es, ep, t, R⟩ := R0.full fun p hp => I.isT (hL p hp)
    obtain ⟨o, ho, hex, hd⟩ := R.ob
    refine wpAny_call_entry F.slot_set_add ⟨o, ho, hex.1⟩ F.entry_set_add ?_ (F.args_set_add_2 _ _)
    unfold Builtin.«set.add» Builtin.Frozenset.oneOther
    simp only [List.isEmpty_nil, bind_assoc]
    unfold Builtin.Frozenset.addrOf setAdd
    refine wpAny_bind (wpAny_pure ?_)
    try dsimp only
    refine wpAny_bind (wpAny_pure ?_)
    try dsimp only
    refine wpAny_bind ?_
    refine wpAny_holding ?_
    have hx : IsT X.prog X.w s.heap k b := I.isT hb
    have hu1 : X.A.in1.units < cLine := by show X.A.units + 1 < cLine; omega
    refine wpAny_bind (wpAny_pyHash_tuple hu1 hx ?_)
    refine add_at (s := { s with toks := s.toks + (k.length + 1) }) R hx hu1 hf fun bb h' L' es' ep' t' hsb hS2 c1 c2 => ?_
    show wpAny _ _ (ret Value.none) _ _ _
    obtain ⟨o', ho', _⟩ := hS2.ob
    exact wpAny_pure ⟨.none, rfl, .non, upd H a (SetTO X.prog X.w a L'), I.write (e := a) (t' := s.toks + (k.length + 1)) (by rw [ha]; trivial) (.inl rfl) (fun b u hb hu => (hsb.2 b hb).trans hu) ⟨_, ho'⟩ (setTO_new hS2.t0), rfl, q L' c1 c2⟩
theorem setT_new {P : Program} {w : World} (h : Heap) (H' : Hp) : ObjOk P w H' (h.push (set0 w)) h.objs.size (SetTO P w h.objs.size []) := setTO_new (setTR_fresh (Heap.get?_push_size _ rfl)).t0
end Mi
end
section
set_option maxRecDepth 100000
set_option maxHeartbeats 4000000
namespace Mi
open PySem PySem.Spec PyProof.Rows L2

section
variable {M : Fm}
/-- the thing at Dd is no slot's -/
theorem EnvOk.setExt {F : Own} {H : Hp} {env : Envt} {σ : L2.St} {Dd : Addr} {φ ψ : Heap → Prop} (I : EnvOk M F H env σ) (hF : F Dd) (h0 : M.H0 Dd = none) (h : H Dd = some (.ext φ)) : EnvOk M F (upd H Dd (.ext ψ)) env σ ∧ Fz F H F (upd H Dd (.ext ψ)) := by
  have z : Fz F H F (upd H Dd (.ext ψ)) := fun a o hf e => ⟨hf, by rw [upd_ne (fun q => hf (by rw [q]; exact hF))]; exact e⟩
  refine ⟨⟨I.len, fun a o e => ?_, fun a ha e => ?_, I.f0, fun i d e => ?_, ?_, I.self, fun j c x e => ?_⟩, z⟩
  · rw [upd_ne (ne_of_none e h0)]
    exact I.old a o e
  · by_cases hd : a = Dd
    · rw [hd, upd_same] at e; cases e
    · rw [upd_ne hd] at e
      exact I.dom a ha e
  · obtain ⟨v, h1, h2⟩ := I.val i d e
    exact ⟨v, h1, h2.mono z⟩
  · obtain ⟨fp, h1, h2⟩ := I.own
    refine ⟨fp, fun i m e => ?_, h2⟩
    obtain ⟨⟨v, h3, h4⟩, h5⟩ := h1 i m e
    refine ⟨⟨v, h3, h4.mono z fun a ha o q => ?_⟩, h5⟩
    rw [upd_ne fun hd => ?_]
    · exact q
    · rw [hd, h] at q
      cases m with
      | lst ds =>
        obtain ⟨p, xs, _, e2, e3, _⟩ := h4
        rw [e2] at ha
        rw [← List.mem_singleton.mp ha, hd, h] at e3
        cases e3
      | ins c fs =>
        obtain ⟨p, dx, us, _, e2, e3, _⟩ := h4
        rw [e2] at ha
        rw [← List.mem_singleton.mp ha, hd, h] at e3
        cases e3
  · obtain ⟨q1, q2⟩ := I.ex j c x e
    refine ⟨q1, fun d hd => ?_⟩
    obtain ⟨dd, v, k1, k2, k3⟩ := q2 d hd
    refine ⟨dd, v, k1, ?_, k3.mono z⟩
    rw [upd_ne fun y => by rw [y, h] at k2; cases k2]
    exact k2
theorem EnvOk.addExt {F : Own} {H : Hp} {env : Envt} {σ : L2.St} {Dd : Addr} {φ : Heap → Prop} (I : EnvOk M F H env σ) (hn : H Dd = none) : EnvOk M (plus F [Dd]) (upd H Dd (.ext φ)) env σ := by
  have s : Same H (upd H Dd (.ext φ)) := same_new hn
  have z : Fz F H (plus F [Dd]) (upd H Dd (.ext φ)) := fz_plus s fun a ha => by rw [List.mem_singleton.mp ha]; exact hn
  refine ⟨I.len, I.old.trans s, fun a ha e => ?_, fun a ha => .inl (I.f0 a ha), fun i d e => ?_, ?_, I.self, fun j c x e => ?_⟩
  · rcases ha with ha | ha
    · exact I.dom a ha (s.free e)
    · rw [List.mem_singleton.mp ha, upd_same] at e; cases e
  · obtain ⟨v, h1, h2⟩ := I.val i d e
    exact ⟨v, h1, h2.mono z⟩
  · obtain ⟨fp, h1, h2⟩ := I.own
    refine ⟨fp, fun i m e => ?_, h2⟩
    obtain ⟨⟨v, h3, h4⟩, h5⟩ := h1 i m e
    exact ⟨⟨v, h3, h4.mono z fun a _ o q => s a o q⟩, fun a ha => ⟨.inl (h5 a ha).1, (h5 a ha).2⟩⟩
  · obtain ⟨q1, q2⟩ := I.ex j c x e
    exact ⟨q1, fun d hd => let ⟨dd, v, k1, k2, k3⟩ := q2 d hd; ⟨dd, v, k1, s _ _ k2, k3.mono z⟩⟩
/-- a kind of sets: how one lies that got these items -/
structure SetKd (M : Fm) (o0 : Addr → HO) (r : V → List V → Hp → VK → Prop) (S : Own → Hp → Addr → List D → Prop) (chk : List D → Bool) : Prop where
  ext : ∀ F H Dd acc, S F H Dd acc → ∃ φ, H Dd = some (.ext φ)
  mono : ∀ F H F' H' Dd acc, S F H Dd acc → Fz F H F' H' → H' Dd = H Dd → S F' H' Dd acc
  new : ∀ F H Dd, S F (upd H Dd (o0 Dd)) Dd []
  o0 : ∀ Dd, ∃ φ, o0 Dd = .ext φ
  add : ∀ F H Dd acc d v rest (N : Hp → Prop), S F H Dd acc → F Dd → Rep M.G F H d v → chk (acc ++ d :: rest) = true → (∀ φ, S F (upd H Dd (.ext φ)) Dd (acc ++ [d]) → N (upd H Dd (.ext φ))) → r (.ref Dd) [v] H fun _ H' => N H'
def SetRp (S : Own → Hp → Addr → List D → Prop) (F : Own) (H : Hp) (ds : List D) (v : V) : Prop := ∃ Dd, v = .ref Dd ∧ S (plus F [Dd]) H Dd ds
def eScG (chk : List D → Bool) (vs : List Nat) (it : IF) (ga : GF) (t : TF) (fe : EF) : Envt → Res (List D) := fun env => (it env).bind fun ds => (lcL ga t fe (wipeE env vs) ds).bind fun r => if chk r = true then .ok r else .stuck
theorem w_scG {o0 : Addr → HO} {r : V → List V → Hp → VK → Prop} {S : Own → Hp → Addr → List D → Prop} {chk : List D → Bool} {it : IF} {ga : GF} {ix : List Nat} {t : TF} {fe : EF} (kd : SetKd M.nx o0 r S chk) {σ : L2.St} {H : Hp} {Q : VK} {vs : List Nat} {F : Own} {env : Envt} (hix : ∀ i ∈ ix, i ∈ vs) (I : EnvOk M F H env σ) (q : post M (SetRp S) F σ H (eScG chk vs it ga t fe env) Q) : tScG o0 r (tI M it) (tG M.nx ix ga) (tT M.nx t) (tE M.nx fe) vs σ H Q := by
  refine ⟨F, env, I, ?_⟩
  unfold eScG at q
  cases r0 : it env with
  | stuck => rw [r0] at q; exact q
  | exc c x => rw [r0] at q; exact q
  | ok ds =>
    rw [r0] at q
    intro J H1 s1 hJ Dd nD
    have q : post M (SetRp S) F σ H ((lcL ga t fe (wipeE env vs) ds).bind fun r => if chk r = true then .ok r else .stuck) Q := q
    cases r1 : lcL ga t fe (wipeE env vs) ds with
    | stuck => rw [r1] at q; exact q.elim
    | exc c x => exact absurd r1 (lcL_noexc ds c x)
    | ok total =>
      rw [r1] at q
      have q : post M (SetRp S) F σ H (if chk total = true then .ok total else .stuck) Q := q
      by_cases hz : chk total = true
      · rw [if_pos hz] at q
        have q : post M (SetRp S) F σ H1 (.ok total) Q := post.grow s1 q
        have n1 : ∀ a ∈ [Dd], H1 a = none := fun a ha => by rw [List.mem_singleton.mp ha]; exact nD
        obtain ⟨φ0, e0⟩ := kd.o0 Dd
        have s2 : Same H1 (upd H1 Dd (o0 Dd)) := same_new nD
        have I1 : EnvOk M.nx (plus F [Dd]) (upd H1 Dd (o0 Dd)) (wipeE env vs) (L2.wipe σ vs) := by
          rw [e0]
          exact ((I.grow s1).nx.wipe vs).addExt nD
        have h0 : M.nx.H0 Dd = none := (I.grow s1).old.free nD
        refine ⟨fun i m H' => ∃ acc rest, m = ds.length - i ∧ i ≤ ds.length ∧ EnvOk M.nx (plus F [Dd]) H' (wipeE env vs) (L2.wipe σ vs) ∧ S (plus F [Dd]) H' Dd acc ∧ lcL ga t fe (wipeE env vs) (ds.drop i) = .ok rest ∧ acc ++ rest = total ∧ Same H1 H',
          ⟨_, [], total, rfl, Nat.zero_le _, I1, kd.new _ _ _, by rw [List.drop_zero]; exact r1, rfl, s2⟩, ?_⟩
        rintro i m H' ⟨acc, rest, rfl, hle, I', hS, hr, ht, s'⟩
        have z' : Fz F H1 (plus F [Dd]) H' := fz_plus s' n1
        by_cases hlt : i < ds.length
        · refine .inr ⟨hJ.go i _ H' z' hlt, fun H2 => ∃ acc' rest', EnvOk M.nx (plus F [Dd]) H2 (wipeE env vs) (L2.wipe σ vs) ∧ S (plus F [Dd]) H2 Dd acc' ∧ lcL ga t fe (wipeE env vs) (ds.drop (i + 1)) = .ok rest' ∧ acc' ++ rest' = total ∧ Same H1 H2,
            fun H2 ⟨acc', rest', h1, h2, h3, h4, h5⟩ => ⟨ds.length - (i + 1), by omega, acc', rest', rfl, hlt, h1, h2, h3, h4, h5⟩, fun x H2 hy => ?_⟩
          obtain ⟨d, hd, s3, hrep⟩ := hJ.yld i _ H' x H2 z' I'.dom hlt hy
          have e1 : ds.drop i = d :: ds.drop (i + 1) := by
            rw [List.drop_eq_getElem_cons hlt]
            rw [List.getElem?_eq_getElem hlt] at hd
            rw [Option.some.inj hd]
          rw [e1] at hr
          unfold lcL at hr
          refine ⟨plus F [Dd], wipeE env vs, d, I'.grow s3, hrep, ?_⟩
          obtain ⟨φ1, ex1⟩ := kd.ext _ _ _ _ hS
          have up : ∀ {H5 : Hp}, Same H' H5 → S (plus F [Dd]) H5 Dd acc := fun {H5} s5 => kd.mono _ _ _ _ _ _ hS (Fz.same s5) ((s5 _ _ ex1).trans ex1.symm)
          cases r2 : ga d (wipeE env vs) with
          | none => rw [r2] at hr; cases hr
          | some env1 =>
            rw [r2] at hr
            dsimp only at hr ⊢
            intro σ2 I2 o2
            refine ⟨(wipe_outs o2 hix).trans (wipe_wipe σ vs), plus F [Dd], env1, I2, ?_⟩
            cases r3 : t env1 with
            | stuck => rw [r3] at hr; cases hr
            | exc c x => rw [r3] at hr; cases hr
            | ok b =>
              rw [r3] at hr
              intro H3 s4
              cases b with
              | false =>
                rw [if_neg Bool.false_ne_true]
                exact ⟨acc, rest, (I'.grow s3).grow s4, up (s3.trans s4), hr, ht, (s'.trans s3).trans s4⟩
              | true =>
                rw [if_pos rfl]
                dsimp only at hr
                refine ⟨plus F [Dd], env1, I2.grow s4, ?_⟩
                cases r4 : fe env1 with
                | stuck => rw [r4] at hr; cases hr
                | exc c x => rw [r4] at hr; cases hr
                | ok y =>
                  rw [r4] at hr
                  dsimp only at hr
                  intro v H4 s5 hv
                  cases r5 : lcL ga t fe (wipeE env vs) (ds.drop (i + 1)) with
                  | stuck => rw [r5] at hr; cases hr
                  | exc c x => rw [r5] at hr; cases hr
                  | ok rest2 =>
                    rw [r5] at hr
                    have er : y :: rest2 = rest := by
                      have : Res.ok (y :: rest2) = Res.ok rest := hr
                      cases this
                      rfl
                    have s35 : Same H' H4 := (s3.trans s4).trans s5
                    have I4 := I'.grow s35
                    refine kd.add _ H4 Dd acc y v rest2 _ (up s35) (.inr (List.mem_singleton.mpr rfl)) hv (by rw [er, ht]; exact hz) fun φ hS' => ?_
                    obtain ⟨φ2, ex2⟩ := kd.ext _ _ _ _ (up s35)
                    refine ⟨acc ++ [y], rest2, (I4.setExt (.inr (List.mem_singleton.mpr rfl)) h0 ex2).1, hS', rfl, by rw [List.append_assoc, List.singleton_append, er]; exact ht, fun a o e => ?_⟩
                    rw [upd_ne (ne_of_none e nD)]
                    exact (s'.trans s35) a o e
        · have e : i = ds.length := by omega
          subst e
          rw [List.drop_length] at hr
          have er : [] = rest := by
            have : Res.ok ([] : List D) = Res.ok rest := hr
            cases this
            rfl
          rw [← er, List.append_nil] at ht
          subst ht
          exact .inl ⟨hJ.stop _ _ H' z' (Nat.le_refl _), q (.ref Dd) H' s' ⟨Dd, rfl, hS⟩⟩
      · rw [if_neg hz] at q
        exact q.elim
end

/-! ## tuples of whole numbers -/
def D.tints : D → Option (List Int)
  | .tup ds => D.ints ds
  | _ => none
def nub {α : Type} [DecidableEq α] : List α → List α
  | [] => []
  | x :: r => if x ∈ r then nub r else x :: nub r
theorem mem_nub {α : Type} [DecidableEq α] {x : α} : ∀ {l : List α}, x ∈ nub l ↔ x ∈ l
  | [] => by simp [nub]
  | y :: r => by
    unfold nub
    split
    · rename_i h
      rw [mem_nub, List.mem_cons]
      exact ⟨.inr, fun z => z.elim (fun e => e ▸ h) id⟩
    · rw [List.mem_cons, List.mem_cons, mem_nub]
theorem nub_nodup {α : Type} [DecidableEq α] : ∀ l : List α, (nub l).Nodup
  | [] => List.nodup_nil
  | y :: r => by
    unfold nub
    split
    · exact nub_nodup r
    · rename_i h
      exact List.nodup_cons.mpr ⟨fun z => h (mem_nub.mp z), nub_nodup r⟩
theorem nodup_le {α : Type} [DecidableEq α] : ∀ {l m : List α}, l.Nodup → (∀ x ∈ l, x ∈ m) → l.length ≤ m.length
  | [], _, _, _ => Nat.zero_le _
  | x :: r, m, h, k => by
    have h' := List.nodup_cons.mp h
    have hx := k x List.mem_cons_self
    have := nodup_le (l := r) (m := m.erase x) h'.2 fun y hy => (List.mem_erase_of_ne (fun e => h'.1 (by rw [← e]; exact hy))).mpr (k y (List.mem_cons_of_mem _ hy))
    rw [List.length_erase_of_mem hx] at this
    have : 0 < m.length := List.length_pos_of_mem hx
    rw [List.length_cons]
    omega
theorem nodup_len {α : Type} [DecidableEq α] {l m : List α} (hl : l.Nodup) (hm : m.Nodup) (h : ∀ x, x ∈ l ↔ x ∈ m) : l.length = m.length :=
  Nat.le_antisymm (nodup_le hl fun x hx => (h x).mp hx) (nodup_le hm fun x hx => (h x).mpr hx)
theorem D.ints_eq : ∀ {ds : List D} {ns : List Int}, D.ints ds = some ns → ds = ns.map D.int
  | [], ns, e => by cases e; rfl
  | d :: ds, ns, e => by
    cases d with
    | int i =>
      unfold D.ints at e
      obtain ⟨ms, e1, rfl⟩ := Option.map_eq_some_iff.mp e
      rw [D.ints_eq e1]; rfl
    | _ => cases e
theorem D.ints_map : ∀ ns : List Int, D.ints (ns.map D.int) = some ns
  | [] => rfl
  | n :: ns => by
    show (D.ints (ns.map D.int)).map (n :: ·) = _
    rw [D.ints_map ns]; rfl
def chkT (ds : List D) : Bool := decide (ds.length < 64) && ds.all fun d => d.tints.isSome
def SetTm (G : Gc) (P : Program) (w : World) (F : Own) (H : Hp) (Dd : Addr) (acc : List D) : Prop := ∃ L : List (Addr × List Int), H Dd = some (SetTO P w Dd L) ∧ (∀ p ∈ L, Rep G F H (.tup (p.2.map D.int)) (.ref p.1)) ∧ (∀ k, k ∈ L.map (·.2) ↔ k ∈ acc.filterMap D.tints) ∧ (L.map (·.2)).Nodup
theorem SetTm.few {G : Gc} {P : Program} {w : World} {F : Own} {H : Hp} {Dd : Addr} {acc : List D} {L : List (Addr × List Int)} (h : ∀ k, k ∈ L.map (·.2) ↔ k ∈ acc.filterMap D.tints) (n : (L.map (·.2)).Nodup) : L.length ≤ acc.length := by
  have := nodup_le n fun x hx => (h x).mp hx
  rw [List.length_map] at this
  exact Nat.le_trans this (List.length_filterMap_le _ _)
theorem rep_sq {G : Gc} {F : Own} {H : Hp} {k : List Int} {a : Addr} (h : Rep G F H (.tup (k.map D.int)) (.ref a)) : SqT G.K H a (k.map V.int) := by
  obtain ⟨p, xs, e, h1, h2⟩ := h.view.tup
  cases e
  rw [← (h2.ints (D.ints_map k)).1]
  exact h1
theorem kd_T {M : Fm} {P : Program} {w : World} : SetKd M (fun Dd => SetTO P w Dd []) (rSAddT M.G.K P w) (SetTm M.G P w) chkT where
  ext := fun F H Dd acc ⟨L, h, _⟩ => ⟨_, h⟩
  mono := fun F H F' H' Dd acc ⟨L, h1, h2, h3, h4⟩ z e => ⟨L, e.trans h1, fun p hp => (h2 p hp).mono z, h3, h4⟩
  new := fun F H Dd => ⟨[], upd_same, fun p hp => by simp at hp, fun k => by simp, List.nodup_nil⟩
  o0 := fun Dd => ⟨_, rfl⟩
  add := fun F H Dd acc d v rest N hS hF hv hc hN => by
    obtain ⟨L, h1, h2, h3, h4⟩ := hS
    have hc' := Bool.and_eq_true_iff.mp hc
    have hlen : (acc ++ d :: rest).length < 64 := of_decide_eq_true hc'.1
    have hd : d.tints.isSome = true := List.all_eq_true.mp hc'.2 d (by simp)
    obtain ⟨k, hk⟩ := Option.isSome_iff_exists.mp hd
    have ed : d = .tup (k.map D.int) := by
      cases d with
      | tup ds => rw [D.ints_eq hk]
      | _ => cases hk
    have hv2 := hv
    rw [ed] at hv2
    obtain ⟨b, xs, rfl, hb, hr⟩ := hv2.view.tup
    have fin : ∀ L', (∀ p ∈ L', p ∈ L ∨ p = (b, k)) → (∀ j, j ∈ L'.map (·.2) ↔ j ∈ L.map (·.2) ∨ j = k) → (L'.map (·.2)).Nodup → N (upd H Dd (SetTO P w Dd L')) := fun L' q1 q2 q3 => by
      have z : Fz F H F (upd H Dd (SetTO P w Dd L')) := fun a o hf e => ⟨hf, by rw [upd_ne (fun q => hf (by rw [q]; exact hF))]; exact e⟩
      refine hN _ ⟨L', upd_same, fun p hp => ?_, fun j => ?_, q3⟩
      · rcases q1 p hp with e | e
        · exact (h2 p e).mono z
        · rw [e]; exact hv2.mono z
      · rw [q2, h3, List.filterMap_append]
        simp [hk]
    refine ⟨Dd, b, k, L, rfl, rfl, h1, rep_sq hv2, fun p hp => rep_sq (h2 p hp), ?_, fun L' c1 c2 => ?_⟩
    · have := SetTm.few (G := M.G) (P := P) (w := w) (F := F) (H := H) (Dd := Dd) h3 h4
      rw [List.length_append, List.length_cons] at hlen
      omega
    · by_cases hm : k ∈ L.map (·.2)
      · have e := c1 hm
        refine fin L' (fun p hp => .inl (e ▸ hp)) (fun j => ?_) (e ▸ h4)
        rw [e]
        exact ⟨.inl, fun z => z.elim id fun z => z ▸ hm⟩
      · have pm := c2 hm
        refine fin L' (fun p hp => ?_) (fun j => ?_) ?_
        · rcases List.mem_cons.mp (pm.mem_iff.mp hp) with e | e
          · exact .inr e
          · exact .inl e
        · rw [(pm.map (·.2)).mem_iff, List.map_cons, List.mem_cons]
          exact Or.comm
        · rw [(pm.map (·.2)).nodup_iff, List.map_cons]
          exact List.nodup_cons.mpr ⟨hm, h4⟩
section
variable {M : Fm} {X : Cx} {a b c e o elt tg iter tg1 iter1 : Expr} {es ifs ifs1 : List Expr} {pos spos p cp : Pos} {f g h fe : EF} {t t1 u : TF} {k : Nat} {ga ga1 : GF} {ix ix1 : List Nat} {it it1 : IF} {scope : Scope} {own : List (Str × Nat)}
def rLenT (K : PySem.W.Frag) (P : Program) (w : World) : List V → Hp → VK → Prop := fun vs H Q => ∃ (a : Addr) (L : List (Addr × List Int)), vs = [.ref a] ∧ H a = some (SetTO P w a L) ∧ (∀ p ∈ L, SqT K H p.1 (p.2.map V.int)) ∧ Q (.int L.length) H
theorem cr_lenT : CallR X (.builtin "len") (rLenT X.K X.prog X.w) := by
  intro pins s σ H vs us Q I r h
  obtain ⟨a, L, rfl, ha, hL, q⟩ := h
  have R0 : SetT0 X.prog X.w s.heap a L := (I.hok a _ ha).1
  obtain ⟨es, ep, t, R⟩ := R0.full fun p hp => I.isT (hL p hp)
  obtain ⟨o, ho, hex, hd⟩ := R.ob
  rw [Vals.ref1 r]
  have hf := R.few
  refine call_len_set ho hex hd R.fits (by rw [R.size]; omega) ⟨.int L.length, H, I.tok _, ⟨_, by rw [R.size]⟩, q⟩
def eLenT (f : Envt → Res (List D)) : EF := fun env => (f env).bind fun ds => .ok (.int (nub (ds.filterMap D.tints)).length)
theorem m_lenScT (C : Cxx X M k) (own : List (Str × Nat)) (hm : X.mg "len" = none) (hi : PI X tg iter (tI M it)) (ok : blkC X.N X.env.scope scope own = true)
    (hg : ∀ (s : Shared) (H : Hp) (Ca : Addr) (cl : List (Str × Addr)) (fp : List Addr), Cxx (X.blk s H scope (compEnvC scope cl Ca X.env) fp) M.nx k → PG (X.blk s H scope (compEnvC scope cl Ca X.env) fp) tg (tG M.nx ix ga))
    (ht : ∀ (s : Shared) (H : Hp) (Ca : Addr) (cl : List (Str × Addr)) (fp : List Addr), Cxx (X.blk s H scope (compEnvC scope cl Ca X.env) fp) M.nx k → PTs (X.blk s H scope (compEnvC scope cl Ca X.env) fp) ifs (tT M.nx t))
    (he : ∀ (s : Shared) (H : Hp) (Ca : Addr) (cl : List (Str × Addr)) (fp : List Addr), Cxx (X.blk s H scope (compEnvC scope cl Ca X.env) fp) M.nx k → PE (X.blk s H scope (compEnvC scope cl Ca X.env) fp) elt (tE M.nx fe))
    (hix : ix.all (fun i => (own.map (·.2)).contains i) = true := by rfl) (hs : ∀ x, foldedSetIterable iter X.env x = pure x := by intro _; rfl) (hgl : Gl X "len" := by rfl)
    (hst : starEach [.SetComp elt [⟨tg, iter, ifs, 0⟩] scope cp] X.env = (false, eval (.SetComp elt [⟨tg, iter, ifs, 0⟩] scope cp) X.env) :: starEach [] X.env := by rfl) (hpl : (backTo pos (starEach [] X.env)).any (·.1) = false := by rfl) :
    PE X (.Call (.Name "len" p) [.SetComp elt [⟨tg, iter, ifs, 0⟩] scope cp] [] pos) (tE M (eLenT (eScG chkT (own.map (·.2)) it ga t fe))) :=
  PE.weak (pe_callB cr_lenT hgl hm PySem.boot_len (pa_cons (pe_scG (o0 := fun Dd => SetTO X.prog X.w Dd []) (r := rSAddT X.K X.prog X.w) C.calm C.nd hi (blkOk_by ok) setT_new (fun s H Ca cl fp => mt_saddT (by have := C.hr.un; show X.A.units + 64 < cLine; omega)) (fun s H Ca cl fp => hg s H Ca cl fp (C.blk ..)) (fun s H Ca cl fp => ht s H Ca cl fp (C.blk ..)) (fun s H Ca cl fp => he s H Ca cl fp (C.blk ..)) hs) pa_nil hst) (by decide) (by decide) hst hpl) fun σ H Q ⟨F, env, I, q⟩ => by
    have kd : SetKd M.nx (fun Dd => SetTO X.prog X.w Dd []) (rSAddT X.K X.prog X.w) (SetTm M.G X.prog X.w) chkT := by
      rw [C.hK]
      exact kd_T
    refine w_scG (Q := fun v H1 => tNil σ H1 fun vs H2 => rLenT X.K X.prog X.w (v :: vs) H2 Q) kd (fun i hi => by simpa using List.all_eq_true.mp hix i hi) I ?_
    unfold eLenT at q
    cases r : eScG chkT (own.map (·.2)) it ga t fe env with
    | stuck => rw [r] at q; exact q
    | exc c x => rw [r] at q; exact q
    | ok ds =>
      rw [r] at q
      intro v H' s hv
      obtain ⟨Dd, rfl, L, h1, h2, h3, h4⟩ := hv
      refine ⟨Dd, L, rfl, h1, fun p hp => C.hK ▸ rep_sq (h2 p hp), ?_⟩
      have e : L.length = (nub (ds.filterMap D.tints)).length := by
        rw [← nodup_len h4 (nub_nodup _) fun x => by rw [h3, mem_nub], List.length_map]
      rw [e]
      exact q _ H' s Rep.int_
end
end Mi
end
section
set_option maxRecDepth 100000
set_option maxHeartbeats 4000000
namespace Mi
open PySem PySem.Spec PyProof.Rows L2

/-! ## isinstance -/
def D.tag : D → String
  | .non => "NoneType"
  | .bl _ => "bool"
  | .int _ => "int"
  | .str _ => "str"
  | .tup _ => "tuple"
  | .lst _ => "list"
  | .ins _ _ => ""
def tags : List String := ["NoneType", "bool", "int", "str", "tuple", "list"]
/-- what isinstance asks of a class's instances -/
structure ITy (K : PySem.W.Frag) (C : Addr) : Prop where
  cl : Cls K C
  ha : PySem.W.findIn K (.ref C) "__class__" = some (some (.builtin "object.__class__"))
  hn : PySem.W.specialIn K (.builtin "object.__class__") "__get__" = some (some (.builtin "getset_descriptor.__get__"))
  htk : PySem.W.takesIn K (.builtin "object.__class__") = some true
  hm : PySem.W.mroIn K C (.type "object") = some true
/-- the answers of isinstance(.., c): bt for the built-in kinds, ins for the classes -/
structure IsR (X : Cx) (M : Fm) (c : V) (bt : String → Bool) (ins : Nat → Option Bool) : Prop where
  ex : ∃ u, ClsV c u ∧ (∀ a ∈ tags, PySem.W.kitOne X.K (.type a) u = some (bt a)) ∧ ∀ k b, ins k = some b → ITy X.K (M.G.cls k) ∧ PySem.W.kitOne X.K (.ref (M.G.cls k)) u = some b
def dIsi (bt : String → Bool) (ins : Nat → Option Bool) : D → Res D
  | .ins c _ => match ins c with
    | some b => .ok (.bl b)
    | none => .stuck
  | d => .ok (.bl (bt d.tag))
def bIs (T : String) : String → Bool := fun a => a == T || (a == "bool" && T == "int")
def insNo : Nat → Option Bool := fun _ => none
section
variable {M : Fm} {X : Cx} {a b c e o : Expr} {es : List Expr} {pos p p2 q cpos apos : Pos} {f g h : EF} {k : Nat}
theorem is_blt {T : String} (ins : Nat → Option Bool) (hb : ∀ a ∈ tags, kitB a T = some (bIs T a)) (hi : ∀ k b, ins k = some b → ITy X.K (M.G.cls k) ∧ PySem.W.kitOne X.K (.ref (M.G.cls k)) (.type T) = some b) : IsR X M (.ty T) (bIs T) ins :=
  ⟨_, .ty T, fun a ha => kit_ty (hb a ha), hi⟩
theorem is_str : IsR X M (.ty "str") (bIs "str") insNo := is_blt insNo (by decide +kernel) fun k b e => by cases e
theorem is_int : IsR X M (.ty "int") (bIs "int") insNo := is_blt insNo (by decide +kernel) fun k b e => by cases e
theorem is_bool : IsR X M (.ty "bool") (bIs "bool") insNo := is_blt insNo (by decide +kernel) fun k b e => by cases e
theorem is_tuple : IsR X M (.ty "tuple") (bIs "tuple") insNo := is_blt insNo (by decide +kernel) fun k b e => by cases e
theorem is_list : IsR X M (.ty "list") (bIs "list") insNo := is_blt insNo (by decide +kernel) fun k b e => by cases e
theorem w_isi {c : V} {bt : String → Bool} {ins : Nat → Option Bool} (R : IsR X M c bt ins) (hK : X.K = M.G.K) {σ : L2.St} {H : Hp} {Q : VK} (qq : tE M (eU (dIsi bt ins) f) σ H Q) : tCB (rIsi X.K) (tCons (tV M f) (tCons (tC c) tNil)) σ H Q := by
  obtain ⟨u, hc, hb, hi⟩ := R.ex
  obtain ⟨F, env, I, qq⟩ := qq
  refine w_then I qq fun d v H1 s1 hv q1 => ?_
  have key : ∀ (t : Value) (bb : Bool), TyX X.K H1 v t → PySem.W.kitOne X.K t u = some bb → post M (Rep M.G) F σ H1 (.ok (.bl bb)) Q → rIsi X.K [v, c] H1 Q := fun t bb ty e qq => ⟨v, c, t, u, bb, rfl, hc, ty, e, post_ok qq Rep.bl_⟩
  have bs : ∀ T, T ∈ tags → TyX X.K H1 v (.type T) → post M (Rep M.G) F σ H1 (.ok (.bl (bt T))) Q → rIsi X.K [v, c] H1 Q := fun T hT ty qq => key _ _ ty (hb T hT) qq
  cases d with
  | non =>
    rw [hv.non] at bs ⊢
    exact bs "NoneType" (by decide) (.base .non) q1
  | bl b =>
    rw [hv.bl] at bs ⊢
    exact bs "bool" (by decide) (.base (.bl b)) q1
  | int b =>
    rw [hv.int] at bs ⊢
    exact bs "int" (by decide) (.base (.int b)) q1
  | str b =>
    rw [hv.str] at bs ⊢
    exact bs "str" (by decide) (.base (.str b)) q1
  | tup ds =>
    obtain ⟨p, xs, rfl, h1, h2⟩ := hv.tup
    refine bs "tuple" (by decide) ?_ q1
    rw [← hK] at h1
    rcases h1 with (h1 | ⟨oo, h1⟩) | ⟨oo, its, n, h1, h3, _⟩
    · exact .base (.tup h1)
    · exact .fTuple h1
    · exact .kTuple h1 h3
  | lst ds =>
    obtain ⟨p, xs, rfl, h1, h2⟩ := hv.lst
    refine bs "list" (by decide) ?_ q1
    rw [← hK] at h1
    rcases h1 with (h1 | ⟨oo, h1⟩) | ⟨oo, its, n, h1, h3, _⟩
    · exact .base (.lst h1)
    · exact .base (.frz h1)
    · exact .kList h1 h3
  | ins cc fs =>
    obtain ⟨p, dx, us, rfl, h1, h2⟩ := hv.ins
    unfold dIsi at q1
    dsimp only at q1
    cases r : ins cc with
    | none => rw [r] at q1; exact q1.elim
    | some bb =>
      rw [r] at q1
      obtain ⟨k1, k2⟩ := hi cc bb r
      exact key _ _ (.base (.ins h1 k1.cl k1.ha k1.hn k1.htk k1.hm)) k2 q1
theorem m_isiB {T : Str} {Tn : String} {bt : String → Bool} {ins : Nat → Option Bool} (hK : X.K = M.G.K) (R : IsR X M (.ty Tn) bt ins) (hm : X.mg "isinstance" = none) (hmT : X.mg T = none) (hvT : bootBuiltins T = some (.type Tn)) (he : PE X e (tV M f)) (hg : Gl X "isinstance" := by rfl) (hgT : Gl X T := by rfl) (hnT : T ≠ "__name__" := by decide) (hdT : (T == ("__debug__" : Str)) = false := by decide)
    (hs : starEach [e, .Name T p2] X.env = (false, eval e X.env) :: starEach [.Name T p2] X.env := by rfl) (hs2 : starEach [.Name T p2] X.env = (false, eval (.Name T p2) X.env) :: starEach [] X.env := by rfl) (hpl : (backTo pos (starEach [.Name T p2] X.env)).any (·.1) = false := by rfl) :
    PE X (.Call (.Name "isinstance" p) [e, .Name T p2] [] pos) (tE M (eU (dIsi bt ins) f)) :=
  PE.weak (pe_callB call_isi hg hm PyProof.Rows.boot_isinstance (pa_cons he (pa_cons (pe_bltn (v := .ty Tn) hgT hmT hvT rfl hnT hdT) pa_nil hs2) hs) (by decide) (by decide) hs hpl) fun σ H Q qq => w_isi R hK qq
theorem m_isiC {T : Str} {Ca : Addr} {bt : String → Bool} {ins : Nat → Option Bool} (hK : X.K = M.G.K) (R : IsR X M (.ref Ca) bt ins) (hm : X.mg "isinstance" = none) (hmT : X.mg T = some (.ref Ca)) (he : PE X e (tV M f)) (hg : Gl X "isinstance" := by rfl) (hgT : Gl X T := by rfl) (hdT : (T == ("__debug__" : Str)) = false := by decide)
    (hs : starEach [e, .Name T p2] X.env = (false, eval e X.env) :: starEach [.Name T p2] X.env := by rfl) (hs2 : starEach [.Name T p2] X.env = (false, eval (.Name T p2) X.env) :: starEach [] X.env := by rfl) (hpl : (backTo pos (starEach [.Name T p2] X.env)).any (·.1) = false := by rfl) :
    PE X (.Call (.Name "isinstance" p) [e, .Name T p2] [] pos) (tE M (eU (dIsi bt ins) f)) :=
  PE.weak (pe_callB call_isi hg hm PyProof.Rows.boot_isinstance (pa_cons he (pa_cons (pe_glob (v := .ref Ca) hgT hmT rfl hdT) pa_nil hs2) hs) (by decide) (by decide) hs hpl) fun σ H Q qq => w_isi R hK qq

/-! ## xs.index(y) -/
def ixD (y : PyData) : List D → Nat → Option Nat
  | [], _ => none
  | d :: ds, n => if PyData.eqv d.toP y = true then some n else ixD y ds (n + 1)
theorem ixD_spec {y : PyData} : ∀ {ds : List D} {n j : Nat}, ixD y ds n = some j → ∃ i z, j = n + i ∧ (D.toPs ds)[i]? = some z ∧ PyData.eqv z y = true ∧ ∀ m z', m < i → (D.toPs ds)[m]? = some z' → PyData.eqv z' y = false
  | [], _, _, e => by cases e
  | d :: ds, n, j, e => by
    unfold ixD at e
    by_cases h : PyData.eqv d.toP y = true
    · rw [if_pos h] at e
      cases e
      exact ⟨0, d.toP, rfl, rfl, h, fun m z' hm => absurd hm (Nat.not_lt_zero _)⟩
    · rw [if_neg h] at e
      obtain ⟨i, z, e1, e2, e3, e4⟩ := ixD_spec e
      refine ⟨i + 1, z, by omega, by rw [D.toPs, List.getElem?_cons_succ]; exact e2, e3, fun m z' hm hz => ?_⟩
      cases m with
      | zero =>
        rw [D.toPs] at hz
        cases hz
        exact Bool.eq_false_iff.mpr h
      | succ m =>
        rw [D.toPs, List.getElem?_cons_succ] at hz
        exact e4 m z' (by omega) hz
def dIndex (ds : List D) (y : D) : Res D := if (D.lst ds).shaped = true ∧ y.shaped = true then (match ixD y.toP ds 0 with
    | some j => .ok (.int j)
    | none => .stuck) else .stuck
def eIdx (f g : EF) : EF := fun env => (f env).bind fun x => match x with
  | .lst ds => (g env).bind fun y => dIndex ds y
  | _ => .stuck
theorem m_index (C : Cxx X M k) (ho : PE X o (tV M f)) (he : PE X e (tV M g))
    (hbase : attributeBase o "index" X.env (eval o X.env) = eval o X.env := by rfl)
    (hfew : ((backTo cpos (starEach [e] X.env)).all (fun x => !x.1) && (backToKw cpos (keywordEach [] X.env)).all (fun x => x.1.isSome)
      && decide ([e].length + ([] : List Keyword).length + (if ([] : List Keyword).isEmpty then 0 else 1) < 30)) = true := by rfl)
    (hline : (apos.endLine == cpos.line) = true := by rfl) (hs : starEach [e] X.env = (false, eval e X.env) :: starEach [] X.env := by rfl) (hplain : (backTo cpos (starEach [] X.env)).any (·.1) = false := by rfl) :
    PE X (.Call (.Attribute o "index" apos) [e] [] cpos) (tE M (eIdx f g)) :=
  PE.weak (pe_bm PySem.F.plainAttrs_list PySem.F.slot_list_index PySem.F.type_list_index (mt_indexD C.hu) ho (pa_cons he pa_nil hs) hbase hfew hline hs hplain) fun σ H Q ⟨F, env, I, qq⟩ => by
    refine w_then I qq fun x v H1 s1 hv q1 => ?_
    have I1 := I.grow s1
    cases x with
    | lst ds =>
      obtain ⟨p, xs, rfl, h1, h2⟩ := hv.lst
      refine ⟨.inl ⟨rfl, xs, C.hK ▸ h1⟩, w_then I1 q1 fun y w H2 s2 hw q2 => ?_⟩
      unfold dIndex at q2
      split at q2
      · rename_i hc
        split at q2
        · rename_i j hj
          obtain ⟨i, z, e1, e2, e3, e4⟩ := ixD_spec hj
          have ej : j = i := by omega
          subst ej
          have hd1 := (hv.mono s2).dp hc.1
          have hd2 := hw.dp hc.2
          rw [← C.hK] at hd1 hd2
          exact ⟨p, w, y.toP, D.toPs ds, j, z, rfl, rfl, hd1, hd2, hc.1, hc.2, e2, e3, e4, post_ok q2 Rep.int_⟩
        · exact q2.elim
      · exact q2.elim
    | _ => exact q1.elim

/-! ## sum, max, min of a list of whole numbers -/
def dSum : D → Res D
  | .lst ds => match D.ints ds with
    | some ns => .ok (.int ns.sum)
    | none => .stuck
  | _ => .stuck
def maxI : List Int → Int
  | [] => 0
  | [x] => x
  | x :: r => if maxI r < x then x else maxI r
def minI : List Int → Int
  | [] => 0
  | [x] => x
  | x :: r => if x < minI r then x else minI r
theorem maxI_spec : ∀ {l : List Int}, l ≠ [] → maxI l ∈ l ∧ ∀ y ∈ l, y ≤ maxI l
  | [], h => absurd rfl h
  | [x], _ => by
    unfold maxI
    exact ⟨List.mem_cons_self, fun y hy => by rw [List.mem_singleton.mp hy]; exact Int.le_refl _⟩
  | x :: z :: r, _ => by
    obtain ⟨h1, h2⟩ := maxI_spec (l := z :: r) (by simp)
    unfold maxI
    split
    · rename_i h
      refine ⟨List.mem_cons_self, fun y hy => ?_⟩
      rcases List.mem_cons.mp hy with e | hy
      · rw [e]; exact Int.le_refl _
      · have := h2 y hy; omega
    · rename_i h
      refine ⟨List.mem_cons_of_mem _ h1, fun y hy => ?_⟩
      rcases List.mem_cons.mp hy with e | hy
      · rw [e]; omega
      · exact h2 y hy
theorem minI_spec : ∀ {l : List Int}, l ≠ [] → minI l ∈ l ∧ ∀ y ∈ l, minI l ≤ y
  | [], h => absurd rfl h
  | [x], _ => by
    unfold minI
    exact ⟨List.mem_cons_self, fun y hy => by rw [List.mem_singleton.mp hy]; exact Int.le_refl _⟩
  | x :: z :: r, _ => by
    obtain ⟨h1, h2⟩ := minI_spec (l := z :: r) (by simp)
    unfold minI
    split
    · rename_i h
      refine ⟨List.mem_cons_self, fun y hy => ?_⟩
      rcases List.mem_cons.mp hy with e | hy
      · rw [e]; exact Int.le_refl _
      · have := h2 y hy; omega
    · rename_i h
      refine ⟨List.mem_cons_of_mem _ h1, fun y hy => ?_⟩
      rcases List.mem_cons.mp hy with e | hy
      · rw [e]; omega
      · exact h2 y hy
def dMax : D → Res D
  | .lst ds => match D.ints ds with
    | some ns => if ns = [] then .stuck else .ok (.int (maxI ns))
    | none => .stuck
  | _ => .stuck
def dMin : D → Res D
  | .lst ds => match D.ints ds with
    | some ns => if ns = [] then .stuck else .ok (.int (minI ns))
    | none => .stuck
  | _ => .stuck
theorem d_sum : Des1 M (rSum M.G.K) (Rep M.G) dSum := by
  intro F σ x v H Q dom hx q
  unfold dSum at q
  split at q
  · rename_i ds
    split at q
    · rename_i ns e
      obtain ⟨p, xs, rfl, h1, h2⟩ := hx.lst
      obtain ⟨rfl, _⟩ := h2.ints e
      exact ⟨p, ns, rfl, h1, post_ok q Rep.int_⟩
    · exact q.elim
  · exact q.elim
theorem d_max : Des1 M (rMax M.G.K) (Rep M.G) dMax := by
  intro F σ x v H Q dom hx q
  unfold dMax at q
  split at q
  · rename_i ds
    split at q
    · rename_i ns e
      split at q
      · exact q.elim
      · rename_i hne
        obtain ⟨p, xs, rfl, h1, h2⟩ := hx.lst
        obtain ⟨rfl, _⟩ := h2.ints e
        refine ⟨p, ns, rfl, h1, List.length_pos_iff.mpr hne, fun m hm hmax => ?_⟩
        obtain ⟨k1, k2⟩ := maxI_spec hne
        have : m = maxI ns := Int.le_antisymm (k2 m hm) (hmax _ k1)
        rw [this]
        exact post_ok q Rep.int_
    · exact q.elim
  · exact q.elim
theorem d_min : Des1 M (rMin M.G.K) (Rep M.G) dMin := by
  intro F σ x v H Q dom hx q
  unfold dMin at q
  split at q
  · rename_i ds
    split at q
    · rename_i ns e
      split at q
      · exact q.elim
      · rename_i hne
        obtain ⟨p, xs, rfl, h1, h2⟩ := hx.lst
        obtain ⟨rfl, _⟩ := h2.ints e
        refine ⟨p, ns, rfl, h1, List.length_pos_iff.mpr hne, fun m hm hmax => ?_⟩
        obtain ⟨k1, k2⟩ := minI_spec hne
        have : m = minI ns := Int.le_antisymm (hmax _ k1) (k2 m hm)
        rw [this]
        exact post_ok q Rep.int_
    · exact q.elim
  · exact q.elim
theorem m_sum (C : Cxx X M k) (hm : X.mg "sum" = none) (ha : PE X e (tV M f)) (hg : Gl X "sum" := by rfl) (he : starEach [e] X.env = (false, eval e X.env) :: starEach [] X.env := by rfl) (hpl : (backTo pos (starEach [] X.env)).any (·.1) = false := by rfl) :
    PE X (.Call (.Name "sum" p) [e] [] pos) (tE M (eU dSum f)) := m_b1 (cr_sum C.calm) (C.hK ▸ d_sum) (by decide +kernel) hm ha hg (by decide) (by decide) he hpl
theorem m_max (C : Cxx X M k) (hm : X.mg "max" = none) (ha : PE X e (tV M f)) (hg : Gl X "max" := by rfl) (he : starEach [e] X.env = (false, eval e X.env) :: starEach [] X.env := by rfl) (hpl : (backTo pos (starEach [] X.env)).any (·.1) = false := by rfl) :
    PE X (.Call (.Name "max" p) [e] [] pos) (tE M (eU dMax f)) := m_b1 (cr_max C.calm) (C.hK ▸ d_max) (by decide +kernel) hm ha hg (by decide) (by decide) he hpl
theorem m_min (C : Cxx X M k) (hm : X.mg "min" = none) (ha : PE X e (tV M f)) (hg : Gl X "min" := by rfl) (he : starEach [e] X.env = (false, eval e X.env) :: starEach [] X.env := by rfl) (hpl : (backTo pos (starEach [] X.env)).any (·.1) = false := by rfl) :
    PE X (.Call (.Name "min" p) [e] [] pos) (tE M (eU dMin f)) := m_b1 (cr_min C.calm) (C.hK ▸ d_min) (by decide +kernel) hm ha hg (by decide) (by decide) he hpl
end
end Mi
end
section
set_option maxRecDepth 100000
set_option maxHeartbeats 1000000
namespace Mi
open PySem PySem.Spec PyProof.Rows L2

/-! ## def __init__(slf, w): super().__init__(..); slf.f = w in an own error -/
section
variable (P : Program) (w : World) (K : PySem.W.Frag) (mg : Str → Option Value) (base : Heap)
/-- such a body's context -/
def xcx (N : List Str) (qual : Str) (scope : Scope) (f cda cc : Addr) (A : Around) (outer : List Env) (s : Shared) (H : Hp) : Cx :=
  { cxOf (L2.CX P w) P w K mg base N qual scope f (.ref cda) A outer s H (fun _ _ _ => False) with
    env := PySem.W.ksEnv qual scope s.heap.objs.size f (.ref cda) cc
    stack := PySem.W.ksEnv qual scope s.heap.objs.size f (.ref cda) cc :: outer
    A := A.deeper (PySem.W.ksEnv qual scope s.heap.objs.size f (.ref cda) cc)
    fn := fun _ => false
    xe := fun _ _ => False }
end
/-- what the written part says of such a class and its __init__ -/
structure XIn (P : Program) (K : PySem.W.Frag) (C fI cda cc : Addr) (fd : FuncData) (name qual : Str) (params : Arguments) (body : List Stmt) (scope : Scope) (slf wn fld : Str) : Prop where
  lk : ∃ oc od osl dV kV doc pm an ct, K.lookup fI = some ⟨oc, od, .func fd, osl⟩ ∧ fd = PySem.W.ksFn name qual params body scope dV kV doc pm an (.ref cda) ct cc
  hcd : PySem.W.codeIn K (.ref cda) qual = true
  code : ∃ ccl cdd vs ccs file tf, K.lookup cda = some ⟨ccl, cdd, .fields vs, ccs⟩ ∧ vs[2]? = some (.str file tf) ∧ ((P.main.file : Str) == file) = true
  cell : ∃ cl cld csl, K.lookup cc = some ⟨cl, cld, .cell (some (.ref C)), csl⟩
  sup : PySem.W.ks_superIn K C C "__init__" = some (some (.builtin "ValueError.__init__"))
  isV : PySem.W.subIn K (.ref C) (.type "ValueError") = some true
  isC : PySem.W.mroIn K C (.ref C) = some true
  opq : PySem.W.nsIn K cStatics "thirdparty.any" = some none
  T : OexC K C
  no : PySem.W.findIn K (.ref C) fld = some none
  ar : ∃ a, (params.posonlyargs ++ params.args).head? = some a ∧ a.arg = slf
  kind : scope.kind = .function
  co : scope.isCoroutine = false
  gen : scope.isGenerator = false
  nself : scope.names.lookup slf = some .local
  nwn : scope.names.lookup wn = some .local
  nsup : scope.names.lookup ("super" : Str) = some .globalImplicit
  ncls : scope.names.lookup ("__class__" : Str) = some .free
  nocell : ∀ x ∈ scope.names, x.2 ≠ .cell
  onlycls : ∀ x, (scope.names.lookup x = some .cell ∨ scope.names.lookup x = some .free) → x = "__class__"
  ne : slf ≠ wn
  top : (P.main.scope.names.lookup ("super" : Str)).isSome = false
/-- __init__: slf is an error of the class at C that is being made -/
def spXI (C : Addr) (fld : Str) (Pv : V → Prop) : Sp := fun vs H Q E => ∃ a v, vs = [.ref a, v] ∧ H a = some (exo a C none) ∧ Pv v ∧ ∀ dx, H dx = none → dx ≠ a → Q .non (upd (upd H dx (exd dx [(fld, v)])) a (exo a C (some dx)))

section
variable {P : Program} {w : World} {K : PySem.W.Frag} {mg : Str → Option Value} {base : Heap} {k : Nat} {C fI cda cc : Addr} {fd : FuncData} {name qual slf wn fld : Str} {params : Arguments} {scope : Scope} {em : Expr} {p0 p1 apos p2 p3 p4 p5 p6 p7 p8 : Pos} {Pv : V → Prop}
abbrev xbody (em : Expr) (slf wn fld : Str) (p0 p1 apos p2 p3 p4 p5 p6 p7 : Pos) : List Stmt :=
  [.Expr (.Call (.Attribute (.Call (.Name "super" p0) [] [] p1) "__init__" apos) [em] [] p2) p3, .Assign [.Attribute (.Name slf p4) fld p5] (.Name wn p6) p7]
theorem ok_xinit (F : XIn P K C fI cda cc fd name qual params (xbody em slf wn fld p0 p1 apos p2 p3 p4 p5 p6 p7) scope slf wn fld) (hsup : mg "super" = none)
    (hm : ∀ (A : Around) (outer : List Env) (s : Shared) (H : Hp), PE (xcx P w K mg base [slf, wn] qual scope fI cda cc A outer s H) em (fun σ H Q => (∃ v, σ[1]? = some (some v) ∧ Pv v) ∧ ∀ x, Q x H))
    (hst : ∀ env, starEach [em] env = (false, eval em env) :: starEach [] env := by intro _; rfl) (hpl : ∀ env, (backTo p2 (starEach [] env)).any (·.1) = false := by intro _; rfl)
    (hmc : ∀ env : Env, ∃ pl : Sem Bool, eval (.Call (.Attribute (.Call (.Name "super" p0) [] [] p1) "__init__" apos) [em] [] p2) env = (do
      let ov ← attributeBase (.Call (.Name "super" p0) [] [] p1) "__init__" env (eval (.Call (.Name "super" p0) [] [] p1) env)
      standAt apos.atName
      let (f, first) ← holding [ov] (getMethod ov "__init__" pl)
      callWith p2 f first (backTo p2 (starEach [em] env)) []) := by exact fun _ => ⟨_, rfl⟩)
    (hin : ∀ n : Addr, interactive (PySem.W.ksEnv qual scope n fI (.ref cda) cc) = false := by intro _; rfl)
    (hsw : ∀ env : Env, swapsWith (.Name wn p6) (some (.Attribute (.Name slf p4) fld p5)) p7.line env = pure false := by intro _; rfl)
    (hdself : (slf == ("__debug__" : Str)) = false := by decide) (hdcself : (slf == ("__classdict__" : Str)) = false := by decide) (hdw : (wn == ("__debug__" : Str)) = false := by decide) (hdcw : (wn == ("__classdict__" : Str)) = false := by decide) :
    FnOk P w K mg base (L2.CX P w) (k + 1) fI fd [slf, wn] (spXI C fld Pv) := by
  obtain ⟨oc, od, osl, dV, kV, doc, pm, an, ct, lk, rfl⟩ := F.lk
  refine ⟨fun vs H Q E h => ?_, fun A outer s H args us vs Q E hr e0 hb r hsp => ?_⟩
  · obtain ⟨a, v, rfl, _⟩ := h
    rfl
  · obtain ⟨a, v, rfl, ha, hpv, hq⟩ := hsp
    have KX : K.In s.heap := e0.mod.kin.keeps fun b o e => (e0.bs b o e).1
    have lim : s.heap.NoLimit := e0.mod.nolimit.keeps fun b o e => (e0.bs b o e).1
    cases r with
    | @cons _ u0 _ ur ra rr =>
    cases rr with
    | @cons _ u1 _ ur2 rv rr2 =>
    cases rr2
    cases ra
    obtain ⟨cl, cld, csl, hcell⟩ := F.cell
    obtain ⟨ccl, cdd, cvs, ccs, file, tf, hcode, hvs, hfile⟩ := F.code
    obtain ⟨ar, har, earg⟩ := F.ar
    have hbl : ∀ x ∈ [(slf, Value.ref a), (wn, u1)], scope.names.lookup x.1 = some .local := fun x hx => by
      rcases List.mem_cons.mp hx with e | hx
      · rw [e]; exact F.nself
      · rw [List.mem_singleton.mp hx]; exact F.nwn
    refine PySem.ks_codeAny_call_defAt (body := xbody em slf wn fld p0 p1 apos p2 p3 p4 p5 p6 p7) (binds := [(slf, Value.ref a), (wn, u1)]) hr.depth (KX _ _ lk) rfl lim (PySem.W.codeRec_of KX F.hcd) rfl hb F.nocell hbl (fun h1 hns hk1 => ?_) F.co F.gen F.kind
    have base_cc : ∃ o, base.get? cc = some o := ⟨_, e0.mod.kin _ _ hcell⟩
    -- the frame
    have hself : (([(slf, Value.ref a), (wn, u1)] : List (Str × Value)).reverse.lookup slf) = some (.ref a) := by
      show (([(wn, u1), (slf, Value.ref a)] : List (Str × Value)).lookup slf) = _
      rw [List.lookup_cons, show (slf == wn) = false from beq_eq_false_iff_ne.mpr F.ne]
      simp
    have hwn : (([(slf, Value.ref a), (wn, u1)] : List (Str × Value)).reverse.lookup wn) = some u1 := by
      show (([(wn, u1), (slf, Value.ref a)] : List (Str × Value)).lookup wn) = _
      rw [List.lookup_cons]
      simp
    have I1 : Inv (xcx P w K mg base [slf, wn] qual scope fI cda cc A outer s H) [] [some (.ref a), some v] H { s with heap := h1, toks := s.toks + 2 } := by
      have cells : ∀ x c, (xcx P w K mg base [slf, wn] qual scope fI cda cc A outer s H).env.cells.lookup x = some c → x = "__class__" ∧ c = cc := fun x c e => by
        have e : ([("__class__", cc)] : List (Str × Addr)).lookup x = some c := e
        rw [List.lookup_cons] at e
        cases q : (x == ("__class__" : Str)) with
        | true => rw [q] at e; exact ⟨by simpa using q, (Option.some.inj e).symm⟩
        | false => rw [q] at e; cases e
      refine ⟨⟨e0.mod, F.kind, rfl, rfl, Nat.le_refl _, fun x y c h h' => (cells x c h).1.trans (cells y c h').1.symm, fun x hx => ?_, fun x c h => absurd h Bool.false_ne_true, fun _ => hr.hd, Around.frames_deeper e0.frames, .inr ⟨rfl, rfl⟩, fun b z => absurd (show b ∈ ([] : List Addr) from z) (by simp), e0.bs, e0.bsz,
        fun b _ _ z => absurd (show b ∈ ([] : List Addr) from z) (by simp), fun b z => absurd (show b ∈ ([] : List Addr) from z) (by simp), e0.funs, e0.frf⟩, rfl, e0.bare, Un.kept hk1, ⟨_, hns, fun i x y h2 h3 h4 => ?_⟩, fun x c h => ?_, e0.hok.fresh (Nat.le_refl _), fun x c h => ?_, fun p hp => absurd (show p ∈ ([] : List (Addr × Obj)) from hp) (by simp), e0.hok.kept hk1, rfl⟩
      · have hx : scope.names.lookup x = some .cell ∨ scope.names.lookup x = some .free := hx
        have e := F.onlycls x hx
        exact ⟨cc, by rw [e]; show ([(("__class__" : Str), cc)] : List (Str × Addr)).lookup ("__class__" : Str) = _; simp⟩
      · have h2 : ([slf, wn] : List Str)[i]? = some x := h2
        match i, h2, h3 with
        | 0, h2, h3 =>
          cases h2
          cases h3
          exact ⟨_, rfl, .inl ⟨F.nself, hself⟩⟩
        | 1, h2, h3 =>
          cases h2
          cases h3
          exact ⟨_, rv, .inl ⟨F.nwn, hwn⟩⟩
        | i + 2, h2, h3 => cases h2
      · obtain ⟨_, e⟩ := cells x c h
        subst e
        exact ⟨_, _, hk1 _ _ (KX _ _ hcell), rfl⟩
      · obtain ⟨_, e⟩ := cells x c h
        obtain ⟨o, ho⟩ := base_cc
        rw [e]
        exact (e0.bs cc o ho).2
    -- super().__init__(..)
    have X1 : K.In h1 := KX.keeps hk1
    obtain ⟨t1, hoa⟩ := exo_at I1.hok ha
    have hoa : h1.get? a = some ({ cls := .ref C, dict := none, data := .fields #[.ref t1, .none, .none, .none, .bool false, .none] } : Obj) := hoa
    obtain ⟨nm, q, Nn, bs, bm, sn, sub, ab, col, dd, k0, k1, k2, k3, k5, hC, hbm⟩ := F.T.cls
    have hsubC := F.isC
    cases hcl : PySem.W.clsIn K C with
    | none => unfold PySem.W.mroIn at hsubC; rw [hcl] at hsubC; cases hsubC
    | some cd =>
    obtain ⟨oD, hD1, hD2⟩ : ∃ oD, h1.get? C = some oD ∧ oD.data = .cls cd := by
      have hcl' := hcl
      unfold PySem.W.clsIn at hcl'
      rw [hC] at hcl'
      cases hcl'
      exact ⟨_, X1 _ _ hC, rfl⟩
    refine PySem.ks_wpAt_execs_cons (PySem.ks_wpAt_Expr_any (hi := hin _) ?_)
    obtain ⟨pl, hmc⟩ := hmc (PySem.W.ksEnv qual scope s.heap.objs.size fI (.ref cda) cc)
    refine PySem.ks_wpAt_MethodCall ?_ hmc
    refine PySem.ks_wpAt_super_base (env := PySem.W.ksEnv qual scope s.heap.objs.size fI (.ref cda) cc) F.nsup F.ncls (by decide) rfl (X1 _ _ lk) rfl har rfl (X1 _ _ hcode) rfl hvs hfile F.top ?_
    obtain ⟨mb, hb1, hb2⟩ := I1.mod.blt
    refine PySem.W.ks_loadName_global F.kind F.nsup (Calls.loadGlobal_builtin (env := PySem.W.ksEnv qual scope s.heap.objs.size fI (.ref cda) cc) (I1.mod.glob.keeps I1.bk) hsup (hb1.keeps I1.bk) ((hb2 "super" (by decide)).trans (by decide +kernel : bootBuiltins "super" = some (.type "super"))) ⟨rfl, ?_⟩)
    refine wpAny_loadName_free F.kind F.ncls rfl ⟨_, X1 _ _ hcell, rfl⟩ ?_
    rw [earg]
    refine wpAny_loadName_local F.kind F.nself hns hself ?_
    refine PySem.ks_wpAny_isType_cls hD1 hD2 ⟨rfl, ?_⟩
    refine PySem.ks_wpAny_call_super hD1 hD2 hoa rfl (fun c e => by cases e) (PySem.W.looks_mroIn X1 hsubC) (fun h2 hso kk2 => ?_)
    have X2 : K.In h2 := X1.keeps kk2
    have hoa2 := kk2 _ _ hoa
    have hsup' := F.sup
    unfold PySem.W.ks_superIn at hsup'
    rw [hcl] at hsup'
    have I2x : PySem.W.InstAt h2 a { cls := .ref C, dict := none, data := .fields #[.ref t1, .none, .none, .none, .bool false, .none] } C none := ⟨hoa2, rfl, rfl, trivial⟩
    have hne : a ≠ C := PySem.W.ks_ne X2 I2x hcl
    refine PySem.W.kxs_getMethod PySem.W.kxs_ValueError hso (PySem.W.looks_opaque X2 F.opq) (l₀ := cd.mro) (fun A Q E s k q => wpAny_bind ((PySem.W.looks_clsIn X2 hcl) A _ E s k (wpAny_pure q))) rfl X2 hsup' (I2x.type.andThen (PySem.W.looks_subIn X2 F.isV)) hne (by decide) ?_
    have kk3 : ∀ b o, h1.get? b = some o → (h2.push (PySem.W.kxs_mw "ValueError.__init__" a)).get? b = some o := fun b o e => Heap.get?_push_of_some _ (kk2 b o e)
    have hu : (h2.push (PySem.W.kxs_mw "ValueError.__init__" a)).get? h2.objs.size = some (PySem.W.kxs_mw "ValueError.__init__" a) := Heap.get?_push_at rfl rfl
    have I3 := I1.kept (t' := s.toks + 2 + 1) kk3
    have hpin : ∀ p ∈ [(h2.objs.size, PySem.W.kxs_mw "ValueError.__init__" a)], (h2.push (PySem.W.kxs_mw "ValueError.__init__" a)).get? p.1 = some p.2 := fun p hp => by rw [List.mem_singleton.mp hp]; exact hu
    show wpAny _ _ (callWith p2 (Value.ref h2.objs.size) [] (backTo p2 (starEach [em] _)) []) _ _ _
    rw [hst]
    refine PySem.W.kxs_callWith (i := "ValueError.__init__") (x := a) (by show (false || (backTo p2 (starEach [] _)).any (·.1)) = false; rw [hpl]; rfl) (Calls.evalArgs_plain ?_)
    have hlt2 : h1.objs.size ≤ h2.objs.size := Nat.le_of_lt (Heap.lt_size hso)
    have hun : H h2.objs.size = none := I1.hok.fresh hlt2
    have I3p : Inv (xcx P w K mg base [slf, wn] qual scope fI cda cc A outer s H) [(h2.objs.size, PySem.W.kxs_mw "ValueError.__init__" a)] [some (.ref a), some v] H { s with heap := h2.push (PySem.W.kxs_mw "ValueError.__init__" a), toks := s.toks + 2 + 1 } :=
      ⟨I3.ok, I3.os, I3.bare, I3.base, I3.loc, I3.cell, I3.free, I3.freeC, fun p hp => by
        have e : p = (h2.objs.size, PySem.W.kxs_mw "ValueError.__init__" a) := List.mem_singleton.mp (show p ∈ [(h2.objs.size, PySem.W.kxs_mw "ValueError.__init__" a)] from hp)
        rw [e]
        exact ⟨hu, hun, Nat.ne_of_gt (Nat.lt_of_lt_of_le I1.lt hlt2), I1.nofs hlt2, fun v z => by cases z⟩, I3.hok, I3.len⟩
    refine Calls.spliced_cons (wpAny_mono ((hm A outer s H).run _ _ _ H (fun _ H' => H' = H) I3p ⟨⟨v, rfl, hpv⟩, fun _ => rfl⟩) (fun um s4 hv => ?_) fun _ _ z => z.elim)
    obtain ⟨xm, H4, I4, r4, e4⟩ := hv
    have e4 : H4 = H := e4
    subst e4
    refine Calls.spliced_nil ?_
    have hu4 := (I4.pin (h2.objs.size, PySem.W.kxs_mw "ValueError.__init__" a) (List.mem_append_right _ List.mem_cons_self)).1
    refine ⟨hu4, ?_⟩
    obtain ⟨t4, hoa4⟩ := exo_at I4.hok ha
    have X4 : K.In s4.heap := I4.kIn
    obtain ⟨h4, g4, d4, tk4, os4⟩ := s4
    refine wpAny_call (codeAny_of_tree ?_)
    show wpAny _ _ (callAny (.ref h2.objs.size) ⟨[um], []⟩) _ _ _
    simp only [callAny]
    refine wpAny_bind (wpAny_load hu4 ?_)
    simp only [PySem.W.kxs_mw, show (Value.type "method-wrapper" == Value.type "method" || Value.type "method-wrapper" == Value.type "builtin_function_or_method" || Value.type "method-wrapper" == Value.type "method-wrapper") = true by decide, if_true]
    refine PySem.W.KFB.if_so (by decide) ?_
    refine wpAny_bind (PySem.W.check_bound_init PySem.F.excBase_ValueError.toExcCallFacts (X4 _ _ hC) hoa4 rfl ?_)
    refine wpAny_bind (wpAny_pure (wpAny_pure ?_))
    refine ⟨plainId_quiet PySem.F.excBase_ValueError.init.plain _, codeAny_builtin PySem.F.excBase_ValueError.initEntry ?_⟩
    refine PySem.W.exc_init_tree (cls := .ref C) (t0 := t4) (dv := none) (c2 := .none) (c3 := .none) (b4 := .bool false) hoa4 (by show 1 ≤ sizeLine; rw [sizeLine_eq]; omega) fun h5 kk5 hoa5 _ => ?_
    have I5 : Inv (xcx P w K mg base [slf, wn] qual scope fI cda cc A outer s H4) [(h2.objs.size, PySem.W.kxs_mw "ValueError.__init__" a)] [some (.ref a), some v] H4 ⟨h5, g4, d4, tk4, os4⟩ := by
      have J := I4.write (t' := tk4) (x := a) (e := a) (o := exo a C none) (by rw [ha]; exact True.intro) (.inl rfl) kk5 ⟨_, hoa5⟩ (exo_ok hoa5)
      have eu : upd H4 a (exo a C none) = H4 := by
        funext b
        by_cases hb : b = a
        · rw [hb, upd_same, ha]
        · rw [upd_ne hb]
      rw [eu] at J
      exact J
    refine wpAt_of_wpAny ?_
    have ps : PSs (xcx P w K mg base [slf, wn] qual scope fI cda cc A outer s H4) [.Assign [.Attribute (.Name slf p4) fld p5] (.Name wn p6) p7] _ := pss_one (ps_ost (pe_var (i := 0) (x := slf) (pos := p4) rfl (.inl F.nself) hdself hdcself) (pe_var (i := 1) (x := wn) (pos := p6) rfl (.inl F.nwn) hdw hdcw) (hsw _))
    refine wpAny_mono (ps.run _ _ _ H4 { nx := fun _ H' => Q .non H', rt := Q } I5 ?_) (fun fl s' hs => ?_) fun _ _ z => z.elim
    · exact ⟨v, rfl, .ref a, rfl, a, C, rfl, F.T, F.no, .inl ⟨ha, fun dx n ne => hq dx n ne⟩⟩
    · cases fl with
      | next =>
        obtain ⟨σ', H', J, q⟩ := hs
        exact ⟨.non, H', J.os, J.bare, J.base, J.hok, rfl, q⟩
      | ret u =>
        obtain ⟨v', σ', H', J, rv, q⟩ := hs
        exact ⟨v', H', J.os, J.bare, J.base, J.hok, rv, q⟩
      | brk =>
        obtain ⟨_, _, _, q⟩ := hs
        exact False.elim q
      | cont =>
        obtain ⟨_, _, _, q⟩ := hs
        exact False.elim q
end
end Mi
end
section
set_option maxRecDepth 100000
set_option maxHeartbeats 4000000
namespace Mi
open PySem PySem.Spec PyProof.Rows L2

/-! ## the message -/
/-- a text or a whole number, not too long -/
def PvF (v : V) : Prop := (∃ s : Str, v = .str s ∧ s.length ≤ 1000) ∨ ∃ i : Int, v = .int i ∧ i.natAbs.log2 < 64
def chkF : D → Bool
  | .str s => decide (s.length ≤ 1000)
  | .int i => decide (i.natAbs.log2 < 64)
  | _ => false
theorem chkF_ok {G : Gc} {F : Own} {H : Hp} {d : D} {v : V} (h : chkF d = true) (r : Rep G F H d v) : PvF v := by
  cases d with
  | str s =>
    unfold Rep at r
    exact .inl ⟨s, r, of_decide_eq_true h⟩
  | int i =>
    unfold Rep at r
    exact .inr ⟨i, r, of_decide_eq_true h⟩
  | _ => cases h
theorem toString_le {i : Int} (h : i.natAbs.log2 < 64) : ((toString i : Str)).length ≤ 1000 := by
  have e := PySem.int_text_length_le (k := 64) (by decide) h
  rw [PySem.ofString_length]
  omega
theorem msg_join {X : Cx} {s1 s2 : Str} {j1 j2 : Nat} {x : Str} {q0 q1 q2 q3 q4 : Pos} (hN : X.N[1]? = some x) (hv : Vis X.env.scope x) (hz : (Str.empty ++ s1).length + 1000 + s2.length ≤ sizeLine) (hd : (x == ("__debug__" : Str)) = false := by decide) (hcd : (x == ("__classdict__" : Str)) = false := by decide) :
    PE X (.JoinedStr [.Constant (.str s1) j1 q1, .FormattedValue (.Name x q2) (-1) none q3, .Constant (.str s2) j2 q4] q0) (fun σ H Q => (∃ v, σ[1]? = some (some v) ∧ PvF v) ∧ ∀ x, Q x H) :=
  PE.weak (pe_joined (PJ.cons pe_str (PJ.cons (pe_fmt (pe_var hN hv hd hcd)) (PJ.cons pe_str PJ.nil)))) fun σ H Q ⟨⟨v, hv, pv⟩, q⟩ => by
    have fin : ∀ y : Str, y.length ≤ 1000 → tJs [tC (.str s2)] (Str.empty ++ s1 ++ y) σ H fun out H1 => Q (.str out) H1 := fun y hy => ⟨s2, rfl, by rw [PySem.Str.length_append, PySem.Str.length_append]; omega, q _⟩
    refine ⟨s1, rfl, by omega, v, hv, ?_⟩
    rcases pv with ⟨y, rfl, hy⟩ | ⟨i, rfl, hi⟩
    · exact .inl ⟨y, rfl, by rw [sizeLine_eq]; omega, y, rfl, by rw [PySem.Str.length_append]; omega, fin y hy⟩
    · exact .inr ⟨i, rfl, by omega, toString i, rfl, by have := toString_le hi; rw [PySem.Str.length_append]; omega, fin _ (toString_le hi)⟩
theorem msg_const {X : Cx} {s : Str} {j : Nat} {q0 : Pos} {Pv : V → Prop} : PE X (.Constant (.str s) j q0) (fun σ H Q => (∃ v, σ[1]? = some (some v) ∧ Pv v) ∧ ∀ x, Q x H) := PE.weak pe_str fun σ H Q ⟨_, q⟩ => q _

/-! ## raise C(e) -/
structure XcR (P : Program) (w : World) (K : PySem.W.Frag) (mg : Str → Option Value) (base : Heap) (G : Gc) (k : Nat) (x : Str) (c : Nat) (chk : D → Bool) : Prop where
  ex : ∃ (fI : Addr) (fd : FuncData) (ps : List Str) (Pv : V → Prop), mg x = some (.ref (G.cls c)) ∧ OexC K (G.cls c) ∧ PySem.W.findIn K (.ref (G.cls c)) "__init__" = some (some (.ref fI)) ∧ PySem.W.typeIn K (.ref fI) = some (.type "function") ∧
    FnOk P w K mg base (L2.CX P w) k fI fd ps (spXI (G.cls c) (G.exf c) Pv) ∧ Binds K fd ps [] ∧ ∀ d F H v, chk d = true → Rep G F H d v → Pv v
section
variable {M : Fm} {X : Cx} {a b c e o value : Expr} {es : List Expr} {pos p p2 apos cpos pos' np : Pos} {f g h : EF} {t u : TF} {af : AF} {st b0 : Stmt} {rest body body2 suite : List Stmt} {sf sg : SF} {k j : Nat} {tg : Expr} {x n : Str}
def sRaise (c : Nat) (chk : D → Bool) (f : EF) : SF := fun env => match f env with
  | .ok d => if chk d = true then .exc c (some d) env else .stuck
  | .exc c x => .exc c x env
  | .stuck => .stuck
theorem m_raise {c : Nat} {chk : D → Bool} (C : Cxx X M k) (F : XcR X.prog X.w X.K X.mg X.base M.G j x c chk) (hj : j + 1 ≤ k) (ha : PE X e (tE M f)) (hg : Gl X x := by rfl) (hdb : (x == ("__debug__" : Str)) = false := by decide)
    (he : starEach [e] X.env = (false, eval e X.env) :: starEach [] X.env := by rfl) (hpl : (backTo cpos (starEach [] X.env)).any (·.1) = false := by rfl) :
    PS X (.Raise (some (.Call (.Name x p) [e] [] cpos)) none pos) (tS M (sRaise c chk f)) := by
  obtain ⟨fI, fd, ps, Pv, hm, T, iC, tI, F1, hb, hpv⟩ := F.ex
  refine PS.weak (ps_raise C.calm C.tk (pmk_oex T iC tI F1 (C.hr.mono hj) hb .nil (passes_call C.tk fun _ _ _ _ z => z.elim) hg hm (pa_cons ha pa_nil he) hdb he hpl)) fun D σ H ⟨F, env, I, q⟩ => ?_
  refine ⟨F, env, I, ?_⟩
  unfold sRaise at q
  cases r : f env with
  | stuck => rw [r] at q; exact q
  | exc c x => rw [r] at q; exact fun cv dd H' s z => q F cv dd σ H' (I.grow s) (Fz.same s) z
  | ok d =>
    rw [r] at q
    dsimp only at q
    intro v H1 s1 hv
    by_cases hc : chk d = true
    · rw [if_pos hc] at q
      refine ⟨by show [v].length ≤ 1000; simp, fun a na => ⟨a, v, rfl, upd_same, hpv d F H1 v hc hv, fun dx ndx ne => ⟨rfl, dx, [(M.G.exf c, v)], upd_same, ?_, ?_, ?_⟩⟩⟩
      · rw [upd_ne ne, upd_same]
      · rw [upd_ne ne] at ndx; exact ndx
      · have n1 : H1 dx = none := by rw [upd_ne ne] at ndx; exact ndx
        have s2 : Same H1 (upd (L2.del (upd (upd (upd H1 a (exo a (M.G.cls c) none)) dx (exd dx [(M.G.exf c, v)])) a (exo a (M.G.cls c) (some dx))) a) dx (.xd [(M.G.exf c, v)])) := fun b o e => by
          have ba : b ≠ a := ne_of_none e na
          have bd : b ≠ dx := ne_of_none e n1
          rw [upd_ne bd, L2.del_ne ba, upd_ne ba, upd_ne bd, upd_ne ba]
          exact e
        exact q F _ _ σ _ ((I.grow s1).grow s2) (Fz.same (s1.trans s2)) ⟨rfl, dx, v, rfl, upd_same, hv.mono (Fz.same s2)⟩
    · rw [if_neg hc] at q; exact q.elim

/-! ## try: .. except C as n: .. -/
/-- what holds in an except suite -/
structure Cxh (X : Cx) (M : Fm) (k : Nat) : Prop where
  hK : X.K = M.G.K
  nd : X.N.Nodup
  hr : L2H.RoomH k X.A
  nx : ∀ cv dd σ H, ¬ M.W cv dd σ H
theorem Cxh.hu (C : Cxh X M k) : X.A.units + 65 < cLine := by have := C.hr.un; omega
def Fm.tw (M : Fm) (W : WX) : Fm := { M with W := W }
def Fm.su (M : Fm) (a : Addr) (dd : Option Addr) : Fm := { M with W := fun _ _ _ _ => False, ea := a, ed := dd }
def unEx1 : Slot → Slot
  | .ex _ _ => .no
  | s => s
def unEx (env : Envt) : Envt := env.map unEx1
theorem unEx_get {env : Envt} {i : Nat} {s : Slot} (e : (unEx env)[i]? = some s) : (env[i]? = some s ∧ ∀ c x, s ≠ .ex c x) ∨ s = .no := by
  unfold unEx at e
  rw [List.getElem?_map] at e
  cases q : env[i]? with
  | none => rw [q] at e; cases e
  | some z =>
    rw [q] at e
    cases z with
    | ex c x => cases e; exact .inr rfl
    | no => cases e; exact .inr rfl
    | val d => cases e; exact .inl ⟨rfl, fun c x h => by cases h⟩
    | own m => cases e; exact .inl ⟨rfl, fun c x h => by cases h⟩
theorem EnvOk.unEx {M' : Fm} {F : Own} {H : Hp} {env : Envt} {σ : L2.St} (I : EnvOk M F H env σ) (e0 : M'.G = M.G) (e1 : M'.H0 = M.H0) (e2 : M'.F0 = M.F0) (e3 : M'.self = M.self) : EnvOk M' F H (unEx env) σ := by
  refine ⟨by unfold Mi.unEx; rw [List.length_map]; exact I.len, by rw [e1]; exact I.old, I.dom, by rw [e2]; exact I.f0, fun i d e => ?_, ?_, fun x hx c fs e => ?_, fun i c x e => ?_⟩
  · rcases unEx_get e with ⟨z, _⟩ | z
    · rw [e0]; exact I.val i d z
    · cases z
  · obtain ⟨fp, h1, h2⟩ := I.own
    refine ⟨fp, fun i m e => ?_, fun i j m n a b => ?_⟩
    · rcases unEx_get e with ⟨z, _⟩ | z
      · rw [e0, e1]; exact h1 i m z
      · cases z
    · rcases unEx_get a with ⟨z, _⟩ | z
      · rcases unEx_get b with ⟨y, _⟩ | y
        · exact h2 i j m n z y
        · cases y
      · cases z
  · rcases unEx_get e with ⟨z, _⟩ | z
    · exact I.self x (e3 ▸ hx) c fs z
    · cases z
  · rcases unEx_get e with ⟨_, z⟩ | z
    · exact absurd rfl (z c x)
    · cases z
theorem EnvOk.set_ex {F : Own} {H : Hp} {env : Envt} {σ : L2.St} (I : EnvOk M F H env σ) (i c : Nat) (x : Option D) (h : ∀ d, x = some d → ∃ dd v, M.ed = some dd ∧ H dd = some (.xd [(M.G.exf c, v)]) ∧ Rep M.G F H d v) : EnvOk M F H (env.set i (.ex c x)) (σ.set i (some (.ref M.ea))) := by
  refine ⟨by rw [List.length_set, List.length_set, I.len], I.old, I.dom, I.f0, fun j d e => ?_, ?_, fun y hy c' fs e => ?_, fun j c' x' e => ?_⟩
  · rcases getset e with ⟨_, e2, _⟩ | ⟨ne, e2⟩
    · cases e2
    · rw [List.getElem?_set_ne (Ne.symm ne)]; exact I.val j d e2
  · obtain ⟨fp, h1, h2⟩ := I.own
    refine ⟨fp, fun j m e => ?_, fun j k m n e1 e2 ne => ?_⟩
    · rcases getset e with ⟨_, e2, _⟩ | ⟨ne, e2⟩
      · cases e2
      · rw [List.getElem?_set_ne (Ne.symm ne)]; exact h1 j m e2
    · rcases getset e1 with ⟨_, e3, _⟩ | ⟨_, e3⟩
      · cases e3
      · rcases getset e2 with ⟨_, e4, _⟩ | ⟨_, e4⟩
        · cases e4
        · exact h2 j k m n e3 e4 ne
  · rcases getset e with ⟨_, e2, _⟩ | ⟨ne, e2⟩
    · cases e2
    · rw [List.getElem?_set_ne (Ne.symm ne)]; exact I.self y hy c' fs e2
  · rcases getset e with ⟨rfl, e2, hl⟩ | ⟨ne, e2⟩
    · cases e2
      exact ⟨by rw [List.getElem?_set_self (by rw [I.len]; exact hl)], h⟩
    · rw [List.getElem?_set_ne (Ne.symm ne)]; exact I.ex j c' x' e2
theorem EnvOk.tw {F : Own} {H : Hp} {env : Envt} {σ : L2.St} {W : WX} (I : EnvOk M F H env σ) : EnvOk (M.tw W) F H env σ := ⟨I.len, I.old, I.dom, I.f0, I.val, I.own, I.self, I.ex⟩
theorem EnvOk.untw {F : Own} {H : Hp} {env : Envt} {σ : L2.St} {W : WX} (I : EnvOk (M.tw W) F H env σ) : EnvOk M F H env σ := ⟨I.len, I.old, I.dom, I.f0, I.val, I.own, I.self, I.ex⟩
theorem Cxx.tr {pn : List (Addr × Obj)} {xe : Value → Shared → Prop} {W : WX} (C : Cxx X M k) (tk : Takes (X.tr pn xe) W) (hp : PassesOwn (model X.prog X.w) X.A X.env xe) : Cxx (X.tr pn xe) (M.tw W) k := ⟨C.hK, C.calm, C.nd, C.hr, hp, tk⟩
theorem Cxx.su {a : Addr} {dd : Option Addr} {pn : List (Addr × Obj)} (C : Cxx X M k) : Cxh (X.suite a pn) (M.su a dd) k := ⟨C.hK, C.nd, ⟨C.hr.dp, C.hr.un⟩, fun _ _ _ _ z => z⟩
def endTry (i : Nat) : Out → Out
  | .nx e => .nx ((unEx e).set i .no)
  | .bk e => .bk ((unEx e).set i .no)
  | .ct e => .ct ((unEx e).set i .no)
  | .rt d e => .rt d (unEx e)
  | .exc _ _ _ => .stuck
  | .stuck => .stuck
/-- mt: the classes that are caught; cs: all that may come; pay: those that keep a field -/
def sTry (cs : List Nat) (mt pay : Nat → Bool) (i : Nat) (sf : SF) (ssf : Nat → SF) : SF := fun env => match sf env with
  | .exc c x env1 => if cs.contains c = true ∧ x.isSome = pay c then (if mt c = true then endTry i (ssf c ((unEx env1).set i (.ex c x))) else .exc c x env1) else .stuck
  | o => o
theorem PSs.exs {ι : Type} {P : ι → Prop} {t : ι → TS} (h : ∀ c, P c → PSs X rest (t c)) : PSs X rest (fun D σ H => ∃ c, P c ∧ t c D σ H) := ⟨fun pins s σ H D I ⟨c, hc, q⟩ => (h c hc).run pins s σ H D I q⟩
theorem m_try (C : Cxx X M k) (cs : List Nat) (mt pay : Nat → Bool) (i : Nat) {cv : Value} {ssf : Nat → SF} (hst : X.stack = X.env :: X.outer) (hfr : X.env.frame = some X.env.locals) (hc : Names X x cv) (hm : ∀ c ∈ cs, PySem.W.exmOne X.K (.ref (M.G.cls c)) cv = some (mt c))
    (hb : ∀ (W : WX) (pn : List (Addr × Obj)) (xe : Value → Shared → Prop), Cxx (X.tr pn xe) (M.tw W) k → PSs (X.tr pn xe) body (tS (M.tw W) sf))
    (hs : ∀ (a : Addr) (oe : Obj) (d : Option Addr) (pn : List (Addr × Obj)) (c : Nat), c ∈ cs → (pay c = false → d = none) → Zc (.ref (M.G.cls c)) d oe → (∃ vs, oe.data = .fields vs) → Cxh (X.suite a ((a, oe) :: pn)) (M.su a d) k → PSs (X.suite a ((a, oe) :: pn)) (b0 :: suite) (tS (M.su a d) (ssf c)))
    (hi : X.N[i]? = some n := by rfl) (hln : X.env.kindOf n = some .local := by rfl) :
    PS X (.Try body [.ExceptHandler (some (.Name x np)) (some n) (b0 :: suite) pos'] [] [] pos) (tS M (sTry cs mt pay i sf ssf)) := by
  refine PS.weak (ps_try_as (tb := fun W => tS (M.tw W) sf) (ts := fun a cls d D σ H => ∃ c, (cls = .ref (M.G.cls c) ∧ c ∈ cs ∧ (pay c = false → d = none)) ∧ tS (M.su a d) (ssf c) D σ H) hst hfr C.nd hi hln hc C.tk (fun W pn xe tk hp => hb W pn xe (C.tr tk hp)) fun a oe cls d pn hz hv => PSs.exs fun c ⟨hc1, hc2, hc3⟩ => hs a oe d pn c hc2 hc3 (hc1 ▸ hz) hv C.su) fun D σ H ⟨F, env, I, q⟩ => ?_
  refine ⟨F, env, I.tw, ?_⟩
  unfold sTry at q
  cases r : sf env with
  | nx e2 => rw [r] at q; exact fun F' σ' H' J z => q F' σ' H' J.untw z
  | rt d e2 => rw [r] at q; exact fun F' v σ' H' J z => q F' v σ' H' J.untw z
  | bk e2 => rw [r] at q; exact fun F' σ' H' J z => q F' σ' H' J.untw z
  | ct e2 => rw [r] at q; exact fun F' σ' H' J z => q F' σ' H' J.untw z
  | stuck => rw [r] at q; exact q
  | exc c x env1 =>
    rw [r] at q
    dsimp only at q
    intro F' cv' dd σ' H' J z hx
    by_cases hcc : cs.contains c = true ∧ x.isSome = pay c
    · rw [if_pos hcc] at q
      have hcs : c ∈ cs := by simpa using hcc.1
      obtain ⟨rfl, hx2⟩ := id hx
      refine ⟨mt c, hm c hcs, fun hmt a na => ?_, fun hmt => ?_⟩
      · rw [if_pos hmt] at q
        have hpd : pay c = false → dd = none := fun hp => by
          rw [hp] at hcc
          cases x with
          | none => exact hx2
          | some d => cases hcc.2
        have J2 : EnvOk (M.su a dd) F' H' ((Mi.unEx env1).set i (.ex c x)) (σ'.set i (some (.ref a))) := (EnvOk.unEx (M' := M.su a dd) J.untw rfl rfl rfl rfl).set_ex i c x fun d hd => by
          rw [hd] at hx2
          obtain ⟨a', v, e1, e2, e3⟩ := hx2
          exact ⟨a', v, e1, e2, e3⟩
        refine ⟨c, ⟨rfl, hcs, hpd⟩, F', _, J2, ?_⟩
        have back : ∀ {F'' : Own} {σ'' : L2.St} {H'' : Hp} {e : Envt}, EnvOk (M.su a dd) F'' H'' e σ'' → EnvOk M F'' H'' (Mi.unEx e) σ'' := fun K => K.unEx rfl rfl rfl rfl
        cases r2 : ssf c ((Mi.unEx env1).set i (.ex c x)) with
        | nx e3 => rw [r2] at q; exact fun F'' σ'' H'' K z2 => q F'' _ H'' ((back K).set_no none i) (z.trans z2)
        | bk e3 => rw [r2] at q; exact fun F'' σ'' H'' K z2 => q F'' _ H'' ((back K).set_no none i) (z.trans z2)
        | ct e3 => rw [r2] at q; exact fun F'' σ'' H'' K z2 => q F'' _ H'' ((back K).set_no none i) (z.trans z2)
        | rt d e3 => rw [r2] at q; exact fun F'' v σ'' H'' K z2 hv => q F'' v σ'' H'' (back K) (z.trans z2) hv
        | exc c' x' e3 => rw [r2] at q; exact q.elim
        | stuck => rw [r2] at q; exact q.elim
      · rw [if_neg (by rw [hmt]; exact Bool.false_ne_true)] at q
        exact q F' _ dd σ' H' J.untw z hx
    · rw [if_neg hcc] at q; exact q.elim

/-! ## in the suite -/
/-- what isinstance asks of an error class -/
structure ExI (K : PySem.W.Frag) (D : Addr) : Prop where
  hcl : (PySem.W.clsIn K D).isSome = true
  hga : PySem.W.findIn K (.ref D) "__getattribute__" = some (some (.builtin "BaseException.__getattribute__"))
  hgt : PySem.W.findIn K (.ref D) "__getattr__" = some none
  hsub : PySem.W.subIn K (.ref D) (.type "BaseException") = some true
  ha : PySem.W.findIn K (.ref D) "__class__" = some (some (.builtin "object.__class__"))
  hn : PySem.W.specialIn K (.builtin "object.__class__") "__get__" = some (some (.builtin "getset_descriptor.__get__"))
  htk : PySem.W.takesIn K (.builtin "object.__class__") = some true
  hm : PySem.W.mroIn K D (.type "object") = some true
def eIsE (i c : Nat) (pay : Nat → Bool) (b : Bool) : EF := fun env => match env[i]? with
  | some (.ex c' x) => if c' = c ∧ x.isSome = pay c then .ok (.bl b) else .stuck
  | _ => .stuck
/-- isinstance(e, T) -/
theorem call_isX {X : Cx} {a D : Addr} {oe : Obj} {d : Option Addr} {pn : List (Addr × Obj)} (C : ExI X.K D) (hz : Zc (.ref D) d oe) (hf : ∃ vs, oe.data = .fields vs) : CallR (X.suite a ((a, oe) :: pn)) (.builtin "isinstance")
    (fun xs H Q => ∃ (c : V) (cv : Value) (b : Bool), xs = [.ref a, c] ∧ (∀ u, RelV c u → u = cv) ∧ PySem.W.kitOne X.K (.ref D) cv = some b ∧ (∀ dd, d = some dd → ∃ fs, H dd = some (.xd fs)) ∧ Q (.bl b) H) := by
  intro pins s σ H xs us Q I r h
  obtain ⟨c, cv, b, rfl, hcv, e, hdd, q⟩ := h
  cases r with
  | cons rx rr =>
    cases rr with
    | cons rt rr =>
      cases rr
      cases rx
      have ec := hcv _ rt
      subst ec
      obtain ⟨hget, _⟩ := I.pin (a, oe) (List.mem_append.mpr (.inl List.mem_cons_self))
      obtain ⟨vs, hv⟩ := hf
      have J : ∃ od, PySem.W.InstAt s.heap a oe D od := by
        obtain ⟨oc, od, oda, osl⟩ := oe
        obtain ⟨h1, h2⟩ := hz
        dsimp only at h1 h2 hv
        subst h1 h2 hv
        cases od with
        | none => exact ⟨none, hget, rfl, rfl, trivial⟩
        | some dd =>
          obtain ⟨fs, hx⟩ := hdd dd rfl
          have hx' : ObjOk X.prog X.w H s.heap dd (.xd fs) := I.hok dd _ hx
          obtain ⟨mA, ⟨o, es, ep, ho, _⟩, _⟩ := hx'
          exact ⟨some o, hget, rfl, rfl, ho⟩
      obtain ⟨od, J⟩ := J
      exact PySem.W.kia_one (PySem.W.kitx_exc C.hcl C.hga C.hgt C.hsub C.ha C.hn C.htk C.hm) I.kIn J e (fun z => nomatch z) fun tk => ⟨.bl b, H, I.kept (t' := tk) fun _ _ z => z, rfl, q⟩
theorem w_isX {a : Addr} {d : Option Addr} {c : Nat} {pay : Nat → Bool} {i : Nat} {cl : V} {cv : Value} {b : Bool} (hcv : ∀ u, RelV cl u → u = cv) (hk : PySem.W.kitOne X.K (.ref (M.G.cls c)) cv = some b) (hp : pay c = false → d = none) {σ : L2.St} {H : Hp} {Q : VK} (q : tE (M.su a d) (eIsE i c pay b) σ H Q) :
    tCB (fun xs H Q => ∃ (c' : V) (cv : Value) (b : Bool), xs = [.ref a, c'] ∧ (∀ u, RelV c' u → u = cv) ∧ PySem.W.kitOne X.K (.ref (M.G.cls c)) cv = some b ∧ (∀ dd, d = some dd → ∃ fs, H dd = some (.xd fs)) ∧ Q (.bl b) H) (tCons (tVar i) (tCons (tC cl) tNil)) σ H Q := by
  obtain ⟨F, env, I, q⟩ := q
  unfold eIsE at q
  cases r : env[i]? with
  | none => rw [r] at q; exact q.elim
  | some s =>
    rw [r] at q
    cases s with
    | no => exact q.elim
    | val d => exact q.elim
    | own m => exact q.elim
    | ex c' x =>
      dsimp only at q
      by_cases h : c' = c ∧ x.isSome = pay c
      · rw [if_pos h] at q
        obtain ⟨e1, e2⟩ := I.ex i c' x r
        refine ⟨.ref a, e1, cl, cv, b, rfl, hcv, hk, fun dd hd => ?_, post_ok q Rep.bl_⟩
        cases x with
        | none =>
          have := hp h.2.symm
          rw [this] at hd; cases hd
        | some y =>
          obtain ⟨dd', v, k1, k2, _⟩ := e2 y rfl
          have k1 : d = some dd' := k1
          rw [k1] at hd
          cases hd
          exact ⟨_, k2⟩
      · rw [if_neg h] at q; exact q.elim
theorem m_isXB {T : Str} {Tn : String} {a : Addr} {oe : Obj} {d : Option Addr} {pn : List (Addr × Obj)} {c : Nat} {bb : Bool} (i : Nat) (pay : Nat → Bool) (E : ExI X.K (M.G.cls c)) (hz : Zc (.ref (M.G.cls c)) d oe) (hf : ∃ vs, oe.data = .fields vs) (hp : pay c = false → d = none) (hk : PySem.W.kitOne X.K (.ref (M.G.cls c)) (.type Tn) = some bb)
    (hm : X.mg "isinstance" = none) (hmT : X.mg T = none) (hvT : bootBuiltins T = some (.type Tn)) (hN : X.N[i]? = some n := by rfl) (hv : Vis X.env.scope n := by first | exact Or.inl rfl | exact Or.inr (Or.inl rfl) | exact Or.inr (Or.inr rfl)) (hd : (n == ("__debug__" : Str)) = false := by decide) (hcd : (n == ("__classdict__" : Str)) = false := by decide)
    (hg : Gl X "isinstance" := by rfl) (hgT : Gl X T := by rfl) (hnT : T ≠ "__name__" := by decide) (hdT : (T == ("__debug__" : Str)) = false := by decide)
    (hs : starEach [.Name n p, .Name T p2] X.env = (false, eval (.Name n p) X.env) :: starEach [.Name T p2] X.env := by rfl) (hs2 : starEach [.Name T p2] X.env = (false, eval (.Name T p2) X.env) :: starEach [] X.env := by rfl) (hpl : (backTo pos (starEach [.Name T p2] X.env)).any (·.1) = false := by rfl) :
    PE (X.suite a ((a, oe) :: pn)) (.Call (.Name "isinstance" np) [.Name n p, .Name T p2] [] pos) (tE (M.su a d) (eIsE i c pay bb)) :=
  PE.weak (pe_callB (call_isX E hz hf) hg hm PyProof.Rows.boot_isinstance (pa_cons (pe_var hN hv hd hcd) (pa_cons (pe_bltn (v := .ty Tn) hgT hmT hvT rfl hnT hdT) pa_nil hs2) hs) (by decide) (by decide) hs hpl) fun σ H Q q => w_isX (cl := .ty Tn) (cv := .type Tn) (fun u h => h) hk hp q
theorem m_isXC {T : Str} {Ca : Addr} {a : Addr} {oe : Obj} {d : Option Addr} {pn : List (Addr × Obj)} {c : Nat} {bb : Bool} (i : Nat) (pay : Nat → Bool) (E : ExI X.K (M.G.cls c)) (hz : Zc (.ref (M.G.cls c)) d oe) (hf : ∃ vs, oe.data = .fields vs) (hp : pay c = false → d = none) (hk : PySem.W.kitOne X.K (.ref (M.G.cls c)) (.ref Ca) = some bb)
    (hm : X.mg "isinstance" = none) (hmT : X.mg T = some (.ref Ca)) (hN : X.N[i]? = some n := by rfl) (hv : Vis X.env.scope n := by first | exact Or.inl rfl | exact Or.inr (Or.inl rfl) | exact Or.inr (Or.inr rfl)) (hd : (n == ("__debug__" : Str)) = false := by decide) (hcd : (n == ("__classdict__" : Str)) = false := by decide)
    (hg : Gl X "isinstance" := by rfl) (hgT : Gl X T := by rfl) (hdT : (T == ("__debug__" : Str)) = false := by decide)
    (hs : starEach [.Name n p, .Name T p2] X.env = (false, eval (.Name n p) X.env) :: starEach [.Name T p2] X.env := by rfl) (hs2 : starEach [.Name T p2] X.env = (false, eval (.Name T p2) X.env) :: starEach [] X.env := by rfl) (hpl : (backTo pos (starEach [.Name T p2] X.env)).any (·.1) = false := by rfl) :
    PE (X.suite a ((a, oe) :: pn)) (.Call (.Name "isinstance" np) [.Name n p, .Name T p2] [] pos) (tE (M.su a d) (eIsE i c pay bb)) :=
  PE.weak (pe_callB (call_isX E hz hf) hg hm PyProof.Rows.boot_isinstance (pa_cons (pe_var hN hv hd hcd) (pa_cons (pe_glob (v := .ref Ca) hgT hmT rfl hdT) pa_nil hs2) hs) (by decide) (by decide) hs hpl) fun σ H Q q => w_isX (cl := .ref Ca) (cv := .ref Ca) (fun u h => h) hk hp q
/-- e.f -/
def eExF (i c : Nat) : EF := fun env => match env[i]? with
  | some (.ex c' (some d)) => if c' = c then .ok d else .stuck
  | _ => .stuck
theorem m_exF {a : Addr} {oe : Obj} {d : Option Addr} {pn : List (Addr × Obj)} {c : Nat} {fld : Str} (i : Nat) (T : XfC X.K (M.G.cls c)) (hno : PySem.W.findIn X.K (.ref (M.G.cls c)) fld = some none) (hfl : M.G.exf c = fld) (hz : Zc (.ref (M.G.cls c)) d oe) (hf : ∃ vs, oe.data = .fields vs)
    (hN : X.N[i]? = some n := by rfl) (hv : Vis X.env.scope n := by first | exact Or.inl rfl | exact Or.inr (Or.inl rfl) | exact Or.inr (Or.inr rfl)) (hd : (n == ("__debug__" : Str)) = false := by decide) (hcd : (n == ("__classdict__" : Str)) = false := by decide)
    (hb : attributeBase (.Name n p) fld X.env (eval (.Name n p) X.env) = eval (.Name n p) X.env := by rfl) : PE (X.suite a ((a, oe) :: pn)) (.Attribute (.Name n p) fld pos) (tE (M.su a d) (eExF i c)) :=
  PE.weak (pe_xf T hno hz hf (pe_var hN hv hd hcd) hb) fun σ H Q ⟨F, env, I, q⟩ => by
    unfold eExF at q
    cases r : env[i]? with
    | none => rw [r] at q; exact q.elim
    | some s =>
      rw [r] at q
      cases s with
      | no => exact q.elim
      | val d => exact q.elim
      | own m => exact q.elim
      | ex c' x =>
        cases x with
        | none => exact q.elim
        | some y =>
          dsimp only at q
          by_cases h : c' = c
          · rw [if_pos h] at q
            subst h
            obtain ⟨e1, e2⟩ := I.ex i c' _ r
            obtain ⟨dd, v, k1, k2, k3⟩ := e2 y rfl
            have e1 : σ[i]? = some (some (.ref a)) := e1
            refine ⟨.ref a, e1, rfl, rfl, dd, _, v, k1, k2, ?_, post_ok q k3⟩
            rw [← hfl]
            exact List.lookup_cons_self
          · rw [if_neg h] at q; exact q.elim
end
end Mi
end
section
set_option maxRecDepth 100000
set_option maxHeartbeats 4000000
namespace Mi
open PySem PySem.Spec PyProof.Rows L2

/-! ## a def that may be called while an error is handled -/
structure FnA (P : Program) (w : World) (K : PySem.W.Frag) (mg : Str → Option Value) (base : Heap) (CX : CXT) (k : Nat) (f : Addr) (fd : FuncData) (ps : List Str) (sp : Sp) : Prop where
  len : ∀ vs H Q E, sp vs H Q E → vs.length = ps.length
  run : ∀ (A : Around) (outer : List Env) (s : Shared) (H : Hp) (args : Args) (us : List Value) (vs : List V) (Q : VK) (E : XK), L2H.RoomH k A → Env0 P w K mg base A outer s H → BindsTo s fd args (ps.zip us) → Vals vs us → sp vs H Q E →
    codeAny (model P w) A (.call (.ref f) args) (CR CX outer P w H s Q E) s
/-- such a body's context -/
abbrev cxa (P : Program) (w : World) (K : PySem.W.Frag) (mg : Str → Option Value) (base : Heap) (N : List Str) (qual : Str) (scope : Scope) (f : Addr) (cd : Value) (A : Around) (outer : List Env) (s : Shared) (H : Hp) : Cx :=
  { cxOf (L2.CX P w) P w K mg base N qual scope f cd A outer s H (fun _ _ _ => False) with calm := false, xe := fun _ _ => False }
section
variable {P : Program} {w : World} {K : PySem.W.Frag} {mg : Str → Option Value} {base : Heap}
def onlyOk {α β : Type} (φ : α → Res β) : α → Res β := fun a => match φ a with
  | .ok b => .ok b
  | _ => .stuck
theorem ok_defA {G : Gc} {x qual : Str} {params : Arguments} {body : List Stmt} {scope : Scope} {dvs : List V} {kws : List (Str × V)} {f : Addr} {fd : FuncData} {N ps : List Str} {k np n : Nat} {φ : List D → Res D} {sf : SF} (F : FunD K x qual params body scope dvs kws f fd) (S : FnScope N ps scope) (hφ : φ = onlyOk (dfn np n sf))
    (hn : N.length = n) (hnp : ps.length = np) (hle : np ≤ n) (hK : K = G.K)
    (hb : ∀ (cdv : Value) (A : Around) (outer : List Env) (s : Shared) (H : Hp) (M : Fm), M.G = G → Cxh (cxa P w K mg base N qual scope f cdv A outer s H) M k → PSs (cxa P w K mg base N qual scope f cdv A outer s H) body (tS M sf)) :
    FnA P w K mg base (L2.CX P w) (k + 1) f fd ps (spN G φ) := by
  subst hφ
  refine ⟨fun vs H Q E h => ?_, fun A outer s H args us vs Q E hr e0 hbt r h => ?_⟩
  · obtain ⟨F0, ds, _, r, q⟩ := h
    unfold onlyOk dfn at q
    by_cases hl : ds.length = np
    · rw [r.length, hl, hnp]
    · rw [if_neg hl] at q; exact q.elim
  · obtain ⟨oc, od, dV, kV, doc, pm, an, cdv, ct, osl, rfl, lk, hcd, _, _⟩ := F.ex
    have KX : K.In s.heap := e0.mod.kin.keeps fun b o e => (e0.bs b o e).1
    have lim : s.heap.NoLimit := e0.mod.nolimit.keeps fun b o e => (e0.bs b o e).1
    have hkind : ∀ y ∈ ps.zip us, scope.names.lookup y.1 = some .local ∨ (scope.names.lookup y.1 = some .cell ∧ ((cellsFrom (s.heap.objs.size + 1) scope.names []).lookup y.1).isSome = true) := fun ⟨n, v⟩ hy => by
      rcases S.par n (List.of_mem_zip hy).1 with q | q
      · exact .inl q
      · exact .inr ⟨q, PySem.W.cellsFrom_some _ _ _ (.inl q)⟩
    obtain ⟨F0, ds, dom, rr, q⟩ := h
    unfold onlyOk dfn at q
    by_cases hl : ds.length = np
    · rw [if_pos hl] at q
      have hlv : vs.length = ps.length := by rw [rr.length, hl, hnp]
      refine codeAny_call_function hr.depth (KX _ _ lk) rfl S.co S.gen rfl (PySem.W.codeRec_of KX hcd) (hbt _ _ _ _ ?_)
      refine wpAny_newFunctionEnv_cells S.kind hkind fun env he s1 x => ?_
      subst he
      refine ⟨lim.keeps x.toInCall.keep, codeAny_func ?_⟩
      have I0 := inv_start (CX := L2.CX P w) (E := fun _ _ _ => False) (cd := cdv) (f := f) (qual := qual) S (A := { A with handled := none }) rfl ⟨e0.frames, e0.mod, e0.bs, e0.bsz, e0.funs, e0.frf, e0.hok, e0.bare⟩ hlv r x
      have I : Inv (cxa P w K mg base N qual scope f cdv A outer s H) [] (L2.start N vs) H s1 :=
        ⟨⟨I0.ok.mod, I0.ok.kind, I0.ok.glob, I0.ok.blt, I0.ok.above, I0.ok.inj, I0.ok.has, I0.ok.cab, fun z => Bool.noConfusion (show false = true from z), Around.frames_deeper e0.frames, I0.ok.stk, I0.ok.exf, I0.ok.bs, I0.ok.bsz, I0.ok.noex, I0.ok.exfs, I0.ok.funs, I0.ok.frf⟩,
          I0.os, I0.bare, I0.base, I0.loc, I0.cell, I0.free, I0.freeC, I0.pin, I0.hok, I0.len⟩
      have ht := hb cdv A outer s H ⟨G, F0, H, dom, fun _ _ _ _ => False, none, 0, none⟩ rfl ⟨hK, S.nd, hr.deeper _, fun _ _ _ _ z => z⟩
      have J0 := env_start (M := ⟨G, F0, H, dom, fun _ _ _ _ => False, none, 0, none⟩) (N := N) rfl rfl rr (by rw [hl, hn]; exact hle)
      rw [hl, hn] at J0
      have hq : tS ⟨G, F0, H, dom, fun _ _ _ _ => False, none, 0, none⟩ sf { nx := fun _ H' => Q .non H', rt := Q } (L2.start N vs) H := by
        refine ⟨F0, _, J0, ?_⟩
        cases e : sf (ds.map Slot.val ++ List.replicate (n - np) Slot.no) with
        | nx env => rw [e] at q; exact fun F' σ' H' I z => q .non H' I.old Rep.non_
        | rt d env => rw [e] at q; exact fun F' v σ' H' I z hv => q v H' I.old (hv.mono fun a o hf e => ⟨fun y => hf (I.f0 a y), e⟩)
        | bk env => rw [e] at q; exact q.elim
        | ct env => rw [e] at q; exact q.elim
        | exc c x env => rw [e] at q; exact q.elim
        | stuck => rw [e] at q; exact q.elim
      refine wpAny_mono (ht.run [] s1 (L2.start N vs) H _ I hq) (fun fl s' hs => ?_) fun _ _ z => z.elim
      have fin : ∀ {σ' : L2.St} {H' : Hp} {v : V} {u : Value}, Inv (cxa P w K mg base N qual scope f cdv A outer s H) [] σ' H' s' → RelV v u → Q v H' → CE outer P w H s Q u s' :=
        fun {σ' H' v u} J rv q => ⟨v, H', J.os, J.bare, J.base, J.hok, rv, q⟩
      cases fl with
      | ret u =>
        obtain ⟨v, σ', H', J, rv, q⟩ := hs
        exact fin J rv q
      | next =>
        obtain ⟨σ', H', J, q⟩ := hs
        exact fin (v := V.non) (u := Value.none) J rfl q
      | brk =>
        obtain ⟨_, _, _, q⟩ := hs
        exact False.elim q
      | cont =>
        obtain ⟨_, _, _, q⟩ := hs
        exact False.elim q
    · rw [if_neg hl] at q; exact q.elim
structure FnAR (P : Program) (w : World) (K : PySem.W.Frag) (mg : Str → Option Value) (base : Heap) (G : Gc) (k : Nat) (x : Str) (φ : List D → Res D) : Prop where
  ex : ∃ (f : Addr) (fd : FuncData) (ps : List Str), mg x = some (.ref f) ∧ PySem.W.keepIn K (.ref f) = true ∧ Binds K fd ps [] ∧ FnA P w K mg base (L2.CX P w) k f fd ps (spN G φ)
end
section
variable {M : Fm} {X : Cx} {e : Expr} {es : List Expr} {pos p : Pos} {af : AF} {k j : Nat} {x : Str} {φ : List D → Res D}
theorem m_callA (C : Cxh X M k) (F : FnAR X.prog X.w X.K X.mg X.base M.G j x φ) (hj : j ≤ k) (ha : PA X (e :: es) (tA M af)) (hg : Gl X x := by rfl) (hdb : (x == ("__debug__" : Str)) = false := by decide) (he : starEach (e :: es) X.env = (false, eval e X.env) :: starEach es X.env := by rfl) (hpl : (backTo pos (starEach es X.env)).any (·.1) = false := by rfl) :
    PE X (.Call (.Name x p) (e :: es) [] pos) (tE M (eCall φ af)) := by
  obtain ⟨f, fd, ps, hm, hk, hb, F⟩ := F.ex
  refine PE.weak (t := tCallS (spN M.G φ) (WE M.W) (tA M af)) ⟨fun pins s σ H Q I h => ?_⟩ fun _ _ _ q => w_call q
  refine wpAny_Call_Name_kw (ld_glob I hg hm ?_ hdb)
  refine PySem.W.callWith_K (h₀ := X.base) I.ok.mod.kin hk (thn (ha.run pos pins s σ H _ I h) fun us s1 ⟨vs, H1, I1, r, q⟩ => ⟨I1.kIn, ?_⟩) he hpl
  have hl : us.length = ps.length := by rw [← r.length]; exact F.len _ _ _ _ q
  have b := hb s1 us I1.kIn (by rw [List.append_nil]; exact hl)
  rw [List.append_nil] at b
  refine wpAny_call (codeAny_mono (F.run X.A X.stack s1 H1 ⟨us, []⟩ us vs Q (WE M.W σ) (C.hr.mono hj) I1.env0 b r q) fun r s' hq => ?_)
  cases r with
  | error e =>
    obtain ⟨_, _, _, _, _, _, _, _, _, _, _, _, hE⟩ := hq
    exact (C.nx _ _ _ _ hE).elim
  | ok fl =>
    cases fl with
    | ret u => exact I1.after hq
    | next => exact False.elim hq
    | brk => exact False.elim hq
    | cont => exact False.elim hq
end
end Mi
end
section
set_option maxRecDepth 100000
set_option maxHeartbeats 4000000
/-! A run that succeeds where every sleeping generator would get stuck when woken wakes none of them. -/
namespace Gp
open PySem
open Sem (wp)

def psn : GenState → GenState
  | .suspended _ l c p fs cl => .suspended (fun _ => .unsupported "") l c p fs cl
  | x => x
def Slp : GenState → Prop
  | .suspended .. => True
  | _ => False
def Cln : GenState → Prop
  | .suspended _ _ _ _ fs _ => splitAtGen fs = none
  | _ => True
theorem psn_seen (x : GenState) : (psn x).seen = x.seen := by cases x <;> rfl
theorem psn_bare (x : GenState) : (psn x).bare = x.bare := by cases x <;> rfl
def GRel (a b : GenState) : Prop := (a = b ∧ Cln b) ∨ (Slp b ∧ a = psn b)
theorem GRel.seen {a b : GenState} (h : GRel a b) : a.seen = b.seen := by
  rcases h with ⟨rfl, _⟩ | ⟨_, rfl⟩
  · rfl
  · exact psn_seen b
structure ARel (a b : Array GenState) : Prop where
  size : a.size = b.size
  rel : ∀ (i : Nat) (x y : GenState), a[i]? = some x → b[i]? = some y → GRel x y
theorem ARel.get {a b : Array GenState} (h : ARel a b) {i : Nat} {x : GenState} (e : a[i]? = some x) : ∃ y, b[i]? = some y ∧ GRel x y := by
  obtain ⟨hi, _⟩ := Array.getElem?_eq_some_iff.mp e
  have hb : i < b.size := by rw [← h.size]; exact hi
  exact ⟨b[i], Array.getElem?_eq_getElem hb, h.rel i x _ e (Array.getElem?_eq_getElem hb)⟩
theorem ARel.push {a b : Array GenState} (h : ARel a b) (c : Code) : ARel (a.push (.fresh c)) (b.push (.fresh c)) := by
  refine ⟨by rw [Array.size_push, Array.size_push, h.size], fun i x y e1 e2 => ?_⟩
  rw [Array.getElem?_push] at e1 e2
  rw [h.size] at e1
  split at e1
  · rename_i hi
    rw [if_pos hi] at e2
    cases e1
    cases e2
    exact .inl ⟨rfl, True.intro⟩
  · rename_i hi
    rw [if_neg hi] at e2
    exact h.rel i x y e1 e2
theorem ARel.set {a b : Array GenState} (h : ARel a b) (g : Nat) {x : GenState} (c : Cln x) : ARel (a.setIfInBounds g x) (b.setIfInBounds g x) := by
  refine ⟨by rw [Array.size_setIfInBounds, Array.size_setIfInBounds, h.size], fun i u v e1 e2 => ?_⟩
  rw [Array.getElem?_setIfInBounds] at e1 e2
  rw [h.size] at e1
  split at e1
  · rename_i hi
    rw [if_pos hi] at e2
    split at e1
    · rename_i hb
      rw [if_pos hb] at e2
      cases e1
      cases e2
      exact .inl ⟨rfl, c⟩
    · cases e1
  · rename_i hi
    rw [if_neg hi] at e2
    exact h.rel i u v e1 e2
/-- asleep at i, and poisoned on the left side -/
def Pat (a b : Array GenState) (i : Nat) (y : GenState) : Prop := Slp y ∧ a[i]? = some (psn y) ∧ b[i]? = some y
def Keep (a b a' b' : Array GenState) : Prop := ∀ i y, Pat a b i y → Pat a' b' i y
theorem Keep.refl (a b : Array GenState) : Keep a b a b := fun _ _ h => h
theorem Keep.trans {a b a1 b1 a2 b2 : Array GenState} (h : Keep a b a1 b1) (k : Keep a1 b1 a2 b2) : Keep a b a2 b2 := fun i y p => k i y (h i y p)
theorem Keep.push (a b : Array GenState) (x y : GenState) : Keep a b (a.push x) (b.push y) := fun i z ⟨h1, h2, h3⟩ => by
  have l1 := (Array.getElem?_eq_some_iff.mp h2).1
  have l2 := (Array.getElem?_eq_some_iff.mp h3).1
  refine ⟨h1, ?_, ?_⟩
  · rw [Array.getElem?_push, if_neg (by omega)]; exact h2
  · rw [Array.getElem?_push, if_neg (by omega)]; exact h3
theorem Keep.set {a b : Array GenState} {g : Nat} (x y : GenState) (h : ∀ z, ¬ Pat a b g z) : Keep a b (a.setIfInBounds g x) (b.setIfInBounds g y) := fun i z p => by
  have ne : g ≠ i := fun e => h z (e ▸ p)
  obtain ⟨h1, h2, h3⟩ := p
  refine ⟨h1, ?_, ?_⟩
  · rw [Array.getElem?_setIfInBounds, if_neg ne]; exact h2
  · rw [Array.getElem?_setIfInBounds, if_neg ne]; exact h3
theorem set_set {a b a' b' : Array GenState} {g : Nat} {x y x' y' : GenState} (h : ∀ z, ¬ Pat a b g z) (k : Keep (a.setIfInBounds g x) (b.setIfInBounds g y) a' b') : Keep a b (a'.setIfInBounds g x') (b'.setIfInBounds g y') := fun i z p => by
  have ne : g ≠ i := fun e => h z (e ▸ p)
  have p1 := Keep.set x y h i z p
  obtain ⟨h1, h2, h3⟩ := k i z p1
  refine ⟨h1, ?_, ?_⟩
  · rw [Array.getElem?_setIfInBounds, if_neg ne]; exact h2
  · rw [Array.getElem?_setIfInBounds, if_neg ne]; exact h3
def withG (s : Shared) (G : Array GenState) : Shared := { s with gens := G }

theorem no_run {M : Model} {Γ : PySem.Ctx} {p : Pos} {t : Sem PySem.Fin} {fs : List Frame} {s s' : Shared} {e : End} {w : String} (h : Runs M Γ p t fs s e s') (ht : t = .unsupported w) : False := by
  induction h <;> first | (cases ht; done) | (rename_i ih _; exact ih ht) | (rename_i ih; exact ih ht) | (rename_i _ ih _ _; exact ih ht) | (rename_i ih _ _; exact ih ht) | skip
  all_goals (first | (cases ht; done) | assumption | skip)
/-- what one run gives another -/
def Res (M : Model) (Γ : PySem.Ctx) (p : Pos) (t : Sem PySem.Fin) (fs : List Frame) (s : Shared) (e : End) (s' : Shared) : Prop :=
  splitAtGen fs = none → ∀ G, ARel s.gens G → ∃ G', Runs M Γ p t fs (withG s G) e (withG s' G') ∧ ARel s'.gens G' ∧ Keep s.gens G s'.gens G' ∧ Cln e.genState
theorem cln_ret {r : Result} : Cln (End.ret r).genState := True.intro
theorem split_cons {F : Frame} {fs : List Frame} (h : splitAtGen (F :: fs) = none) : splitAtGen fs = none := by
  cases F with
  | gen => cases h
  | ret => 
    have h' : (splitAtGen fs).map _ = none := h
    exact Option.map_eq_none_iff.mp h'
theorem split_app {a b : List Frame} (ha : splitAtGen a = none) (hb : splitAtGen b = none) : splitAtGen (a ++ b) = none := by
  rw [splitAtGen_append_none _ ha, hb]; rfl
theorem sim {M : Model} {Γ : PySem.Ctx} {p : Pos} {t : Sem PySem.Fin} {fs : List Frame} {s s' : Shared} {e : End} (h : Runs M Γ p t fs s e s') : Res M Γ p t fs s e s' := by
  induction h with
  | done => exact fun _ G a => ⟨G, .done, a, Keep.refl _ _, True.intro⟩
  | raise => exact fun _ G a => ⟨G, .raise, a, Keep.refl _ _, True.intro⟩
  | again hq _ ih => exact fun hf G a => let ⟨G', r, a', k, n⟩ := ih rfl G a; ⟨G', .again hq r, a', k, n⟩
  | rule _ ih => exact fun hf G a => let ⟨G', r, a', k, n⟩ := ih rfl G a; ⟨G', .rule r, a', k, n⟩
  | «at» _ ih => exact fun hf G a => let ⟨G', r, a', k, n⟩ := ih rfl G a; ⟨G', .at r, a', k, n⟩
  | load ho _ ih => exact fun hf G a => let ⟨G', r, a', k, n⟩ := ih rfl G a; ⟨G', .load (s := withG _ G) ho r, a', k, n⟩
  | update ho _ ih => exact fun hf G a => let ⟨G', r, a', k, n⟩ := ih rfl G a; ⟨G', .update (s := withG _ G) ho r, a', k, n⟩
  | loadIfAlive _ ih => exact fun hf G a => let ⟨G', r, a', k, n⟩ := ih rfl G a; ⟨G', .loadIfAlive (s := withG _ G) r, a', k, n⟩
  | point _ ih => exact fun hf G a => let ⟨G', r, a', k, n⟩ := ih rfl G a; ⟨G', .point r, a', k, n⟩
  | alloc _ ih => exact fun hf G a => let ⟨G', r, a', k, n⟩ := ih rfl G a; ⟨G', .alloc (s := withG _ G) r, a', k, n⟩
  | fresh _ ih => exact fun hf G a => let ⟨G', r, a', k, n⟩ := ih rfl G a; ⟨G', .fresh (s := withG _ G) r, a', k, n⟩
  | ask _ ih => exact fun hf G a => let ⟨G', r, a', k, n⟩ := ih rfl G a; ⟨G', .ask r, a', k, n⟩
  | choose hn _ ih => exact fun hf G a => let ⟨G', r, a', k, n⟩ := ih rfl G a; ⟨G', .choose (s := withG _ G) hn r, a', k, n⟩
  | os _ ih => exact fun hf G a => let ⟨G', r, a', k, n⟩ := ih rfl G a; ⟨G', .os (s := withG _ G) r, a', k, n⟩
  | handled _ ih => exact fun hf G a => let ⟨G', r, a', k, n⟩ := ih rfl G a; ⟨G', .handled r, a', k, n⟩
  | genState hg _ ih =>
    intro hf G a
    obtain ⟨y, hy, gr⟩ := a.get hg
    obtain ⟨G', r, a', k, n⟩ := ih rfl G a
    rw [gr.seen] at r
    exact ⟨G', .genState (s := withG _ G) hy r, a', k, n⟩
  | stack _ ih => exact fun hf G a => let ⟨G', r, a', k, n⟩ := ih rfl G a; ⟨G', .stack r, a', k, n⟩
  | thread _ ih => exact fun hf G a => let ⟨G', r, a', k, n⟩ := ih rfl G a; ⟨G', .thread r, a', k, n⟩
  | @newGen Γ1 p1 k s e s' c _ ih =>
    intro hf G a
    obtain ⟨G', r, a', kk, n⟩ := ih rfl (G.push (.fresh c)) (a.push c)
    have r' : Runs M Γ1 p1 (k G.size) [] (withG { s with gens := s.gens.push (.fresh c) } (G.push (.fresh c))) e (withG s' G') := by rw [← a.size]; exact r
    exact ⟨G', .newGen (s := withG s G) r', a', (Keep.push _ _ _ _).trans kk, n⟩
  | call _ _ ih1 ih2 =>
    intro hf G a
    obtain ⟨G1, r1, a1, k1, _⟩ := ih1 rfl G a
    obtain ⟨G', r, a', k, n⟩ := ih2 rfl G1 a1
    exact ⟨G', .call r1 r, a', k1.trans k, n⟩
  | callSusp _ ih1 =>
    intro hf G a
    obtain ⟨G1, r1, a1, k1, n1⟩ := ih1 rfl G a
    exact ⟨G1, .callSusp r1, a1, k1, split_app n1 rfl⟩
  | yield => exact fun hf G a => ⟨G, .yield, a, Keep.refl _ _, rfl⟩
  | @resumeFresh _ _ g l k s c e₁ s₁ e s' hg h1 hq h2 ih1 ih2 =>
    intro hf G a
    obtain ⟨y, hy, gr⟩ := a.get hg
    have ey : y = .fresh c := by
      rcases gr with ⟨e, _⟩ | ⟨e1, e2⟩
      · exact e.symm
      · cases y with
        | suspended => cases e2
        | _ => exact e1.elim
    subst ey
    have np : ∀ z, ¬ Pat s.gens G g z := fun z ⟨h1, h2, h3⟩ => by
      rw [hy] at h3
      cases h3
      exact h1
    obtain ⟨G1, r1, a1, k1, n1⟩ := ih1 rfl (G.setIfInBounds g .running) (a.set g True.intro)
    obtain ⟨G', r, a', k2, n⟩ := ih2 rfl (G1.setIfInBounds g e₁.genState) (a1.set g n1)
    exact ⟨G', .resumeFresh (s := withG s G) hy r1 hq r, a', (set_set np k1).trans k2, n⟩
  | @resumeSuspended _ _ g r l k s k₀ l₀ c₀ p₀ fs cl e₁ s₁ e s' hg h1 hq h2 ih1 ih2 =>
    intro hf G a
    obtain ⟨y, hy, gr⟩ := a.get hg
    have ey : y = .suspended k₀ l₀ c₀ p₀ fs cl ∧ splitAtGen fs = none := by
      rcases gr with ⟨e, c⟩ | ⟨e1, e2⟩
      · subst e
        exact ⟨rfl, c⟩
      · cases y with
        | suspended =>
          cases e2
          exact (no_run h1 rfl).elim
        | _ => exact e1.elim
    obtain ⟨ey, hc⟩ := ey
    subst ey
    have np : ∀ z, ¬ Pat s.gens G g z := fun z ⟨h1', h2', h3'⟩ => by
      rw [hy] at h3'
      cases h3'
      rw [hg] at h2'
      cases h2'
      exact no_run h1 rfl
    obtain ⟨G1, r1, a1, k1, n1⟩ := ih1 hc (G.setIfInBounds g .running) (a.set g True.intro)
    obtain ⟨G', r2, a', k2, n⟩ := ih2 rfl (G1.setIfInBounds g e₁.genState) (a1.set g n1)
    exact ⟨G', .resumeSuspended (s := withG s G) hy r1 hq r2, a', (set_set np k1).trans k2, n⟩
  | resumeJustStarted hg hv _ ih =>
    intro hf G a
    obtain ⟨y, hy, gr⟩ := a.get hg
    obtain ⟨G', r, a', k, n⟩ := ih rfl G a
    rcases gr with ⟨e, c⟩ | ⟨e1, e2⟩
    · subst e
      exact ⟨G', .resumeJustStarted (s := withG _ G) hy hv r, a', k, n⟩
    · cases y with
      | suspended => cases e2
      | _ => exact e1.elim
  | @resumeThrowFresh g Γ1 p1 k e s' x l s c hg _ ih =>
    intro hf G a
    obtain ⟨y, hy, gr⟩ := a.get hg
    rcases gr with ⟨e, c⟩ | ⟨e1, e2⟩
    · subst e
      have np : ∀ z, ¬ Pat s.gens G g z := fun z ⟨h1, h2, h3⟩ => by
        rw [hy] at h3
        cases h3
        exact h1
      obtain ⟨G', r, a', k, n⟩ := ih rfl (G.setIfInBounds g .finished) (a.set g True.intro)
      exact ⟨G', .resumeThrowFresh (s := withG s G) hy r, a', (Keep.set _ _ np).trans k, n⟩
    · cases y with
      | suspended => cases e2
      | _ => exact e1.elim
  | resumeRunning hg _ ih =>
    intro hf G a
    obtain ⟨y, hy, gr⟩ := a.get hg
    obtain ⟨G', r, a', k, n⟩ := ih rfl G a
    rcases gr with ⟨e, c⟩ | ⟨e1, e2⟩
    · subst e
      exact ⟨G', .resumeRunning (s := withG _ G) hy r, a', k, n⟩
    · cases y with
      | suspended => cases e2
      | _ => exact e1.elim
  | resumeFinished hg _ ih =>
    intro hf G a
    obtain ⟨y, hy, gr⟩ := a.get hg
    obtain ⟨G', r, a', k, n⟩ := ih rfl G a
    rcases gr with ⟨e, c⟩ | ⟨e1, e2⟩
    · subst e
      exact ⟨G', .resumeFinished (s := withG _ G) hy r, a', k, n⟩
    · cases y with
      | suspended => cases e2
      | _ => exact e1.elim
  | segRet _ _ ih1 ih2 =>
    intro hf G a
    obtain ⟨G1, r1, a1, k1, n1⟩ := ih1 rfl G a
    obtain ⟨G', r, a', k, n⟩ := ih2 (split_cons hf) G1 a1
    exact ⟨G', .segRet r1 r, a', k1.trans k, n⟩
  | segGen _ _ _ _ => exact fun hf => by cases hf
  | segSuspOut hs _ ih =>
    intro hf G a
    obtain ⟨G1, r1, a1, k1, n1⟩ := ih rfl G a
    exact ⟨G1, .segSuspOut hs r1, a1, k1, split_app n1 hf⟩
  | segSuspGen hs _ _ _ _ _ => exact fun hf => by rw [hf] at hs; cases hs
def SimP {α : Type} (s : Shared) (G : Array GenState) (Q : α → Pos → Shared → Prop) : α → Pos → Shared → Prop := fun a p' s' => ∃ s1 G', s' = withG s1 G' ∧ ARel s1.gens G' ∧ Keep s.gens G s1.gens G' ∧ Q a p' s1
theorem SimP.from {α : Type} {s s2 : Shared} {G G2 : Array GenState} {Q : α → Pos → Shared → Prop} (k : Keep s.gens G s2.gens G2) {a : α} {p : Pos} {s' : Shared} (h : SimP s2 G2 Q a p s') : SimP s G Q a p s' :=
  let ⟨s1, G', e, r, k2, q⟩ := h
  ⟨s1, G', e, r, k.trans k2, q⟩
theorem wp_from {α : Type} {M : Model} {Γ : PySem.Ctx} {t : Sem α} {Q : α → Pos → Shared → Prop} {E : Value → Pos → Shared → Prop} {p : Pos} {s s2 : Shared} {G G2 : Array GenState} {x : Shared} (k : Keep s.gens G s2.gens G2)
    (h : wp M Γ t (SimP s2 G2 Q) (SimP s2 G2 E) p x) : wp M Γ t (SimP s G Q) (SimP s G E) p x := Sem.wp_mono M Γ t (fun _ _ _ q => q.from k) (fun _ _ _ q => q.from k) _ _ h
theorem wp_sim {α : Type} {M : Model} (Γ : PySem.Ctx) (t : Sem α) : ∀ (Q : α → Pos → Shared → Prop) (E : Value → Pos → Shared → Prop) (p : Pos) (s : Shared) (G : Array GenState), ARel s.gens G → wp M Γ t Q E p s → wp M Γ t (SimP s G Q) (SimP s G E) p (withG s G) := by
  induction t with
  | pure a => intro Q E p s G r h; exact ⟨s, G, rfl, r, Keep.refl _ _, h⟩
  | raise e => intro Q E p s G r h; exact ⟨s, G, rfl, r, Keep.refl _ _, h⟩
  | unsupported _ => intro Q E p s G r h; exact h
  | finish _ => intro Q E p s G r h; exact h
  | rule _ k ih => intro Q E p s G r h; exact ih () Q E p s G r h
  | «at» p' k ih => intro Q E p s G r h; exact ih () Q E p' s G r h
  | load a _ k ih => intro Q E p s G r h; obtain ⟨o, ho, h⟩ := h; exact ⟨o, ho, ih o Q E p s G r h⟩
  | update a _ f k ih => intro Q E p s G r h; exact ⟨h.1, ih () Q E p { s with heap := s.heap.update a f } G r h.2⟩
  | loadIfAlive a k ih => intro Q E p s G r h; exact ih _ Q E p s G r h
  | point _ k ih => intro Q E p s G r h; exact ih () Q E p s G r h
  | register _ _ => intro Q E p s G r h; exact h
  | alloc o k ih => intro Q E p s G r h; exact ih s.heap.objs.size Q E p { s with heap := s.heap.push o } G r h
  | fresh k ih => intro Q E p s G r h; exact ih s.toks Q E p { s with toks := s.toks + 1 } G r h
  | ask k ih => intro Q E p s G r h; exact ih _ Q E p s G r h
  | choose src m k ih => intro Q E p s G r h; exact ⟨h.1, ih (M.w.draws src (s.drawn.get src) % m) Q E p { s with drawn := s.drawn.bump src } G r h.2⟩
  | os q _ k ih => intro Q E p s G r h; exact ih (Os.step s.os q).2 Q E p { s with os := (Os.step s.os q).1 } G r h
  | call c hd _ _ k ih =>
    intro Q E p s G r h
    obtain ⟨res, s', hr, h⟩ := h
    obtain ⟨G', r1, a', kk, _⟩ := sim hr rfl G r
    exact ⟨res, withG s' G', r1, wp_from kk (ih res Q E p s' G' a' h)⟩
  | handled own k ih => intro Q E p s G r h; exact ih _ Q E p s G r h
  | genState g k ih =>
    intro Q E p s G r h
    obtain ⟨st, hs, h⟩ := h
    obtain ⟨y, hy, gr⟩ := r.get hs
    refine ⟨y, hy, ?_⟩
    rw [← gr.seen]
    exact ih _ Q E p s G r h
  | newGen c k ih =>
    intro Q E p s G r h
    have q := ih s.gens.size Q E p { s with gens := s.gens.push (.fresh c) } (G.push (.fresh c)) (r.push c) h
    have e : s.gens.size = G.size := r.size
    show wp M Γ (k G.size) _ _ p { s with gens := G.push (.fresh c) }
    rw [← e]
    exact wp_from (Keep.push _ _ _ _) q
  | resume g rs _ k ih =>
    intro Q E p s G r h
    obtain ⟨res, s', hw, h⟩ := h
    -- one waking, as the head of a run
    suffices ∃ G', Wakes M Γ p g rs (withG s G) res (withG s' G') ∧ ARel s'.gens G' ∧ Keep s.gens G s'.gens G' by
      obtain ⟨G', w1, a', kk⟩ := this
      exact ⟨res, withG s' G', w1, wp_from kk (ih res Q E p s' G' a' h)⟩
    unfold Wakes at hw ⊢
    cases hg : s.gens[g]? with
    | none => rw [hg] at hw; exact hw.elim
    | some x =>
      rw [hg] at hw
      obtain ⟨y, hy, gr⟩ := r.get hg
      have hy' : (withG s G).gens[g]? = some y := hy
      rw [hy']
      cases x with
      | fresh c =>
        have ey : y = .fresh c := by
          rcases gr with ⟨e, _⟩ | ⟨e1, e2⟩
          · exact e.symm
          · cases y with
            | suspended => cases e2
            | _ => exact e1.elim
        subst ey
        have np : ∀ z, ¬ Pat s.gens G g z := fun z ⟨h1, h2, h3⟩ => by
          rw [hy] at h3
          cases h3
          exact h1
        dsimp only at hw ⊢
        cases rs with
        | send v =>
          cases v with
          | none =>
            obtain ⟨e₁, s₁, hr, hq, rfl, rfl⟩ := hw
            obtain ⟨G1, r1, a1, k1, n1⟩ := sim hr rfl (G.setIfInBounds g .running) (r.set g True.intro)
            exact ⟨G1.setIfInBounds g e₁.genState, ⟨e₁, withG s₁ G1, r1, hq, rfl, rfl⟩, a1.set g n1, set_set np k1⟩
          | _ =>
            obtain ⟨rfl, rfl⟩ := hw
            exact ⟨G, ⟨rfl, rfl⟩, r, Keep.refl _ _⟩
        | throw x =>
          obtain ⟨rfl, rfl⟩ := hw
          exact ⟨G.setIfInBounds g .finished, ⟨rfl, rfl⟩, r.set g True.intro, Keep.set _ _ np⟩
      | suspended k₀ l₀ c₀ p₀ fs cl =>
        dsimp only at hw
        obtain ⟨e₁, s₁, hr, hq, rfl, rfl⟩ := hw
        have ey : y = .suspended k₀ l₀ c₀ p₀ fs cl ∧ splitAtGen fs = none := by
          rcases gr with ⟨e, c⟩ | ⟨e1, e2⟩
          · subst e
            exact ⟨rfl, c⟩
          · cases y with
            | suspended =>
              cases e2
              exact (no_run hr rfl).elim
            | _ => exact e1.elim
        obtain ⟨ey, hc⟩ := ey
        subst ey
        have np : ∀ z, ¬ Pat s.gens G g z := fun z ⟨h1', h2', h3'⟩ => by
          rw [hy] at h3'
          cases h3'
          rw [hg] at h2'
          cases h2'
          exact no_run hr rfl
        obtain ⟨G1, r1, a1, k1, n1⟩ := sim hr hc (G.setIfInBounds g .running) (r.set g True.intro)
        exact ⟨G1.setIfInBounds g e₁.genState, ⟨e₁, withG s₁ G1, r1, hq, rfl, rfl⟩, a1.set g n1, set_set np k1⟩
      | running =>
        have ey : y = .running := by
          rcases gr with ⟨e, _⟩ | ⟨e1, e2⟩
          · exact e.symm
          · cases y with
            | suspended => cases e2
            | _ => exact e1.elim
        subst ey
        dsimp only at hw ⊢
        obtain ⟨rfl, rfl⟩ := hw
        exact ⟨G, ⟨rfl, rfl⟩, r, Keep.refl _ _⟩
      | finished =>
        have ey : y = .finished := by
          rcases gr with ⟨e, _⟩ | ⟨e1, e2⟩
          · exact e.symm
          · cases y with
            | suspended => cases e2
            | _ => exact e1.elim
        subst ey
        dsimp only at hw ⊢
        obtain ⟨rfl, rfl⟩ := hw
        exact ⟨G, ⟨rfl, rfl⟩, r, Keep.refl _ _⟩
  | yield _ _ _ _ => intro Q E p s G r h; exact h
  | stack k ih => intro Q E p s G r h; exact ih _ Q E p s G r h
  | fork _ _ => intro Q E p s G r h; exact h
  | thread k ih => intro Q E p s G r h; exact ih _ Q E p s G r h
  | await _ _ _ _ _ => intro Q E p s G r h; exact h
/-- every sleeping generator poisoned -/
def allPsn (s : Shared) : Shared := withG s (s.gens.map psn)
theorem arel_psn (a : Array GenState) : ARel (a.map psn) a := ⟨by rw [Array.size_map], fun i x y e1 e2 => by
  rw [Array.getElem?_map, e2] at e1
  have e1 : some (psn y) = some x := e1
  cases e1
  cases y with
  | suspended => exact .inr ⟨True.intro, rfl⟩
  | _ => exact .inl ⟨rfl, True.intro⟩⟩
theorem bare_psn {a : Array GenState} (h : PyProof.Rows.AllBare a) : PyProof.Rows.AllBare (a.map psn) := fun y hy => by
  obtain ⟨x, hx, rfl⟩ := Array.mem_map.mp hy
  rw [psn_bare]
  exact h x hx
theorem bare_arel {a b : Array GenState} (r : ARel a b) (h : PyProof.Rows.AllBare a) : PyProof.Rows.AllBare b := fun y hy => by
  obtain ⟨i, hi, e⟩ := Array.mem_iff_getElem.mp hy
  have ha : i < a.size := by rw [r.size]; exact hi
  have gr := r.rel i a[i] y (Array.getElem?_eq_getElem ha) (by rw [Array.getElem?_eq_getElem hi, e])
  have hb := h a[i] (Array.getElem_mem ha)
  rcases gr with ⟨e1, _⟩ | ⟨_, e1⟩
  · rw [← e1]; exact hb
  · rw [e1, psn_bare] at hb; exact hb
/-- a run that succeeds from the poisoned state: the same run from the state itself, and no sleeper is woken -/
theorem wpAny_sim {α : Type} {M : Model} {A : Around} {t : Sem α} {Q : α → Shared → Prop} {E : Value → Shared → Prop} {s : Shared} (h : wpAny M A t Q E (allPsn s)) :
    wpAny M A t (fun a s' => (∃ s1 G', s' = withG s1 G' ∧ ARel s1.gens G' ∧ Q a s1) ∧ ∀ (i : Nat) (y : GenState), Slp y → s.gens[i]? = some y → s'.gens[i]? = some y) (fun e s' => (∃ s1 G', s' = withG s1 G' ∧ ARel s1.gens G' ∧ E e s1) ∧ ∀ (i : Nat) (y : GenState), Slp y → s.gens[i]? = some y → s'.gens[i]? = some y) s := fun Γ p hΓ => by
  have fin : ∀ {β : Type} {R : β → Shared → Prop} {b : β} {p' : Pos} {s' : Shared}, SimP (allPsn s) s.gens (fun b _ s' => R b s') b p' s' → (∃ s1 G', s' = withG s1 G' ∧ ARel s1.gens G' ∧ R b s1) ∧ ∀ (i : Nat) (y : GenState), Slp y → s.gens[i]? = some y → s'.gens[i]? = some y := fun {β R b p' s'} ⟨s1, G', e, r, k, q⟩ => by
    refine ⟨⟨s1, G', e, r, q⟩, fun i y hy hs => ?_⟩
    have p0 : Pat (allPsn s).gens s.gens i y := ⟨hy, by show (s.gens.map psn)[i]? = _; rw [Array.getElem?_map, hs]; rfl, hs⟩
    rw [e]
    exact (k i y p0).2.2
  have := wp_sim (M := M) Γ t _ _ p (allPsn s) s.gens (arel_psn s.gens) (h Γ p hΓ)
  exact Sem.wp_mono M Γ t (fun _ _ _ q => fin q) (fun _ _ _ q => fin q) _ _ this
end Gp
end
section
set_option maxRecDepth 100000
set_option maxHeartbeats 4000000
namespace Mi
open PySem PySem.Spec PyProof.Rows L2 GenW

/-! ## a generator's body, by data -/
/-- the part of the state below n -/
def trunc (n : Nat) (s : Shared) : Shared := { s with heap := ⟨s.heap.objs.extract 0 n, s.heap.life⟩ }
theorem trunc_lt {n : Nat} {s : Shared} {b : Nat} (h : b < n) : (trunc n s).heap.get? b = s.heap.get? b := by
  have e : (s.heap.objs.extract 0 n)[b]? = s.heap.objs[b]? := by
    rw [Array.getElem?_extract]
    by_cases hb : b < s.heap.objs.size
    · rw [if_pos (by omega)]; simp
    · rw [if_neg (by omega), Array.getElem?_eq_none (by omega)]
  show (match (s.heap.objs.extract 0 n)[b]? with | some ⟨_, _, .freed, _⟩ => none | o => o) = _
  rw [e]
  rfl
theorem trunc_ge {n : Nat} {s : Shared} {b : Nat} (h : n ≤ b) : (trunc n s).heap.get? b = none := by
  have e : (s.heap.objs.extract 0 n)[b]? = none := by
    rw [Array.getElem?_extract, if_neg (by omega)]
  show (match (s.heap.objs.extract 0 n)[b]? with | some ⟨_, _, .freed, _⟩ => none | o => o) = _
  rw [e]
theorem trunc_some {n : Nat} {s : Shared} {b : Nat} {o : Obj} (h : (trunc n s).heap.get? b = some o) : b < n ∧ s.heap.get? b = some o := by
  by_cases hb : b < n
  · rw [trunc_lt hb] at h; exact ⟨hb, h⟩
  · rw [trunc_ge (by omega)] at h; cases h
theorem trunc_size {n : Nat} {s : Shared} (h : n ≤ s.heap.objs.size) : (trunc n s).heap.objs.size = n := by
  show (s.heap.objs.extract 0 n).size = n
  rw [Array.size_extract]
  omega

/-- what stays of a generator through its life -/
structure GSt where
  P : Program
  w : World
  K : PySem.W.Frag
  mg : Str → Option Value
  base : Heap
  N : List Str
  qual : Str
  scope : Scope
  f : Addr
  cd : Value
  n0 : Addr
  A : Around
  outer : List Env
  a : Addr
  go : Obj
  G : Gc
abbrev GSt.env (g : GSt) : Env := envOfC g.qual g.scope g.n0 g.f g.cd
/-- its body's context between two sleeps -/
def gcx (g : GSt) (s0 : Shared) (H0 : Hp) : Cx where
  prog := g.P
  w := g.w
  K := g.K
  mg := g.mg
  base := g.base
  A := g.A.deeper g.env
  N := g.N
  s_0 := s0
  H_0 := H0
  env := g.env
  outer := g.outer
  stack := g.env :: g.outer
  ex := []
  fn := fun _ => true
  calm := true
  pn := [(g.a, g.go)]
  xe := fun _ _ => False
/-- Og: what it owned when it was woken; F', H': what the others own, the heap then -/
def MOk (g : GSt) (Og : List Addr) (F' : Own) (H' : Hp) (M : Fm) : Prop := M.G = g.G ∧ M.self = none ∧ M.W = (fun _ _ _ _ => False) ∧ (M.F0 = fun x => F' x ∧ x ∉ Og) ∧ (M.H0 = fun x => if x ∈ Og then none else H' x) ∧ M.ea = 0 ∧ M.ed = none
/-- the consumer's word: Og, how many items are to come, the state, the heap, what is owned -/
abbrev LIp := List Addr → Nat → Shared → Hp → Own → Prop
/-- the generator stands at env; it was woken at s0 -/
def GIv (g : GSt) (LI : LIp) (pn : List (Addr × Obj)) (env : Envt) (n : Nat) (s0 s : Shared) : Prop :=
  ∃ (Og : List Addr) (H' : Hp) (F' : Own) (M : Fm) (F1 : Own) (σ : L2.St) (H1 : Hp), LI Og n s0 H' F' ∧ MOk g Og F' H' M ∧ Inv (gcx g (trunc g.n0 s0) H') pn σ H1 s ∧ EnvOk M F1 H1 env σ ∧ (∀ p ∈ pn, g.n0 ≤ p.1) ∧ g.n0 ≤ s0.heap.objs.size
/-- an item goes out -/
def GY (g : GSt) (LI : LIp) (ds : List D) : Protocol := fun n s0 v s kap =>
  ∃ (pre : List D) (d : D) (rest : List D) (Og : List Addr) (H' : Hp) (F' : Own) (M : Fm) (F1 : Own) (σ : L2.St) (H1 : Hp) (x : V) (env : Envt) (pn : List (Addr × Obj)), ds = pre ++ d :: rest ∧ n = rest.length ∧ LI Og (n + 1) s0 H' F' ∧ MOk g Og F' H' M ∧ Inv (gcx g (trunc g.n0 s0) H') pn σ H1 s ∧ EnvOk M F1 H1 env σ ∧
    RelV x v ∧ Rep g.G F1 H1 d x ∧ (∀ p ∈ pn, g.n0 ≤ p.1) ∧ ∀ s', GIv g LI pn env n s' s' → kap (.send .none) s'
/-- its end -/
def GR (g : GSt) (LI : LIp) : GenEnd := fun n s0 r s => (r = .ok (.ret .none) ∨ r = .ok .next) ∧ n = 0 ∧ ∃ pn env, GIv g LI pn env 0 s0 s

/-- what a generator's code does: the items, how it ends -/
abbrev GnF := Envt → List D × Out
def gPlain (f : SF) : GnF := fun env => ([], f env)
def gNil : GnF := fun env => ([], .nx env)
def gSeq (f g : GnF) : GnF := fun env => match f env with
  | (ys, .nx e) => (ys ++ (g e).1, (g e).2)
  | (ys, o) => (ys, o)
def gYield (f : EF) : GnF := fun env => match f env with
  | .ok d => ([d], .nx env)
  | _ => ([], .stuck)
def whileG (t : TF) (f : GnF) : Nat → Envt → List D × Out
  | 0, _ => ([], .stuck)
  | n + 1, env => match t env with
    | .ok false => ([], .nx env)
    | .ok true => match f env with
      | (ys, .nx e) => (ys ++ (whileG t f n e).1, (whileG t f n e).2)
      | (ys, .ct e) => (ys ++ (whileG t f n e).1, (whileG t f n e).2)
      | (ys, .bk e) => (ys, .nx e)
      | (ys, _) => (ys, .stuck)
    | _ => ([], .stuck)
def gWhile (t : TF) (f : GnF) (fuel : Nat) : GnF := whileG t f fuel
/-- the flow that an outcome stands for (no return of a value, no error) -/
def FlowOf (g : GSt) (LI : LIp) (pn : List (Addr × Obj)) (n : Nat) (s0 s : Shared) : Out → Flow → Prop
  | .nx e, .next => GIv g LI pn e n s0 s
  | .bk e, .brk => GIv g LI pn e n s0 s
  | .ct e, .cont => GIv g LI pn e n s0 s
  | _, _ => False
def Out.fine : Out → Prop
  | .nx _ => True
  | .bk _ => True
  | .ct _ => True
  | _ => False
/-- where the generator's code stands -/
structure GAt (g : GSt) (Aw : Around) (c : Code) (fs : List Frame) (gd : Bool → Bool) : Prop where
  over : Aw.over c fs = g.A.deeper g.env
  split : splitAtGen fs = none
  guard : fs.any Frame.guarded = false
  gd : gd false = false
structure GStm (g : GSt) (st : Stmt) (gf : GnF) : Prop where
  run : ∀ (LI : LIp) (pn : List (Addr × Obj)) (Aw : Around) (ds pre : List D) (env : Envt) (ys rest : List D) (o : Out) (s0 s : Shared) (c : Code) (fs : List Frame) (K : Flow → Sem PySem.Fin) (J : Value → Sem PySem.Fin) (gd : Bool → Bool) (lv : List Value → List Value),
    GAt g Aw c fs gd → gf env = (ys, o) → o.fine → ds = pre ++ (ys ++ rest) → GIv g LI pn env (ys ++ rest).length s0 s →
    (∀ s0' s' f, FlowOf g LI pn rest.length s0' s' o f → Seg (model g.P g.w) Aw (GR g LI) (GY g LI ds) rest.length s0' c (K f) fs s') →
    Seg (model g.P g.w) Aw (GR g LI) (GY g LI ds) (ys ++ rest).length s0 c ((exec st g.env).wrap K J gd lv) fs s
structure GStms (g : GSt) (st : List Stmt) (gf : GnF) : Prop where
  run : ∀ (LI : LIp) (pn : List (Addr × Obj)) (Aw : Around) (ds pre : List D) (env : Envt) (ys rest : List D) (o : Out) (s0 s : Shared) (c : Code) (fs : List Frame) (K : Flow → Sem PySem.Fin) (J : Value → Sem PySem.Fin) (gd : Bool → Bool) (lv : List Value → List Value),
    GAt g Aw c fs gd → gf env = (ys, o) → o.fine → ds = pre ++ (ys ++ rest) → GIv g LI pn env (ys ++ rest).length s0 s →
    (∀ s0' s' f, FlowOf g LI pn rest.length s0' s' o f → Seg (model g.P g.w) Aw (GR g LI) (GY g LI ds) rest.length s0' c (K f) fs s') →
    Seg (model g.P g.w) Aw (GR g LI) (GY g LI ds) (ys ++ rest).length s0 c ((execs st g.env).wrap K J gd lv) fs s
section
variable {g : GSt} {st : Stmt} {rest body : List Stmt} {f h : GnF} {sf : SF}
theorem mok_w {Og : List Addr} {F' : Own} {H' : Hp} {M : Fm} (m : MOk g Og F' H' M) : ∀ cv dd σ H, ¬ M.W cv dd σ H := fun cv dd σ H z => by rw [m.2.2.1] at z; exact z
/-- a statement that hands out nothing -/
theorem g_plain (hs : ∀ (s0 : Shared) (H0 : Hp) (M : Fm), M.G = g.G → (M.W = fun _ _ _ _ => False) → PS (gcx g s0 H0) st (tS M sf)) : GStm g st (gPlain sf) := by
  refine ⟨fun LI pn Aw ds pre env ys rs o s0 s c fs K J gd lv ga e ho hd hI hk => ?_⟩
  obtain ⟨rfl, rfl⟩ : [] = ys ∧ sf env = o := by unfold gPlain at e; exact ⟨congrArg Prod.fst e, congrArg Prod.snd e⟩
  obtain ⟨Og, H', F', M, F1, σ, H1, li, mo, I, En, pg⟩ := hI
  refine seg_wrap ?_
  rw [ga.over]
  let D0 : Ends := { nx := fun σ' H2 => ∃ e F2, sf env = .nx e ∧ EnvOk M F2 H2 e σ', rt := fun _ _ => False, bk := fun σ' H2 => ∃ e F2, sf env = .bk e ∧ EnvOk M F2 H2 e σ', ct := fun σ' H2 => ∃ e F2, sf env = .ct e ∧ EnvOk M F2 H2 e σ' }
  refine wpAny_mono ((hs (trunc g.n0 s0) H' M mo.1 mo.2.2.1).run pn s σ H1 D0 I ⟨F1, env, En, ?_⟩) (fun fl s' hf => ?_) fun _ _ z => z.elim
  · cases r : sf env with
    | nx e => exact fun F2 σ' H2 E2 _ => ⟨e, F2, r, E2⟩
    | bk e => exact fun F2 σ' H2 E2 _ => ⟨e, F2, r, E2⟩
    | ct e => exact fun F2 σ' H2 E2 _ => ⟨e, F2, r, E2⟩
    | rt d e => rw [r] at ho; exact ho.elim
    | exc c x e => rw [r] at ho; exact ho.elim
    | stuck => rw [r] at ho; exact ho.elim
  · refine hk s0 s' fl ?_
    cases fl with
    | next =>
      obtain ⟨σ', H2, I2, e, F2, r, E2⟩ := hf
      rw [r]
      exact ⟨Og, H', F', M, F2, σ', H2, li, mo, I2, E2, pg⟩
    | brk =>
      obtain ⟨σ', H2, I2, e, F2, r, E2⟩ := hf
      rw [r]
      exact ⟨Og, H', F', M, F2, σ', H2, li, mo, I2, E2, pg⟩
    | cont =>
      obtain ⟨σ', H2, I2, e, F2, r, E2⟩ := hf
      rw [r]
      exact ⟨Og, H', F', M, F2, σ', H2, li, mo, I2, E2, pg⟩
    | ret v => obtain ⟨_, _, _, _, _, z⟩ := hf; exact z.elim
theorem g_nil : GStms g [] gNil := by
  refine ⟨fun LI pn Aw ds pre env ys rs o s0 s c fs K J gd lv ga e ho hd hI hk => ?_⟩
  obtain ⟨rfl, rfl⟩ : [] = ys ∧ Out.nx env = o := ⟨congrArg Prod.fst e, congrArg Prod.snd e⟩
  exact seg_execs_nil (hk s0 s .next hI)
theorem g_cons (h1 : GStm g st f) (h2 : GStms g rest h) : GStms g (st :: rest) (gSeq f h) := by
  refine ⟨fun LI pn Aw ds pre env ys rs o s0 s c fs K J gd lv ga e ho hd hI hk => ?_⟩
  refine seg_execs_cons ?_
  unfold gSeq at e
  cases r : f env with
  | mk ys1 o1 =>
    rw [r] at e
    cases o1 with
    | nx e1 =>
      dsimp only at e
      cases r2 : h e1 with
      | mk ys2 o2 =>
        rw [r2] at e
        obtain ⟨rfl, rfl⟩ : ys1 ++ ys2 = ys ∧ o2 = o := ⟨congrArg Prod.fst e, congrArg Prod.snd e⟩
        rw [List.append_assoc] at hd hI ⊢
        refine h1.run LI pn Aw ds pre env ys1 (ys2 ++ rs) (.nx e1) s0 s c fs _ J gd lv ga r True.intro hd hI fun s0' s' fl hf => ?_
        cases fl with
        | next => exact h2.run LI pn Aw ds (pre ++ ys1) e1 ys2 rs o2 s0' s' c fs K J gd lv ga r2 ho (by rw [List.append_assoc]; exact hd) hf hk
        | brk => exact hf.elim
        | cont => exact hf.elim
        | ret v => exact hf.elim
    | bk e1 =>
      obtain ⟨rfl, rfl⟩ : ys1 = ys ∧ Out.bk e1 = o := ⟨congrArg Prod.fst e, congrArg Prod.snd e⟩
      refine h1.run LI pn Aw ds pre env ys1 rs (.bk e1) s0 s c fs _ J gd lv ga r True.intro hd hI fun s0' s' fl hf => ?_
      cases fl with
      | brk => exact hk s0' s' .brk hf
      | next => exact hf.elim
      | cont => exact hf.elim
      | ret v => exact hf.elim
    | ct e1 =>
      obtain ⟨rfl, rfl⟩ : ys1 = ys ∧ Out.ct e1 = o := ⟨congrArg Prod.fst e, congrArg Prod.snd e⟩
      refine h1.run LI pn Aw ds pre env ys1 rs (.ct e1) s0 s c fs _ J gd lv ga r True.intro hd hI fun s0' s' fl hf => ?_
      cases fl with
      | cont => exact hk s0' s' .cont hf
      | next => exact hf.elim
      | brk => exact hf.elim
      | ret v => exact hf.elim
    | rt d e1 => obtain ⟨rfl, rfl⟩ : ys1 = ys ∧ Out.rt d e1 = o := ⟨congrArg Prod.fst e, congrArg Prod.snd e⟩; exact ho.elim
    | exc c x e1 => obtain ⟨rfl, rfl⟩ : ys1 = ys ∧ Out.exc c x e1 = o := ⟨congrArg Prod.fst e, congrArg Prod.snd e⟩; exact ho.elim
    | stuck => obtain ⟨rfl, rfl⟩ : ys1 = ys ∧ Out.stuck = o := ⟨congrArg Prod.fst e, congrArg Prod.snd e⟩; exact ho.elim
theorem g_last (h1 : GStm g st f) : GStms g [st] f := by
  refine ⟨fun LI pn Aw ds pre env ys rs o s0 s c fs K J gd lv ga e ho hd hI hk => ?_⟩
  refine seg_execs_cons ?_
  refine h1.run LI pn Aw ds pre env ys rs o s0 s c fs _ J gd lv ga e ho hd hI fun s0' s' fl hf => ?_
  cases fl with
  | next => exact seg_execs_nil (hk s0' s' .next hf)
  | brk => exact hk s0' s' .brk hf
  | cont => exact hk s0' s' .cont hf
  | ret v => cases o <;> exact hf.elim
/-- yield e -/
theorem g_yield {e : Expr} {yp pos : Pos} {fe : EF} (he : ∀ (s0 : Shared) (H0 : Hp) (M : Fm), M.G = g.G → (M.W = fun _ _ _ _ => False) → PE (gcx g s0 H0) e (tE M fe)) (hco : g.env.scope.isCoroutine = false := by rfl) (hi : interactive g.env = false := by rfl) :
    GStm g (.Expr (.Yield (some e) yp) pos) (gYield fe) := by
  refine ⟨fun LI pn Aw ds pre env ys rs o s0 s c fs K J gd lv ga ee ho hd hI hk => ?_⟩
  unfold gYield at ee
  cases r : fe env with
  | stuck => rw [r] at ee; obtain ⟨rfl, rfl⟩ : [] = ys ∧ Out.stuck = o := ⟨congrArg Prod.fst ee, congrArg Prod.snd ee⟩; exact ho.elim
  | exc c x => rw [r] at ee; obtain ⟨rfl, rfl⟩ : [] = ys ∧ Out.stuck = o := ⟨congrArg Prod.fst ee, congrArg Prod.snd ee⟩; exact ho.elim
  | ok d =>
    rw [r] at ee
    obtain ⟨rfl, rfl⟩ : [d] = ys ∧ Out.nx env = o := ⟨congrArg Prod.fst ee, congrArg Prod.snd ee⟩
    obtain ⟨Og, H', F', M, F1, σ, H1, li, mo, I, En, pg⟩ := hI
    have el : ([d] ++ rs).length = rs.length + 1 := rfl
    rw [el]
    refine seg_Expr_Yield ga.split ga.gd ga.guard ?_ hco hi
    rw [ga.over]
    refine wpAny_mono ((he (trunc g.n0 s0) H' M mo.1 mo.2.2.1).run pn s σ H1 (fun x H2 => ∃ F2, EnvOk M F2 H2 env σ ∧ Rep M.G F2 H2 d x) I ⟨F1, env, En, ?_⟩) (fun v s' hv => ?_) fun _ _ z => z.elim
    · rw [r]
      exact fun v H2 s2 hv => ⟨F1, En.grow s2, hv⟩
    · obtain ⟨x, H2, I2, rv, F2, E2, hr⟩ := hv
      intro kap hkap
      refine ⟨pre, d, rs, Og, H', F', M, F2, σ, H2, x, env, pn, hd, rfl, li, mo, I2, E2, rv, mo.1 ▸ hr, pg.1, fun s'' hg => hkap .none s'' ?_⟩
      exact hk s'' s'' .next hg
/-- a loop's code over the frame that it came from -/
theorem gat_loop {Aw : Around} {c c' : Code} {fs : List Frame} {gd : Bool → Bool} {k : Result → Sem PySem.Fin} {l kp : List Value} {p : Pos} (ga : GAt g Aw c fs gd) (hw : c'.weight = 0) (hu : c'.cUnits = 0) : GAt g Aw c' (.ret k none (gd false) l c p kp :: fs) id where
  over := (over_loop hw hu).trans ga.over
  split := by
    show (splitAtGen fs).map _ = none
    rw [ga.split]; rfl
  guard := by
    show (gd false || fs.any Frame.guarded) = false
    rw [ga.gd, ga.guard]; rfl
  gd := rfl
theorem g_while {test : Expr} {pos : Pos} {t : TF} (fuel : Nat) (ht : ∀ (s0 : Shared) (H0 : Hp) (M : Fm), M.G = g.G → (M.W = fun _ _ _ _ => False) → PT (gcx g s0 H0) test (tT M t)) (hb : GStms g body f) : GStm g (.While test body [] pos) (gWhile t f fuel) := by
  refine ⟨fun LI pn Aw ds pre env ys rs o s0 s c fs K J gd lv ga ee ho hd hI hk => ?_⟩
  refine seg_While fun p => ?_
  have gl := fun (kk : Result → Sem PySem.Fin) => gat_loop (k := kk) (c' := .whileLoop test body [] g.env) (l := lv []) (kp := []) (p := p) ga rfl rfl
  have loop : ∀ (fuel : Nat) (pre : List D) (env : Envt) (ys : List D) (o : Out) (s0 s : Shared), whileG t f fuel env = (ys, o) → o.fine → ds = pre ++ (ys ++ rs) → GIv g LI pn env (ys ++ rs).length s0 s →
      (∀ s0' s' f, FlowOf g LI pn rs.length s0' s' o f → Seg (model g.P g.w) Aw (GR g LI) (GY g LI ds) rs.length s0' c (K f) fs s') →
      Seg (model g.P g.w) Aw (GR g LI) (GY g LI ds) (ys ++ rs).length s0 (.whileLoop test body [] g.env) ((model g.P g.w).den (.whileLoop test body [] g.env))
        (.ret (fun r => ((match r with | .ok f => (.pure f : Sem Flow) | .error e => .raise e).onRaise fun (x : Value) => do
          if (← field x 1) == Value.none then unsupported "frame.own-activation:exception-without-traceback"
          setFlight x g.env.frame).wrap K J gd lv) none (gd false) (lv []) c p [] :: fs) s := by
    intro fuel
    induction fuel with
    | zero =>
      intro pre env ys o s0 s e ho
      obtain ⟨rfl, rfl⟩ : [] = ys ∧ Out.stuck = o := ⟨congrArg Prod.fst e, congrArg Prod.snd e⟩
      exact ho.elim
    | succ n ih =>
      intro pre env ys o s0 s e ho hd hI hk
      unfold whileG at e
      refine seg_whileLoop ?_
      rw [(gl _).over]
      obtain ⟨Og, H', F', M, F1, σ, H1, li, mo, I, En, pg⟩ := hI
      refine wpAny_mono ((ht (trunc g.n0 s0) H' M mo.1 mo.2.2.1).run pn s σ H1 (fun b H2 => t env = .ok b ∧ EnvOk M F1 H2 env σ) I ⟨F1, env, En, ?_⟩) (fun b s' hb' => ?_) fun _ _ z => z.elim
      · cases r : t env with
        | ok b => exact fun H2 s2 => ⟨rfl, En.grow s2⟩
        | exc c x => rw [r] at e; obtain ⟨rfl, rfl⟩ : [] = ys ∧ Out.stuck = o := ⟨congrArg Prod.fst e, congrArg Prod.snd e⟩; exact ho.elim
        | stuck => rw [r] at e; obtain ⟨rfl, rfl⟩ : [] = ys ∧ Out.stuck = o := ⟨congrArg Prod.fst e, congrArg Prod.snd e⟩; exact ho.elim
      · obtain ⟨H2, I2, r, E2⟩ := hb'
        rw [r] at e
        have hI2 : GIv g LI pn env (ys ++ rs).length s0 s' := ⟨Og, H', F', M, F1, σ, H2, li, mo, I2, E2, pg⟩
        cases b with
        | false =>
          obtain ⟨rfl, rfl⟩ : [] = ys ∧ Out.nx env = o := ⟨congrArg Prod.fst e, congrArg Prod.snd e⟩
          rw [if_neg Bool.false_ne_true]
          refine seg_execs_nil ?_
          exact seg_leaf (.ok .next) (hk s0 s' .next hI2)
        | true =>
          rw [if_pos rfl]
          dsimp only at e
          cases r1 : f env with
          | mk ys1 o1 =>
            rw [r1] at e
            have again : ∀ e1, (o1 = .nx e1 ∨ o1 = .ct e1) → (ys1 ++ (whileG t f n e1).1, (whileG t f n e1).2) = (ys, o) → Seg (model g.P g.w) Aw (GR g LI) (GY g LI ds) (ys ++ rs).length s0 (.whileLoop test body [] g.env) ((execs body g.env).wrap (fun f => match f with
            | .next | .cont => .pure (.again (.whileLoop test body [] g.env))
            | .brk => .pure (.done .next)
            | .ret v => .pure (.done (.ret v))) (fun e => (do noteFrame e g.env; theTreesLotGoes e : Sem Unit).wrap (fun _ => .raise e) .raise id id) id id) (.ret (fun r => ((match r with | .ok f => (.pure f : Sem Flow) | .error e => .raise e).onRaise fun (x : Value) => do
          if (← field x 1) == Value.none then unsupported "frame.own-activation:exception-without-traceback"
          setFlight x g.env.frame).wrap K J gd lv) none (gd false) (lv []) c p [] :: fs) s' := fun e1 h1 e => by
              cases r2 : whileG t f n e1 with
              | mk ys2 o2 =>
                rw [r2] at e
                obtain ⟨rfl, rfl⟩ : ys1 ++ ys2 = ys ∧ o2 = o := ⟨congrArg Prod.fst e, congrArg Prod.snd e⟩
                rw [List.append_assoc] at hd hI2 ⊢
                refine hb.run LI pn Aw ds pre env ys1 (ys2 ++ rs) o1 s0 s' _ _ _ _ id id (gl _) r1 (by rcases h1 with z | z <;> rw [z] <;> exact True.intro) hd hI2 fun s0' s3 fl hf => ?_
                have hf' : GIv g LI pn e1 (ys2 ++ rs).length s0' s3 ∧ (fl = .next ∨ fl = .cont) := by
                  rcases h1 with z | z
                  · rw [z] at hf
                    cases fl with
                    | next => exact ⟨hf, .inl rfl⟩
                    | brk => exact hf.elim
                    | cont => exact hf.elim
                    | ret v => exact hf.elim
                  · rw [z] at hf
                    cases fl with
                    | cont => exact ⟨hf, .inr rfl⟩
                    | brk => exact hf.elim
                    | next => exact hf.elim
                    | ret v => exact hf.elim
                have go := seg_again (c := .whileLoop test body [] g.env) (c' := .whileLoop test body [] g.env) rfl (ih (pre ++ ys1) e1 ys2 o2 s0' s3 r2 ho (by rw [List.append_assoc]; exact hd) hf'.1 hk)
                rcases hf'.2 with z | z <;> rw [z] <;> exact go
            cases o1 with
            | nx e1 => exact again e1 (.inl rfl) e
            | ct e1 => exact again e1 (.inr rfl) e
            | bk e1 =>
              obtain ⟨rfl, rfl⟩ : ys1 = ys ∧ Out.nx e1 = o := ⟨congrArg Prod.fst e, congrArg Prod.snd e⟩
              refine hb.run LI pn Aw ds pre env ys1 rs (.bk e1) s0 s' _ _ _ _ id id (gl _) r1 True.intro hd hI2 fun s0' s3 fl hf => ?_
              cases fl with
              | brk => exact seg_leaf (.ok .next) (hk s0' s3 .next hf)
              | next => exact hf.elim
              | cont => exact hf.elim
              | ret v => exact hf.elim
            | rt d e1 => obtain ⟨rfl, rfl⟩ : ys1 = ys ∧ Out.stuck = o := ⟨congrArg Prod.fst e, congrArg Prod.snd e⟩; exact ho.elim
            | exc c x e1 => obtain ⟨rfl, rfl⟩ : ys1 = ys ∧ Out.stuck = o := ⟨congrArg Prod.fst e, congrArg Prod.snd e⟩; exact ho.elim
            | stuck => obtain ⟨rfl, rfl⟩ : ys1 = ys ∧ Out.stuck = o := ⟨congrArg Prod.fst e, congrArg Prod.snd e⟩; exact ho.elim
  exact loop fuel pre env ys o s0 s ee ho hd hI hk
end
end Mi
end
section
set_option maxRecDepth 100000
set_option maxHeartbeats 4000000
namespace Mi
open PySem PySem.Spec PyProof.Rows L2 GenW Gp
open Sem (wp)

/-! ## waking -/
def kapG (M : Model) (A : Around) (R : GenEnd) (Y : Protocol) (gs : GenState) : Nat → Resume → Shared → Prop
  | 0 => fun _ _ => False
  | m + 1 => fun r s => gs.Goes M A R Y m r s
section
variable {M : Model}
theorem wpAny_resumeS {A : Around} {R : GenEnd} {Y : Protocol} {n : Nat} {E : Value → Shared → Prop} {s : Shared} {g : Nat} {gs : GenState} {r : Resume} {l : List Value} {α : Type} {k : GenResult → Sem α} {Q : α → Shared → Prop} (hg : s.gens[g]? = some gs)
    (hgo : gs.Goes M A R Y n r (s.setGen g .running))
    (hR : ∀ x s₁, R n (s.setGen g .running) x s₁ → wpAny M A (k (End.ret x).result) Q E (s₁.setGen g .finished))
    (hY : ∀ v s₁ gs', Slp gs' → gs'.bare = true → Y (n - 1) (s.setGen g .running) v s₁ (kapG M A R Y gs' n) → wpAny M A (k (.yielded v)) Q E (s₁.setGen g gs')) :
    wpAny M A (.resume g r l k) Q E s := by
  intro Γ p hΓ
  rw [Sem.wp_resume]
  have hB : ∀ c, (Γ.wake c p).Woken A := fun c => hΓ.wake c p
  have key : ∀ e₁ s₁, SegEnd R Y n (Seg.next M A R Y n) (s.setGen g .running) e₁ s₁ → e₁.quiet = true ∧ wp M Γ (k e₁.result) (fun a _ s' => Q a s') (fun e _ s' => E e s') p (s₁.setGen g e₁.genState) := fun e₁ s₁ he => by
    cases e₁ with
    | ret x => exact ⟨rfl, hR x s₁ he Γ p hΓ⟩
    | susp v g₀ l₀ k₀ c₀ p₀ fs₀ =>
      refine ⟨he.1, hY v s₁ (End.susp v g₀ l₀ k₀ c₀ p₀ fs₀).genState True.intro (End.bare_of_quiet he.1) ?_ Γ p hΓ⟩
      cases n with
      | zero => exact he.2
      | succ m => exact he.2
  cases gs with
  | fresh c =>
    obtain ⟨rfl, hs⟩ := hgo
    obtain ⟨e₁, s₁, hr, he⟩ := seg_iff.mp hs (Γ.wake c p) p rfl (hB c)
    exact ⟨_, _, by unfold Wakes; rw [hg]; exact ⟨e₁, s₁, hr, (key e₁ s₁ he).1, rfl, rfl⟩, (key e₁ s₁ he).2⟩
  | suspended k₀ l₀ c₀ p₀ fs₀ cl =>
    obtain ⟨e₁, s₁, hr, he⟩ := seg_iff.mp hgo (Γ.wake c₀ p) p₀ rfl (hB c₀)
    exact ⟨_, _, by unfold Wakes; rw [hg]; exact ⟨e₁, s₁, hr, (key e₁ s₁ he).1, rfl, rfl⟩, (key e₁ s₁ he).2⟩
  | running => exact hgo.elim
  | finished => exact hgo.elim
end
section
variable {P : Program} {w : World} {A : Around} {E : Value → Shared → Prop} {s : Shared}
theorem next_genS {a : Addr} {g n : Nat} {gs : GenState} {F : Nat → Shared → Shared → Prop} {Y : Protocol} {Q : Option Value → Shared → Prop} (hh : A.handled = none) (hl : s.heap.NoLimit) (hroom : A.depth < recursionLimit) (hg : s.heap.IsGen a g) (hgs : s.gens[g]? = some gs)
    (hgo : gs.Goes (model P w) A.in1 (fun n s₀ r s₁ => (r = .ok (.ret .none) ∨ r = .ok .next) ∧ F n s₀ s₁) Y n (.send .none) (s.setGen g .running))
    (hY : ∀ v s₁ gs', Slp gs' → gs'.bare = true → Y (n - 1) (s.setGen g .running) v s₁ (kapG (model P w) A.in1 (fun n s₀ r s₁ => (r = .ok (.ret .none) ∨ r = .ok .next) ∧ F n s₀ s₁) Y gs' n) → Q (some v) (s₁.setGen g gs'))
    (hP : ∀ s₁, F n (s.setGen g .running) s₁ → ∀ h', (∀ b o, s₁.heap.get? b = some o → h'.get? b = some o) → Q none { s₁.setGen g .finished with heap := h' }) :
    wpAny (model P w) A (pyNext (.ref a)) Q E s := by
  unfold pyNext
  refine wpAny_bind (wpAny_attempt (wpAny_callSpecial?_slot (name := Str.ofString "__next__") hg.typeIs slot_gen_next
    (wpAny_call_entry slot_gen_next hg.typeIs entry_gen_next ?_ (args_gen_next _))))
  show wpAny _ A.in1 (Builtin.Generator.genWake (.ref a) (.send .none)) _ _ s
  unfold Builtin.Generator.genWake
  refine wpAny_bind (wpAny_holding (wpAny_genNumber hg (wpAny_bind (wpAny_genState hgs ?_))))
  cases gs with
  | running => exact hgo.elim
  | finished => exact hgo.elim
  | _ =>
    refine wpAny_bind (wpAny_roomToWake hl hroom ?_)
    show wpAny _ A.in1 (.resume g (.send .none) [] _) _ _ s
    refine wpAny_resumeS hgs hgo (fun x s₁ hx => ?_) (fun v s₁ gs' hs hb hv => wpAny_pure ⟨v, rfl, wpAny_pure (hY v s₁ gs' hs hb hv)⟩)
    obtain ⟨hr, hp⟩ := hx
    have hres : End.result (.ret x) = .returned .none := by
      rcases hr with hr | hr <;> rw [hr] <;> rfl
    first | rw [hres] | simp only [hres]
    show wpAny _ A.in1 (newExc (.type "StopIteration") [] >>= _) _ _ _
    refine wpAny_bind ?_
    simp only [newExc, newTuple]
    refine wpAny_bind (wpAny_newObj_type ?_ (by size_fits))
    refine wpAny_bind (m := firstArgMember _ _) (wpAny_of_eq (a := Value.none) (by first | rfl | (simp only [firstArgMember]; rfl)) ?_)
    refine wpAny_newObj_type ?_ (by size_fits)
    simp only [raiseNew]
    refine wpAny_bind (wpAny_bind (wpAny_handled ?_))
    first | rw [show A.in1.handled = none from hh] | rw [hh]
    refine wpAny_throw ?_
    refine wpAny_bind (wpAny_isInstance (T := "StopIteration") (b := true) ⟨_, Heap.get?_push_size _ rfl, rfl⟩ isSubtype_stop ?_)
    exact wpAny_pure (hP s₁ hp _ fun b o hb => Heap.get?_push_of_some _ (Heap.get?_push_of_some _ hb))
end

/-! ## the two contexts -/
structure GSta (g : GSt) : Prop where
  kind : g.scope.kind = .function
  nocell : g.env.cells = []
  hk : ∀ x, g.scope.names.lookup x ≠ some .cell ∧ g.scope.names.lookup x ≠ some .free
  hd : g.A.handled = none
  fr : g.A.frames = some g.outer
  hL : ∀ L ∈ frs g.outer, L < g.n0
  bsz : g.base.objs.size ≤ g.n0
  na : g.n0 < g.a
  gc : ∀ v, g.go.data ≠ .cell v
/-- its names, as they lie -/
def GLoc (g : GSt) (σ : L2.St) (h : Heap) : Prop := (∃ m, h.Ns g.n0 m ∧ ∀ (i : Nat) (x : Str) (v : V), g.N[i]? = some x → σ[i]? = some (some v) → Vis g.scope x → ∃ u, RelV v u ∧ Look g.env h m x u) ∧ σ.length = g.N.length
theorem GLoc.at {g : GSt} (st : GSta g) {σ : L2.St} {h h' : Heap} (l : GLoc g σ h) (k : ∀ o, h.get? g.n0 = some o → h'.get? g.n0 = some o) : GLoc g σ h' := by
  obtain ⟨⟨m, hn, hl⟩, hz⟩ := l
  refine ⟨⟨m, hn.at k, fun i x v h1 h2 h3 => ?_⟩, hz⟩
  obtain ⟨u, ru, q⟩ := hl i x v h1 h2 h3
  refine ⟨u, ru, ?_⟩
  rcases q with q | ⟨_, c, e, _⟩
  · exact .inl q
  · rw [st.nocell] at e; cases e
theorem Inv.gloc {g : GSt} {s0 : Shared} {H0 H1 : Hp} {σ : L2.St} {s1 : Shared} {pn : List (Addr × Obj)} (I : Inv (gcx g s0 H0) pn σ H1 s1) : GLoc g σ s1.heap := ⟨I.loc, I.len⟩
theorem gcx_inv {g : GSt} {σ : L2.St} {H' : Hp} {s' : Shared} (st : GSta g) (l : GLoc g σ s'.heap) (e : Env0 g.P g.w g.K g.mg g.base g.A g.outer s' H') (hH : H' g.n0 = none) (ha : s'.heap.get? g.a = some g.go) (hHa : H' g.a = none) (hn : g.n0 ≤ s'.heap.objs.size) {pn : List (Addr × Obj)} (hpn : ∀ p ∈ pn, s'.heap.get? p.1 = some p.2 ∧ H' p.1 = none ∧ g.n0 < p.1 ∧ ∀ v, p.2.data ≠ .cell v) : Inv (gcx g (trunc g.n0 s') H') pn σ H' s' := by
  have sz : (trunc g.n0 s').heap.objs.size = g.n0 := trunc_size hn
  have noA : ∀ b : Addr, b ∉ (gcx g (trunc g.n0 s') H').ex := fun b z => absurd (show b ∈ ([] : List Addr) from z) (by simp)
  have lt_base : ∀ (b : Addr) (o : Obj), g.base.get? b = some o → b < g.n0 := fun b o q => Nat.lt_of_lt_of_le (Heap.lt_size q) st.bsz
  refine ⟨⟨e.mod, st.kind, rfl, rfl, ?_, fun x y c h => ?_, fun x hx => ?_, fun x c _ h => ?_, fun _ => st.hd, Around.frames_deeper st.fr, .inr ⟨rfl, rfl⟩, fun b z => absurd z (noA b), fun b o q => ⟨?_, (e.bs b o q).2⟩, ?_, fun b _ _ => noA b, fun b z => absurd z (noA b), ?_, e.frf⟩,
    rfl, e.bare, ⟨fun b o q _ _ _ => (trunc_some q).2, fun b o q _ _ _ => ⟨o.slots, (trunc_some q).2⟩, fun b o _ n _ => n, fun b o q _ => ⟨o, (trunc_some q).2⟩, fun _ _ q => q, fun _ _ _ q => q, fun b ps q => ⟨#[], by rw [show H' b = some (.tbl ps) from q]; simp⟩⟩, l.1, fun x c h => ?_, hH, fun x c h => ?_, fun p hp => ?_, e.hok, l.2⟩
  · show (trunc g.n0 s').heap.objs.size ≤ g.n0
    rw [sz]
    exact Nat.le_refl _
  · have h : g.env.cells.lookup x = some c := h
    rw [st.nocell] at h; cases h
  · exact (hx.elim (fun z => absurd z (st.hk x).1) fun z => absurd z (st.hk x).2)
  · have h : g.env.cells.lookup x = some c := h
    rw [st.nocell] at h; cases h
  · show (trunc g.n0 s').heap.get? b = some o
    rw [trunc_lt (lt_base b o q)]
    exact (e.bs b o q).1
  · show g.base.objs.size ≤ (trunc g.n0 s').heap.objs.size
    rw [sz]; exact st.bsz
  · have all : ∀ l : List Env, (∀ L ∈ frs l, L < g.n0) → s'.heap.FunFrames g.base l → (trunc g.n0 s').heap.FunFrames g.base l := by
      intro l
      induction l with
      | nil => intro _ _; trivial
      | cons env rest ih =>
        intro hl hf
        obtain ⟨hk, ⟨L, o, hfr, hnb, ho, hd⟩, hr⟩ := hf
        have hL : L < g.n0 := hl L (by unfold frs; rw [List.filterMap_cons, hfr]; exact List.mem_cons_self)
        refine ⟨hk, ⟨L, o, hfr, hnb, by rw [trunc_lt hL]; exact ho, hd⟩, ih (fun L' h => hl L' ?_) hr⟩
        unfold frs at h ⊢
        rw [List.filterMap_cons, hfr]
        exact List.mem_cons_of_mem _ h
    exact all g.outer st.hL e.funs
  · have h : g.env.cells.lookup x = some c := h
    rw [st.nocell] at h; cases h
  · have h : g.env.cells.lookup x = some c := h
    rw [st.nocell] at h; cases h
  · have hp' : p = (g.a, g.go) ∨ p ∈ pn := by
      have : p ∈ [(g.a, g.go)] ++ pn := hp
      simpa using this
    rcases hp' with hp' | hp'
    · rw [hp']
      refine ⟨ha, hHa, Nat.ne_of_gt st.na, fun hm => ?_, st.gc⟩
      have h1 := st.hL g.a hm
      have h2 := st.na
      exact absurd (Nat.lt_trans h1 h2) (Nat.lt_irrefl _)
    · obtain ⟨k1, k2, k3, k4⟩ := hpn p hp'
      refine ⟨k1, k2, Nat.ne_of_gt k3, fun hm => ?_, k4⟩
      have h1 := st.hL p.1 hm
      exact absurd (Nat.lt_trans h1 k3) (Nat.lt_irrefl _)
/-- behind a stretch of the generator the consumer's context holds -/
theorem gcx_back {X : Cx} {g : GSt} {pins pn : List (Addr × Obj)} {σc σ : L2.St} {H' H1 : Hp} {s' s1 : Shared} (hX : X.prog = g.P) (hw : X.w = g.w) (ho : g.outer = X.stack) (Ic : Inv X pins σc H' s') (J : Inv (gcx g (trunc g.n0 s') H') pn σ H1 s1) (hn : g.n0 ≤ s'.heap.objs.size)
    (h0 : X.s_0.heap.objs.size ≤ g.n0) (hl : X.env.locals < g.n0) (hc : ∀ x c, X.env.cells.lookup x = some c → c < g.n0) (hp : ∀ p ∈ X.pn ++ pins, p.1 < g.n0) : Inv X pins σc H1 s1 := by
  have lt : ∀ {b : Addr}, b ∉ (List.range s'.heap.objs.size).filter (fun b => decide (g.n0 ≤ b)) → ∀ {o : Obj}, s'.heap.get? b = some o → b < g.n0 := fun {b} hb {o} q => by
    have hs := Heap.lt_size q
    by_cases z : b < g.n0
    · exact z
    · exact absurd (List.mem_filter.mpr ⟨List.mem_range.mpr hs, decide_eq_true (Nat.le_of_not_lt z)⟩) hb
  have tr : ∀ {b : Addr} {o : Obj}, b < g.n0 → s'.heap.get? b = some o → (trunc g.n0 s').heap.get? b = some o := fun h q => by rw [trunc_lt h]; exact q
  have nex : ∀ b : Addr, b ∉ (gcx g (trunc g.n0 s') H').ex := fun b z => absurd (show b ∈ ([] : List Addr) from z) (by simp)
  have fsE : (gcx g (trunc g.n0 s') H').fs = frs X.stack := by show frs g.outer = _; rw [ho]
  have un : Un (frs X.stack) ((List.range s'.heap.objs.size).filter (fun b => decide (g.n0 ≤ b))) H' H1 s'.heap s1.heap := by
    have B := J.base
    refine ⟨fun b o q n hf hx => ?_, fun b o q n hf hx => ?_, fun b o q n hx => ?_, fun b o q hx => ?_, B.tups, B.frzs, B.tbls⟩
    · exact B.keep b o (tr (lt hx q) q) n (by rw [fsE]; exact hf) (nex b)
    · exact B.slot b o (tr (lt hx q) q) n (by rw [fsE]; exact hf) (nex b)
    · exact B.free b o (tr (lt hx q) q) n (nex b)
    · exact B.there b o (tr (lt hx q) q) (nex b)
  have hok : HOk X.prog X.w H1 s1.heap := by rw [hX, hw]; exact J.hok
  refine Ic.call' (ch := (List.range s'.heap.objs.size).filter (fun b => decide (g.n0 ≤ b))) J.os un hok J.bare fun b hb => ?_
  have hge : g.n0 ≤ b := of_decide_eq_true (List.mem_filter.mp hb).2
  refine ⟨.inr (Nat.le_trans h0 hge), Nat.ne_of_gt (Nat.lt_of_lt_of_le hl hge), fun x c e => Nat.ne_of_lt (Nat.lt_of_lt_of_le (hc x c e) hge), fun p hp' => Nat.ne_of_lt (Nat.lt_of_lt_of_le (hp p hp') hge)⟩
end Mi
end
section
set_option maxRecDepth 100000
set_option maxHeartbeats 4000000
namespace Mi
open PySem PySem.Spec PyProof.Rows L2 GenW Gp

/-! ## two frames over one heap -/
def MuO : Option HO → Prop
  | some (.lst _) => True
  | some (.ins _ _ _) => True
  | _ => False
theorem MuRep.muo {G : Gc} {F : Own} {H : Hp} {m : Mu} {v : V} {fp : List Addr} (h : MuRep G F H m v fp) : ∀ a ∈ fp, MuO (H a) := by
  cases m with
  | lst ds =>
    obtain ⟨p, xs, e1, e2, e3, h⟩ := h
    intro a ha
    rw [e2] at ha
    rw [List.mem_singleton.mp ha, e3]
    exact True.intro
  | ins c fs =>
    obtain ⟨p, dx, us, e1, e2, e3, h⟩ := h
    intro a ha
    rw [e2] at ha
    rw [List.mem_singleton.mp ha, e3]
    exact True.intro
theorem MuO.ne {x : Option HO} (h : MuO x) : x ≠ none := fun e => by rw [e] at h; exact h
/-- the consumer's frame while the generator owns Og -/
def MbOk (Mc : Fm) (Og : List Addr) (H : Hp) (M : Fm) : Prop := M.G = Mc.G ∧ M.self = Mc.self ∧ M.ea = Mc.ea ∧ M.ed = Mc.ed ∧ (M.W = fun _ _ _ _ => False) ∧ (M.F0 = fun x => Mc.F0 x ∨ x ∈ Og) ∧ M.H0 = fun x => if x ∈ Og then H x else Mc.H0 x
def OgOk (Mc : Fm) (Og : List Addr) (H : Hp) : Prop := ∀ a ∈ Og, Mc.H0 a = none ∧ MuO (H a)
theorem mb_ex (Mc : Fm) {Og : List Addr} {H : Hp} (ho : OgOk Mc Og H) : ∃ M, MbOk Mc Og H M :=
  ⟨⟨Mc.G, fun x => Mc.F0 x ∨ x ∈ Og, fun x => if x ∈ Og then H x else Mc.H0 x, fun a ha => by
    by_cases h : a ∈ Og
    · rw [if_pos h]; exact (ho a h).2.ne
    · rw [if_neg h]; exact Mc.f0 a (ha.resolve_right h), fun _ _ _ _ => False, Mc.self, Mc.ea, Mc.ed⟩, rfl, rfl, rfl, rfl, rfl, rfl, rfl⟩
theorem mok_ex (g : GSt) {Og : List Addr} {F : Own} {H : Hp} (dom : ∀ a, F a → H a ≠ none) : ∃ M, MOk g Og F H M :=
  ⟨⟨g.G, fun x => F x ∧ x ∉ Og, fun x => if x ∈ Og then none else H x, fun a ha => by rw [if_neg ha.2]; exact dom a ha.1, fun _ _ _ _ => False, none, 0, none⟩, rfl, rfl, rfl, rfl, rfl, rfl, rfl⟩
theorem EnvOk.toMb {Mc M : Fm} {F : Own} {H : Hp} {env : Envt} {σ : L2.St} (I : EnvOk Mc F H env σ) (m : MbOk Mc [] H M) : EnvOk M F H env σ := by
  obtain ⟨h1, h2, h3, h4, h5, h6, h7⟩ := m
  have e6 : M.F0 = Mc.F0 := by rw [h6]; funext x; exact propext ⟨fun z => z.resolve_right (by simp), .inl⟩
  have e7 : M.H0 = Mc.H0 := by rw [h7]; funext x; rw [if_neg (by simp)]
  exact ⟨I.len, by rw [e7]; exact I.old, I.dom, by rw [e6]; exact I.f0, by rw [h1]; exact I.val, by rw [h1, e7]; exact I.own, by rw [h2]; exact I.self, by rw [h1, h3, h4]; exact I.ex⟩
theorem EnvOk.ofMb {Mc M : Fm} {Og : List Addr} {F : Own} {H0 H : Hp} {env : Envt} {σ : L2.St} (I : EnvOk M F H env σ) (m : MbOk Mc Og H0 M) (ho : OgOk Mc Og H0) : EnvOk Mc F H env σ := by
  obtain ⟨h1, h2, h3, h4, h5, h6, h7⟩ := m
  have n : ∀ a, M.H0 a = none → Mc.H0 a = none := fun a e => by
    rw [h7] at e
    by_cases h : a ∈ Og
    · exact (ho a h).1
    · dsimp only at e; rw [if_neg h] at e; exact e
  refine ⟨I.len, fun a o e => I.old a o ?_, I.dom, fun a ha => I.f0 a (by rw [h6]; exact .inl ha), by rw [← h1]; exact I.val, ?_, by rw [← h2]; exact I.self, by rw [← h1, ← h3, ← h4]; exact I.ex⟩
  · rw [h7]
    dsimp only
    rw [if_neg fun h => by rw [(ho a h).1] at e; cases e]
    exact e
  · obtain ⟨fp, k1, k2⟩ := I.own
    refine ⟨fp, fun i mu e => ?_, k2⟩
    obtain ⟨q1, q2⟩ := k1 i mu e
    exact ⟨h1 ▸ q1, fun a ha => ⟨(q2 a ha).1, n a (q2 a ha).2⟩⟩
/-- the generator ran -/
theorem gen_ran {g : GSt} {Mc Mb M : Fm} {Og : List Addr} {F' F1 : Own} {H' H1 : Hp} {envc env : Envt} {σc σ : L2.St} (hG : g.G = Mc.G) (mb : MbOk Mc Og H' Mb) (I : EnvOk Mb F' H' envc σc) (ho : OgOk Mc Og H') (mo : MOk g Og F' H' M) (J : EnvOk M F1 H1 env σ) :
    ∃ (Og1 : List Addr) (F2 : Own) (Mb1 M1 : Fm), MbOk Mc Og1 H1 Mb1 ∧ EnvOk Mb1 F2 H1 envc σc ∧ OgOk Mc Og1 H1 ∧ MOk g Og1 F2 H1 M1 ∧ EnvOk M1 F2 H1 env σ ∧ Fz F1 H1 F2 H1 ∧ Fz F' H' F2 H1 := by
  obtain ⟨b1, b2, b3, b4, b5, b6, b7⟩ := mb
  obtain ⟨m1, m2, m3, m4, m5, m6, m7⟩ := mo
  obtain ⟨fp, k1, k2⟩ := J.own
  obtain ⟨fc, c1, c2⟩ := I.own
  -- what the consumer's side keeps
  have hOgF : ∀ a ∈ Og, F' a := fun a ha => I.f0 a (by rw [b6]; exact .inr ha)
  have kept : ∀ a o, a ∉ Og → H' a = some o → H1 a = some o := fun a o hn e => J.old a o (by rw [m5]; dsimp only; rw [if_neg hn]; exact e)
  have hf : ∀ a, F' a → a ∉ Og → F1 a := fun a ha hn => J.f0 a (by rw [m4]; exact ⟨ha, hn⟩)
  have mown : ∀ a, M.H0 a = none → a ∈ Og ∨ H' a = none := fun a e => by
    rw [m5] at e
    by_cases h : a ∈ Og
    · exact .inl h
    · dsimp only at e; rw [if_neg h] at e; exact .inr e
  have mcn : ∀ a, M.H0 a = none → Mc.H0 a = none := fun a e => by
    rcases mown a e with h | h
    · exact (ho a h).1
    · have hn : a ∉ Og := fun z => (ho a z).2.ne h
      have := I.old.free h
      rw [b7] at this
      dsimp only at this
      rw [if_neg hn] at this
      exact this
  let Og1 : List Addr := (List.range env.length).flatMap fun i => match env[i]? with
    | some (Slot.own _) => fp i
    | _ => []
  have inOg : ∀ i m, env[i]? = some (.own m) → ∀ a ∈ fp i, a ∈ Og1 := fun i m e a ha => by
    refine List.mem_flatMap.mpr ⟨i, List.mem_range.mpr (List.getElem?_eq_some_iff.mp e).1, ?_⟩
    rw [e]; exact ha
  have ofOg : ∀ a ∈ Og1, ∃ i m, env[i]? = some (.own m) ∧ a ∈ fp i := fun a ha => by
    obtain ⟨i, _, h⟩ := List.mem_flatMap.mp ha
    split at h
    · rename_i m e
      exact ⟨i, m, e, h⟩
    · cases h
  have og1 : ∀ a ∈ Og1, F1 a ∧ M.H0 a = none ∧ MuO (H1 a) := fun a ha => by
    obtain ⟨i, m, e, h⟩ := ofOg a ha
    obtain ⟨⟨v, q1, q2⟩, q3⟩ := k1 i m e
    exact ⟨(q3 a h).1, (q3 a h).2, q2.muo a h⟩
  have ho1 : OgOk Mc Og1 H1 := fun a ha => ⟨mcn a (og1 a ha).2.1, (og1 a ha).2.2⟩
  have hcn : ∀ i m, envc[i]? = some (.own m) → ∀ a ∈ fc i, a ∉ Og := fun i m e a ha h => by
    have := ((c1 i m e).2 a ha).2
    rw [b7] at this
    dsimp only at this
    rw [if_pos h] at this
    exact (ho a h).2.ne this
  have hcn1 : ∀ i m, envc[i]? = some (.own m) → ∀ a ∈ fc i, a ∉ Og1 := fun i m e a ha h => by
    obtain ⟨⟨v, _, q2⟩, _⟩ := c1 i m e
    have hna := hcn i m e a ha
    rcases mown a (og1 a h).2.1 with z | z
    · exact hna z
    · exact (q2.muo a ha).ne z
  let F2 : Own := fun a => (F' a ∧ a ∉ Og) ∨ a ∈ Og1
  have f21 : ∀ a, F2 a → F1 a := fun a ha => ha.elim (fun h => hf a h.1 h.2) fun h => (og1 a h).1
  have z1 : Fz F1 H1 F2 H1 := fun a o hn e => ⟨fun h => hn (f21 a h), e⟩
  have z2 : Fz F' H' F2 H1 := fun a o hn e => by
    have hno : a ∉ Og := fun h => hn (hOgF a h)
    refine ⟨fun h => ?_, kept a o hno e⟩
    rcases h with h | h
    · exact hn h.1
    · rcases mown a (og1 a h).2.1 with y | y
      · exact hno y
      · rw [y] at e; cases e
  have dom2 : ∀ a, F2 a → H1 a ≠ none := fun a ha => J.dom a (f21 a ha)
  obtain ⟨Mb1, mb1⟩ := mb_ex Mc ho1
  obtain ⟨M1, mo1⟩ := mok_ex g (Og := Og1) dom2
  have mb1' := mb1
  have mo1' := mo1
  obtain ⟨d1, d2, d3, d4, d5, d6, d7⟩ := mb1'
  obtain ⟨n1, n2, n3, n4, n5, n6, n7⟩ := mo1'
  have bc : Mb.G = Mb1.G := b1.trans d1.symm
  refine ⟨Og1, F2, Mb1, M1, mb1, ⟨I.len, fun a o e => ?_, dom2, fun a ha => ?_, fun i d e => ?_, ⟨fc, fun i m e => ?_, c2⟩, by rw [d2, ← b2]; exact I.self, fun i c x e => ?_⟩, ho1, mo1, ⟨J.len, fun a o e => ?_, dom2, fun a ha => ?_, fun i d e => ?_, ⟨fp, fun i m e => ?_, k2⟩, fun x hx => (by rw [n2] at hx; cases hx), fun i c x e => ?_⟩, z1, z2⟩
  · rw [d7] at e
    dsimp only at e
    by_cases h : a ∈ Og1
    · rw [if_pos h] at e; exact e
    · rw [if_neg h] at e
      have hno : a ∉ Og := fun z => by rw [(ho a z).1] at e; cases e
      refine kept a o hno (I.old a o ?_)
      rw [b7]
      dsimp only
      rw [if_neg hno]; exact e
  · rw [d6] at ha
    rcases ha with ha | ha
    · have hno : a ∉ Og := fun z => Mc.f0 a ha (ho a z).1
      exact .inl ⟨I.f0 a (by rw [b6]; exact .inl ha), hno⟩
    · exact .inr ha
  · obtain ⟨v, q1, q2⟩ := I.val i d e
    exact ⟨v, q1, bc ▸ q2.mono z2⟩
  · obtain ⟨⟨v, q1, q2⟩, q3⟩ := c1 i m e
    refine ⟨⟨v, q1, bc ▸ q2.mono z2 fun a ha o y => kept a o (hcn i m e a ha) y⟩, fun a ha => ⟨.inl ⟨(q3 a ha).1, hcn i m e a ha⟩, ?_⟩⟩
    rw [d7]
    dsimp only
    rw [if_neg (hcn1 i m e a ha)]
    have := (q3 a ha).2
    rw [b7] at this
    dsimp only at this
    rw [if_neg (hcn i m e a ha)] at this
    exact this
  · obtain ⟨q1, q2⟩ := I.ex i c x e
    refine ⟨by rw [d3, ← b3]; exact q1, fun d hd => ?_⟩
    obtain ⟨dd, v, y1, y2, y3⟩ := q2 d hd
    refine ⟨dd, v, by rw [d4, ← b4]; exact y1, ?_, bc ▸ y3.mono z2⟩
    rw [← bc]
    exact kept dd _ (fun h => by have := (ho dd h).2; rw [y2] at this; exact this) y2
  · rw [n5] at e
    dsimp only at e
    by_cases h : a ∈ Og1
    · rw [if_pos h] at e; cases e
    · rw [if_neg h] at e; exact e
  · rw [n4] at ha; exact ha.1
  · obtain ⟨v, q1, q2⟩ := J.val i d e
    exact ⟨v, q1, (show M.G = M1.G by rw [m1, n1]) ▸ q2.mono z1⟩
  · obtain ⟨⟨v, q1, q2⟩, q3⟩ := k1 i m e
    refine ⟨⟨v, q1, (show M.G = M1.G by rw [m1, n1]) ▸ q2.mono z1 fun a ha o y => y⟩, fun a ha => ⟨.inr (inOg i m e a ha), ?_⟩⟩
    rw [n5]
    dsimp only
    rw [if_pos (inOg i m e a ha)]
  · obtain ⟨q1, q2⟩ := J.ex i c x e
    refine ⟨by rw [n6, ← m6]; exact q1, fun d hd => ?_⟩
    obtain ⟨dd, v, y1, _⟩ := q2 d hd
    rw [m7] at y1; cases y1
/-- the consumer's body ran -/
theorem body_ran {g : GSt} {Mc Mb1 M1 : Fm} {Og1 : List Addr} {F2 F7 : Own} {H1 H7 : Hp} {e env : Envt} {σ7 σ : L2.St} (mb : MbOk Mc Og1 H1 Mb1) (ho : OgOk Mc Og1 H1) (I : EnvOk Mb1 F7 H7 e σ7) (z : Fz F2 H1 F7 H7) (mo : MOk g Og1 F2 H1 M1) (J : EnvOk M1 F2 H1 env σ) :
    OgOk Mc Og1 H7 ∧ MbOk Mc Og1 H7 Mb1 ∧ ∃ M7, MOk g Og1 F7 H7 M7 ∧ EnvOk M7 F7 H7 env σ := by
  have mb' := mb
  obtain ⟨b1, b2, b3, b4, b5, b6, b7⟩ := mb'
  have mo' := mo
  obtain ⟨m1, m2, m3, m4, m5, m6, m7⟩ := mo'
  have kept : ∀ a ∈ Og1, H7 a = H1 a := fun a ha => by
    cases e : H1 a with
    | none => exact ((ho a ha).2.ne e).elim
    | some o =>
      exact I.old a o (by rw [b7]; dsimp only; rw [if_pos ha]; exact e)
  have ho7 : OgOk Mc Og1 H7 := fun a ha => ⟨(ho a ha).1, by rw [kept a ha]; exact (ho a ha).2⟩
  refine ⟨ho7, ⟨b1, b2, b3, b4, b5, b6, ?_⟩, ?_⟩
  · rw [b7]
    funext x
    by_cases h : x ∈ Og1
    · rw [if_pos h, if_pos h, kept x h]
    · rw [if_neg h, if_neg h]
  · obtain ⟨M7, mo7⟩ := mok_ex g (Og := Og1) I.dom
    have mo7' := mo7
    obtain ⟨n1, n2, n3, n4, n5, n6, n7⟩ := mo7'
    have eG : M1.G = M7.G := m1.trans n1.symm
    obtain ⟨fp, k1, k2⟩ := J.own
    have inOg : ∀ i m, env[i]? = some (.own m) → ∀ a ∈ fp i, a ∈ Og1 := fun i m e a ha => by
      obtain ⟨⟨v, _, q2⟩, q3⟩ := k1 i m e
      by_cases h : a ∈ Og1
      · exact h
      · have := (q3 a ha).2
        rw [m5] at this
        dsimp only at this
        rw [if_neg h] at this
        exact ((q2.muo a ha).ne this).elim
    refine ⟨M7, mo7, ⟨J.len, fun a o e => ?_, I.dom, fun a ha => ?_, fun i d e => ?_, ⟨fp, fun i m e => ?_, k2⟩, fun x hx => (by rw [n2] at hx; cases hx), fun i c x e => ?_⟩⟩
    · rw [n5] at e
      dsimp only at e
      by_cases h : a ∈ Og1
      · rw [if_pos h] at e; cases e
      · rw [if_neg h] at e; exact e
    · rw [n4] at ha; exact ha.1
    · obtain ⟨v, q1, q2⟩ := J.val i d e
      exact ⟨v, q1, eG ▸ q2.mono z⟩
    · obtain ⟨⟨v, q1, q2⟩, q3⟩ := k1 i m e
      refine ⟨⟨v, q1, eG ▸ q2.mono z fun a ha o y => (kept a (inOg i m e a ha)).trans y⟩, fun a ha => ⟨I.f0 a (by rw [b6]; exact .inr (inOg i m e a ha)), ?_⟩⟩
      rw [n5]
      dsimp only
      rw [if_pos (inOg i m e a ha)]
    · obtain ⟨q1, q2⟩ := J.ex i c x e
      refine ⟨by rw [n6, ← m6]; exact q1, fun d hd => ?_⟩
      obtain ⟨dd, v, y1, _⟩ := q2 d hd
      rw [m7] at y1; cases y1

/-! ## a generator def called -/
/-- what a call of it gives: a, the generator; nothing has run -/
structure GMade1 (g : GSt) (body : List Stmt) (σ : L2.St) (gi : Nat) (s s' : Shared) : Prop where
  n0 : g.n0 = s.heap.objs.size
  na : g.n0 < g.a
  isg : ∀ h : Heap, h.get? g.a = some g.go → h.IsGen g.a gi
  at_ : s'.heap.get? g.a = some g.go
  gc : ∀ v, g.go.data ≠ .cell v
  gi : gi = s.gens.size
  gens : s'.gens = s.gens.push (.fresh (.func body g.env))
  os : s'.os = s.os
  keep : ∀ b o, s.heap.get? b = some o → s'.heap.get? b = some o
  loc : GLoc g σ s'.heap
  lim : s'.heap.NoLimit
  fo : ∃ n vs, g.go.cls = .type n ∧ g.go.data = .fields vs ∧ n = "generator"
theorem call_gen {P : Program} {w : World} {K : PySem.W.Frag} {mg : Str → Option Value} {base : Heap} {k : Nat} {f : Addr} {x qual : Str} {params : Arguments} {body : List Stmt} {scope : Scope} {dvs : List V} {kws : List (Str × V)} {fd : FuncData} {N ps : List Str} {G : Gc}
    (F : FunD K x qual params body scope dvs kws f fd) (S : GScope N ps scope) {A : Around} {outer : List Env} {s : Shared} {H : Hp} {args : Args} {us : List Value} {vs : List V} (hr : Room (k + 1) A) (e0 : Env0 P w K mg base A outer s H) (hb : BindsTo s fd args (ps.zip us)) (r : Vals vs us) (hl : vs.length = ps.length) :
    codeAny (model P w) A (.call (.ref f) args) (fun r s' => ∃ (cd : Value) (a : Addr) (go : Obj) (gi : Nat), r = .ok (.ret (.ref a)) ∧ GMade1 ⟨P, w, K, mg, base, N, qual, scope, f, cd, s.heap.objs.size, A.in1, outer, a, go, G⟩ body (L2.start N vs) gi s s') s := by
  obtain ⟨oc, od, dV, kV, doc, pm, an, cdv, ct, osl, rfl, lk, hcd, _, _⟩ := F.ex
  have KX : K.In s.heap := e0.mod.kin.keeps fun b o e => (e0.bs b o e).1
  have lim : s.heap.NoLimit := e0.mod.nolimit.keeps fun b o e => (e0.bs b o e).1
  have hkind : ∀ y ∈ ps.zip us, scope.names.lookup y.1 = some .local ∨ (scope.names.lookup y.1 = some .cell ∧ ((cellsFrom (s.heap.objs.size + 1) scope.names []).lookup y.1).isSome = true) := fun ⟨n, v⟩ hy => by
    rcases S.par n (List.of_mem_zip hy).1 with q | q
    · exact .inl q
    · exact .inr ⟨q, PySem.W.cellsFrom_some _ _ _ (.inl q)⟩
  refine codeAny_call_generator hr.depth (KX _ _ lk) rfl S.co S.gen rfl (PySem.W.codeRec_of KX hcd) (hb _ _ _ _ ?_)
  refine wpAny_newFunctionEnv_cells S.kind hkind fun env he s1 x => ?_
  subst he
  have lim1 : s1.heap.NoLimit := lim.keeps x.toInCall.keep
  refine ⟨lim1, ?_⟩
  have I1 := inv_startG (E := fun _ _ _ => False) (cd := cdv) (f := f) (qual := qual) S hr.hd e0 hl r x
  obtain ⟨h1, tk, es1, hk1⟩ := x.done
  have os1 : s1.os = s.os := by rw [es1]
  have gen1 : s1.gens = s.gens := by rw [es1]
  have lt1 : s.heap.objs.size < s1.heap.objs.size := x.toInCall.ns.lt
  have main : ∀ (go : Obj) (nm qn : Value) (tk2 : Nat), go.cls = .type "generator" → go.data = .fields #[.int s1.gens.size 0, nm, qn] → go.slots = #[] → (∀ h : Heap, (h.push go).get? h.objs.size = some go) →
      GMade1 ⟨P, w, K, mg, base, N, qual, scope, f, cdv, s.heap.objs.size, A.in1, outer, s1.heap.objs.size, go, G⟩ body (L2.start N vs) s1.gens.size s { s1 with gens := s1.gens.push (.fresh (.func body (envOfC qual scope s.heap.objs.size f cdv))), toks := tk2, heap := s1.heap.push go } := by
    intro go nm qn tk2 hgc hgd0 hgs hgp
    have kp : ∀ b o, s1.heap.get? b = some o → (s1.heap.push go).get? b = some o := fun b o e => Heap.get?_push_of_some _ e
    obtain ⟨⟨m, hn, hloc⟩, hz⟩ := (⟨I1.loc, I1.len⟩ : _ ∧ _)
    refine ⟨rfl, lt1, fun h e => ⟨go, nm, qn, e, hgc, hgd0, hgs⟩, hgp _, fun v q => (by rw [hgd0] at q; cases q), congrArg Array.size gen1, (by show s1.gens.push _ = _; rw [gen1]), os1, fun b o e => kp b o (x.toInCall.keep b o e), ⟨⟨m, hn.at fun o q => kp _ o q, fun i y v h1 h2 h3 => ?_⟩, hz⟩, lim1.keeps kp, "generator", _, hgc, hgd0, rfl⟩
    obtain ⟨u, ru, q⟩ := hloc i y v h1 h2 h3
    refine ⟨u, ru, ?_⟩
    rcases q with q | ⟨q1, c, q2, q3⟩
    · exact .inl q
    · obtain ⟨o, ho, hd⟩ := q3
      exact .inr ⟨q1, c, q2, o, kp _ o ho, hd⟩
  exact ⟨cdv, _, _, _, rfl, main _ _ _ _ rfl rfl rfl fun h => Heap.get?_push_size _ rfl⟩
end Mi
end
section
set_option maxRecDepth 100000
set_option maxHeartbeats 4000000
namespace Mi
open PySem PySem.Spec PyProof.Rows L2 GenW Gp

theorem Inv.gens {X : Cx} {pins : List (Addr × Obj)} {σ : L2.St} {H : Hp} {s : Shared} (I : Inv X pins σ H s) {G : Array GenState} (h : AllBare G) : Inv X pins σ H (withG s G) :=
  ⟨I.ok, I.os, h, I.base, I.loc, I.cell, I.free, I.freeC, I.pin, I.hok, I.len⟩
theorem Inv.setg {X : Cx} {pins : List (Addr × Obj)} {σ : L2.St} {H : Hp} {s : Shared} (I : Inv X pins σ H s) {g : Nat} {x : GenState} (h : x.bare = true) : Inv X pins σ H (s.setGen g x) := Inv.gens I (allBare_setGen I.bare h)
theorem Inv.psn {X : Cx} {pins : List (Addr × Obj)} {σ : L2.St} {H : Hp} {s : Shared} (I : Inv X pins σ H s) : Inv X pins σ H (allPsn s) := Inv.gens I (bare_psn I.bare)

/-- the generator's body, from its first line -/
theorem gen_start {g : GSt} {body : List Stmt} {gf : GnF} (hb : GStms g body gf) {LI : LIp} {ds : List D} {env e : Envt} {s : Shared} (he : gf env = (ds, .nx e)) (hI : GIv g LI [] env ds.length s s) :
    Seg (model g.P g.w) g.A (GR g LI) (GY g LI ds) ds.length s (.func body g.env) ((model g.P g.w).den (.func body g.env)) [] s := by
  refine seg_func ?_
  have h := hb.run LI [] g.A ds [] env ds [] (.nx e) s s (.func body g.env) [] (fun f => .pure (.done (.ret (match f with | .ret v => v | _ => .none)))) (fun e => (leaving g.env e).wrap (fun _ => .raise e) .raise id id) id id ⟨over_func, rfl, rfl, rfl⟩ he True.intro (by simp) (by rw [List.append_nil]; exact hI) fun s0' s' f hf => by
    cases f with
    | next => exact seg_end (.ok (.ret .none)) ⟨.inl rfl, rfl, [], e, hf⟩
    | brk => exact hf.elim
    | cont => exact hf.elim
    | ret v => exact hf.elim
  rw [List.append_nil] at h
  exact h
/-- all that it hands out -/
def gfn (np n : Nat) (gf : GnF) : List D → Res (List D) := fun ds => if ds.length = np then (match gf (ds.map Slot.val ++ List.replicate (n - np) Slot.no) with
  | (ys, .nx _) => .ok ys
  | _ => .stuck) else .stuck
/-- a generator def that stands at a name -/
structure GnR (P : Program) (w : World) (K : PySem.W.Frag) (mg : Str → Option Value) (base : Heap) (G : Gc) (k : Nat) (x : Str) (φ : List D → Res (List D)) : Prop where
  ex : ∃ (f : Addr) (fd : FuncData) (ps N : List Str) (nm qual : Str) (params : Arguments) (body : List Stmt) (scope : Scope) (dvs : List V) (kws : List (Str × V)) (gf : GnF) (np n : Nat), mg x = some (.ref f) ∧ PySem.W.keepIn K (.ref f) = true ∧ Binds K fd ps [] ∧
    FunD K nm qual params body scope dvs kws f fd ∧ GScope N ps scope ∧ (∀ m, cellsFrom m scope.names [] = []) ∧ (∀ y, scope.names.lookup y ≠ some .cell ∧ scope.names.lookup y ≠ some .free) ∧ N.length = n ∧ ps.length = np ∧ np ≤ n ∧ φ = gfn np n gf ∧
    ∀ cd n0 A outer a go, Room k (A.deeper (envOfC qual scope n0 f cd)) → GStms ⟨P, w, K, mg, base, N, qual, scope, f, cd, n0, A, outer, a, go, G⟩ body gf
/-- the turns; an error in the body is not told -/
def forG (ga : GF) (body : SF) : List D → Envt → Out
  | [], env => .nx env
  | d :: ds, env => match ga d env with
    | none => .stuck
    | some env1 => match body env1 with
      | .nx e => forG ga body ds e
      | .ct e => forG ga body ds e
      | .bk e => .nx e
      | .rt d e => .rt d e
      | _ => .stuck
def sForG (ga : GF) (it : Envt → Res (List D)) (body : SF) : SF := fun env => match it env with
  | .ok ds => forG ga body ds env
  | .exc c x => .exc c x env
  | .stuck => .stuck
theorem forG_noexc {ga : GF} {body : SF} : ∀ (l : List D) env c x e, forG ga body l env ≠ .exc c x e := by
  intro l
  induction l with
  | nil => intro env c x e h; cases h
  | cons d l ih =>
    intro env c x e h
    unfold forG at h
    split at h
    · cases h
    · split at h
      · exact ih _ _ _ _ h
      · exact ih _ _ _ _ h
      · cases h
      · cases h
      · cases h
section
variable {M : Fm} {X : Cx} {e tg : Expr} {es : List Expr} {pos p cpos : Pos} {af : AF} {body : List Stmt} {sf : SF} {k j : Nat} {x : Str} {φ : List D → Res (List D)} {ga : GF} {ix : List Nat}
/-- the consumer's word about the turns -/
def LIc (X : Cx) (pins : List (Addr × Obj)) (M : Fm) (ga : GF) (sf : SF) (ds : List D) (total : Out) (F : Own) (H1 : Hp) (n0 a : Addr) : LIp := fun Og n s' H' F' =>
  ∃ (σc : L2.St) (envc : Envt) (Mb : Fm), Inv X pins σc H' s' ∧ MbOk M Og H' Mb ∧ EnvOk Mb F' H' envc σc ∧ OgOk M Og H' ∧ forG ga sf (ds.drop (ds.length - n)) envc = total ∧ Fz F H1 F' H' ∧ H' n0 = none ∧ H' a = none ∧ n0 ≤ s'.heap.objs.size
abbrev trF (X : Cx) (pn : List (Addr × Obj)) : Cx := X.tr pn (fun _ _ => False)
theorem cxx_tr {X : Cx} {M : Fm} {k : Nat} (C : Cxx X M k) (pn : List (Addr × Obj)) (M' : Fm) (hG : M'.G = M.G) (hW : M'.W = fun _ _ _ _ => False) : Cxx (trF X pn) M' k :=
  ⟨C.hK.trans (congrArg Gc.K hG.symm), C.calm, C.nd, C.hr, PassesOwn.never, fun u s' ⟨_, _, _, _, _, _, _, _, _, _, _, _, _, _, _, _, z⟩ => by rw [hW] at z; exact z.elim⟩
theorem m_forGen (C : Cxx X M k) (F0 : GnR X.prog X.w X.K X.mg X.base M.G j x φ) (hj : j + 2 ≤ k) (ha : PA X (e :: es) (tA M af))
    (hg : ∀ (pn : List (Addr × Obj)) (M' : Fm), M'.G = M.G → Cxx (trF X pn) M' k → PG (trF X pn) tg (tG M' ix ga)) (hb : ∀ (pn : List (Addr × Obj)) (M' : Fm), M'.G = M.G → NoSt M' → Cxx (trF X pn) M' k → PSs (trF X pn) body (tS M' sf))
    (hgl : Gl X x := by rfl) (hdb : (x == ("__debug__" : Str)) = false := by decide) (he : starEach (e :: es) X.env = (false, eval e X.env) :: starEach es X.env := by rfl) (hpl : (backTo cpos (starEach es X.env)).any (·.1) = false := by rfl)
    (hs : ∀ v, foldedSetIterable (.Call (.Name x p) (e :: es) [] cpos) X.env v = pure v := by intro _; rfl) :
    PS X (.For tg (.Call (.Name x p) (e :: es) [] cpos) body [] pos) (tS M (sForG ga (fun env => (af env).bind φ) sf)) := by
  obtain ⟨f, fd, ps, N, nm, qual, params, gbody, scope, dvs, kws, gf, np, n, hm, hk, hbi, FD, S, hcells, hnk, hN, hnp, hle, rfl, hgb⟩ := F0.ex
  refine ⟨fun pins s σ H D I h => ?_⟩
  obtain ⟨F, env, En, q⟩ := h
  refine wpAny_For ?_ hs
  refine wpAny_Call_Name_kw (ld_glob I hgl hm ?_ hdb)
  have hA : tA M af σ H (fun vs H1 => ∃ ds, af env = .ok ds ∧ Same H H1 ∧ Reps M.G F H1 ds vs) := ⟨F, env, En, by
    cases r : af env with
    | ok ds => exact fun vs H1 s1 hr => ⟨ds, rfl, s1, hr⟩
    | exc c x =>
      have q : spost M F H (match (af env).bind (gfn np n gf) with
        | .ok ds => forG ga sf ds env
        | .exc c x => .exc c x env
        | .stuck => .stuck) D := q
      rw [r] at q
      exact fun cv dd H' s z => q F cv dd σ H' (En.grow s) (Fz.same s) z
    | stuck =>
      have q : spost M F H (match (af env).bind (gfn np n gf) with
        | .ok ds => forG ga sf ds env
        | .exc c x => .exc c x env
        | .stuck => .stuck) D := q
      rw [r] at q
      exact q⟩
  refine PySem.W.callWith_K (h₀ := X.base) I.ok.mod.kin hk (thn (ha.run cpos pins s σ H _ I hA) fun us s1 ⟨vs, H1, I1, r, q1⟩ => ⟨I1.kIn, ?_⟩) he hpl
  obtain ⟨as, eas, sH, hreps⟩ := q1
  have q : spost M F H (sForG ga (fun env => (af env).bind (gfn np n gf)) sf env) D := q
  have q : spost M F H (match (af env).bind (gfn np n gf) with
    | .ok ds => forG ga sf ds env
    | .exc c x => .exc c x env
    | .stuck => .stuck) D := q
  rw [eas] at q
  have q : spost M F H (match gfn np n gf as with
    | .ok ds => forG ga sf ds env
    | .exc c x => .exc c x env
    | .stuck => .stuck) D := q
  unfold gfn at q
  by_cases hlen : as.length = np
  · rw [if_pos hlen] at q
    cases hgf : gf (as.map Slot.val ++ List.replicate (n - np) Slot.no) with
    | mk ds o =>
    rw [hgf] at q
    cases o with
    | nx eg =>
      have q : spost M F H (forG ga sf ds env) D := q
      have hq : spost M F H1 (forG ga sf ds env) D := spost.grow (Fz.same sH) q
      generalize htot : forG ga sf ds env = total at hq
      have En1 := En.grow sH
      have hvl : vs.length = ps.length := by rw [hreps.length, hlen, hnp]
      have hul : us.length = ps.length := by rw [← r.length]; exact hvl
      have hbt := hbi s1 us I1.kIn (by rw [List.append_nil]; exact hul)
      rw [List.append_nil] at hbt
      have hrm : Room (j + 1) X.A := C.hr.mono (by omega)
      refine wpAny_call (codeAny_mono (call_gen (G := M.G) FD S hrm I1.env0 hbt r hvl) fun r s2 hr2 => ?_)
      obtain ⟨cd, a, go, gi, rfl, gm⟩ := hr2
      -- the generator's own data
      generalize hgd : (⟨X.prog, X.w, X.K, X.mg, X.base, N, qual, scope, f, cd, s1.heap.objs.size, X.A.in1, X.stack, a, go, M.G⟩ : GSt) = g at gm
      have gP : g.P = X.prog := by rw [← hgd]
      have gw : g.w = X.w := by rw [← hgd]
      have gn0 : g.n0 = s1.heap.objs.size := by rw [← hgd]
      have ga_ : g.a = a := by rw [← hgd]
      have ggo : g.go = go := by rw [← hgd]
      have gG : g.G = M.G := by rw [← hgd]
      have gA : g.A = X.A.in1 := by rw [← hgd]
      have gout : g.outer = X.stack := by rw [← hgd]
      have gN : g.N = N := by rw [← hgd]
      have sta : GSta g := by
        rw [← hgd]
        refine ⟨S.kind, hcells _, hnk, I1.ok.hd C.calm, I1.ok.frames, fun L hL => ?_, Nat.le_trans I1.ok.bsz I1.sz, by have := gm.na; rw [← hgd] at this; exact this, by have := gm.gc; rw [← hgd] at this; exact this⟩
        rcases List.mem_cons.mp (I1.stkSub L hL) with z | z
        · rw [z]; exact I1.lt
        · obtain ⟨_, o, ho, _⟩ := I1.ok.funs.mem z
          exact Nat.lt_of_lt_of_le (Heap.lt_size ho) I1.sz
      have gst : GStms g gbody gf := by
        rw [← hgd]
        refine hgb cd _ _ _ _ _ ?_
        have hr := C.hr
        exact ⟨I1.ok.hd C.calm, by have := hr.dp; show X.A.depth + 1 + 3 * j + 5 < _; omega, by have := hr.un; show X.A.units + 1 + 3 + 16 * j + 200 < _; omega⟩
      have isg : ∀ h : Heap, h.get? a = some go → h.IsGen a gi := fun h e => by
        have := gm.isg h; rw [ga_, ggo] at this; exact this e
      have at2 : s2.heap.get? a = some go := by have := gm.at_; rw [ga_, ggo] at this; exact this
      have na : g.n0 < a := by have := gm.na; rw [ga_] at this; exact this
      have hgi : gi = s1.gens.size := gm.gi
      have bare2 : AllBare s2.gens := by
        rw [gm.gens]
        intro y hy
        rcases Array.mem_push.mp hy with z | z
        · exact I1.bare y z
        · rw [z]; rfl
      have hok2 : HOk X.prog X.w H1 s2.heap := HOk.kept I1.hok gm.keep
      have I2 : Inv X pins σ H1 s2 := I1.call' (ch := []) gm.os (Un.kept gm.keep) hok2 bare2 fun b hb => by cases hb
      have hn0 : H1 g.n0 = none := by rw [gn0]; exact I1.hok.fresh (Nat.le_refl _)
      have hHa : H1 a = none := I1.hok.fresh (by rw [← gn0]; exact Nat.le_of_lt na)
      have hl0 : X.env.locals < g.n0 := by rw [gn0]; exact I1.lt
      have hs0 : X.s_0.heap.objs.size ≤ g.n0 := by rw [gn0]; exact I1.sz
      have hc0 : ∀ x c, X.env.cells.lookup x = some c → c < g.n0 := fun x c e => by
        obtain ⟨v, z⟩ := I1.cell x c e
        rw [gn0]; exact z.lt
      have hp0 : ∀ p ∈ X.pn ++ pins, p.1 < g.n0 := fun p hp => by rw [gn0]; exact Heap.lt_size (I1.pin p hp).1
      have hfsn : g.n0 ∉ X.fs := by rw [gn0]; exact I1.nofs (Nat.le_refl _)
      have hfsa : a ∉ X.fs := I1.nofs (by rw [← gn0]; exact Nat.le_of_lt na)
      obtain ⟨gnm, gvs, gcl, gda, rfl⟩ := gm.fo
      rw [ggo] at gcl gda
      refine wpAny_pyIter_gen (isg _ at2) ?_
      let LI : LIp := LIc X pins M ga sf ds total F H1 g.n0 a
      refine codeAny_forLoop_any (fun n s' => ∃ gs, s'.gens[gi]? = some gs ∧ gs.Goes (model X.prog X.w) X.A.in1 (GR g LI) (GY g LI ds) n (.send .none) (s'.setGen gi .running) ∧ s'.heap.NoLimit ∧ s'.heap.get? a = some go) ?_ ds.length ?_
      · -- a turn
        rintro n3 s3 ⟨gs, hgs, hgo, hlim, hat⟩
        have hlt : gi + 1 ≤ s3.gens.size := (Array.getElem?_eq_some_iff.mp hgs).1
        refine wpAny_gsz (n := gi + 1) hlt ?_
        refine next_genS (F := fun n s0 s => n = 0 ∧ ∃ pn env, GIv g LI pn env 0 s0 s) (I1.ok.hd C.calm) hlim ?_ (isg _ hat) hgs hgo (fun v s4 gs' hslp hbare hv hsz => ?_) (fun s4 hfin h' hk' hsz => ?_)
        · have := C.hr.dp; omega
        · -- an item
          obtain ⟨pre, d, rest, Og, H', F', Mg, Fg, σg, Hg, x, envg, png, eds, en, hLI, mo, J, Eg, rx, rd, pge, hkap⟩ := hv
          obtain ⟨σc, envc, Mb, I3, mb, ec, ogok, hfor, fz, hn0', hHa', hsz'⟩ := hLI
          have hl' : ds.length - (n3 - 1 + 1) = pre.length := by rw [en, eds, List.length_append, List.length_cons]; omega
          have hdrop : ds.drop (ds.length - (n3 - 1 + 1)) = d :: rest := by rw [hl', eds, List.drop_left]
          have hl2 : ds.length - (n3 - 1) = pre.length + 1 := by rw [en, eds, List.length_append, List.length_cons]; omega
          have hdrop2 : ds.drop (ds.length - (n3 - 1)) = rest := by rw [hl2, eds, ← List.drop_drop, List.drop_left]; rfl
          rw [hdrop] at hfor
          obtain ⟨Og1, F2, Mb1, M1, mb1, ec1, og1, mo1, eg1, z1, z2⟩ := gen_ran gG mb ec ogok mo Eg
          have I4 : Inv X pins σc Hg s4 := gcx_back gP.symm gw.symm gout I3 J hsz' hs0 hl0 hc0 hp0
          have I5 : Inv X pins σc Hg (s4.setGen gi gs') := Inv.setg I4 hbare
          have Jp : s4.heap.get? a = some go ∧ Hg a = none := by
            have z := J.pin (g.a, g.go) (by show _ ∈ [(g.a, g.go)] ++ png; simp)
            rw [ga_, ggo] at z; exact ⟨z.1, z.2.1⟩
          have gol : ∀ w, go.data ≠ .cell w := by have := sta.gc; rw [ggo] at this; exact this
          obtain ⟨oL, hoL, hoLc, hHn⟩ : ∃ oL, s4.heap.get? g.n0 = some oL ∧ (∀ w, oL.data ≠ .cell w) ∧ Hg g.n0 = none := by
            obtain ⟨mm, hns, _⟩ := J.loc
            obtain ⟨oL, es, ep, ho, hd, _⟩ := hns
            exact ⟨oL, ho, fun w e => (by rw [hd] at e; cases e), J.free⟩
          let pn : List (Addr × Obj) := (g.n0, oL) :: (a, go) :: (png ++ pins)
          have I6 : Inv X pn σc Hg (s4.setGen gi gs') := I5.pins_of fun p hp => by
            rcases List.mem_cons.mp hp with e | hp
            · rw [e]; exact ⟨hoL, hHn, Nat.ne_of_gt hl0, hfsn, hoLc⟩
            · rcases List.mem_cons.mp hp with e | hp
              · rw [e]; exact ⟨Jp.1, Jp.2, Nat.ne_of_gt (Nat.lt_trans hl0 na), hfsa, gol⟩
              · rcases List.mem_append.mp hp with hp | hp
                · have z := J.pin p (List.mem_append_right _ hp)
                  exact ⟨z.1, z.2.1, Nat.ne_of_gt (Nat.lt_of_lt_of_le hl0 (pge p hp)), I1.nofs (by rw [← gn0]; exact pge p hp), z.2.2.2.2⟩
                · exact I5.pin p (List.mem_append_right _ hp)
          have I6t : Inv (trF X (X.pn ++ pn)) [] σc Hg (allPsn (s4.setGen gi gs')) := Inv.psn (I6.toTry fun _ _ => False)
          have Ct : Cxx (trF X (X.pn ++ pn)) Mb1 k := cxx_tr C _ Mb1 mb1.1 mb1.2.2.2.2.1
          have g5 : (s4.setGen gi gs').gens[gi]? = some gs' := by
            have : gi < s4.gens.size := by have := hsz; unfold Shared.setGen at this; simp at this; omega
            unfold Shared.setGen; simp [this]
          refine go_of (o := go) (s := s4.setGen gi gs') Jp.1 gcl gda (by decide) ?_
          cases hga : ga d envc with
          | none =>
            unfold forG at hfor
            rw [hga] at hfor
            rw [← hfor] at hq
            exact hq.elim
          | some env1 =>
            have hfor : (match sf env1 with
              | .nx e => forG ga sf rest e
              | .ct e => forG ga sf rest e
              | .bk e => .nx e
              | .rt d e => .rt d e
              | _ => .stuck) = total := by
              unfold forG at hfor
              rw [hga] at hfor
              exact hfor
            have h5 := (hg _ Mb1 mb1.1 Ct).run [] (allPsn (s4.setGen gi gs')) σc Hg x v (fun σ' H'' => EnvOk Mb1 F2 Hg env1 σ' ∧ H'' = Hg) I6t rx ⟨F2, envc, d, ec1, (by rw [mb1.1, ← gG]; exact rd.mono z1), by rw [hga]; exact fun σ' e _ => ⟨e, rfl⟩⟩
            refine wpAny_mono (wpAny_sim h5) (fun _ s6 ⟨⟨t6, G6, e6, r6, σ6, H6, J6, q6, eH6⟩, k6⟩ => ?_) fun _ _ z => (by obtain ⟨⟨_, _, _, _, z⟩, _⟩ := z; exact z.elim)
            rw [eH6] at J6
            have J6' : Inv (trF X (X.pn ++ pn)) [] σ6 Hg s6 := by rw [e6]; exact Inv.gens J6 (bare_arel r6 J6.bare)
            let D' : Ends := { nx := fun σ' H2 => ∃ e F2', sf env1 = .nx e ∧ EnvOk Mb1 F2' H2 e σ' ∧ Fz F2 Hg F2' H2, rt := fun v H2 => ∃ e d F2' σ', sf env1 = .rt d e ∧ EnvOk Mb1 F2' H2 e σ' ∧ Fz F2 Hg F2' H2 ∧ Rep Mb1.G F2' H2 d v, bk := fun σ' H2 => ∃ e F2', sf env1 = .bk e ∧ EnvOk Mb1 F2' H2 e σ' ∧ Fz F2 Hg F2' H2, ct := fun σ' H2 => ∃ e F2', sf env1 = .ct e ∧ EnvOk Mb1 F2' H2 e σ' ∧ Fz F2 Hg F2' H2 }
            have h6 := (hb _ Mb1 mb1.1 (fun cv dd σ σ' H z => by rw [mb1.2.2.2.2.1] at z; exact z.elim) Ct).run [] (allPsn s6) σ6 Hg D' (Inv.psn J6') ⟨F2, env1, q6, by
              cases r : sf env1 with
              | nx e => exact fun F7 σ7 H7 E z => ⟨e, F7, r, E, z⟩
              | ct e => exact fun F7 σ7 H7 E z => ⟨e, F7, r, E, z⟩
              | bk e => exact fun F7 σ7 H7 E z => ⟨e, F7, r, E, z⟩
              | rt d e => exact fun F7 v σ7 H7 E z w => ⟨e, d, F7, σ7, r, E, z, w⟩
              | exc c x e => rw [r] at hfor; rw [← hfor] at hq; exact hq.elim
              | stuck => rw [r] at hfor; rw [← hfor] at hq; exact hq.elim⟩
            refine wpAny_mono (wpAny_sim h6) (fun fl s7 ⟨⟨t7, G7, e7, r7, q7⟩, k7⟩ => ?_) fun _ _ z => (by obtain ⟨⟨_, _, _, _, z⟩, _⟩ := z; exact z.elim)
            have g7 : s7.gens[gi]? = some gs' := k7 _ _ hslp (k6 _ _ hslp g5)
            have back : ∀ {σ7 : L2.St} {H7 : Hp}, Inv (trF X (X.pn ++ pn)) [] σ7 H7 t7 → Inv X pn σ7 H7 s7 := fun J => by
              rw [e7]; exact (Inv.gens J (bare_arel r7 J.bare)).ofTry I6.ok
            have again : ∀ {σ7 : L2.St} {H7 : Hp} {F7 : Own} {e : Envt}, Inv X pn σ7 H7 s7 → EnvOk Mb1 F7 H7 e σ7 → Fz F2 Hg F7 H7 → forG ga sf rest e = total → ∃ m, m < n3 ∧ ∃ gs, s7.gens[gi]? = some gs ∧ gs.Goes (model X.prog X.w) X.A.in1 (GR g LI) (GY g LI ds) m (.send .none) (s7.setGen gi .running) ∧ s7.heap.NoLimit ∧ s7.heap.get? a = some go := fun {σ7 H7 F7 e} I7 E7 z7 hf => by
              obtain ⟨og7, mb7, M7, mo7, eg7⟩ := body_ran mb1 og1 E7 z7 mo1 eg1
              have p1 := I7.pin (g.n0, oL) (List.mem_append_right _ List.mem_cons_self)
              have p2 := I7.pin (a, go) (List.mem_append_right _ (List.mem_cons_of_mem _ List.mem_cons_self))
              have I7' : Inv X pins σ7 H7 (s7.setGen gi .running) := Inv.setg (I7.pins_of fun p hp => I7.pin p (List.mem_append_right _ (List.mem_cons_of_mem _ (List.mem_cons_of_mem _ (List.mem_append_right _ hp))))) rfl
              have hn7 : g.n0 ≤ s7.heap.objs.size := Nat.le_of_lt (Heap.lt_size p1.1)
              have gi7 : GIv g LI png envg (n3 - 1) (s7.setGen gi .running) (s7.setGen gi .running) :=
                ⟨Og1, H7, F7, M7, F7, σg, H7, ⟨σ7, e, Mb1, I7', mb7, E7, og7, by rw [hdrop2]; exact hf, (fz.trans z2).trans z7, p1.2.1, p2.2.1, hn7⟩, mo7,
                  gcx_inv (s' := s7.setGen gi .running) (pn := png) sta ((Inv.gloc J).at sta fun o ho => by rw [hoL] at ho; cases ho; exact p1.1) (by rw [← hgd]; exact ⟨I7'.env0.frames, I7'.env0.mod, I7'.env0.bs, I7'.env0.bsz, I7'.env0.funs, I7'.env0.frf, I7'.env0.hok, I7'.env0.bare⟩) p1.2.1 (by rw [ga_, ggo]; exact p2.1) (by rw [ga_]; exact p2.2.1) hn7 (fun p hp => by
                    have z := I7.pin p (List.mem_append_right _ (List.mem_cons_of_mem _ (List.mem_cons_of_mem _ (List.mem_append_left _ hp))))
                    have y := J.pin p (List.mem_append_right _ hp)
                    exact ⟨z.1, z.2.1, Nat.lt_of_le_of_ne (pge p hp) (Ne.symm y.2.2.1), z.2.2.2.2⟩), eg7, pge, hn7⟩
              have kk := hkap _ gi7
              cases n3 with
              | zero => exact kk.elim
              | succ m => exact ⟨m, Nat.lt_succ_self _, gs', g7, kk, I7.ok.mod.nolimit.keeps fun b o e => (I7'.env0.bs b o e).1, p2.1⟩
            have out : ∀ {σ7 : L2.St} {H7 : Hp} {F7 : Own} {e : Envt}, Inv X pn σ7 H7 s7 → EnvOk Mb1 F7 H7 e σ7 → Fz F2 Hg F7 H7 → Inv X pins σ7 H7 s7 ∧ EnvOk M F7 H7 e σ7 ∧ Fz F H1 F7 H7 := fun {σ7 H7 F7 e} I7 E7 z7 => by
              obtain ⟨og7, mb7, _⟩ := body_ran mb1 og1 E7 z7 mo1 eg1
              exact ⟨I7.pins_of fun p hp => I7.pin p (List.mem_append_right _ (List.mem_cons_of_mem _ (List.mem_cons_of_mem _ (List.mem_append_right _ hp)))), E7.ofMb mb7 og7, (fz.trans z2).trans z7⟩
            cases fl with
            | next =>
              obtain ⟨σ7, H7, J7, e, F7, r, E7, z7⟩ := q7
              rw [r] at hfor
              exact again (back J7) E7 z7 hfor
            | cont =>
              obtain ⟨σ7, H7, J7, e, F7, r, E7, z7⟩ := q7
              rw [r] at hfor
              exact again (back J7) E7 z7 hfor
            | brk =>
              obtain ⟨σ7, H7, J7, e, F7, r, E7, z7⟩ := q7
              rw [r] at hfor
              rw [← hfor] at hq
              obtain ⟨I8, E8, z8⟩ := out (back J7) E7 z7
              exact ⟨σ7, H7, I8, hq F7 σ7 H7 E8 z8⟩
            | ret u =>
              obtain ⟨v7, σ7, H7, J7, rv, e, d', F7, σ8, r, E7, z7, rd7⟩ := q7
              rw [r] at hfor
              rw [← hfor] at hq
              obtain ⟨og7, mb7, _⟩ := body_ran mb1 og1 E7 z7 mo1 eg1
              have I7 := back J7
              exact ⟨v7, σ7, H7, I7.pins_of fun p hp => I7.pin p (List.mem_append_right _ (List.mem_cons_of_mem _ (List.mem_cons_of_mem _ (List.mem_append_right _ hp)))), rv, hq F7 v7 σ8 H7 (E7.ofMb mb7 og7) ((fz.trans z2).trans z7) (by rw [← mb1.1]; exact rd7)⟩
        · -- none
          obtain ⟨en, png, envg, Og, H', F', Mg, Fg, σg, Hg, hLI, mo, J, Eg, _⟩ := hfin
          obtain ⟨σc, envc, Mb, I3, mb, ec, ogok, hfor, fz, hn0', hHa', hsz'⟩ := hLI
          obtain ⟨Og1, F2, Mb1, M1, mb1, ec1, og1, mo1, eg1, z1, z2⟩ := gen_ran gG mb ec ogok mo Eg
          have I4 : Inv X pins σc Hg s4 := gcx_back gP.symm gw.symm gout I3 J hsz' hs0 hl0 hc0 hp0
          have I5 : Inv X pins σc Hg (s4.setGen gi .finished) := Inv.setg I4 rfl
          have I6 : Inv X pins σc Hg { s4.setGen gi .finished with heap := h' } := I5.call' (ch := []) rfl (Un.kept hk') (HOk.kept I5.hok hk') I5.bare fun b hb => by cases hb
          have hd : ds.drop (ds.length - 0) = [] := by simp
          rw [hd] at hfor
          rw [← hfor] at hq
          exact wpAny_execs_nil ⟨σc, Hg, I6, hq F2 σc Hg (ec1.ofMb mb1 og1) (fz.trans z2)⟩
      · -- the start
        have gsz : s2.gens[gi]? = some (.fresh (.func gbody g.env)) := by rw [gm.gens, hgi]; exact Array.getElem?_push_size
        refine ⟨_, gsz, ⟨rfl, ?_⟩, gm.lim, at2⟩
        have Ogk : OgOk M [] H1 := fun a h => by cases h
        obtain ⟨Mb, mb⟩ := mb_ex M Ogk
        obtain ⟨Mg, mo⟩ := mok_ex g (Og := []) (F := F) (H := H1) En1.dom
        have I2' : Inv X pins σ H1 (s2.setGen gi .running) := Inv.setg I2 rfl
        have e6 : Mg.F0 = F := by rw [mo.2.2.2.1]; funext x; exact propext ⟨fun z => z.1, fun z => ⟨z, by simp⟩⟩
        have e7 : Mg.H0 = H1 := by rw [mo.2.2.2.2.1]; funext x; rw [if_neg (by simp)]
        have es := env_start (M := Mg) (N := N) mo.2.1 e7 (ds := as) (vs := vs) (by rw [mo.1, gG, e6]; exact hreps) (by rw [hlen, hN]; exact hle)
        rw [e6, hlen, hN] at es
        have hn2 : g.n0 ≤ s2.heap.objs.size := Nat.le_of_lt (Nat.lt_trans na (Heap.lt_size at2))
        have gi0 : GIv g LI [] (as.map Slot.val ++ List.replicate (n - np) Slot.no) ds.length (s2.setGen gi .running) (s2.setGen gi .running) :=
          ⟨[], H1, F, Mg, F, L2.start N vs, H1, ⟨σ, env, Mb, I2', mb, En1.toMb mb, Ogk, by rw [Nat.sub_self]; exact htot, fun _ _ h e => ⟨h, e⟩, hn0, hHa, hn2⟩, mo,
            gcx_inv (s' := s2.setGen gi .running) (pn := []) sta gm.loc (by rw [← hgd]; exact ⟨I2'.env0.frames, I2'.env0.mod, I2'.env0.bs, I2'.env0.bsz, I2'.env0.funs, I2'.env0.frf, I2'.env0.hok, I2'.env0.bare⟩) hn0 (by rw [ga_, ggo]; exact at2) (by rw [ga_]; exact hHa) hn2 (fun p hp => by cases hp), es, (fun p hp => by cases hp), hn2⟩
        have st := gen_start gst (LI := LI) hgf gi0
        rw [gP, gw, gA] at st
        exact st
    | _ => exact q.elim
  · rw [if_neg hlen] at q
    exact q.elim
end
end Mi
end
section
set_option maxRecDepth 100000
set_option maxHeartbeats 4000000
namespace Mi
open PySem PySem.Spec PyProof.Rows L2 GenW Gp
/-! ## small things for the printed texts -/
theorem look_no {sc : Scope} (h : sc.names.all (fun p => decide (p.2 ≠ .cell ∧ p.2 ≠ .free)) = true) (y : Str) : sc.names.lookup y ≠ some .cell ∧ sc.names.lookup y ≠ some .free := by
  have key : ∀ k, sc.names.lookup y = some k → k ≠ .cell ∧ k ≠ .free := fun k e => by
    have : ∀ l : List (Str × NameKind), l.lookup y = some k → ∃ p ∈ l, p.2 = k := by
      intro l
      induction l with
      | nil => intro e; cases e
      | cons p l ih =>
        intro e
        obtain ⟨a, b⟩ := p
        rw [List.lookup_cons] at e
        split at e
        · exact ⟨_, List.mem_cons_self, Option.some.inj e⟩
        · obtain ⟨p, hp, q⟩ := ih e
          exact ⟨p, List.mem_cons_of_mem _ hp, q⟩
    obtain ⟨p, hp, q⟩ := this _ e
    have := of_decide_eq_true (List.all_eq_true.mp h p hp)
    rw [q] at this; exact this
  exact ⟨fun e => (key _ e).1 rfl, fun e => (key _ e).2 rfl⟩
section
variable {P : Program} {w : World} {K : PySem.W.Frag} {mg : Str → Option Value} {base : Heap} {G : Gc}
theorem fn_stuck {k : Nat} {f : Addr} {fd : FuncData} {ps : List Str} : FnOk P w K mg base (L2.CX P w) k f fd ps (spN G fun _ => .stuck) :=
  ⟨fun vs H Q E ⟨_, _, _, _, z⟩ => z.elim, fun A outer s H args us vs Q E _ _ _ _ ⟨_, _, _, _, z⟩ => z.elim⟩
theorem gcxx {N ps : List Str} {qual : Str} {scope : Scope} {f : Addr} {cd : Value} {n0 : Addr} {A : Around} {outer : List Env} {a : Addr} {go : Obj} {k : Nat} (S : GScope N ps scope) (hr : Room k (A.deeper (envOfC qual scope n0 f cd))) (hK : K = G.K) (s0 : Shared) (H0 : Hp) (M : Fm) (hG : M.G = G) (hW : M.W = fun _ _ _ _ => False) :
    Cxx (gcx ⟨P, w, K, mg, base, N, qual, scope, f, cd, n0, A, outer, a, go, G⟩ s0 H0) M k :=
  ⟨hK.trans (congrArg Gc.K hG.symm), rfl, S.nd, hr, PassesOwn.never, fun u s' ⟨_, _, _, _, _, _, _, _, _, _, _, _, _, _, _, _, z⟩ => by rw [hW] at z; exact z.elim⟩
theorem nost {M : Fm} (hW : M.W = fun _ _ _ _ => False) : NoSt M := fun cv dd σ σ' H z => by rw [hW] at z; exact z.elim
end
end Mi
end
section
set_option maxRecDepth 100000
set_option maxHeartbeats 4000000
namespace Mi
open PySem PySem.Spec PyProof.Rows L2 He

/-! ## what the head tells -/
def dc (a b : Option (Option Value)) : Bool := decide (a = b)
/-- C.f is the whole number i -/
def rdB (K : PySem.W.Frag) (C : Addr) (f : Str) (i : Int) : Bool := PySem.W.readsIn K C (.type "type") && (dc (PySem.W.specialIn K (.ref C) "__getattribute__") (some (some (.builtin "type.__getattribute__"))) && (match PySem.W.findCls K (.ref C) (.type "type") f with
  | some (.val (.int j _)) => decide (j = i)
  | _ => false))
theorem rdB_ok {K : PySem.W.Frag} {C : Addr} {f : Str} {i : Int} (h : rdB K C f i = true) : ClX.CRead K C (.type "type") ∧ ∃ t, ClX.CVal K C (.type "type") f (.int i) (.int i t) := by
  obtain ⟨h1, hh⟩ := ba h
  obtain ⟨h2, h3⟩ := ba hh
  have g2 := of_decide_eq_true h2
  split at h3
  · rename_i j t e
    have := of_decide_eq_true h3
    subst this
    exact ⟨⟨h1, g2⟩, t, ⟨e, ⟨t, rfl⟩⟩⟩
  · cases h3
def eiB (K : PySem.W.Frag) (D : Addr) : Bool := (PySem.W.clsIn K D).isSome && (dc (PySem.W.findIn K (.ref D) "__getattribute__") (some (some (.builtin "BaseException.__getattribute__"))) && (dc (PySem.W.findIn K (.ref D) "__getattr__") (some none) && (decide (PySem.W.subIn K (.ref D) (.type "BaseException") = some true) &&
  (dc (PySem.W.findIn K (.ref D) "__class__") (some (some (.builtin "object.__class__"))) && (dc (PySem.W.specialIn K (.builtin "object.__class__") "__get__") (some (some (.builtin "getset_descriptor.__get__"))) && (decide (PySem.W.takesIn K (.builtin "object.__class__") = some true) && decide (PySem.W.mroIn K D (.type "object") = some true)))))))
theorem eiB_ok {K : PySem.W.Frag} {D : Addr} (h : eiB K D = true) : ExI K D := by
  obtain ⟨h1, h⟩ := ba h
  obtain ⟨h2, h⟩ := ba h
  obtain ⟨h3, h⟩ := ba h
  obtain ⟨h4, h⟩ := ba h
  obtain ⟨h5, h⟩ := ba h
  obtain ⟨h6, h⟩ := ba h
  obtain ⟨h7, h8⟩ := ba h
  exact ⟨h1, of_decide_eq_true h2, of_decide_eq_true h3, of_decide_eq_true h4, of_decide_eq_true h5, of_decide_eq_true h6, of_decide_eq_true h7, of_decide_eq_true h8⟩
def oexB (K : PySem.W.Frag) (C : Addr) : Bool := (match K.lookup C with
  | some ⟨.type t, _, .cls cd, sl⟩ => decide (t = "type") && (match cd.mro, sl.toList with
    | .ref C' :: bm, [_, _, _, _, some (.builtin n), _] => decide (C' = C) && (decide (n = "ValueError.__new__") && (!cd.hasDel && (cd.hasDict && PySem.HandSPX.refsVE bm)))
    | _, _ => false)
  | _ => false) && (dc (PySem.W.findIn K (.ref C) "__setattr__") (some (some (.builtin "object.__setattr__"))) && (decide (PySem.W.subIn K (.ref C) (.type "BaseException") = some true) && (decide (PySem.W.typeIn K (.ref C) = some (.type "type")) && PySem.W.keepIn K (.ref C))))
theorem oexB_ok {K : PySem.W.Frag} {C : Addr} (h : oexB K C = true) : OexC K C := by
  obtain ⟨h1, h⟩ := ba h
  obtain ⟨h2, h⟩ := ba h
  obtain ⟨h3, h⟩ := ba h
  obtain ⟨h4, h5⟩ := ba h
  refine ⟨?_, of_decide_eq_true h2, of_decide_eq_true h3, of_decide_eq_true h4, h5⟩
  split at h1
  · rename_i t dd cd sl ho
    obtain ⟨ht, h1⟩ := ba h1
    have ht' := of_decide_eq_true ht
    first | subst ht' | skip
    split at h1
    · rename_i C' bm k0 k1 k2 k3 n k5 hm hs
      obtain ⟨_, q⟩ := ba h1
      obtain ⟨q1, q⟩ := ba q
      obtain ⟨q2, q⟩ := ba q
      obtain ⟨q3, q⟩ := ba q
      obtain ⟨q4, q5⟩ := ba q
      have e1 := of_decide_eq_true q1
      have e2 := of_decide_eq_true q2
      first | subst e1 e2 | (subst e1; first | subst e2 | skip)
      obtain ⟨nm, bs, mro, ns, qn, hd, sn, sub, ab, col, del⟩ := cd
      dsimp only at hm q3 q4
      subst hm q4
      have q3' : del = false := by simpa using q3
      subst q3'
      have hsl : sl = #[k0, k1, k2, k3, some (.builtin "ValueError.__new__"), k5] := by
        obtain ⟨l⟩ := sl
        simp only at hs
        rw [hs]
      subst hsl
      exact ⟨nm, qn, ns, bs, bm, sn, sub, ab, col, dd, k0, k1, k2, k3, k5, ho, q5⟩
    · cases h1
  · cases h1

/-- facts by names -/
inductive Fb where
  | fa (f : He.Fa)
  | rd (C f : Str) (i : Int)
  | ei (x : Str)
  | kc (x y : Str) (b : Bool)
  | kt (x : Str) (T : String) (b : Bool)
  | xf (x : Str)
def Fb.ok (K : PySem.W.Frag) : Fb → Bool
  | .fa f => f.ok K
  | .rd C f i => rdB K (ga K C) f i
  | .ei x => eiB K (ga K x)
  | .kc x y b => decide (PySem.W.kitOne K (.ref (ga K x)) (.ref (ga K y)) = some b)
  | .kt x T b => decide (PySem.W.kitOne K (.ref (ga K x)) (.type T) = some b)
  | .xf x => xfB K (ga K x)
/-- an error's __init__ -/
structure XD where
  cls : Str
  fld : Str
  slf : Str
  wn : Str
  name : Str
  qual : Str
  params : Arguments
  body : List Stmt
  scope : Scope
abbrev XW : Type := Option (Str × Str × Arguments × FuncBody × Scope × Addr × List Str × Addr)
def xW (K : PySem.W.Frag) (x : Str) : XW := match K.lookup (ma K (ga K x) "__init__") with
  | some ⟨_, _, .func fd, _⟩ => some (fd.name, fd.qualname, fd.params, fd.body, fd.scope, fd.globals, fd.closure.map (·.1), fd.builtins)
  | _ => none
def XD.val (d : XD) : XW := some (d.name, d.qual, d.params, .stmts d.body, d.scope, mainGlobals, ["__class__"], builtinsNs)
def noneB : Value → Bool
  | .none => true
  | _ => false
theorem noneB_ok {v : Value} (h : noneB v = true) : v = .none := by cases v <;> first | rfl | cases h
def fileB (file : Str) (vs : Array Value) : Bool := match vs[2]? with
  | some (Value.str f _) => (file == f)
  | _ => false
def XD.ok (file : Str) (K : PySem.W.Frag) (d : XD) : Bool := (match K.lookup (ma K (ga K d.cls) "__init__") with
  | some ⟨_, _, .func fd, _⟩ => (match fd.code, fd.closure with
    | .ref cda, [(_, cc)] => noneB fd.defaults && (PySem.W.codeIn K (.ref cda) d.qual && ((match K.lookup cda with
      | some ⟨_, _, .fields vs, _⟩ => fileB file vs
      | _ => false) && (match K.lookup cc with
      | some ⟨_, _, .cell (some (.ref C')), _⟩ => decide (C' = ga K d.cls)
      | _ => false)))
    | _, _ => false)
  | _ => false) && (dc (PySem.W.ks_superIn K (ga K d.cls) (ga K d.cls) "__init__") (some (some (.builtin "ValueError.__init__"))) && (decide (PySem.W.subIn K (.ref (ga K d.cls)) (.type "ValueError") = some true) && (decide (PySem.W.mroIn K (ga K d.cls) (.ref (ga K d.cls)) = some true) &&
    (dc (PySem.W.nsIn K cStatics "thirdparty.any") (some none) && (oexB K (ga K d.cls) && (dc (PySem.W.findIn K (.ref (ga K d.cls)) d.fld) (some none) && (dc (PySem.W.findIn K (.ref (ga K d.cls)) "__init__") (some (some (.ref (ma K (ga K d.cls) "__init__")))) &&
    decide (PySem.W.typeIn K (.ref (ma K (ga K d.cls) "__init__")) = some (.type "function")))))))))
/-- what the text of such a def says by itself -/
structure XTx (P : Program) (d : XD) : Prop where
  ar : ∃ a, (d.params.posonlyargs ++ d.params.args).head? = some a ∧ a.arg = d.slf
  kind : d.scope.kind = .function
  co : d.scope.isCoroutine = false
  gen : d.scope.isGenerator = false
  nself : d.scope.names.lookup d.slf = some .local
  nwn : d.scope.names.lookup d.wn = some .local
  nsup : d.scope.names.lookup ("super" : Str) = some .globalImplicit
  ncls : d.scope.names.lookup ("__class__" : Str) = some .free
  nocell : ∀ x ∈ d.scope.names, x.2 ≠ .cell
  onlycls : ∀ x, (d.scope.names.lookup x = some .cell ∨ d.scope.names.lookup x = some .free) → x = "__class__"
  ne : d.slf ≠ d.wn
  top : (P.main.scope.names.lookup ("super" : Str)).isSome = false
  bind : ∀ (kV doc pm : Value) (an : Option Addr) (cdv ct : Value) (cc : Addr) (us : List Value), us.length = 2 → bindArgs (PySem.W.ksFn d.name d.qual d.params d.body d.scope .none kV doc pm an cdv ct cc) ⟨us, []⟩ = pure ([d.slf, d.wn].zip us)
theorem only_cls {sc : Scope} (h : sc.names.all (fun p => decide (p.2 = .cell ∨ p.2 = .free) == false || decide (p.1 = "__class__")) = true) (x : Str) (e : sc.names.lookup x = some .cell ∨ sc.names.lookup x = some .free) : x = "__class__" := by
  have key : ∀ k, sc.names.lookup x = some k → (x, k) ∈ sc.names := fun k e => by
    have : ∀ l : List (Str × NameKind), l.lookup x = some k → (x, k) ∈ l := by
      intro l
      induction l with
      | nil => intro e; cases e
      | cons p l ih =>
        intro e
        obtain ⟨a, b⟩ := p
        rw [List.lookup_cons] at e
        split at e
        · rename_i hq
          have : x = a := by simpa using hq
          rw [this, ← Option.some.inj e]; exact List.mem_cons_self
        · exact List.mem_cons_of_mem _ (ih e)
    exact this _ e
  rcases e with e | e
  · have := List.all_eq_true.mp h _ (key _ e)
    simpa using this
  · have := List.all_eq_true.mp h _ (key _ e)
    simpa using this
theorem XD.xin {P : Program} {file : Str} {K : PySem.W.Frag} {d : XD} (hf : P.main.file = file) (T : XTx P d) (e : xW K d.cls = d.val) (c : d.ok file K = true) :
    ∃ cda cc fd, XIn P K (ga K d.cls) (ma K (ga K d.cls) "__init__") cda cc fd d.name d.qual d.params d.body d.scope d.slf d.wn d.fld ∧ Binds K fd [d.slf, d.wn] [] ∧ OexC K (ga K d.cls) ∧ PySem.W.findIn K (.ref (ga K d.cls)) "__init__" = some (some (.ref (ma K (ga K d.cls) "__init__"))) ∧ PySem.W.typeIn K (.ref (ma K (ga K d.cls) "__init__")) = some (.type "function") := by
  obtain ⟨c0, c⟩ := ba c
  obtain ⟨c1, c⟩ := ba c
  obtain ⟨c2, c⟩ := ba c
  obtain ⟨c3, c⟩ := ba c
  obtain ⟨c4, c⟩ := ba c
  obtain ⟨c5, c⟩ := ba c
  obtain ⟨c6, c⟩ := ba c
  obtain ⟨c7, c8⟩ := ba c
  unfold xW at e
  cases q : K.lookup (ma K (ga K d.cls) "__init__") with
  | none => rw [q] at e; cases e
  | some o =>
    obtain ⟨oc, od, dt, osl⟩ := o
    rw [q] at c0 e
    cases dt with
    | func fd =>
      obtain ⟨n1, n2, n3, n4, n5, n6, n7, n8, n9, n10, n11, n12, n13, n14, n15⟩ := fd
      have e2 : (some (n1, n2, n3, n4, n5, n6, n7.map (·.1), n15) : XW) = some (d.name, d.qual, d.params, FuncBody.stmts d.body, d.scope, mainGlobals, [("__class__" : Str)], builtinsNs) := e
      simp only [Option.some.injEq, Prod.mk.injEq] at e2
      obtain ⟨h1, h2, h3, h4, h5, h6, h7, h8⟩ := e2
      subst h1 h2 h3 h4 h5 h6 h8
      dsimp only at c0
      cases n7 with
      | nil => cases h7
      | cons p l =>
        obtain ⟨nm, cc⟩ := p
        cases l with
        | cons _ _ => cases h7
        | nil =>
          have hnm : nm = "__class__" := by simpa using h7
          subst hnm
          cases n13 with
          | ref cda =>
            dsimp only at c0
            obtain ⟨k0, k1⟩ := ba c0
            have k0 := noneB_ok k0
            subst k0
            obtain ⟨k1, k2⟩ := ba k1
            obtain ⟨k2, k3⟩ := ba k2
            refine ⟨cda, cc, _, ⟨⟨oc, od, osl, .none, n9, n10, n11, n12, n14, q, rfl⟩, k1, ?_, ?_, of_decide_eq_true c1, of_decide_eq_true c2, of_decide_eq_true c3, of_decide_eq_true c4, oexB_ok c5, of_decide_eq_true c6, T.ar, T.kind, T.co, T.gen, T.nself, T.nwn, T.nsup, T.ncls, T.nocell, T.onlycls, T.ne, T.top⟩, .all fun us hl => T.bind _ _ _ _ _ _ _ us hl, oexB_ok c5, of_decide_eq_true c7, of_decide_eq_true c8⟩
            · split at k2
              · rename_i a1 a2 vs a3 ho
                unfold fileB at k2
                split at k2
                · rename_i f tf hv
                  exact ⟨_, _, vs, _, f, tf, ho, hv, by rw [hf]; exact k2⟩
                · cases k2
              · cases k2
            · split at k3
              · rename_i a1 a2 C' a3 ho
                have := of_decide_eq_true k3
                subst this
                exact ⟨_, _, _, ho⟩
              · cases k3
          | _ => cases c0
    | _ => cases e

abbrev AlM : Type := AlD × List XW
def obsM (file : Str) (fb : List Fb) (fn : List DefD) (xs : List XD) (K : PySem.W.Frag) : AlM := (((fb.all fun f => f.ok K) && ((fn.all fun d => d.ok K) && xs.all fun d => d.ok file K), fn.map fun d => fnW K d.at_), xs.map fun d => xW K d.cls)
def valM (fn : List DefD) (xs : List XD) : AlM := ((true, fn.map DefD.val), xs.map XD.val)
def SaysM (file : Str) (fb : List Fb) (fn : List DefD) (xs : List XD) (K : PySem.W.Frag) : Prop := obsM file fb fn xs K = valM fn xs
def obsMG (n : Nat) (file : Str) (fb : List Fb) (fn : List DefD) (xs : List XD) (g : Addr → Option Obj) : AlM := obsM file fb fn xs (frG g (cStatics :: asD g n))
def hookM (n : Nat) (file : Str) (fb : List Fb) (fn : List DefD) (xs : List XD) : PySem.W.Hook where
  α := AlM
  obs := fun s => obsMG n file fb fn xs s.heap.get?
  val := fun _ => valM fn xs
  says := fun _ h => ∃ K : PySem.W.Frag, K.In h ∧ SaysM file fb fn xs K
  of := fun _ _ e => ⟨_, frG_in, e⟩
  keeps := fun _ _ _ ⟨K, hK, c⟩ k => ⟨K, PySem.W.Frag.In.keeps hK k, c⟩
theorem obsMG_eq {n : Nat} {file : Str} {fb : List Fb} {fn : List DefD} {xs : List XD} {g : Addr → Option Obj} {s : Shared} (h : ∀ a, g a = s.heap.get? a) : obsMG n file fb fn xs g = (hookM n file fb fn xs).obs s := by
  have e : g = s.heap.get? := funext h
  rw [e] <;> rfl
section
variable {file : Str} {fb : List Fb} {fn : List DefD} {xs : List XD} {K : PySem.W.Frag}
theorem SaysM.all (c : SaysM file fb fn xs K) : ((fb.all fun f => f.ok K) && ((fn.all fun d => d.ok K) && xs.all fun d => d.ok file K)) = true := congrArg (fun z : AlM => z.1.1) c
theorem SaysM.fact (c : SaysM file fb fn xs K) (i : Nat) {f : Fb} (h : fb[i]? = some f := by rfl) : f.ok K = true :=
  List.all_eq_true.mp (ba c.all).1 f (List.mem_of_getElem? h)
theorem SaysM.def_ (c : SaysM file fb fn xs K) (i : Nat) {d : DefD} (h : fn[i]? = some d := by rfl) : ∃ fd, FunD K d.name d.qual d.params d.body d.scope (d.dvs K) (d.kws K) (fAd K d.at_) fd := by
  have c2 := (ba (ba c.all).2).1
  have e : fn.map (fun d => fnW K d.at_) = fn.map DefD.val := congrArg (fun z : AlM => z.1.2) c
  have e2 : (fn.map fun d => fnW K d.at_)[i]? = (fn.map DefD.val)[i]? := by rw [e]
  rw [List.getElem?_map, List.getElem?_map, h] at e2
  exact DefD.funD (Option.some.inj e2) (List.all_eq_true.mp c2 d (List.mem_of_getElem? h))
theorem SaysM.xin (c : SaysM file fb fn xs K) (i : Nat) {P : Program} {d : XD} (hf : P.main.file = file) (T : XTx P d) (h : xs[i]? = some d := by rfl) :
    ∃ cda cc fd, XIn P K (ga K d.cls) (ma K (ga K d.cls) "__init__") cda cc fd d.name d.qual d.params d.body d.scope d.slf d.wn d.fld ∧ Binds K fd [d.slf, d.wn] [] ∧ OexC K (ga K d.cls) ∧ PySem.W.findIn K (.ref (ga K d.cls)) "__init__" = some (some (.ref (ma K (ga K d.cls) "__init__"))) ∧ PySem.W.typeIn K (.ref (ma K (ga K d.cls) "__init__")) = some (.type "function") := by
  have c2 := (ba (ba c.all).2).2
  have e : xs.map (fun d => xW K d.cls) = xs.map XD.val := congrArg (fun z : AlM => z.2) c
  have e2 : (xs.map fun d => xW K d.cls)[i]? = (xs.map XD.val)[i]? := by rw [e]
  rw [List.getElem?_map, List.getElem?_map, h] at e2
  exact XD.xin hf T (Option.some.inj e2) (List.all_eq_true.mp c2 d (List.mem_of_getElem? h))
end
/-- the script -/
theorem rep_script {G : Gc} {H : Hp} {a : Addr} {ns : List Int} (h : SqL G.K H a (ns.map V.int)) : Reps G (fun _ => False) H [.lst (ns.map .int)] [.ref a] := by
  refine Reps.cons ⟨a, ns.map V.int, rfl, ?_, ?_⟩ Reps.nil
  · rcases h with h | h
    · exact .inl ⟨fun z => z, h⟩
    · exact .inr h
  · clear h
    induction ns with
    | nil => exact Reps.nil
    | cons n ns ih => exact Reps.cons Rep.int_ ih
/-- an exception of some world -/
def CXw (P : Program) : CXT := fun outer H s E e s' => ∃ w, L2.CX P w outer H s E e s'
theorem cx_no {P : Program} {H : Hp} {s : Shared} {e : Value} {s' : Shared} (z : CXw P [] H s (fun _ _ _ => False) e s') : False := by
  obtain ⟨w, a, B, H', cls, d, h⟩ := z
  obtain ⟨_, _, _, _, _, _, _, h⟩ := h
  exact h
theorem fn_w {P : Program} {w : World} {K : PySem.W.Frag} {mg : Str → Option Value} {base : Heap} {k : Nat} {f : Addr} {fd : FuncData} {ps : List Str} {sp : Sp} (F : FnOk P w K mg base (L2.CX P w) k f fd ps sp) : FnOk P w K mg base (CXw P) k f fd ps sp :=
  ⟨F.len, fun A outer s H args us vs Q E hr e0 hb r h => codeAny_mono (F.run A outer s H args us vs Q E hr e0 hb r h) fun r s' z => by
    cases r with
    | ok f => cases f <;> exact z
    | error e => exact ⟨w, z⟩⟩
theorem sp_law {G : Gc} {φ : List D → Res D} {H : Hp} {a : Addr} {ns : List Int} (h : SqL G.K H a (ns.map V.int)) (e : φ [.lst (ns.map .int)] = .ok (.bl true)) : spN G φ [.ref a] H (fun v _ => v = .bl true) fun _ _ _ => False := by
  refine ⟨fun _ => False, [.lst (ns.map .int)], fun _ z => z.elim, rep_script h, ?_⟩
  rw [e]
  exact fun v H' _ r => by unfold Rep at r; exact r
end Mi
end
section
set_option maxRecDepth 100000
set_option maxHeartbeats 4000000
namespace Mi
open PySem PySem.Spec L2
/-! ## the plain side: how the combinators compute -/
section
variable {f g : SF} {env e env1 : Envt} {i : Nat} {d : D} {ds : List D} {ga : GF} {body : SF} {ef : EF} {tf : TF}
theorem seq_nx (h : f env = .nx e) : sSeq f g env = g e := by unfold sSeq; rw [h]
theorem seq_go {o : Out} (h : f env = .nx e) (k : g e = o) : sSeq f g env = o := (seq_nx h).trans k
theorem seq_res {r : Res D} (h : f env = .nx e) (k : (g e).res = r) : (sSeq f g env).res = r := (congrArg Out.res (seq_nx h)).trans k
theorem seq_rt (h : f env = .rt d e) : sSeq f g env = .rt d e := by unfold sSeq; rw [h]
theorem seq_exc {c : Nat} {x : Option D} (h : f env = .exc c x e) : sSeq f g env = .exc c x e := by unfold sSeq; rw [h]
theorem asg_ok (h : ef env = .ok d) : sAsg i ef env = .nx (env.set i (.val d)) := by unfold sAsg; rw [h]
theorem own_ok {of : OF} {m : Mu} (h : of env = .ok m) (k : ownOk i m = true) : sOwn i of env = .nx (env.set i (.own m)) := by unfold sOwn; rw [h]; exact if_pos k
theorem if_t (h : tf env = .ok true) : sIf tf f g env = f env := by unfold sIf; rw [h]
theorem if_f (h : tf env = .ok false) : sIf tf f g env = g env := by unfold sIf; rw [h]
theorem for_ok {it : IF} (h : it env = .ok ds) : sFor ga it body env = forL ga body ds env := by unfold sFor; rw [h]
theorem forL_nil : forL ga body [] env = .nx env := rfl
theorem forL_nx (h : ga d env = some env1) (k : body env1 = .nx e) : forL ga body (d :: ds) env = forL ga body ds e := by rw [forL]; rw [h]; dsimp only; rw [k]
theorem forL_rt {r : D} (h : ga d env = some env1) (k : body env1 = .rt r e) : forL ga body (d :: ds) env = .rt r e := by rw [forL]; rw [h]; dsimp only; rw [k]
theorem ret_ok (h : ef env = .ok d) : sRet ef env = .rt d env := by unfold sRet; rw [h]
theorem forL_app {l1 l2 : List D} (h : forL ga body l1 env = .nx e) (nb : ∀ env e, body env ≠ .bk e) : forL ga body (l1 ++ l2) env = forL ga body l2 e := by
  induction l1 generalizing env with
  | nil => cases h; rfl
  | cons d l ih =>
    rw [List.cons_append]
    rw [forL] at h ⊢
    cases q : ga d env with
    | none => rw [q] at h; cases h
    | some v =>
      rw [q] at h
      dsimp only at h ⊢
      cases r : body v with
      | nx e => rw [r] at h; exact ih h
      | ct e => rw [r] at h; exact ih h
      | bk e => exact absurd r (nb _ _)
      | rt d e => rw [r] at h; cases h
      | exc c x e => rw [r] at h; cases h
      | stuck => rw [r] at h; cases h
/-- a loop that always goes on, by an invariant -/
theorem forL_inv (P : Nat → Envt → Prop) (h : ∀ i d env, ds[i]? = some d → P i env → ∃ env1 e, ga d env = some env1 ∧ body env1 = .nx e ∧ P (i + 1) e) : ∀ {env}, P 0 env → ∃ e, forL ga body ds env = .nx e ∧ P ds.length e := by
  induction ds generalizing P with
  | nil => exact fun p => ⟨_, rfl, p⟩
  | cons d l ih =>
    intro env p
    obtain ⟨env1, e, h1, h2, h3⟩ := h 0 d env rfl p
    obtain ⟨e2, k1, k2⟩ := ih (fun i => P (i + 1)) (fun i d env q p => h (i + 1) d env (by rw [List.getElem?_cons_succ]; exact q) p) h3
    exact ⟨e2, by rw [forL_nx h1 h2]; exact k1, k2⟩
end
theorem two62 : (2 : Int) ^ 62 = ((4611686018427387904 : Nat) : Int) := by
  have h := Int.natCast_pow 2 62
  have h2 : (2 : Nat) ^ 62 = 4611686018427387904 := by decide
  rw [h2] at h
  exact h.symm
theorem lt62 {n : Nat} (h : n < 1000000) : (n : Int) < ((4611686018427387904 : Nat) : Int) := Int.ofNat_lt.mpr (Nat.lt_trans h (by decide))
theorem ge62 (n : Nat) : -((4611686018427387904 : Nat) : Int) ≤ (n : Int) := Int.le_trans (Int.neg_le_neg (Int.natCast_nonneg _)) (by rw [Int.neg_zero]; exact Int.natCast_nonneg n)
def rng1 (j : Int) : Res (List D) := if j < 2 ^ 62 ∧ -(2 ^ 62) ≤ j then .ok (rangeD 0 j.toNat) else .stuck
theorem itR1_as (r : Int → Res (List D)) (x : Res D) (j : Int) (h : x = .ok (.int j)) : (x.bind fun d => match d with
  | .int j => r j
  | _ => .stuck) = r j := by rw [h]; rfl
theorem itR1_u (f : EF) (env : Envt) : itR1 f env = ((f env).bind fun d => match d with
  | .int j => rng1 j
  | _ => .stuck) := rfl
theorem rng1_ok {n : Nat} (h : n < 1000000) : rng1 n = .ok (rangeD 0 n) := by
  unfold rng1
  have h3 : (n : Int) < 2 ^ 62 ∧ -(2 ^ 62) ≤ (n : Int) := by
    rw [two62]
    exact ⟨lt62 h, ge62 n⟩
  rw [if_pos h3, Int.toNat_natCast]
theorem itR1_ok {f : EF} {env : Envt} {n : Nat} (h : f env = .ok (.int n)) (hn : n < 1000000) : itR1 f env = .ok (rangeD 0 n) :=
  (itR1_u f env).trans ((itR1_as rng1 (f env) n h).trans (rng1_ok hn))
theorem atI_nat {α : Type} {xs : List α} {i : Int} (h0 : 0 ≤ i) (h1 : i < xs.length) : L2.atI xs i = xs[i.toNat]? := by
  unfold L2.atI L2.ixN
  rw [if_pos h0, if_pos h1]
  rfl
end Mi
end
section
set_option maxRecDepth 100000
set_option maxHeartbeats 4000000
namespace Mi
open PySem PySem.Spec L2
/-! ## the plain side: more -/
def bnd (L : Int) (r : List Int) : Prop := ∀ x ∈ r, 0 ≤ x ∧ x < L
def gd : Res D → D
  | .ok d => d
  | _ => .non
def gl : D → List D
  | .lst xs => xs
  | .tup xs => xs
  | _ => []
def gb : Res Bool → Bool
  | .ok b => b
  | _ => false
def gf : Res (List (Str × D)) → List (Str × D)
  | .ok d => d
  | _ => []
def okB {α : Type} : Res α → Bool
  | .ok _ => true
  | _ => false
def isT : Res D → Bool
  | .ok (.bl true) => true
  | _ => false
def isF : Res D → Bool
  | .ok (.bl false) => true
  | _ => false
def isBl (r : Res D) : Bool := isT r || isF r
def isLst : D → Bool
  | .lst _ => true
  | _ => false
def isTup : D → Bool
  | .tup _ => true
  | _ => false
theorem okB_gd {r : Res D} (h : okB r = true) : r = .ok (gd r) := by
  cases r with
  | ok d => rfl
  | exc c x => cases h
  | stuck => cases h
theorem okB_gf {r : Res (List (Str × D))} (h : okB r = true) : r = .ok (gf r) := by
  cases r with
  | ok d => rfl
  | exc c x => cases h
  | stuck => cases h
theorem okB_gb {r : Res Bool} (h : okB r = true) : r = .ok (gb r) := by
  cases r with
  | ok d => rfl
  | exc c x => cases h
  | stuck => cases h
theorem isT_eq {r : Res D} (h : isT r = true) : r = .ok (.bl true) := by
  unfold isT at h
  split at h
  · rfl
  · cases h
theorem isF_eq {r : Res D} (h : isF r = true) : r = .ok (.bl false) := by
  unfold isF at h
  split at h
  · rfl
  · cases h
theorem isLst_gl {d : D} (h : isLst d = true) : d = .lst (gl d) := by
  cases d with
  | lst xs => rfl
  | _ => cases h
theorem isTup_gl {d : D} (h : isTup d = true) : d = .tup (gl d) := by
  cases d with
  | tup xs => rfl
  | _ => cases h
theorem lcL_ok {ga : GF} {t : TF} {fe : EF} {env : Envt} (p : D → Bool) (q : D → D) : ∀ ds : List D, (∀ d ∈ ds, ∃ env1, ga d env = some env1 ∧ t env1 = .ok (p d) ∧ (p d = true → fe env1 = .ok (q d))) → lcL ga t fe env ds = .ok ((ds.filter p).map q) := by
  intro ds
  induction ds with
  | nil => intro _; rfl
  | cons d ds ih =>
    intro h
    obtain ⟨env1, h1, h2, h3⟩ := h d List.mem_cons_self
    have ih := ih fun d hd => h d (List.mem_cons_of_mem _ hd)
    unfold lcL
    rw [h1]
    dsimp only
    rw [h2]
    cases e : p d with
    | true =>
      rw [List.filter_cons_of_pos e]
      dsimp only
      rw [h3 e, ih]
      rfl
    | false =>
      rw [List.filter_cons_of_neg (by rw [e]; exact Bool.false_ne_true)]
      exact ih
def subl {α : Type} : List α → List (List α)
  | [] => [[]]
  | x :: l => subl l ++ (subl l).map (x :: ·)
theorem filter_subl {α : Type} (p : α → Bool) : ∀ l : List α, l.filter p ∈ subl l
  | [] => List.mem_singleton.mpr rfl
  | x :: l => by
    unfold subl
    by_cases e : p x = true
    · rw [List.filter_cons_of_pos e]
      exact List.mem_append_right _ (List.mem_map_of_mem (filter_subl p l))
    · rw [List.filter_cons_of_neg e]
      exact List.mem_append_left _ (filter_subl p l)
def bitL : Nat → List (List Int)
  | 0 => [[]]
  | n + 1 => (bitL n).map (0 :: ·) ++ (bitL n).map (1 :: ·)
theorem bitL_mem : ∀ (n : Nat) (r : List Int), bnd 2 r → r.length = n → r ∈ bitL n
  | 0, r, _, hl => by
    rw [List.length_eq_zero_iff.mp hl]; exact List.mem_singleton.mpr rfl
  | n + 1, [], _, hl => by cases hl
  | n + 1, x :: r, hb, hl => by
    have h := bitL_mem n r (fun y hy => hb y (List.mem_cons_of_mem _ hy)) (by simpa using hl)
    have hx := hb x List.mem_cons_self
    unfold bitL
    have : x = 0 ∨ x = 1 := by omega
    rcases this with rfl | rfl
    · exact List.mem_append_left _ (List.mem_map_of_mem h)
    · exact List.mem_append_right _ (List.mem_map_of_mem h)
section
variable {f g : EF} {af : AF} {env : Envt} {x y d : D} {ds : List D} {t : TF} {sf sg : SF}
theorem acons_ok (h1 : f env = .ok d) (h2 : af env = .ok ds) : aCons f af env = .ok (d :: ds) := by unfold aCons; rw [h1, h2]; rfl
theorem call_ok {φ : List D → Res D} (h : af env = .ok ds) : eCall φ af env = φ ds := by unfold eCall; rw [h]; rfl
theorem bin_ok {k : D → D → Res D} (h1 : f env = .ok x) (h2 : g env = .ok y) : eBin k f g env = k x y := by unfold eBin; rw [h1, h2]; rfl
theorem u_ok {k : D → Res D} (h1 : f env = .ok x) : eU k f env = k x := by unfold eU; rw [h1]; rfl
theorem oLc_ok {vs : List Nat} {it : IF} {ga : GF} {fe : EF} {r : List D} (h : it env = .ok ds) (h2 : lcL ga t fe (wipeE env vs) ds = .ok r) (hz : r.length < 1000) : oLc vs it ga t fe env = .ok (.lst r) := by
  unfold oLc
  rw [h]
  dsimp only [Res.bind]
  rw [h2]
  dsimp only [Res.bind]
  rw [if_pos (by rw [sizeLine_eq]; omega)]
theorem tfE_isBl {r : Res D} (h : f env = r) (k : isBl r = true) : tfE f env = .ok (isT r) := by
  unfold tfE
  rw [h]
  unfold isBl at k
  rcases Bool.or_eq_true_iff.mp k with k | k
  · rw [isT_eq k]; rfl
  · rw [isF_eq k]; rfl
theorem tfE_f (h : isF (f env) = true) : tfE f env = .ok false := by unfold tfE; rw [isF_eq h]; rfl
theorem tfE_t (h : isT (f env) = true) : tfE f env = .ok true := by unfold tfE; rw [isT_eq h]; rfl
end
theorem mem_rangeD {d : D} : ∀ {n : Nat} {lo : Int}, d ∈ rangeD lo n → ∃ k : Nat, k < n ∧ d = .int (lo + k)
  | 0, lo, h => by cases h
  | n + 1, lo, h => by
    rcases List.mem_cons.mp h with rfl | h
    · exact ⟨0, by omega, by rw [Int.natCast_zero, Int.add_zero]⟩
    · obtain ⟨k, h1, h2⟩ := mem_rangeD h
      exact ⟨k + 1, by omega, by rw [h2]; congr 1; omega⟩
theorem cut_nat {ds : List D} {lo hi : Nat} (h1 : lo ≤ hi) (h2 : hi ≤ ds.length) : cutD ds (some (lo : Int)) (some (hi : Int)) = (ds.drop lo).take (hi - lo) := by
  unfold cutD
  rw [HT.sIx_nat, HT.sIx_nat, Nat.min_eq_left h2, Nat.min_eq_left (by omega)]
theorem cut_to {ds : List D} {hi : Nat} (h2 : hi ≤ ds.length) : cutD ds none (some (hi : Int)) = ds.take hi := by
  unfold cutD
  rw [HT.sIx_nat, HT.sIx_none, Nat.min_eq_left h2, List.drop_zero, Nat.sub_zero]

theorem rangeD_eq : ∀ (n : Nat) (lo : Int), rangeD lo n = (List.range n).map fun k : Nat => D.int (lo + k)
  | 0, _ => rfl
  | n + 1, lo => by
    show D.int lo :: rangeD (lo + 1) n = _
    rw [rangeD_eq n, List.range_succ_eq_map, List.map_cons, List.map_map]
    congr 1
    · rw [Int.natCast_zero, Int.add_zero]
    · apply List.map_congr_left
      intro k _
      show D.int (lo + 1 + k) = D.int (lo + ((k + 1 : Nat) : Int))
      congr 1
      omega
theorem rangeD0 (n : Nat) : rangeD 0 n = (List.range n).map fun k : Nat => D.int (k : Int) := by
  rw [rangeD_eq]
  apply List.map_congr_left
  intro k _
  rw [Int.zero_add]
theorem ixL {ds : List D} {k : Nat} {d : D} (h : ds[k]? = some d) : dIx (.lst ds) (.int (k : Int)) = .ok d := by
  show (match L2.atI ds (k : Int) with | some d => Res.ok d | none => .stuck) = _
  have hk : k < ds.length := (List.getElem?_eq_some_iff.mp h).1
  rw [atI_nat (Int.natCast_nonneg k) (Int.ofNat_lt.mpr hk), Int.toNat_natCast, h]
theorem ixT {ds : List D} {k : Nat} {d : D} (h : ds[k]? = some d) : dIx (.tup ds) (.int (k : Int)) = .ok d := by
  show (match L2.atI ds (k : Int) with | some d => Res.ok d | none => .stuck) = _
  have hk : k < ds.length := (List.getElem?_eq_some_iff.mp h).1
  rw [atI_nat (Int.natCast_nonneg k) (Int.ofNat_lt.mpr hk), Int.toNat_natCast, h]
/-- a list or a tuple of these -/
def SqD (d : D) (ds : List D) : Prop := d = .lst ds ∨ d = .tup ds
theorem SqD.ix {d e : D} {ds : List D} {k : Nat} (s : SqD d ds) (h : ds[k]? = some e) : dIx d (.int (k : Int)) = .ok e := by
  rcases s with rfl | rfl
  · exact ixL h
  · exact ixT h
theorem SqD.len {d : D} {ds : List D} (s : SqD d ds) : dLen d = .ok (.int (ds.length : Int)) := by
  rcases s with rfl | rfl <;> rfl
theorem SqD.it {d : D} {ds : List D} {f : EF} {env : Envt} (s : SqD d ds) (h : f env = .ok d) : itSeq f env = .ok ds := by
  unfold itSeq
  rw [h]
  rcases s with rfl | rfl <;> rfl
theorem SqD.tuple {d : D} {ds : List D} (s : SqD d ds) : dTuple d = .ok (.tup ds) := by
  rcases s with rfl | rfl <;> rfl
theorem SqD.slice {d : D} {ds : List D} (s : SqD d ds) (lo hi : Option Int) : ∃ e, dSlice d lo hi = .ok e ∧ SqD e (cutD ds lo hi) := by
  rcases s with rfl | rfl
  · exact ⟨_, rfl, .inl rfl⟩
  · exact ⟨_, rfl, .inr rfl⟩
theorem cut_from {ds : List D} {lo : Nat} : cutD ds (some (lo : Int)) none = ds.drop lo := by
  unfold cutD
  rw [HT.sIx_nat, HT.sIx_none]
  by_cases h : lo ≤ ds.length
  · rw [Nat.min_eq_left h, List.take_of_length_le (by rw [List.length_drop]; exact Nat.le_refl _)]
  · rw [Nat.min_eq_right (by omega), List.drop_of_length_le (Nat.le_refl _), List.drop_of_length_le (by omega), List.take_nil]
theorem cut_upto {ds : List D} {hi : Nat} : cutD ds none (some (hi : Int)) = ds.take hi := by
  unfold cutD
  rw [HT.sIx_nat, HT.sIx_none, List.drop_zero, Nat.sub_zero]
  by_cases h : hi ≤ ds.length
  · rw [Nat.min_eq_left h]
  · rw [Nat.min_eq_right (by omega), List.take_length, List.take_of_length_le (by omega)]
/-- a loop that looks for the first -/
theorem forL_find {ga : GF} {body : SF} (Q : Envt → Prop) (r : Nat → Option D) : ∀ (n lo : Nat) (env : Envt),
    (∀ i env, lo ≤ i → i < lo + n → Q env → ∃ env1, ga (.int (i : Int)) env = some env1 ∧ match r i with
      | none => ∃ e, body env1 = .nx e ∧ Q e
      | some v => ∃ e, body env1 = .rt v e) → Q env →
    match Rx.firstS r lo n with
      | none => ∃ e, forL ga body (rangeD (lo : Int) n) env = .nx e ∧ Q e
      | some v => ∃ e, forL ga body (rangeD (lo : Int) n) env = .rt v e := by
  intro n
  induction n with
  | zero => exact fun lo env _ q => ⟨env, rfl, q⟩
  | succ n ih =>
    intro lo env h q
    obtain ⟨env1, h1, h2⟩ := h lo env (Nat.le_refl _) (by omega) q
    unfold Rx.firstS
    have e1 : rangeD (lo : Int) (n + 1) = .int (lo : Int) :: rangeD ((lo + 1 : Nat) : Int) n := rfl
    cases hr : r lo with
    | some v =>
      rw [hr] at h2
      obtain ⟨e, h2⟩ := h2
      exact ⟨e, by rw [e1, forL_rt h1 h2]⟩
    | none =>
      rw [hr] at h2
      obtain ⟨e, h2, h3⟩ := h2
      rw [e1, forL_nx h1 h2]
      exact ih (lo + 1) e (fun i env hl hi => h i env (by omega) (by omega)) h3
end Mi
end
section
set_option maxRecDepth 100000
set_option maxHeartbeats 4000000
namespace Mi
open PySem PySem.Spec PyProof.Rows L2
section
variable {M : Fm} {X : Cx} {a b c e o value : Expr} {es : List Expr} {pos p p2 pos2 apos cpos pos' tpos : Pos} {f g h : EF} {t u : TF} {af : AF} {st : Stmt} {rest body body2 : List Stmt} {sf sg : SF} {k j kk : Nat} {tg : Expr} {x n : Str} {φ : List D → Res D} {elts : List Expr}
/-! ### min(a, b) -/
def dMin2 : D → D → Res D
  | .int i, .int j => .ok (.int (if j < i then j else i))
  | _, _ => .stuck
theorem m_min2 (C : Cxx X M k) (hm : X.mg "min" = none) (ha : PE X a (tV M f)) (hb : PE X b (tV M g)) (hg : Gl X "min" := by rfl) (he : starEach [a, b] X.env = (false, eval a X.env) :: starEach [b] X.env := by rfl) (he2 : starEach [b] X.env = (false, eval b X.env) :: starEach [] X.env := by rfl) (hpl : (backTo pos (starEach [b] X.env)).any (·.1) = false := by rfl) :
    PE X (.Call (.Name "min" p) [a, b] [] pos) (tE M (eBin dMin2 f g)) :=
  PE.weak (pe_callB (call_min2 C.calm) hg hm (by decide +kernel) (pa_cons ha (pa_cons hb pa_nil he2) he) (by decide) (by decide) he hpl) fun σ H Q ⟨F, env, I, q⟩ => by
    refine w_then I q fun d v H1 s1 hv q1 => ?_
    refine w_then (I.grow s1) q1 fun d2 v2 H2 s2 hv2 q2 => ?_
    cases d with
    | int i =>
      cases d2 with
      | int j => rw [hv.int, hv2.int]; exact ⟨i, j, rfl, post_ok q2 Rep.int_⟩
      | _ => exact q2.elim
    | _ => exact q2.elim
/-! ### list(range(n)) -/
def oRg (f : EF) : OF := fun env => (f env).bind fun d => match d with
  | .int n => if 0 ≤ n ∧ n < 1000000 then .ok (.lst (rangeD 0 n.toNat)) else .stuck
  | _ => .stuck
theorem reps_rg {G : Gc} {F : Own} {H : Hp} : ∀ (n : Nat) (lo : Int), Reps G F H (rangeD lo n) ((List.range n).map fun i : Nat => V.int (lo + (i : Int)))
  | 0, _ => Reps.nil
  | n + 1, lo => by
    rw [List.range_succ_eq_map, List.map_cons, List.map_map]
    refine Reps.cons (by rw [show lo + ((0 : Nat) : Int) = lo by omega]; exact Rep.int_) ?_
    have := reps_rg (G := G) (F := F) (H := H) n (lo + 1)
    have e : ((fun i : Nat => V.int (lo + (i : Int))) ∘ Nat.succ) = fun i : Nat => V.int (lo + 1 + (i : Int)) := by
      funext i
      show V.int (lo + ((i + 1 : Nat) : Int)) = _
      congr 1
      omega
    rw [e]
    exact this
theorem m_listRg (C : Cxx X M k) (hm : X.mg "list" = none) (hm2 : X.mg "range" = none) (ha : PE X e (tV M f)) (hg : Gl X "list" := by rfl) (hg2 : Gl X "range" := by rfl) (he : starEach [e] X.env = (false, eval e X.env) :: starEach [] X.env := by rfl)
    (he2 : starEach [.Call (.Name "range" p2) [e] [] pos2] X.env = (false, eval (.Call (.Name "range" p2) [e] [] pos2) X.env) :: starEach [] X.env := by rfl) :
    PE X (.Call (.Name "list" p) [.Call (.Name "range" p2) [e] [] pos2] [] pos) (tO M (oRg f)) :=
  PE.weak (pe_listRg C.calm hg hm (prg_1 hg2 hm2 ha he) he2) fun σ H Q ⟨F, env, I, q⟩ => by
    unfold oRg at q
    refine wo_then I q fun d v H1 s1 hv q1 => ?_
    cases d with
    | int n =>
      dsimp only at q1
      by_cases hn : 0 ≤ n ∧ n < 1000000
      · rw [if_pos hn] at q1
        refine ⟨n, hv.int, ⟨by omega, by omega, by omega, by omega, by omega⟩, fun y ny => ?_⟩
        refine opost_new q1 ?_ ny
        unfold rgV
        rw [show n - 0 = n by omega]
        exact reps_rg n.toNat 0
      · rw [if_neg hn] at q1; exact q1.elim
    | _ => exact q1.elim
/-! ### tuple(reversed(list)) -/
def dTupRev : D → Res D
  | .lst ds => .ok (.tup ds.reverse)
  | _ => .stuck
theorem m_tupRev (C : Cxx X M k) (hm : X.mg "tuple" = none) (hm2 : X.mg "reversed" = none) (ha : PE X e (tV M f)) (hg : Gl X "tuple" := by rfl) (hg2 : Gl X "reversed" := by rfl) (hs : starEach [e] X.env = (false, eval e X.env) :: starEach [] X.env := by rfl)
    (hs2 : starEach [.Call (.Name "reversed" p2) [e] [] pos2] X.env = (false, eval (.Call (.Name "reversed" p2) [e] [] pos2) X.env) :: starEach [] X.env := by rfl) :
    PE X (.Call (.Name "tuple" p) [.Call (.Name "reversed" p2) [e] [] pos2] [] pos) (tE M (eU dTupRev f)) :=
  PE.weak (RT.pe_tupRev C.calm hg hm hg2 hm2 ha hs hs2) fun σ H Q ⟨F, env, I, q⟩ => by
    refine w_then I q fun d v H1 s1 hv q1 => ?_
    cases d with
    | lst ds =>
      obtain ⟨p, xs, rfl, h1, h2⟩ := hv.lst
      refine ⟨p, xs, rfl, C.hK ▸ h1, fun l nl => q1 _ _ (same_new nl) (Rep.tup_ (dom_no (I.grow s1).dom nl) upd_same ?_)⟩
      exact (h2.mono (Fz.same (same_new nl))).reverse
    | _ => exact q1.elim
/-! ### *x among arguments -/
def aStar (f : EF) (g : AF) : AF := fun env => (f env).bind fun d => match d.items with
  | some xs => (g env).bind fun ds => .ok (xs ++ ds)
  | none => .stuck
theorem m_astar (hK : X.K = M.G.K) (ha : PE X e (tE M f)) (hr : PA X es (tA M af)) (hs : starEach (.Starred e p :: es) X.env = (true, eval e X.env) :: starEach es X.env := by rfl) : PA X (.Starred e p :: es) (tA M (aStar f af)) := PA.weak (StX.pa_star ha hr hs) fun σ H Q ⟨F, env, I, q⟩ => by
  refine ⟨F, env, I, ?_⟩
  unfold aStar at q
  cases r : f env with
  | stuck => rw [r] at q; exact q
  | exc c x => rw [r] at q; exact q
  | ok d =>
    rw [r] at q
    intro v H1 s1 hv
    have main : ∀ (xs : List D) (a : Addr) (vs : List V), v = .ref a → (SqT X.K H1 a vs ∨ SqL X.K H1 a vs) → Reps M.G F H1 xs vs → (match (af env).bind fun ds => Res.ok (xs ++ ds) with
        | .ok ds => ∀ vs H', Same H H' → Reps M.G F H' ds vs → Q vs H'
        | .exc c x => ∀ cv dd H', Same H H' → ExRep M.G F H' c x cv dd → M.W cv dd σ H'
        | .stuck => False) → ∃ p xs, v = V.ref p ∧ (SqT X.K H1 p xs ∨ SqL X.K H1 p xs) ∧ tA M af σ H1 fun ys H2 => Q (xs ++ ys) H2 := by
      intro xs a vs ev hsq hrp q
      refine ⟨a, vs, ev, hsq, F, env, I.grow s1, ?_⟩
      cases r2 : af env with
      | stuck => rw [r2] at q; exact q
      | exc c x => rw [r2] at q; exact fun cv dd H' s h => q cv dd H' (s1.trans s) h
      | ok ds =>
        rw [r2] at q
        exact fun ys H2 s2 hys => q (vs ++ ys) H2 (s1.trans s2) ((hrp.mono (Fz.same s2)).append hys)
    cases d with
    | tup xs =>
      obtain ⟨a, vs, ev, h1, h2⟩ := (Rep.view hv).tup
      exact main xs a vs ev (.inl (hK ▸ h1)) h2 q
    | lst xs =>
      obtain ⟨a, vs, ev, h1, h2⟩ := (Rep.view hv).lst
      exact main xs a vs ev (.inr (hK ▸ h1)) h2 q
    | _ => exact q.elim
/-! ### zip(x, y), both lists or both tuples -/
def zipD (xs ys : List D) : List D := (xs.zip ys).map fun p => .tup [p.1, p.2]
def itZip (f g : EF) : IF := fun env => (f env).bind fun d => (g env).bind fun d2 => match d, d2 with
  | .tup xs, .tup ys => .ok (zipD xs ys)
  | .lst xs, .lst ys => .ok (zipD xs ys)
  | _, _ => .stuck
theorem zipD_get {xs ys : List D} {i : Nat} {x y : D} (h1 : xs[i]? = some x) (h2 : ys[i]? = some y) : (zipD xs ys)[i]? = some (.tup [x, y]) := by
  unfold zipD
  rw [List.getElem?_map, (List.getElem?_zip_eq_some (z := (x, y))).mpr ⟨h1, h2⟩]
  rfl
theorem zipD_len (xs ys : List D) : (zipD xs ys).length = min xs.length ys.length := by unfold zipD; rw [List.length_map, List.length_zip]
theorem m_izip (C : Cxx X M k) (hm : X.mg "zip" = none) (ha : PE X e (tE M f)) (hb : PE X o (tE M g)) (hg : Gl X "zip" := by rfl) (hs : starEach [e, o] X.env = (false, eval e X.env) :: starEach [o] X.env := by rfl) (hs2 : starEach [o] X.env = (false, eval o X.env) :: starEach [] X.env := by rfl) (hpl : (backTo pos (starEach [o] X.env)).any (·.1) = false := by rfl) :
    PI X (.Tuple elts kk tpos) (.Call (.Name "zip" p) [e, o] [] pos) (tI M (itZip f g)) := PI.weak (RZ.pi_zipA hg hm (pa_cons ha (pa_cons hb pa_nil hs2) hs) hs hpl) fun σ H R ⟨F, env, I, q⟩ => by
  unfold itZip at q
  refine wi_then I q fun d v H1 s1 hv q1 => ?_
  refine wi_then (I.grow s1) q1 fun d2 v2 H2 s2 hv2 q2 => ?_
  have I2 := (I.grow s1).grow s2
  have hv := hv.mono (Fz.same s2)
  cases d with
  | tup xs =>
    cases d2 with
    | tup ys =>
      unfold Rep at hv hv2
      obtain ⟨pa, us, rfl, h1, h2⟩ := hv
      obtain ⟨pb, ws, rfl, h3, h4⟩ := hv2
      refine ⟨pa, pb, us, ws, rfl, .inr ⟨C.hK ▸ h1.sq, C.hK ▸ h3.sq, q2 _ H2 (Same.refl _) ?_⟩⟩
      rw [C.hK]
      refine ⟨fun i F' H3 z hi => ?_, fun i F' H3 x H4 z dom hi hy => ?_, fun i F' H3 z hi => ?_⟩
      · rw [zipD_len] at hi
        have l1 := h2.length
        have l2 := h4.length
        exact ⟨us, ws, us[i]'(by omega), ws[i]'(by omega), (h1.mono z).sq, (h3.mono z).sq, List.getElem?_eq_getElem _, List.getElem?_eq_getElem _⟩
      · obtain ⟨T, x1, y1, rfl, nT, rfl, k1, k2⟩ := hy
        obtain ⟨dx, e1, r1⟩ := (h2.mono z).get' (k1 us (h1.mono z).sq)
        obtain ⟨dy, e2, r2⟩ := (h4.mono z).get' (k2 ws (h3.mono z).sq)
        have s4 := same_new (o := HO.tup [x1, y1]) nT
        exact ⟨_, zipD_get e1 e2, s4, Rep.tup_ (fun hT => dom T hT nT) upd_same (Reps.cons (r1.mono (Fz.same s4)) (Reps.cons (r2.mono (Fz.same s4)) Reps.nil))⟩
      · rw [zipD_len] at hi
        have l1 := h2.length
        have l2 := h4.length
        exact ⟨us, ws, (h1.mono z).sq, (h3.mono z).sq, by omega⟩
    | _ => exact q2.elim
  | lst xs =>
    cases d2 with
    | lst ys =>
      unfold Rep at hv hv2
      obtain ⟨pa, us, rfl, h1, h2⟩ := hv
      obtain ⟨pb, ws, rfl, h3, h4⟩ := hv2
      refine ⟨pa, pb, us, ws, rfl, .inl ⟨C.hK ▸ h1.sq, C.hK ▸ h3.sq, q2 _ H2 (Same.refl _) ?_⟩⟩
      rw [C.hK]
      refine ⟨fun i F' H3 z hi => ?_, fun i F' H3 x H4 z dom hi hy => ?_, fun i F' H3 z hi => ?_⟩
      · rw [zipD_len] at hi
        have l1 := h2.length
        have l2 := h4.length
        exact ⟨us, ws, us[i]'(by omega), ws[i]'(by omega), (h1.mono z).sq, (h3.mono z).sq, List.getElem?_eq_getElem _, List.getElem?_eq_getElem _⟩
      · obtain ⟨T, x1, y1, rfl, nT, rfl, k1, k2⟩ := hy
        obtain ⟨dx, e1, r1⟩ := (h2.mono z).get' (k1 us (h1.mono z).sq)
        obtain ⟨dy, e2, r2⟩ := (h4.mono z).get' (k2 ws (h3.mono z).sq)
        have s4 := same_new (o := HO.tup [x1, y1]) nT
        exact ⟨_, zipD_get e1 e2, s4, Rep.tup_ (fun hT => dom T hT nT) upd_same (Reps.cons (r1.mono (Fz.same s4)) (Reps.cons (r2.mono (Fz.same s4)) Reps.nil))⟩
      · rw [zipD_len] at hi
        have l1 := h2.length
        have l2 := h4.length
        exact ⟨us, ws, (h1.mono z).sq, (h3.mono z).sq, by omega⟩
    | _ => exact q2.elim
  | _ => exact q2.elim
/-! ### a method's call -/
/-- a method: its def's promise, self ahead -/
structure MtR (P : Program) (w : World) (K : PySem.W.Frag) (mg : Str → Option Value) (base : Heap) (G : Gc) (k : Nat) (c : Nat) (m : Str) (φ : List D → Res D) : Prop where
  ex : ∃ (f : Addr) (fd : FuncData) (ps : List Str), Cls K (G.cls c) ∧ Meth K (G.cls c) m f ∧ Binds K fd ps [] ∧ FnOk P w K mg base (L2.CX P w) k f fd ps (spN G φ)
def eMeth (c0 : Nat) (m : Str) (φ : List D → Res D) (f : EF) (af : AF) : EF := fun env => (f env).bind fun d => match d with
  | .ins c fs => if c = c0 ∧ fs.lookup m = none then (af env).bind fun ds => φ (.ins c fs :: ds) else .stuck
  | _ => .stuck
theorem m_meth {c0 : Nat} {m : Str} {pl : Sem Bool} (C : Cxx X M k) (F : MtR X.prog X.w X.K X.mg X.base M.G j c0 m φ) (hj : j ≤ k) (hW : ∀ cv dd σ σ' H, M.W cv dd σ H → M.W cv dd σ' H) (ho : PE X o (tE M f)) (ha : PA X (e :: es) (tA M af))
    (he : starEach (e :: es) X.env = (false, eval e X.env) :: starEach es X.env := by rfl) (hpl : (backTo pos (starEach es X.env)).any (·.1) = false := by rfl)
    (ht : eval (.Call (.Attribute o m apos) (e :: es) [] pos) X.env = (do
      let ov ← eval o X.env
      standAt apos.atName
      let (f, first) ← holding [ov] (getMethod ov m pl)
      callWith pos f first (backTo pos (starEach (e :: es) X.env)) (backToKw pos (keywordEach [] X.env))) := by rfl) :
    PE X (.Call (.Attribute o m apos) (e :: es) [] pos) (tE M (eMeth c0 m φ f af)) := by
  obtain ⟨fa, fd, ps, hc, hm, hb, F1⟩ := F.ex
  refine PE.weak (pe_meth ho hc hm F1 (C.hr.mono hj) hb .nil (E := fun cv dd H => ∀ σ, M.W cv dd σ H) (passes_call C.tk fun _ _ σ _ h => h σ) ha he hpl ht) ?_
  rintro σ H Q ⟨F0, env, I, q⟩
  unfold eMeth at q
  refine w_then (R' := Rep M.G) I q fun d v H1 s1 hv q1 => ?_
  cases d with
  | ins c fs =>
    dsimp only at q1
    by_cases hcc : c = c0 ∧ fs.lookup m = none
    · rw [if_pos hcc] at q1
      obtain ⟨rfl, hl⟩ := hcc
      have hv0 := hv
      unfold Rep at hv
      obtain ⟨a, dx, us, rfl, h1, h2, h3⟩ := hv
      refine ⟨a, dx, us, rfl, h2, h3.none hl, ?_⟩
      refine wa_then (I.grow s1) q1 fun ds vs H2 s2 hvs q2 => ?_
      rw [List.append_nil]
      refine ⟨F0, .ins c fs :: ds, ((I.grow s1).grow s2).dom, Reps.cons (hv0.mono (Fz.same s2)) hvs, ?_⟩
      cases e1 : φ (.ins c fs :: ds) with
      | ok d => rw [e1] at q2; exact q2
      | exc c' x' => rw [e1] at q2; exact fun cv dd H' s hx σ' => hW cv dd σ σ' H' (q2 cv dd H' s hx)
      | stuck => rw [e1] at q2; exact q2
    · rw [if_neg hcc] at q1; exact q1.elim
  | _ => exact q1.elim
end
end Mi
end
section
set_option maxRecDepth 100000
set_option maxHeartbeats 4000000
namespace Mi
open PySem PySem.Spec PyProof.Rows L2
section
variable {M : Fm} {X : Cx} {a b c e o value : Expr} {es : List Expr} {pos p p2 pos2 apos apos2 cpos cpos2 pos' tpos : Pos} {f g h : EF} {t u : TF} {af : AF} {st : Stmt} {sf sg : SF} {k : Nat} {n : Str}
/-! ### xs.append(ys.pop(i)) -/
def sAppPop (i j : Nat) (f : EF) : SF := fun env => match env[i]?, env[j]? with
  | some (.own (.lst ds)), some (.own (.lst ys)) => if i = j then .stuck else (match f env with
    | .ok (.int n) => if ds.length < sizeLine ∧ n.natAbs < 1000000000 then (match PySem.seqIndex? n ys.length with
      | some k => (match ys[k]? with
        | some y => .nx ((env.set j (.own (.lst (ys.eraseIdx k)))).set i (.own (.lst (ds ++ [y]))))
        | none => .stuck)
      | none => .stuck) else .stuck
    | _ => .stuck)
  | _, _ => .stuck
theorem Reps.erase {G : Gc} {F : Own} {H : Hp} : ∀ {ds : List D} {vs : List V} (k : Nat), Reps G F H ds vs → Reps G F H (ds.eraseIdx k) (vs.eraseIdx k)
  | [], _, _, h => by
    unfold Reps at h
    subst h
    exact Reps.nil
  | d :: ds, vs, 0, h => by
    unfold Reps at h
    obtain ⟨v, r, e, h1, h2⟩ := h
    subst e
    exact h2
  | d :: ds, vs, k + 1, h => by
    unfold Reps at h
    obtain ⟨v, r, e, h1, h2⟩ := h
    subst e
    exact Reps.cons h1 (Reps.erase k h2)
theorem m_appPop (C : Cxx X M k) (i j : Nat) {x y : Str} {pos' : Pos} (he : PE X e (tV M f)) (hN : X.N[i]? = some x := by rfl) (hv : Vis X.env.scope x := by first | exact Or.inl rfl | exact Or.inr (Or.inl rfl) | exact Or.inr (Or.inr rfl)) (hd : (x == ("__debug__" : Str)) = false := by decide) (hcd : (x == ("__classdict__" : Str)) = false := by decide)
    (hN2 : X.N[j]? = some y := by rfl) (hv2 : Vis X.env.scope y := by first | exact Or.inl rfl | exact Or.inr (Or.inl rfl) | exact Or.inr (Or.inr rfl)) (hd2 : (y == ("__debug__" : Str)) = false := by decide) (hcd2 : (y == ("__classdict__" : Str)) = false := by decide)
    (hbase2 : attributeBase (.Name y p2) "pop" X.env (eval (.Name y p2) X.env) = eval (.Name y p2) X.env := by rfl)
    (hfew2 : ((backTo cpos2 (starEach [e] X.env)).all (fun x => !x.1) && (backToKw cpos2 (keywordEach [] X.env)).all (fun x => x.1.isSome)
      && decide (([e] : List Expr).length + ([] : List Keyword).length + (if ([] : List Keyword).isEmpty then 0 else 1) < 30)) = true := by rfl)
    (hline2 : (apos2.endLine == cpos2.line) = true := by rfl) (hs2 : starEach [e] X.env = (false, eval e X.env) :: starEach [] X.env := by rfl) (hplain2 : (backTo cpos2 (starEach [] X.env)).any (·.1) = false := by rfl)
    (hbase : attributeBase (.Name x p) "append" X.env (eval (.Name x p) X.env) = eval (.Name x p) X.env := by rfl)
    (hfew : ((backTo cpos (starEach [.Call (.Attribute (.Name y p2) "pop" apos2) [e] [] cpos2] X.env)).all (fun x => !x.1) && (backToKw cpos (keywordEach [] X.env)).all (fun x => x.1.isSome)
      && decide (([.Call (.Attribute (.Name y p2) "pop" apos2) [e] [] cpos2] : List Expr).length + ([] : List Keyword).length + (if ([] : List Keyword).isEmpty then 0 else 1) < 30)) = true := by rfl)
    (hline : (apos.endLine == cpos.line) = true := by rfl) (hs : starEach [.Call (.Attribute (.Name y p2) "pop" apos2) [e] [] cpos2] X.env = (false, eval (.Call (.Attribute (.Name y p2) "pop" apos2) [e] [] cpos2) X.env) :: starEach [] X.env := by rfl) (hplain : (backTo cpos (starEach [] X.env)).any (·.1) = false := by rfl)
    (hsw : swapsWith (.Call (.Attribute (.Name x p) "append" apos) [.Call (.Attribute (.Name y p2) "pop" apos2) [e] [] cpos2] [] cpos) none pos.line X.env = pure false := by rfl) :
    PS X (.Expr (.Call (.Attribute (.Name x p) "append" apos) [.Call (.Attribute (.Name y p2) "pop" apos2) [e] [] cpos2] [] cpos) pos) (tS M (sAppPop i j f)) :=
  PS.weak (ps_expr (pe_bm PySem.F.plainAttrs_list PySem.F.slot_list_append PySem.F.type_list_append mt_append (pe_var hN hv hd hcd) (pa_cons (pe_bm PySem.F.plainAttrs_list PySem.F.slot_list_pop PySem.F.type_list_pop mt_popAt (pe_var hN2 hv2 hd2 hcd2) (pa_cons he pa_nil hs2) hbase2 hfew2 hline2 hs2 hplain2) pa_nil hs) hbase hfew hline hs hplain) hsw) fun D σ H ⟨F, env, I, q⟩ => by
    unfold sAppPop at q
    split at q
    · rename_i ds ys hi hj
      by_cases hij : i = j
      · rw [if_pos hij] at q; exact q.elim
      · rw [if_neg hij] at q
        obtain ⟨r, vs, h1, h2, h3, hF, hw⟩ := own_lst I hi
        obtain ⟨r', ws, k1, k2, k3, kF, kw⟩ := own_lst I hj
        refine ⟨.ref r, h1, .inl ⟨rfl, vs, .inl (.inl h2)⟩, .ref r', k1, .inl ⟨rfl, ws, .inl (.inl k2)⟩, F, env, I, ?_⟩
        cases r2 : f env with
        | stuck => rw [r2] at q; exact q
        | exc c x => rw [r2] at q; exact q.elim
        | ok d =>
          rw [r2] at q
          intro v H1 s1 hv1
          cases d with
          | int m =>
            dsimp only at q
            by_cases hz : ds.length < sizeLine ∧ m.natAbs < 1000000000
            · rw [if_pos hz] at q
              cases r3 : PySem.seqIndex? m ys.length with
              | none => rw [r3] at q; exact q.elim
              | some kk =>
                rw [r3] at q
                dsimp only at q
                cases r4 : ys[kk]? with
                | none => rw [r4] at q; exact q.elim
                | some yd =>
                  rw [r4] at q
                  dsimp only at q
                  obtain ⟨yv, y1, y2⟩ := k3.get r4
                  obtain ⟨I2, z2⟩ := kw H1 (ys.eraseIdx kk) (ws.eraseIdx kk) s1 ((k3.mono (Fz.same s1)).erase kk)
                  refine ⟨r', ws, m, kk, yv, rfl, by rw [hv1.int], s1 _ _ k2, by omega, by omega, by rw [k3.length]; exact r3, y1, ?_⟩
                  have hi2 : (env.set j (.own (.lst (ys.eraseIdx kk))))[i]? = some (.own (.lst ds)) := by rw [List.getElem?_set_ne (Ne.symm hij)]; exact hi
                  obtain ⟨q1, us, l1, l2, l3, lF, lw⟩ := own_lst I2 hi2
                  rw [h1] at l1
                  cases l1
                  have y3 := y2.mono z2
                  refine ⟨r, us, yv, rfl, rfl, l2, by rw [l3.length]; exact hz.1, ?_⟩
                  obtain ⟨I3, z3⟩ := lw _ (ds ++ [yd]) (us ++ [yv]) (Same.refl _) (l3.append (Reps.cons y3 Reps.nil))
                  exact q F σ _ I3 (z2.trans z3)
            · rw [if_neg hz] at q; exact q.elim
          | _ => exact q.elim
    · exact q.elim
/-- a statement that is never come to -/
theorem m_nevr : PS X st (tS M sNever) := m_never
end
end Mi
end
section
set_option maxRecDepth 100000
set_option maxHeartbeats 4000000
namespace Mi
open PySem
open PySem.Sem (wp)
/-! ## a generator's for -/
section
variable {A : Around} {R : GenEnd} {Y : Protocol} {n : Nat} {s₀ : Shared} {c : Code} {fs : List Frame} {s : Shared} {env : Env} {K : Flow → Sem PySem.Fin} {H : Value → Sem PySem.Fin} {gd : Bool → Bool} {lv : List Value → List Value}
theorem seg_For {M : Model} {target iter : Expr} {body : List Stmt} {pos : Pos} (hs : ∀ x, foldedSetIterable iter env x = pure x)
    (h : wpAny M (A.over c fs) (eval iter env) (fun v s1 => wpAny M (A.over c fs) (pyIter v) (fun itv s2 => ∀ p, Seg M A R Y n s₀ (.forLoop target itv body [] env) (M.den (.forLoop target itv body [] env)) (.ret (fun r => ((match r with | .ok f => (.pure f : Sem Flow) | .error e => .raise e).onRaise fun (x : Value) => do
        if (← field x 1) == Value.none then unsupported "frame.own-activation:exception-without-traceback"
        setFlight x env.frame).wrap K H gd lv) none (gd false) (lv []) c p [] :: fs) s2) (fun _ _ => False) s1) (fun _ _ => False) s) :
    Seg M A R Y n s₀ c ((exec (.For target iter body [] pos) env).wrap K H gd lv) fs s := by
  show Seg M A R Y n s₀ c (.at pos fun _ => ((eval iter env >>= fun v => (foldedSetIterable iter env v >>= fun x => (standAt iter.pos >>= fun _ => (holding [x] (pyIter x) >>= fun it => runOwn (.forLoop target it body [] env) env))))).wrap K H gd lv) fs s
  refine seg_at (seg_bind_wrap (wpAny_mono h (fun v s1 h1 => ?_) fun _ _ z => z.elim))
  rw [hs]
  show Seg M A R Y n s₀ c (.at iter.pos fun _ => ((holding [v] (pyIter v) >>= fun it => runOwn (.forLoop target it body [] env) env)).wrap K H gd lv) fs s1
  refine seg_at (seg_bind_wrap (wpAny_holding (wpAny_mono h1 (fun itv s2 h2 => ?_) fun _ _ z => z.elim)))
  exact seg_call h2
end
section
variable {prog : Program} {w : World} {A : Around} {R : GenEnd} {Y : Protocol} {n : Nat} {s₀ : Shared} {fs : List Frame} {s : Shared} {env : Env}
theorem seg_forLoop {target : Expr} {it : Value} {body : List Stmt}
    (h : wpAny (model prog w) (A.over (.forLoop target it body [] env) fs) (pyNext it) (fun r s1 => match r with
      | none => Seg (model prog w) A R Y n s₀ (.forLoop target it body [] env) (.pure (.again (.block [] env))) fs s1
      | some v => wpAny (model prog w) (A.over (.forLoop target it body [] env) fs) (letOwnedTupleGo target it v) (fun _ s1' => wpAny (model prog w) (A.over (.forLoop target it body [] env) fs) (assign target env v) (fun _ s2 =>
          Seg (model prog w) A R Y n s₀ (.forLoop target it body [] env) ((execs body env).wrap (fun f => match f with
            | .next | .cont => .pure (.again (.forLoop target it body [] env))
            | .brk => .pure (.done .next)
            | .ret v => .pure (.done (.ret v))) (fun e => (do noteFrame e env; theTreesLotGoes e : Sem Unit).wrap (fun _ => .raise e) .raise id id) id id) fs s2) (fun _ _ => False) s1') (fun _ _ => False) s1) (fun _ _ => False) s) :
    Seg (model prog w) A R Y n s₀ (.forLoop target it body [] env) ((model prog w).den (.forLoop target it body [] env)) fs s := by
  show Seg _ A R Y n s₀ _ ((forTurn target it body [] env).onRaise (fun x => do noteFrame x env; theTreesLotGoes x)) fs s
  unfold forTurn
  rw [Sem.onRaise_eq_wrap]
  refine seg_bind_wrap (wpAny_standAt ?_)
  refine seg_bind_wrap (wpAny_onRaise (wpAny_mono h (fun r s1 h1 => ?_) fun _ _ z => z.elim))
  cases r with
  | none => exact h1
  | some v =>
    refine seg_bind_wrap (wpAny_mono h1 (fun _ s1' h2 => ?_) fun _ _ z => z.elim)
    refine seg_bind_wrap (wpAny_mono h2 (fun _ s2 h3 => ?_) fun _ _ z => z.elim)
    rw [Sem.bind_eq_wrap', Sem.wrap_wrap]
    rw [Sem.wrap_congr (execs body env) _ _ (K' := fun f => match f with
            | .next | .cont => .pure (.again (.forLoop target it body [] env))
            | .brk => .pure (.done .next)
            | .ret v => .pure (.done (.ret v))) (H' := (fun e => (do noteFrame e env; theTreesLotGoes e : Sem Unit).wrap (fun _ => .raise e) .raise id id))
        (fun f => by cases f <;> rfl)
        (fun e => by first | exact Sem.bind_eq_wrap _ _ | (show (do noteFrame e env; theTreesLotGoes e : Sem Unit).bind (fun _ => .raise e) = _; rw [Sem.bind_eq_wrap]))]
    exact h3
end
end Mi
end
section
set_option maxRecDepth 100000
set_option maxHeartbeats 4000000
namespace Mi
open PySem PySem.Spec PyProof.Rows L2 GenW
/-! ## a generator's for over range(n) -/
def forGL (i : Nat) (f : GnF) : List D → Envt → List D × Out
  | [], env => ([], .nx env)
  | d :: ds, env => match f (env.set i (.val d)) with
    | (ys, .nx e) => (ys ++ (forGL i f ds e).1, (forGL i f ds e).2)
    | (ys, .ct e) => (ys ++ (forGL i f ds e).1, (forGL i f ds e).2)
    | (ys, .bk e) => (ys, .nx e)
    | (ys, _) => (ys, .stuck)
def gForR (i : Nat) (fe : EF) (f : GnF) : GnF := fun env => match fe env with
  | .ok (.int j) => if 0 ≤ j ∧ j < 1000000 then forGL i f (rangeD 0 j.toNat) env else ([], .stuck)
  | _ => ([], .stuck)
theorem nost_nx {M : Fm} : NoSt M.nx := fun _ _ _ _ _ z => z.elim
section
variable {g : GSt} {body : List Stmt} {f : GnF}
theorem g_forR {a : Expr} {x : Str} {px p cpos pos : Pos} {fe : EF} (i : Nat) (he : ∀ (s0 : Shared) (H0 : Hp) (M : Fm), M.G = g.G → (M.W = fun _ _ _ _ => False) → PE (gcx g s0 H0) a (tV M fe)) (hm : g.mg "range" = none)
    (hgn : ∀ (s0 : Shared) (H0 : Hp) (M : Fm), M.G = g.G → (M.W = fun _ _ _ _ => False) → PG (gcx g s0 H0) (.Name x px) (tG M [i] (gaName i))) (hb : GStms g body f)
    (hgl : ∀ (s0 : Shared) (H0 : Hp), Gl (gcx g s0 H0) "range" := by intro _ _; rfl) (hs : starEach [a] g.env = (false, eval a g.env) :: starEach [] g.env := by rfl) (hs' : starEach [a] g.env = [(false, eval a g.env)] := by rfl) (hfo : ∀ v, foldedSetIterable (.Call (.Name "range" p) [a] [] cpos) g.env v = pure v := by intro _; rfl) :
    GStm g (.For (.Name x px) (.Call (.Name "range" p) [a] [] cpos) body [] pos) (gForR i fe f) := by
  refine ⟨fun LI pn Aw ds pre env ys rs o s0 s c fs K J gd lv ga ee ho hd hI hk => ?_⟩
  unfold gForR at ee
  have stk : ∀ {ys : List D} {o : Out}, (([] : List D), Out.stuck) = (ys, o) → o.fine → False := fun {ys o} e h => by
    obtain ⟨rfl, rfl⟩ : [] = ys ∧ Out.stuck = o := ⟨congrArg Prod.fst e, congrArg Prod.snd e⟩
    exact h
  cases r : fe env with
  | exc c x => rw [r] at ee; exact (stk ee ho).elim
  | stuck => rw [r] at ee; exact (stk ee ho).elim
  | ok d =>
  rw [r] at ee
  cases d with
  | int j =>
    dsimp only at ee
    by_cases hj : 0 ≤ j ∧ j < 1000000
    · rw [if_pos hj] at ee
      have hI0 := hI
      obtain ⟨Og, H', F', M, F1, σ, H1, li, mo, I, En, pg⟩ := hI
      refine seg_For hfo ?_
      rw [ga.over]
      have hrun := (pi_range1 (X := gcx g (trunc g.n0 s0) H') (tg := .Name x px) (p := p) (pos := cpos) (hgl _ _) hm (pa_cons (he (trunc g.n0 s0) H' M mo.1 mo.2.2.1) pa_nil hs) hs').run pn s σ H1 (fun J H2 => J = Itr 0 j.toNat ∧ EnvOk M F1 H2 env σ) I ⟨F1, env, En, by
        rw [r]
        exact fun v H2 s2 hv => ⟨j, by rw [hv.int], by omega, by omega, rfl, En.grow s2⟩⟩
      refine wpAny_mono hrun (fun v s1 h1 => wpAny_mono h1 (fun itv s2 h2 => ?_) fun _ _ z => z.elim) fun _ _ z => z.elim
      obtain ⟨it, fp, tn, Jt, H2, rfl, I2, T, st2, f2, hJt, En2⟩ := h2
      subst hJt
      intro pp
      -- what stays of the iterator's objects
      have fpS : ∀ b ∈ fp, g.n0 ≤ b ∧ b ≠ g.n0 ∧ b ∉ (gcx g (trunc g.n0 s0) H').fs ∧ (∀ x c, g.env.cells.lookup x = some c → c ≠ b) ∧ ∀ p ∈ [(g.a, g.go)] ++ pn, p.1 ≠ b := fun b hb => by
        obtain ⟨_, k1, k2, k3, k4, k5⟩ := f2 b hb
        refine ⟨?_, k1, k2, k4, k5⟩
        have := k3.resolve_left (by simp [gcx])
        rw [show (gcx g (trunc g.n0 s0) H').s_0 = trunc g.n0 s0 from rfl, trunc_size pg.2] at this
        exact this
      have gl := fun (kk : Result → Sem PySem.Fin) => gat_loop (k := kk) (c' := .forLoop (.Name x px) (.ref it) body [] g.env) (l := lv []) (kp := []) (p := pp) ga rfl rfl
      have loop : ∀ (m lo : Nat) (pre : List D) (env : Envt) (ys : List D) (o : Out) (s0 s : Shared), lo + m = j.toNat → forGL i f (rangeD (lo : Int) m) env = (ys, o) → o.fine → ds = pre ++ (ys ++ rs) →
          (∃ (Og : List Addr) (H' : Hp) (F' : Own) (M : Fm) (F1 : Own) (σ : L2.St) (H1 : Hp), LI Og (ys ++ rs).length s0 H' F' ∧ MOk g Og F' H' M ∧ Inv (gcx g (trunc g.n0 s0) H') pn σ H1 s ∧ EnvOk M F1 H1 env σ ∧ (∀ p ∈ pn, g.n0 ≤ p.1) ∧ g.n0 ≤ s0.heap.objs.size ∧ tn lo s.heap ∧ ∀ b ∈ fp, H1 b = none) →
          (∀ s0' s' f, FlowOf g LI pn rs.length s0' s' o f → Seg (model g.P g.w) Aw (GR g LI) (GY g LI ds) rs.length s0' c (K f) fs s') →
          Seg (model g.P g.w) Aw (GR g LI) (GY g LI ds) (ys ++ rs).length s0 (.forLoop (.Name x px) (.ref it) body [] g.env) ((model g.P g.w).den (.forLoop (.Name x px) (.ref it) body [] g.env))
            (.ret (fun r => ((match r with | .ok f => (.pure f : Sem Flow) | .error e => .raise e).onRaise fun (x : Value) => do
              if (← field x 1) == Value.none then unsupported "frame.own-activation:exception-without-traceback"
              setFlight x g.env.frame).wrap K J gd lv) none (gd false) (lv []) c pp [] :: fs) s := by
        intro m
        induction m with
        | zero =>
          intro lo pre env ys o s0 s hlo e ho hd hI hk
          obtain ⟨rfl, rfl⟩ : [] = ys ∧ Out.nx env = o := ⟨congrArg Prod.fst e, congrArg Prod.snd e⟩
          obtain ⟨Og, H', F', M, F1, σ, H1, li, mo, I, En, pg1, pg2, st, fr⟩ := hI
          have fpk : ∀ b ∈ fp, FpOk (gcx g (trunc g.n0 s0) H') pn H1 b := fun b hb => by
            obtain ⟨k0, k1, k2, k3, k4⟩ := fpS b hb
            exact ⟨fr b hb, k1, k2, .inr (by show (trunc g.n0 s0).heap.objs.size ≤ b; rw [trunc_size pg2]; exact k0), k3, k4⟩
          refine seg_forLoop ?_
          rw [(gl _).over]
          refine wpAny_mono (T.done (gcx g (trunc g.n0 s0) H') rfl rfl rfl rfl lo pn s σ H1 (fun _ _ => False) I fpk st (by show j.toNat ≤ lo; omega)) (fun rr s1 ⟨hr, I1⟩ => ?_) fun _ _ z => z.elim
          subst hr
          refine seg_again rfl ?_
          exact seg_leaf (.ok .next) (hk s0 s1 .next ⟨Og, H', F', M, F1, σ, H1, li, mo, I1, En, pg1, pg2⟩)
        | succ m ih =>
          intro lo pre env ys o s0 s hlo e ho hd hI hk
          obtain ⟨Og, H', F', M, F1, σ, H1, li, mo, I, En, pg1, pg2, st, fr⟩ := hI
          have fpk : ∀ b ∈ fp, FpOk (gcx g (trunc g.n0 s0) H') pn H1 b := fun b hb => by
            obtain ⟨k0, k1, k2, k3, k4⟩ := fpS b hb
            exact ⟨fr b hb, k1, k2, .inr (by show (trunc g.n0 s0).heap.objs.size ≤ b; rw [trunc_size pg2]; exact k0), k3, k4⟩
          have e : forGL i f (D.int (lo : Int) :: rangeD ((lo : Int) + 1) m) env = (ys, o) := e
          unfold forGL at e
          refine seg_forLoop ?_
          rw [(gl _).over]
          refine wpAny_mono (T.item (gcx g (trunc g.n0 s0) H') rfl rfl rfl rfl lo pn s σ H1 (fun _ _ => False) I fpk st (by show lo < j.toNat; omega)) (fun rr s1 ⟨u, hr, h4⟩ => ?_) fun _ _ z => z.elim
          subst hr
          refine wpAny_mono h4 (fun _ s5 ⟨xv, H5, I5, r5, y5, st5, fr5⟩ => ?_) fun _ _ z => z.elim
          obtain ⟨rfl, rfl⟩ : H5 = H1 ∧ xv = .int (0 + (lo : Int)) := y5
          have I5' := I5.pinned fpk (T.obj _ _ st5)
          have hst := (hgn (trunc g.n0 s0) H' M mo.1 mo.2.2.1).run _ s5 σ H5 (.int (0 + (lo : Int))) u (fun σ' H'' => EnvOk M F1 H5 (env.set i (.val (.int (lo : Int)))) σ' ∧ H'' = H5) I5' r5 ⟨F1, env, .int (lo : Int), En, by rw [Int.zero_add]; exact Rep.int_, fun σ' e' _ => ⟨e', rfl⟩⟩
          refine wpAny_mono hst (fun _ s6 ⟨σ6, H6, I6, q6, eH6⟩ => ?_) fun _ _ z => z.elim
          subst eH6
          have pgs : ∀ p ∈ pn ++ pinsAt fp s5.heap, g.n0 ≤ p.1 := fun p hp => (List.mem_append.mp hp).elim (pg1 p) fun z => (fpS _ (of_pinsAt z).1).1
          -- behind a turn
          have back : ∀ {LIn : Nat} {e1 : Envt} {s0' s3 : Shared}, GIv g LI (pn ++ pinsAt fp s5.heap) e1 LIn s0' s3 → GIv g LI pn e1 LIn s0' s3 ∧ ∃ (Og : List Addr) (H' : Hp) (F' : Own) (M : Fm) (F1 : Own) (σ : L2.St) (H1 : Hp), LI Og LIn s0' H' F' ∧ MOk g Og F' H' M ∧ Inv (gcx g (trunc g.n0 s0') H') pn σ H1 s3 ∧ EnvOk M F1 H1 e1 σ ∧ (∀ p ∈ pn, g.n0 ≤ p.1) ∧ g.n0 ≤ s0'.heap.objs.size ∧ tn (lo + 1) s3.heap ∧ ∀ b ∈ fp, H1 b = none := fun {LIn e1 s0' s3} ⟨Og, H', F', M, F1, σ, H1, li, mo, I, En, pg3, pg4⟩ => by
            refine ⟨⟨Og, H', F', M, F1, σ, H1, li, mo, I.unpinned, En, pg1, pg4⟩, Og, H', F', M, F1, σ, H1, li, mo, I.unpinned, En, pg1, pg4, ?_, fun b hb => ?_⟩
            · exact T.keep _ _ _ st5 fun b hb o e => (I.pin (b, o) (List.mem_append_right _ (List.mem_append_right _ (mem_pinsAt hb e)))).1
            · obtain ⟨o, e, d⟩ := T.obj _ _ st5 b hb
              exact (I.pin (b, o) (List.mem_append_right _ (List.mem_append_right _ (mem_pinsAt hb e)))).2.1
          cases r1 : f (env.set i (.val (.int (lo : Int)))) with
          | mk ys1 o1 =>
          rw [r1] at e
          have giv : ∀ k, LI Og k s0 H' F' → GIv g LI (pn ++ pinsAt fp s5.heap) (env.set i (.val (.int (lo : Int)))) k s0 s6 := fun k lk => ⟨Og, H', F', M, F1, σ6, H6, lk, mo, I6, q6, pgs, pg2⟩
          have again : ∀ e1, (o1 = .nx e1 ∨ o1 = .ct e1) → (ys1 ++ (forGL i f (rangeD ((lo : Int) + 1) m) e1).1, (forGL i f (rangeD ((lo : Int) + 1) m) e1).2) = (ys, o) → Seg (model g.P g.w) Aw (GR g LI) (GY g LI ds) (ys ++ rs).length s0 (.forLoop (.Name x px) (.ref it) body [] g.env) ((execs body g.env).wrap (fun f => match f with
            | .next | .cont => .pure (.again (.forLoop (.Name x px) (.ref it) body [] g.env))
            | .brk => .pure (.done .next)
            | .ret v => .pure (.done (.ret v))) (fun e => (do noteFrame e g.env; theTreesLotGoes e : Sem Unit).wrap (fun _ => .raise e) .raise id id) id id) (.ret (fun r => ((match r with | .ok f => (.pure f : Sem Flow) | .error e => .raise e).onRaise fun (x : Value) => do
              if (← field x 1) == Value.none then unsupported "frame.own-activation:exception-without-traceback"
              setFlight x g.env.frame).wrap K J gd lv) none (gd false) (lv []) c pp [] :: fs) s6 := fun e1 h1 e => by
            cases r2 : forGL i f (rangeD ((lo : Int) + 1) m) e1 with
            | mk ys2 o2 =>
              rw [r2] at e
              obtain ⟨rfl, rfl⟩ : ys1 ++ ys2 = ys ∧ o2 = o := ⟨congrArg Prod.fst e, congrArg Prod.snd e⟩
              rw [List.append_assoc] at hd li ⊢
              refine hb.run LI (pn ++ pinsAt fp s5.heap) Aw ds pre _ ys1 (ys2 ++ rs) o1 s0 s6 _ _ _ _ id id (gl _) r1 (by rcases h1 with z | z <;> rw [z] <;> exact True.intro) hd (giv _ li) fun s0' s3 fl hf => ?_
              have hf' : GIv g LI (pn ++ pinsAt fp s5.heap) e1 (ys2 ++ rs).length s0' s3 ∧ (fl = .next ∨ fl = .cont) := by
                rcases h1 with z | z
                · rw [z] at hf
                  cases fl with
                  | next => exact ⟨hf, .inl rfl⟩
                  | brk => exact hf.elim
                  | cont => exact hf.elim
                  | ret v => exact hf.elim
                · rw [z] at hf
                  cases fl with
                  | cont => exact ⟨hf, .inr rfl⟩
                  | brk => exact hf.elim
                  | next => exact hf.elim
                  | ret v => exact hf.elim
              have go := seg_again (c := .forLoop (.Name x px) (.ref it) body [] g.env) (c' := .forLoop (.Name x px) (.ref it) body [] g.env) rfl (ih (lo + 1) (pre ++ ys1) e1 ys2 o2 s0' s3 (by omega) r2 ho (by rw [List.append_assoc]; exact hd) (back hf'.1).2 hk)
              rcases hf'.2 with z | z <;> rw [z] <;> exact go
          cases o1 with
          | nx e1 => exact again e1 (.inl rfl) e
          | ct e1 => exact again e1 (.inr rfl) e
          | bk e1 =>
            obtain ⟨rfl, rfl⟩ : ys1 = ys ∧ Out.nx e1 = o := ⟨congrArg Prod.fst e, congrArg Prod.snd e⟩
            refine hb.run LI (pn ++ pinsAt fp s5.heap) Aw ds pre _ ys1 rs (.bk e1) s0 s6 _ _ _ _ id id (gl _) r1 True.intro hd (giv _ li) fun s0' s3 fl hf => ?_
            cases fl with
            | brk => exact seg_leaf (.ok .next) (hk s0' s3 .next (back hf).1)
            | next => exact hf.elim
            | cont => exact hf.elim
            | ret v => exact hf.elim
          | rt d e1 => exact (stk (ys := ys) (o := o) (by obtain ⟨rfl, rfl⟩ : ys1 = ys ∧ Out.stuck = o := ⟨congrArg Prod.fst e, congrArg Prod.snd e⟩; exact ho.elim) ho).elim
          | exc c x e1 => exact (stk (ys := ys) (o := o) (by obtain ⟨rfl, rfl⟩ : ys1 = ys ∧ Out.stuck = o := ⟨congrArg Prod.fst e, congrArg Prod.snd e⟩; exact ho.elim) ho).elim
          | stuck => exact (stk (ys := ys) (o := o) (by obtain ⟨rfl, rfl⟩ : ys1 = ys ∧ Out.stuck = o := ⟨congrArg Prod.fst e, congrArg Prod.snd e⟩; exact ho.elim) ho).elim
      exact loop j.toNat 0 pre env ys o s0 s2 (by omega) ee ho hd ⟨Og, H', F', M, F1, σ, H2, li, mo, I2, En2, pg.1, pg.2, st2, fun b hb => (f2 b hb).1⟩ hk
    · rw [if_neg hj] at ee; exact (stk ee ho).elim
  | _ => exact (stk ee ho).elim
end
end Mi
end
section
set_option maxRecDepth 100000
set_option maxHeartbeats 4000000
namespace Mi
open PySem PySem.Spec PyProof.Rows L2
/-! ### min of a tuple of whole numbers -/
section
variable {prog : Program} {w : World} {A : Around} {E : Value → Shared → Prop} {s : Shared} {l : Addr} {xs : Array (Int × Tok)} {its : List Value} {ns : List Int}
theorem min_intTup {Q : Value → Shared → Prop} (hh : A.handled = none) (hl : s.heap.IsTuple l (intItems xs)) (hne : 0 < xs.size)
    (h : ∀ v h' tk, (intItems xs)[argBest (fun i j => decide (numAt xs i < numAt xs j)) (xs.size - 1)]? = some v → (∀ b o, s.heap.get? b = some o → h'.get? b = some o) → Q v { s with heap := h', toks := tk }) :
    wpAny (model prog w) A (call (.builtin "min") [.ref l]) Q E s := by
  have hlt : l < s.heap.objs.size := by obtain ⟨_, e, _⟩ := hl; exact Heap.lt_size e
  refine call_min_walk (wpAny_pyIter_tuple hl ?_)
  refine ⟨_, _, _, _, _, _, _, rfl, Walks.tuple (A := A.in1) hh _ l (Nat.ne_of_lt hlt) (intItems xs), ⟨⟨_, Heap.get?_push_size _ rfl, rfl, rfl⟩, hl.push _⟩, fun b hb => ?_, by simpa [intItems] using hne, CmpOf.ints_lt (numAt xs) (fun _ _ => intItems_at), fun v h' tk hP hk => ?_⟩
  · show b < (s.heap.push _).objs.size
    rw [Heap.size_push]
    rcases List.mem_cons.mp hb with rfl | hb
    · exact Nat.lt_succ_self _
    · rcases List.mem_cons.mp hb with rfl | hb
      · exact Nat.lt_succ_of_lt hlt
      · cases hb
  · refine h v h' tk (by simpa [intItems] using hP) fun b o e => hk b o (fun hm => ?_) (Heap.get?_push_of_some _ e)
    rcases List.mem_cons.mp hm with e1 | hm
    · exact absurd (e1 ▸ Heap.lt_size e) (Nat.lt_irrefl _)
    · cases hm
theorem min_rawT {Q : Value → Shared → Prop} (hh : A.handled = none) (hl : s.heap.IsTuple l its.toArray) (hi : IntsAre its ns) (hne : 0 < ns.length)
    (h : ∀ h' tk M t', (∀ b o, s.heap.get? b = some o → h'.get? b = some o) → M ∈ ns → (∀ a, a ∈ ns → M ≤ a) → Q (.int M t') { s with heap := h', toks := tk }) : wpAny (model prog w) A (call (.builtin "min") [.ref l]) Q E s := by
  obtain ⟨xs, e⟩ := hi.allInts.items
  have hn : numsOf (intItems xs).toList = ns := by rw [← e]; exact hi.numsOf
  rw [nums_intItems] at hn
  subst hn
  rw [e] at hl
  have hsz : 0 < xs.size := by simpa using hne
  refine min_intTup hh hl hsz fun v h' tk hv hk => ?_
  obtain ⟨t, rfl⟩ := intItems_at hv
  obtain ⟨h1, h2⟩ := argBest_lt (numAt xs) (xs.size - 1)
  refine h h' tk _ t hk ?_ fun a ha => ?_
  · rw [numAt_eq]; exact PySem.getD_mem (by rw [List.length_map, Array.length_toList]; omega)
  · obtain ⟨j, hj, rfl⟩ := mem_getD ha
    rw [List.length_map, Array.length_toList] at hj
    rw [← numAt_eq]; exact h2 j (by omega)
end
def rMinA (K : PySem.W.Frag) : List V → Hp → VK → Prop := fun vs H Q => ∃ (a : Addr) (ns : List Int), vs = [V.ref a] ∧ (SqL K H a (ns.map V.int) ∨ SqT K H a (ns.map V.int)) ∧ 0 < ns.length ∧ ∀ m, m ∈ ns → (∀ y, y ∈ ns → m ≤ y) → Q (.int m) H
section
variable {M : Fm} {X : Cx} {e : Expr} {pos p : Pos} {f : EF} {k : Nat}
theorem cr_minA (hc : X.calm = true) : CallR X (.builtin "min") (rMinA X.K) := by
  intro pins s σ H vs us Q I r h
  obtain ⟨a, ns, rfl, hs | hs, hne, q⟩ := h
  · exact cr_min hc pins s σ H [.ref a] us Q I r ⟨a, ns, rfl, hs, hne, q⟩
  · obtain ⟨its, rv, hl, _⟩ := I.tuple hs
    rw [Vals.ref1 r]
    exact min_rawT (I.ok.hd hc) hl rv.ints hne fun h' tk m t' hk h1 h2 => ⟨.int _, H, I.kept hk, ⟨_, rfl⟩, q m h1 h2⟩
def dMinA : D → Res D := fun d => match d.items with
  | some ds => match D.ints ds with
    | some ns => if ns = [] then .stuck else .ok (.int (minI ns))
    | none => .stuck
  | _ => .stuck
theorem d_minA : Des1 M (rMinA M.G.K) (Rep M.G) dMinA := by
  intro F σ x v H Q dom hx q
  have main : ∀ (ds : List D) (p : Addr) (us : List V), v = .ref p → (SqL M.G.K H p us ∨ SqT M.G.K H p us) → Reps M.G F H ds us → post M (Rep M.G) F σ H (match D.ints ds with
      | some ns => if ns = [] then .stuck else .ok (.int (minI ns))
      | none => .stuck) Q → rMinA M.G.K [v] H Q := by
    intro ds p us ev hsq hr q
    split at q
    · rename_i ns e
      split at q
      · exact q.elim
      · rename_i hne
        obtain ⟨rfl, _⟩ := hr.ints e
        subst ev
        refine ⟨p, ns, rfl, hsq, List.length_pos_iff.mpr hne, fun m hm hmax => ?_⟩
        obtain ⟨k1, k2⟩ := minI_spec hne
        have : m = minI ns := Int.le_antisymm (hmax _ k1) (k2 m hm)
        rw [this]
        exact post_ok q Rep.int_
    · exact q.elim
  cases x with
  | lst ds =>
    obtain ⟨p, us, ev, h1, h2⟩ := hx.lst
    exact main ds p us ev (.inl h1) h2 q
  | tup ds =>
    obtain ⟨p, us, ev, h1, h2⟩ := hx.tup
    exact main ds p us ev (.inr h1) h2 q
  | _ => exact q.elim
theorem m_minA (C : Cxx X M k) (hm : X.mg "min" = none) (ha : PE X e (tV M f)) (hg : Gl X "min" := by rfl) (he : starEach [e] X.env = (false, eval e X.env) :: starEach [] X.env := by rfl) (hpl : (backTo pos (starEach [] X.env)).any (·.1) = false := by rfl) :
    PE X (.Call (.Name "min" p) [e] [] pos) (tE M (eU dMinA f)) := m_b1 (cr_minA C.calm) (C.hK ▸ d_minA) (by decide +kernel) hm ha hg (by decide) (by decide) he hpl
end
end Mi
end
section
set_option maxRecDepth 100000
set_option maxHeartbeats 4000000
namespace Law
open PySem PySem.Spec PyProof.Rows L2 Mi
def top (i : Nat) : Stmt := PySem.Challenge.pw_endsastold_k82_best_messages_give_no_gai.main.body.getD i (.Pass ⟨0, 0, 0, 0⟩)
/-- a class's j-th statement -/
def clsSt (s : Stmt) (j : Nat) : Stmt := match s with
  | .ClassDef _ _ _ b _ _ _ _ _ _ _ => b.getD j (.Pass ⟨0, 0, 0, 0⟩)
  | _ => .Pass ⟨0, 0, 0, 0⟩

abbrev st_wall : Stmt := top 0
abbrev st_liking_of : Stmt := top 10
abbrev st_is_liking : Stmt := top 11
abbrev st_count_plays : Stmt := top 15
abbrev st_check_count : Stmt := top 16
abbrev st_check_play : Stmt := top 17
abbrev st_check_table : Stmt := top 18
abbrev st_number_of : Stmt := top 19
abbrev st_play_at : Stmt := top 20
abbrev st_with_message : Stmt := top 21
abbrev st_Game_init : Stmt := clsSt (top 22) 1
abbrev st_Game_outcome : Stmt := clsSt (top 22) 3
abbrev st_plays : Stmt := top 23
abbrev st_check_choice : Stmt := top 25
abbrev st_gain_of : Stmt := top 26
abbrev st_first_gain : Stmt := top 27
abbrev st_best_messages : Stmt := top 28
abbrev st_are_likings : Stmt := top 31
abbrev st_Domain_init : Stmt := clsSt (top 30) 2
abbrev st_law_row : Stmt := top 33
abbrev st_law_order : Stmt := top 34
abbrev st_law_same : Stmt := top 35
abbrev st_law_dense : Stmt := top 36
abbrev st_law_plays : Stmt := top 37
abbrev st_law_number : Stmt := top 38
abbrev st_law_game : Stmt := top 39
abbrev st_law_likings : Stmt := top 40
abbrev st_law_domain_worlds : Stmt := top 41
abbrev st_law_serial : Stmt := top 42
abbrev st_law_gain : Stmt := top 43
abbrev st_law_best : Stmt := top 44
abbrev st_law_many_likings : Stmt := top 45
abbrev st_law_given : Stmt := top 46
abbrev st_law_refused : Stmt := top 47
abbrev st_law_wrong : Stmt := top 48
abbrev st_law_asked : Stmt := top 49
abbrev st_law_said : Stmt := top 50
abbrev st_law : Stmt := top 51
/-- what the text around says -/
structure Fx (P : Program) (w : World) (K : PySem.W.Frag) (mg : Str → Option Value) (base : Heap) (G : Gc) : Prop where
  hK : K = G.K
  d_wall : ∃ f fd, mg "_wall" = some (.ref f) ∧ FunD K "_wall" "_wall" (defArgs st_wall) (defBody st_wall) (defScope st_wall) [] [] f fd
  b_sorted : mg "sorted" = none
  b_set : mg "set" = none
  b_tuple : mg "tuple" = none
  d_liking_of : ∃ f fd, mg "liking_of" = some (.ref f) ∧ FunD K "liking_of" "liking_of" (defArgs st_liking_of) (defBody st_liking_of) (defScope st_liking_of) [] [] f fd
  b_len : mg "len" = none
  d_is_liking : ∃ f fd, mg "is_liking" = some (.ref f) ∧ FunD K "is_liking" "is_liking" (defArgs st_is_liking) (defBody st_is_liking) (defScope st_is_liking) [] [] f fd
  d_count_plays : ∃ f fd, mg "count_plays" = some (.ref f) ∧ FunD K "count_plays" "count_plays" (defArgs st_count_plays) (defBody st_count_plays) (defScope st_count_plays) [] [] f fd
  x_TooMany : XcR P w K mg base G 1 "TooMany" 4 chkF
  d_check_count : ∃ f fd, mg "check_count" = some (.ref f) ∧ FunD K "check_count" "check_count" (defArgs st_check_count) (defBody st_check_count) (defScope st_check_count) [] [] f fd
  b_zip : mg "zip" = none
  d_check_play : ∃ f fd, mg "check_play" = some (.ref f) ∧ FunD K "check_play" "check_play" (defArgs st_check_play) (defBody st_check_play) (defScope st_check_play) [] [] f fd
  b_min : mg "min" = none
  b_range : mg "range" = none
  x_BadGame : XcR P w K mg base G 1 "BadGame" 2 chkF
  d_check_table : ∃ f fd, mg "check_table" = some (.ref f) ∧ FunD K "check_table" "check_table" (defArgs st_check_table) (defBody st_check_table) (defScope st_check_table) [] [] f fd
  d_number_of : ∃ f fd, mg "number_of" = some (.ref f) ∧ FunD K "number_of" "number_of" (defArgs st_number_of) (defBody st_number_of) (defScope st_number_of) [] [] f fd
  b_reversed : mg "reversed" = none
  d_play_at : ∃ f fd, mg "play_at" = some (.ref f) ∧ FunD K "play_at" "play_at" (defArgs st_play_at) (defBody st_play_at) (defScope st_play_at) [] [] f fd
  d_with_message : ∃ f fd, mg "with_message" = some (.ref f) ∧ FunD K "with_message" "with_message" (defArgs st_with_message) (defBody st_with_message) (defScope st_with_message) [] [] f fd
  i_PEOPLE : ∃ t, mg "PEOPLE" = some (.int 4 t)
  x_BadSize : XcR P w K mg base G 1 "BadSize" 1 chkF
  i_OUTCOMES : ∃ t, mg "OUTCOMES" = some (.int 8 t)
  k_Game_PLAYS : ∃ C mc, mg "Game" = some (.ref C) ∧ ClX.CRead K C mc ∧ ∃ t, ClX.CVal K C mc "PLAYS" (.int 4096) (.int 4096 t)
  fs_Game_sizes : ∀ c ∈ [7], Cls K (G.cls c) ∧ NoAttr K (G.cls c) "sizes"
  fs_Game_outcomes : ∀ c ∈ [7], Cls K (G.cls c) ∧ NoAttr K (G.cls c) "outcomes"
  fs_Game_table : ∀ c ∈ [7], Cls K (G.cls c) ∧ NoAttr K (G.cls c) "table"
  d_Game_init : ∃ f fd, mg "Game" = some (.ref (G.cls 7)) ∧ Mk K (G.cls 7) f ∧ FunD K "__init__" "Game.__init__" (defArgs st_Game_init) (defBody st_Game_init) (defScope st_Game_init) [] [] f fd
  fl_sizes : ∀ c ∈ [7, 8], Cls K (G.cls c) ∧ NoAttr K (G.cls c) "sizes"
  fl_table : ∀ c ∈ [7], Cls K (G.cls c) ∧ NoAttr K (G.cls c) "table"
  d_Game_outcome : ∃ f fd, Cls K (G.cls 7) ∧ Meth K (G.cls 7) "outcome" f ∧ FunD K "outcome" "Game.outcome" (defArgs st_Game_outcome) (defBody st_Game_outcome) (defScope st_Game_outcome) [] [] f fd
  d_plays : ∃ f fd, mg "plays" = some (.ref f) ∧ FunD K "plays" "plays" (defArgs st_plays) (defBody st_plays) (defScope st_plays) [] [] f fd
  fl_worlds : ∀ c ∈ [8], Cls K (G.cls c) ∧ NoAttr K (G.cls c) "worlds"
  fl_outcomes : ∀ c ∈ [7, 8], Cls K (G.cls c) ∧ NoAttr K (G.cls c) "outcomes"
  x_BadChoice : XcR P w K mg base G 1 "BadChoice" 6 chkF
  d_check_choice : ∃ f fd, mg "check_choice" = some (.ref f) ∧ FunD K "check_choice" "check_choice" (defArgs st_check_choice) (defBody st_check_choice) (defScope st_check_choice) [] [] f fd
  d_gain_of : ∃ f fd, mg "gain_of" = some (.ref f) ∧ FunD K "gain_of" "gain_of" (defArgs st_gain_of) (defBody st_gain_of) (defScope st_gain_of) [] [] f fd
  d_first_gain : ∃ f fd, mg "first_gain" = some (.ref f) ∧ FunD K "first_gain" "first_gain" (defArgs st_first_gain) (defBody st_first_gain) (defScope st_first_gain) [] [] f fd
  b_max : mg "max" = none
  d_best_messages : ∃ f fd, mg "best_messages" = some (.ref f) ∧ FunD K "best_messages" "best_messages" (defArgs st_best_messages) (defBody st_best_messages) (defScope st_best_messages) [] [] f fd
  k_Domain_LIKINGS : ∃ C mc, mg "Domain" = some (.ref C) ∧ ClX.CRead K C mc ∧ ∃ t, ClX.CVal K C mc "LIKINGS" (.int 6) (.int 6 t)
  d_are_likings : ∃ f fd, mg "are_likings" = some (.ref f) ∧ FunD K "are_likings" "are_likings" (defArgs st_are_likings) (defBody st_are_likings) (defScope st_are_likings) [] [] f fd
  x_BadDomain : XcR P w K mg base G 1 "BadDomain" 5 chkF
  k_Domain_WORLDS : ∃ C mc, mg "Domain" = some (.ref C) ∧ ClX.CRead K C mc ∧ ∃ t, ClX.CVal K C mc "WORLDS" (.int 36) (.int 36 t)
  fs_Domain_outcomes : ∀ c ∈ [8], Cls K (G.cls c) ∧ NoAttr K (G.cls c) "outcomes"
  fs_Domain_likings : ∀ c ∈ [8], Cls K (G.cls c) ∧ NoAttr K (G.cls c) "likings"
  fs_Domain_sizes : ∀ c ∈ [8], Cls K (G.cls c) ∧ NoAttr K (G.cls c) "sizes"
  fl_likings : ∀ c ∈ [8], Cls K (G.cls c) ∧ NoAttr K (G.cls c) "likings"
  fs_Domain_worlds : ∀ c ∈ [8], Cls K (G.cls c) ∧ NoAttr K (G.cls c) "worlds"
  d_Domain_init : ∃ f fd, mg "Domain" = some (.ref (G.cls 8)) ∧ Mk K (G.cls 8) f ∧ FunD K "__init__" "Domain.__init__" (defArgs st_Domain_init) (defBody st_Domain_init) (defScope st_Domain_init) [] [] f fd
  b_abs : mg "abs" = none
  b_int : mg "int" = none
  d_law_row : ∃ f fd, mg "_law_row" = some (.ref f) ∧ FunD K "_law_row" "_law_row" (defArgs st_law_row) (defBody st_law_row) (defScope st_law_row) [] [] f fd
  b_list : mg "list" = none
  d_law_order : ∃ f fd, mg "_law_order" = some (.ref f) ∧ FunD K "_law_order" "_law_order" (defArgs st_law_order) (defBody st_law_order) (defScope st_law_order) [] [] f fd
  b_isinstance : mg "isinstance" = none
  b_str : mg "str" = none
  b_bool : mg "bool" = none
  d_law_same : ∃ f fd, mg "_law_same" = some (.ref f) ∧ FunD K "_law_same" "_law_same" (defArgs st_law_same) (defBody st_law_same) (defScope st_law_same) [] [] f fd
  d_law_dense : ∃ f fd, mg "_law_dense" = some (.ref f) ∧ FunD K "_law_dense" "_law_dense" (defArgs st_law_dense) (defBody st_law_dense) (defScope st_law_dense) [] [] f fd
  d_law_plays : ∃ f fd, mg "_law_plays" = some (.ref f) ∧ FunD K "_law_plays" "_law_plays" (defArgs st_law_plays) (defBody st_law_plays) (defScope st_law_plays) [] [] f fd
  d_law_number : ∃ f fd, mg "_law_number" = some (.ref f) ∧ FunD K "_law_number" "_law_number" (defArgs st_law_number) (defBody st_law_number) (defScope st_law_number) [] [] f fd
  d_law_game : ∃ f fd, mg "_law_game" = some (.ref f) ∧ FunD K "_law_game" "_law_game" (defArgs st_law_game) (defBody st_law_game) (defScope st_law_game) [] [] f fd
  d_law_likings : ∃ f fd, mg "_law_likings" = some (.ref f) ∧ FunD K "_law_likings" "_law_likings" (defArgs st_law_likings) (defBody st_law_likings) (defScope st_law_likings) [] [] f fd
  d_law_domain_worlds : ∃ f fd, mg "_law_domain_worlds" = some (.ref f) ∧ FunD K "_law_domain_worlds" "_law_domain_worlds" (defArgs st_law_domain_worlds) (defBody st_law_domain_worlds) (defScope st_law_domain_worlds) [] [] f fd
  d_law_serial : ∃ f fd, mg "_law_serial" = some (.ref f) ∧ FunD K "_law_serial" "_law_serial" (defArgs st_law_serial) (defBody st_law_serial) (defScope st_law_serial) [] [] f fd
  d_law_gain : ∃ f fd, mg "_law_gain" = some (.ref f) ∧ FunD K "_law_gain" "_law_gain" (defArgs st_law_gain) (defBody st_law_gain) (defScope st_law_gain) [] [] f fd
  d_law_best : ∃ f fd, mg "_law_best" = some (.ref f) ∧ FunD K "_law_best" "_law_best" (defArgs st_law_best) (defBody st_law_best) (defScope st_law_best) [] [] f fd
  d_law_many_likings : ∃ f fd, mg "_law_many_likings" = some (.ref f) ∧ FunD K "_law_many_likings" "_law_many_likings" (defArgs st_law_many_likings) (defBody st_law_many_likings) (defScope st_law_many_likings) [] [] f fd
  d_law_given : ∃ f fd, mg "_law_given" = some (.ref f) ∧ FunD K "_law_given" "_law_given" (defArgs st_law_given) (defBody st_law_given) (defScope st_law_given) [] [] f fd
  em_BadChoice_Fault : PySem.W.exmOne K (.ref (G.cls 6)) (.ref (G.cls 0)) = some true
  ei_BadChoice : ExI K (G.cls 6)
  ki_BadChoice_BadChoice : PySem.W.kitOne K (.ref (G.cls 6)) (.ref (G.cls 6)) = some true
  g_BadChoice : mg "BadChoice" = some (.ref (G.cls 6))
  ki_BadChoice_ValueError : PySem.W.kitOne K (.ref (G.cls 6)) (.type "ValueError") = some true
  b_ValueError : mg "ValueError" = none
  xf_BadChoice : XfC K (G.cls 6)
  nf_BadChoice : PySem.W.findIn K (.ref (G.cls 6)) "world" = some none
  ef_BadChoice : G.exf 6 = "world"
  g_Fault : mg "Fault" = some (.ref (G.cls 0))
  d_law_refused : ∃ f fd, mg "_law_refused" = some (.ref f) ∧ FunD K "_law_refused" "_law_refused" (defArgs st_law_refused) (defBody st_law_refused) (defScope st_law_refused) [] [] f fd
  d_law_wrong : ∃ f fd, mg "_law_wrong" = some (.ref f) ∧ FunD K "_law_wrong" "_law_wrong" (defArgs st_law_wrong) (defBody st_law_wrong) (defScope st_law_wrong) [] [] f fd
  d_law_asked : ∃ f fd, mg "_law_asked" = some (.ref f) ∧ FunD K "_law_asked" "_law_asked" (defArgs st_law_asked) (defBody st_law_asked) (defScope st_law_asked) [] [] f fd
  d_law_said : ∃ f fd, mg "_law_said" = some (.ref f) ∧ FunD K "_law_said" "_law_said" (defArgs st_law_said) (defBody st_law_said) (defScope st_law_said) [] [] f fd
  d_law : ∃ f fd, mg "law" = some (.ref f) ∧ FunD K "law" "law" (defArgs st_law) (defBody st_law) (defScope st_law) [] [] f fd
section
variable {P : Program} {w : World} {K : PySem.W.Frag} {mg : Str → Option Value} {base : Heap} {G : Gc}
-- wall
def lb1_wall : SF := sNil
theorem sc_wall : FnScope ["k"] ["k"] (defScope st_wall) := ⟨rfl, rfl, rfl, by decide +kernel, rfl, by decide +kernel, by decide +kernel⟩
def ir_wall : SF := sWhile 1000000 (tfE (eC (.bl true))) (lb1_wall)
def phi_wall : List D → Res D := dfn 1 1 ir_wall
theorem p_wall {f : Addr} {cdv : Value} {A : Around} {outer : List Env} {s : Shared} {H : Hp} {E : XK} {M : Fm} (x1 : Fx P w K mg base M.G) (hW : NoSt M) (C : Cxx (cxd P w K mg base ["k"] "_wall" (defScope st_wall) f cdv A outer s H E) M 0) : PSs (cxd P w K mg base ["k"] "_wall" (defScope st_wall) f cdv A outer s H E) (defBody st_wall) (tS M ir_wall) :=
  m_last (m_while C 1000000 (t_e (m_bl)) (m_last (m_pass)))
theorem r_wall (x1 : Fx P w K mg base G) : FnR P w K mg base G 1 "_wall" phi_wall := by
  obtain ⟨f, fd, hm, F⟩ := x1.d_wall
  exact ⟨f, fd, ["k"], hm, F.kp, F.bindsN fun _ _ _ _ _ _ us hl => match us, hl with | [_], _ => rfl, ok_def F sc_wall rfl rfl rfl (by decide) x1.hK fun cdv A outer s H E M hM hW C => p_wall (hM.symm ▸ x1) hW C⟩
-- liking_of
theorem sc_liking_of : FnScope ["points", "steps", "point"] ["points"] (defScope st_liking_of) := ⟨rfl, rfl, rfl, by decide +kernel, rfl, by decide +kernel, by decide +kernel⟩
def ir_liking_of : SF := sSeq (sOwn 1 (oU dSortSet (eView 0)))
  (sRet (eU dTuple (eO (oLc [2] (itSeq (eVar 0)) (gaName 2) (tfTrue) (eIdx (eView 1) (eView 2))))))
def phi_liking_of : List D → Res D := dfn 1 3 ir_liking_of
theorem p_liking_of {f : Addr} {cdv : Value} {A : Around} {outer : List Env} {s : Shared} {H : Hp} {E : XK} {M : Fm} (x1 : Fx P w K mg base M.G) (hW : NoSt M) (C : Cxx (cxd P w K mg base ["points", "steps", "point"] "liking_of" (defScope st_liking_of) f cdv A outer s H E) M 0) : PSs (cxd P w K mg base ["points", "steps", "point"] "liking_of" (defScope st_liking_of) f cdv A outer s H E) (defBody st_liking_of) (tS M ir_liking_of) :=
  m_seq (m_own C 1 (m_sortSet C x1.b_sorted x1.b_set (m_view 0)))
  (m_last (m_ret (m_tuple C.hK x1.b_tuple (m_v (m_o (m_lc C [("point", 2)] (m_iseq C.hK (m_var 0)) (by rfl) (fun _ _ _ _ _ C => m_gname C.nd 2) (fun _ _ _ _ _ C => m_tnil) (fun _ _ _ _ _ C => m_index C (m_view 1) (m_view 2))))))))
theorem r_liking_of (x1 : Fx P w K mg base G) : FnR P w K mg base G 1 "liking_of" phi_liking_of := by
  obtain ⟨f, fd, hm, F⟩ := x1.d_liking_of
  exact ⟨f, fd, ["points"], hm, F.kp, F.bindsN fun _ _ _ _ _ _ us hl => match us, hl with | [_], _ => rfl, ok_def F sc_liking_of rfl rfl rfl (by decide) x1.hK fun cdv A outer s H E M hM hW C => p_liking_of (hM.symm ▸ x1) hW C⟩
-- is_liking
theorem sc_is_liking : FnScope ["levels", "outcomes"] ["levels", "outcomes"] (defScope st_is_liking) := ⟨rfl, rfl, rfl, by decide +kernel, rfl, by decide +kernel, by decide +kernel⟩
def ir_is_liking : SF := sRet (eAnd (eBin dEq (eU dLen (eView 0)) (eView 1)) (eBin dEq (eU dTuple (eView 0)) (eCall phi_liking_of (aCons (eVar 0) (aNil)))))
def phi_is_liking : List D → Res D := dfn 2 2 ir_is_liking
theorem p_is_liking {f : Addr} {cdv : Value} {A : Around} {outer : List Env} {s : Shared} {H : Hp} {E : XK} {M : Fm} (x1 : Fx P w K mg base M.G) (hW : NoSt M) (C : Cxx (cxd P w K mg base ["levels", "outcomes"] "is_liking" (defScope st_is_liking) f cdv A outer s H E) M 1) : PSs (cxd P w K mg base ["levels", "outcomes"] "is_liking" (defScope st_is_liking) f cdv A outer s H E) (defBody st_is_liking) (tS M ir_is_liking) :=
  m_last (m_ret (m_and (m_eq C.hu (m_v (m_len C.hK x1.b_len (m_view 0))) (m_view 1) C.hK) (m_one (m_eq C.hu (m_v (m_tuple C.hK x1.b_tuple (m_view 0))) (m_v (m_call C (r_liking_of x1) (by decide) (m_acons (m_var 0) (m_anil)))) C.hK))))
theorem r_is_liking (x1 : Fx P w K mg base G) : FnR P w K mg base G 2 "is_liking" phi_is_liking := by
  obtain ⟨f, fd, hm, F⟩ := x1.d_is_liking
  exact ⟨f, fd, ["levels", "outcomes"], hm, F.kp, F.bindsN fun _ _ _ _ _ _ us hl => match us, hl with | [_, _], _ => rfl, ok_def F sc_is_liking rfl rfl rfl (by decide) x1.hK fun cdv A outer s H E M hM hW C => p_is_liking (hM.symm ▸ x1) hW C⟩
-- count_plays
def lb1_count_plays : SF := sAug 1 dMul (eView 2)
theorem sc_count_plays : FnScope ["sizes", "count", "size"] ["sizes"] (defScope st_count_plays) := ⟨rfl, rfl, rfl, by decide +kernel, rfl, by decide +kernel, by decide +kernel⟩
def ir_count_plays : SF := sSeq (sAsg 1 (eC (.int 1)))
  (sSeq (sFor (gaName 2) (itSeq (eVar 0)) (lb1_count_plays))
  (sRet (eVar 1)))
def phi_count_plays : List D → Res D := dfn 1 3 ir_count_plays
theorem p_count_plays {f : Addr} {cdv : Value} {A : Around} {outer : List Env} {s : Shared} {H : Hp} {E : XK} {M : Fm} (x1 : Fx P w K mg base M.G) (hW : NoSt M) (C : Cxx (cxd P w K mg base ["sizes", "count", "size"] "count_plays" (defScope st_count_plays) f cdv A outer s H E) M 0) : PSs (cxd P w K mg base ["sizes", "count", "size"] "count_plays" (defScope st_count_plays) f cdv A outer s H E) (defBody st_count_plays) (tS M ir_count_plays) :=
  m_seq (m_asg C 1 (m_int))
  (m_seq (m_for C (m_iseq C.hK (m_var 0)) (m_gname C.nd 2) (m_last (m_imul C 1 (m_view 2))))
  (m_last (m_ret (m_var 1))))
theorem r_count_plays (x1 : Fx P w K mg base G) : FnR P w K mg base G 1 "count_plays" phi_count_plays := by
  obtain ⟨f, fd, hm, F⟩ := x1.d_count_plays
  exact ⟨f, fd, ["sizes"], hm, F.kp, F.bindsN fun _ _ _ _ _ _ us hl => match us, hl with | [_], _ => rfl, ok_def F sc_count_plays rfl rfl rfl (by decide) x1.hK fun cdv A outer s H E M hM hW C => p_count_plays (hM.symm ▸ x1) hW C⟩
-- check_count
theorem sc_check_count : FnScope ["sizes", "limit"] ["sizes", "limit"] (defScope st_check_count) := ⟨rfl, rfl, rfl, by decide +kernel, rfl, by decide +kernel, by decide +kernel⟩
def ir_check_count : SF := sIf (tfE (eBin dGt (eCall phi_count_plays (aCons (eVar 0) (aNil))) (eView 1))) (sRaise 4 chkF (eVar 1)) (sNil)
def phi_check_count : List D → Res D := dfn 2 2 ir_check_count
theorem p_check_count {f : Addr} {cdv : Value} {A : Around} {outer : List Env} {s : Shared} {H : Hp} {E : XK} {M : Fm} (x1 : Fx P w K mg base M.G) (hW : NoSt M) (C : Cxx (cxd P w K mg base ["sizes", "limit"] "check_count" (defScope st_check_count) f cdv A outer s H E) M 2) : PSs (cxd P w K mg base ["sizes", "limit"] "check_count" (defScope st_check_count) f cdv A outer s H E) (defBody st_check_count) (tS M ir_check_count) :=
  m_last (m_if (t_cmp k_gt (m_v (m_call C (r_count_plays x1) (by decide) (m_acons (m_var 0) (m_anil)))) (m_view 1)) (m_last (m_raise C x1.x_TooMany (by decide) (m_var 1))) (m_nil))
theorem r_check_count (x1 : Fx P w K mg base G) : FnR P w K mg base G 3 "check_count" phi_check_count := by
  obtain ⟨f, fd, hm, F⟩ := x1.d_check_count
  exact ⟨f, fd, ["sizes", "limit"], hm, F.kp, F.bindsN fun _ _ _ _ _ _ us hl => match us, hl with | [_, _], _ => rfl, ok_def F sc_check_count rfl rfl rfl (by decide) x1.hK fun cdv A outer s H E M hM hW C => p_check_count (hM.symm ▸ x1) hW C⟩
-- check_play
def lb1_check_play : SF := sIf (tfNot (tfE (eChain dLe dLt (eC (.int 0)) (eView 3) (eView 2)))) (sNever) (sNil)
theorem sc_check_play : FnScope ["sizes", "play", "size", "message"] ["sizes", "play"] (defScope st_check_play) := ⟨rfl, rfl, rfl, by decide +kernel, rfl, by decide +kernel, by decide +kernel⟩
def ir_check_play : SF := sSeq (sIf (tfE (eBin dNe (eU dLen (eView 1)) (eU dLen (eView 0)))) (sNever) (sNil))
  (sFor (gaTup 2 (gaCons (gaName 2) (gaCons (gaName 3) (gaNil)))) (itZip (eVar 0) (eVar 1)) (lb1_check_play))
def phi_check_play : List D → Res D := dfn 2 4 ir_check_play
theorem p_check_play {f : Addr} {cdv : Value} {A : Around} {outer : List Env} {s : Shared} {H : Hp} {E : XK} {M : Fm} (x1 : Fx P w K mg base M.G) (hW : NoSt M) (C : Cxx (cxd P w K mg base ["sizes", "play", "size", "message"] "check_play" (defScope st_check_play) f cdv A outer s H E) M 0) : PSs (cxd P w K mg base ["sizes", "play", "size", "message"] "check_play" (defScope st_check_play) f cdv A outer s H E) (defBody st_check_play) (tS M ir_check_play) :=
  m_seq (m_if (t_cmp (k_ne C.hu C.hK) (m_v (m_len C.hK x1.b_len (m_view 1))) (m_v (m_len C.hK x1.b_len (m_view 0)))) (m_last (m_nevr)) (m_nil))
  (m_last (m_for C (m_izip C x1.b_zip (m_var 0) (m_var 1)) (m_gtup C.hK C.calm (m_gcons (m_gname C.nd 2) (m_gcons (m_gname C.nd 3) (m_gnil)))) (m_last (m_if (t_not (t_chain k_le k_lt (m_v (m_int)) (m_view 3) (m_view 2))) (m_last (m_nevr)) (m_nil)))))
theorem r_check_play (x1 : Fx P w K mg base G) : FnR P w K mg base G 1 "check_play" phi_check_play := by
  obtain ⟨f, fd, hm, F⟩ := x1.d_check_play
  exact ⟨f, fd, ["sizes", "play"], hm, F.kp, F.bindsN fun _ _ _ _ _ _ us hl => match us, hl with | [_, _], _ => rfl, ok_def F sc_check_play rfl rfl rfl (by decide) x1.hK fun cdv A outer s H E M hM hW C => p_check_play (hM.symm ▸ x1) hW C⟩
-- check_table
def lb1_check_table : SF := sIf (tfNot (tfE (eChain dLe dLt (eC (.int 0)) (eBin dIx (eView 0) (eView 3)) (eView 2)))) (sRaise 2 chkF (eVar 3)) (sNil)
theorem sc_check_table : FnScope ["table", "count", "outcomes", "number"] ["table", "count", "outcomes"] (defScope st_check_table) := ⟨rfl, rfl, rfl, by decide +kernel, rfl, by decide +kernel, by decide +kernel⟩
def ir_check_table : SF := sSeq (sFor (gaName 3) (itR1 (eBin dMin2 (eView 1) (eU dLen (eView 0)))) (lb1_check_table))
  (sIf (tfE (eBin dNe (eU dLen (eView 0)) (eView 1))) (sRaise 2 chkF (eBin dMin2 (eView 1) (eU dLen (eView 0)))) (sNil))
def phi_check_table : List D → Res D := dfn 3 4 ir_check_table
theorem p_check_table {f : Addr} {cdv : Value} {A : Around} {outer : List Env} {s : Shared} {H : Hp} {E : XK} {M : Fm} (x1 : Fx P w K mg base M.G) (hW : NoSt M) (C : Cxx (cxd P w K mg base ["table", "count", "outcomes", "number"] "check_table" (defScope st_check_table) f cdv A outer s H E) M 2) : PSs (cxd P w K mg base ["table", "count", "outcomes", "number"] "check_table" (defScope st_check_table) f cdv A outer s H E) (defBody st_check_table) (tS M ir_check_table) :=
  m_seq (m_for C (m_ir1 C x1.b_range (m_v (m_min2 C x1.b_min (m_view 1) (m_v (m_len C.hK x1.b_len (m_view 0)))))) (m_gname C.nd 3) (m_last (m_if (t_not (t_chain k_le k_lt (m_v (m_int)) (m_v (m_ix (m_view 0) (m_view 3) (by exact fun _ _ => rfl) C.hK)) (m_view 2))) (m_last (m_raise C x1.x_BadGame (by decide) (m_var 3))) (m_nil))))
  (m_last (m_if (t_cmp (k_ne C.hu C.hK) (m_v (m_len C.hK x1.b_len (m_view 0))) (m_view 1)) (m_last (m_raise C x1.x_BadGame (by decide) (m_min2 C x1.b_min (m_view 1) (m_v (m_len C.hK x1.b_len (m_view 0)))))) (m_nil)))
theorem r_check_table (x1 : Fx P w K mg base G) : FnR P w K mg base G 3 "check_table" phi_check_table := by
  obtain ⟨f, fd, hm, F⟩ := x1.d_check_table
  exact ⟨f, fd, ["table", "count", "outcomes"], hm, F.kp, F.bindsN fun _ _ _ _ _ _ us hl => match us, hl with | [_, _, _], _ => rfl, ok_def F sc_check_table rfl rfl rfl (by decide) x1.hK fun cdv A outer s H E M hM hW C => p_check_table (hM.symm ▸ x1) hW C⟩
-- number_of
def lb1_number_of : SF := sAsg 2 (eBin dAdd (eBin dMul (eView 2) (eView 3)) (eView 4))
theorem sc_number_of : FnScope ["sizes", "play", "number", "size", "message"] ["sizes", "play"] (defScope st_number_of) := ⟨rfl, rfl, rfl, by decide +kernel, rfl, by decide +kernel, by decide +kernel⟩
def ir_number_of : SF := sSeq (sAsg 2 (eC (.int 0)))
  (sSeq (sFor (gaTup 2 (gaCons (gaName 3) (gaCons (gaName 4) (gaNil)))) (itZip (eVar 0) (eVar 1)) (lb1_number_of))
  (sRet (eVar 2)))
def phi_number_of : List D → Res D := dfn 2 5 ir_number_of
theorem p_number_of {f : Addr} {cdv : Value} {A : Around} {outer : List Env} {s : Shared} {H : Hp} {E : XK} {M : Fm} (x1 : Fx P w K mg base M.G) (hW : NoSt M) (C : Cxx (cxd P w K mg base ["sizes", "play", "number", "size", "message"] "number_of" (defScope st_number_of) f cdv A outer s H E) M 0) : PSs (cxd P w K mg base ["sizes", "play", "number", "size", "message"] "number_of" (defScope st_number_of) f cdv A outer s H E) (defBody st_number_of) (tS M ir_number_of) :=
  m_seq (m_asg C 2 (m_int))
  (m_seq (m_for C (m_izip C x1.b_zip (m_var 0) (m_var 1)) (m_gtup C.hK C.calm (m_gcons (m_gname C.nd 3) (m_gcons (m_gname C.nd 4) (m_gnil)))) (m_last (m_asg C 2 (m_add (m_v (m_mul (m_view 2) (m_view 3))) (m_view 4) C.hK))))
  (m_last (m_ret (m_var 2))))
theorem r_number_of (x1 : Fx P w K mg base G) : FnR P w K mg base G 1 "number_of" phi_number_of := by
  obtain ⟨f, fd, hm, F⟩ := x1.d_number_of
  exact ⟨f, fd, ["sizes", "play"], hm, F.kp, F.bindsN fun _ _ _ _ _ _ us hl => match us, hl with | [_, _], _ => rfl, ok_def F sc_number_of rfl rfl rfl (by decide) x1.hK fun cdv A outer s H E M hM hW C => p_number_of (hM.symm ▸ x1) hW C⟩
-- play_at
def lb1_play_at : SF := sSeq (sApp 2 (eBin dMod (eView 1) (eView 3)))
  (sAsg 1 (eBin dDiv (eView 1) (eView 3)))
theorem sc_play_at : FnScope ["sizes", "number", "play", "size"] ["sizes", "number"] (defScope st_play_at) := ⟨rfl, rfl, rfl, by decide +kernel, rfl, by decide +kernel, by decide +kernel⟩
def ir_play_at : SF := sSeq (sOwn 2 (oLst (aNil)))
  (sSeq (sFor (gaName 3) (itRev (eVar 0)) (lb1_play_at))
  (sRet (eU dTupRev (eView 2))))
def phi_play_at : List D → Res D := dfn 2 4 ir_play_at
theorem p_play_at {f : Addr} {cdv : Value} {A : Around} {outer : List Env} {s : Shared} {H : Hp} {E : XK} {M : Fm} (x1 : Fx P w K mg base M.G) (hW : NoSt M) (C : Cxx (cxd P w K mg base ["sizes", "number", "play", "size"] "play_at" (defScope st_play_at) f cdv A outer s H E) M 0) : PSs (cxd P w K mg base ["sizes", "number", "play", "size"] "play_at" (defScope st_play_at) f cdv A outer s H E) (defBody st_play_at) (tS M ir_play_at) :=
  m_seq (m_own C 2 (m_lst (m_anil)))
  (m_seq (m_for C (m_irev C x1.b_reversed (m_var 0)) (m_gname C.nd 3) (m_seq (m_app (pos' := ⟨0, 0, 0, 0⟩) C 2 (m_mod (m_view 1) (m_view 3)))
  (m_last (m_asg C 1 (m_div (m_view 1) (m_view 3))))))
  (m_last (m_ret (m_tupRev C x1.b_tuple x1.b_reversed (m_view 2)))))
theorem r_play_at (x1 : Fx P w K mg base G) : FnR P w K mg base G 1 "play_at" phi_play_at := by
  obtain ⟨f, fd, hm, F⟩ := x1.d_play_at
  exact ⟨f, fd, ["sizes", "number"], hm, F.kp, F.bindsN fun _ _ _ _ _ _ us hl => match us, hl with | [_, _], _ => rfl, ok_def F sc_play_at rfl rfl rfl (by decide) x1.hK fun cdv A outer s H E M hM hW C => p_play_at (hM.symm ▸ x1) hW C⟩
-- with_message
theorem sc_with_message : FnScope ["play", "person", "message"] ["play", "person", "message"] (defScope st_with_message) := ⟨rfl, rfl, rfl, by decide +kernel, rfl, by decide +kernel, by decide +kernel⟩
def ir_with_message : SF := sRet (eTup (aStar (eSlice (eView 0) (nNone) (nSome (eView 1))) (aCons (eVar 2) (aStar (eSlice (eView 0) (nSome (eBin dAdd (eView 1) (eC (.int 1)))) (nNone)) (aNil)))))
def phi_with_message : List D → Res D := dfn 3 3 ir_with_message
theorem p_with_message {f : Addr} {cdv : Value} {A : Around} {outer : List Env} {s : Shared} {H : Hp} {E : XK} {M : Fm} (x1 : Fx P w K mg base M.G) (hW : NoSt M) (C : Cxx (cxd P w K mg base ["play", "person", "message"] "with_message" (defScope st_with_message) f cdv A outer s H E) M 0) : PSs (cxd P w K mg base ["play", "person", "message"] "with_message" (defScope st_with_message) f cdv A outer s H E) (defBody st_with_message) (tS M ir_with_message) :=
  m_last (m_ret (m_tup (m_astar C.hK (m_slice C (m_view 0) (m_pnone) (m_psome (m_view 1))) (m_acons (m_var 2) (m_astar C.hK (m_slice C (m_view 0) (m_psome (m_v (m_add (m_view 1) (m_v (m_int)) C.hK))) (m_pnone)) (m_anil))))))
theorem r_with_message (x1 : Fx P w K mg base G) : FnR P w K mg base G 1 "with_message" phi_with_message := by
  obtain ⟨f, fd, hm, F⟩ := x1.d_with_message
  exact ⟨f, fd, ["play", "person", "message"], hm, F.kp, F.bindsN fun _ _ _ _ _ _ us hl => match us, hl with | [_, _, _], _ => rfl, ok_def F sc_with_message rfl rfl rfl (by decide) x1.hK fun cdv A outer s H E M hM hW C => p_with_message (hM.symm ▸ x1) hW C⟩
-- Game_init
theorem sc_Game_init : FnScope ["self", "sizes", "outcomes", "table"] ["self", "sizes", "outcomes", "table"] (defScope st_Game_init) := ⟨rfl, rfl, rfl, by decide +kernel, rfl, by decide +kernel, by decide +kernel⟩
def ir_Game_init : SF := sSeq (sIf (tfNot (tfE (eChain dLe dLe (eC (.int 1)) (eU dLen (eView 1)) (eC (.int 4))))) (sRaise 1 chkF (eC (.str "people"))) (sNil))
  (sSeq (sIf (tfE (eBin dLt (eU dMinA (eView 1)) (eC (.int 1)))) (sRaise 1 chkF (eC (.str "messages"))) (sNil))
  (sSeq (sIf (tfNot (tfE (eChain dLe dLe (eC (.int 1)) (eView 2) (eC (.int 8))))) (sRaise 1 chkF (eC (.str "outcomes"))) (sNil))
  (sSeq (sExp (eCall phi_check_count (aCons (eVar 1) (aCons (eC (.int 4096)) (aNil)))))
  (sSeq (sExp (eCall phi_check_table (aCons (eVar 3) (aCons (eCall phi_count_plays (aCons (eVar 1) (aNil))) (aCons (eVar 2) (aNil))))))
  (sSeq (sFldSet 0 7 "sizes" (eU dTuple (eView 1)))
  (sSeq (sFldSet 0 7 "outcomes" (eVar 2))
  (sFldSet 0 7 "table" (eU dTuple (eView 3)))))))))
def phi_Game_init : List D → Res (List (Str × D)) := dinit 7 3 4 ir_Game_init
theorem p_Game_init {f : Addr} {cdv : Value} {A : Around} {outer : List Env} {s : Shared} {H : Hp} {E : XK} {M : Fm} (x1 : Fx P w K mg base M.G) (hW : NoSt M) (C : Cxx (cxd P w K mg base ["self", "sizes", "outcomes", "table"] "Game.__init__" (defScope st_Game_init) f cdv A outer s H E) M 3) : PSs (cxd P w K mg base ["self", "sizes", "outcomes", "table"] "Game.__init__" (defScope st_Game_init) f cdv A outer s H E) (defBody st_Game_init) (tS M ir_Game_init) :=
  m_seq (m_if (t_not (t_chain k_le k_le (m_v (m_int)) (m_v (m_len C.hK x1.b_len (m_view 1))) (m_v (m_gint x1.i_PEOPLE)))) (m_last (m_raise C x1.x_BadSize (by decide) (m_str))) (m_nil))
  (m_seq (m_if (t_cmp k_lt (m_v (m_minA C x1.b_min (m_view 1))) (m_v (m_int))) (m_last (m_raise C x1.x_BadSize (by decide) (m_str))) (m_nil))
  (m_seq (m_if (t_not (t_chain k_le k_le (m_v (m_int)) (m_view 2) (m_v (m_gint x1.i_OUTCOMES)))) (m_last (m_raise C x1.x_BadSize (by decide) (m_str))) (m_nil))
  (m_seq (m_expr (m_call C (r_check_count x1) (by decide) (m_acons (m_var 1) (m_acons (m_cint x1.k_Game_PLAYS.choose_spec.choose_spec.1 x1.k_Game_PLAYS.choose_spec.choose_spec.2.1 x1.k_Game_PLAYS.choose_spec.choose_spec.2.2) (m_anil)))))
  (m_seq (m_expr (m_call C (r_check_table x1) (by decide) (m_acons (m_var 3) (m_acons (m_call C (r_count_plays x1) (by decide) (m_acons (m_var 1) (m_anil))) (m_acons (m_var 2) (m_anil))))))
  (m_seq (m_fldSet C 0 x1.fs_Game_sizes (m_tuple C.hK x1.b_tuple (m_view 1)))
  (m_seq (m_fldSet C 0 x1.fs_Game_outcomes (m_var 2))
  (m_last (m_fldSet C 0 x1.fs_Game_table (m_tuple C.hK x1.b_tuple (m_view 3))))))))))
theorem r_Game_init (x1 : Fx P w K mg base G) : ClR P w K mg base G 4 "Game" 7 phi_Game_init := by
  obtain ⟨f, fd, hm, mk, F⟩ := x1.d_Game_init
  exact ⟨f, fd, ["self", "sizes", "outcomes", "table"], hm, mk, F.bindsN fun _ _ _ _ _ _ us hl => match us, hl with | [_, _, _, _], _ => rfl, ok_init F sc_Game_init rfl rfl rfl (by decide) x1.hK fun cdv A outer s H E M hM hW C => p_Game_init (hM.symm ▸ x1) hW C⟩
-- Game_outcome
theorem sc_Game_outcome : FnScope ["self", "play"] ["self", "play"] (defScope st_Game_outcome) := ⟨rfl, rfl, rfl, by decide +kernel, rfl, by decide +kernel, by decide +kernel⟩
def ir_Game_outcome : SF := sSeq (sExp (eCall phi_check_play (aCons (eFld [7, 8] "sizes" (eView 0)) (aCons (eVar 1) (aNil)))))
  (sRet (eBin dIx (eFld [7] "table" (eView 0)) (eCall phi_number_of (aCons (eFld [7, 8] "sizes" (eView 0)) (aCons (eVar 1) (aNil))))))
def phi_Game_outcome : List D → Res D := dfn 2 2 ir_Game_outcome
theorem p_Game_outcome {f : Addr} {cdv : Value} {A : Around} {outer : List Env} {s : Shared} {H : Hp} {E : XK} {M : Fm} (x1 : Fx P w K mg base M.G) (hW : NoSt M) (C : Cxx (cxd P w K mg base ["self", "play"] "Game.outcome" (defScope st_Game_outcome) f cdv A outer s H E) M 1) : PSs (cxd P w K mg base ["self", "play"] "Game.outcome" (defScope st_Game_outcome) f cdv A outer s H E) (defBody st_Game_outcome) (tS M ir_Game_outcome) :=
  m_seq (m_expr (m_call C (r_check_play x1) (by decide) (m_acons (m_fld [7, 8] x1.fl_sizes (m_view 0)) (m_acons (m_var 1) (m_anil)))))
  (m_last (m_ret (m_ix (m_v (m_fld [7] x1.fl_table (m_view 0))) (m_v (m_call C (r_number_of x1) (by decide) (m_acons (m_fld [7, 8] x1.fl_sizes (m_view 0)) (m_acons (m_var 1) (m_anil))))) (by exact fun _ _ => rfl) C.hK)))
theorem r_Game_outcome (x1 : Fx P w K mg base G) : MtR P w K mg base G 2 7 "outcome" phi_Game_outcome := by
  obtain ⟨f, fd, hc, hm, F⟩ := x1.d_Game_outcome
  exact ⟨f, fd, ["self", "play"], hc, hm, F.bindsN fun _ _ _ _ _ _ us hl => match us, hl with | [_, _], _ => rfl, ok_def F sc_Game_outcome rfl rfl rfl (by decide) x1.hK fun cdv A outer s H E M hM hW C => p_Game_outcome (hM.symm ▸ x1) hW C⟩
-- plays
def ir_plays : GnF := gForR 1 (eCall phi_count_plays (aCons (eVar 0) (aNil))) (gYield (eCall phi_play_at (aCons (eVar 0) (aCons (eVar 1) (aNil)))))
def phi_plays : List D → Res (List D) := gfn 1 2 ir_plays
theorem sc_plays : GScope ["sizes", "number"] ["sizes"] (defScope st_plays) := ⟨rfl, rfl, rfl, by decide +kernel, rfl, by decide +kernel, by decide +kernel⟩
theorem r_plays (x1 : Fx P w K mg base G) : GnR P w K mg base G 2 "plays" phi_plays := by
  obtain ⟨f, fd, hm, F⟩ := x1.d_plays
  have S := sc_plays
  have hK : K = G.K := x1.hK
  refine ⟨f, fd, _, _, _, _, _, _, _, _, _, ir_plays, 1, 2, hm, F.kp, F.bindsN fun _ _ _ _ _ _ us hl => match us, hl with | [_], _ => rfl, F, S, fun m => rfl, fun y => look_no (by decide +kernel) y, rfl, rfl, by decide, rfl, fun cd n0 A outer a go hr => ?_⟩
  show GStms _ (defBody st_plays) ir_plays
  exact g_last (g_forR 1 (fun s0 H0 M hG hW => have C := gcxx (P := P) (w := w) (mg := mg) (base := base) (outer := outer) (a := a) (go := go) S hr hK s0 H0 M hG hW; have x1 : Fx P w K mg base M.G := (show G = M.G from hG.symm) ▸ x1; have hW := nost hW; m_v (m_call C (r_count_plays x1) (by decide) (m_acons (m_var 0) (m_anil)))) x1.b_range (fun s0 H0 M hG hW => have C := gcxx (P := P) (w := w) (mg := mg) (base := base) (outer := outer) (a := a) (go := go) S hr hK s0 H0 M hG hW; have x1 : Fx P w K mg base M.G := (show G = M.G from hG.symm) ▸ x1; have hW := nost hW; m_gname C.nd 1) (g_last (g_yield (fun s0 H0 M hG hW => have C := gcxx (P := P) (w := w) (mg := mg) (base := base) (outer := outer) (a := a) (go := go) S hr hK s0 H0 M hG hW; have x1 : Fx P w K mg base M.G := (show G = M.G from hG.symm) ▸ x1; have hW := nost hW; m_call C (r_play_at x1) (by decide) (m_acons (m_var 0) (m_acons (m_var 1) (m_anil)))))))
-- check_choice
def lb1_check_choice : SF := sIf (tfOr (tfE (eBin dGe (eView 3) (eU dLen (eView 1)))) (tfNot (tfE (eChain dLe dLt (eC (.int 0)) (eBin dIx (eView 1) (eView 3)) (eFld [7, 8] "outcomes" (eView 0)))))) (sRaise 6 chkF (eVar 3)) (sNil)
theorem sc_check_choice : FnScope ["domain", "choice", "many", "number"] ["domain", "choice"] (defScope st_check_choice) := ⟨rfl, rfl, rfl, by decide +kernel, rfl, by decide +kernel, by decide +kernel⟩
def ir_check_choice : SF := sSeq (sAsg 2 (eU dLen (eFld [8] "worlds" (eView 0))))
  (sSeq (sFor (gaName 3) (itR1 (eView 2)) (lb1_check_choice))
  (sIf (tfE (eBin dGt (eU dLen (eView 1)) (eView 2))) (sRaise 6 chkF (eVar 2)) (sNil)))
def phi_check_choice : List D → Res D := dfn 2 4 ir_check_choice
theorem p_check_choice {f : Addr} {cdv : Value} {A : Around} {outer : List Env} {s : Shared} {H : Hp} {E : XK} {M : Fm} (x1 : Fx P w K mg base M.G) (hW : NoSt M) (C : Cxx (cxd P w K mg base ["domain", "choice", "many", "number"] "check_choice" (defScope st_check_choice) f cdv A outer s H E) M 2) : PSs (cxd P w K mg base ["domain", "choice", "many", "number"] "check_choice" (defScope st_check_choice) f cdv A outer s H E) (defBody st_check_choice) (tS M ir_check_choice) :=
  m_seq (m_asg C 2 (m_len C.hK x1.b_len (m_v (m_fld [8] x1.fl_worlds (m_view 0)))))
  (m_seq (m_for C (m_ir1 C x1.b_range (m_view 2)) (m_gname C.nd 3) (m_last (m_if ((t_or (t_cmp k_ge (m_view 3) (m_v (m_len C.hK x1.b_len (m_view 1)))) (t_or1 (t_not (t_chain k_le k_lt (m_v (m_int)) (m_v (m_ix (m_view 1) (m_view 3) (by exact fun _ _ => rfl) C.hK)) (m_v (m_fld [7, 8] x1.fl_outcomes (m_view 0))))))).pt) (m_last (m_raise C x1.x_BadChoice (by decide) (m_var 3))) (m_nil))))
  (m_last (m_if (t_cmp k_gt (m_v (m_len C.hK x1.b_len (m_view 1))) (m_view 2)) (m_last (m_raise C x1.x_BadChoice (by decide) (m_var 2))) (m_nil))))
theorem r_check_choice (x1 : Fx P w K mg base G) : FnR P w K mg base G 3 "check_choice" phi_check_choice := by
  obtain ⟨f, fd, hm, F⟩ := x1.d_check_choice
  exact ⟨f, fd, ["domain", "choice"], hm, F.kp, F.bindsN fun _ _ _ _ _ _ us hl => match us, hl with | [_, _], _ => rfl, ok_def F sc_check_choice rfl rfl rfl (by decide) x1.hK fun cdv A outer s H E M hM hW C => p_check_choice (hM.symm ▸ x1) hW C⟩
-- gain_of
def lb1_gain_of : SF := sSeq (sAsg 9 (eBin dAdd (eView 4) (eBin dMul (eBin dSub (eView 8) (eView 7)) (eBin dIx (eView 3) (eView 5)))))
  (sIf (tfE (eBin dGt (eBin dIx (eView 6) (eBin dIx (eView 1) (eView 9))) (eBin dIx (eView 6) (eBin dIx (eView 1) (eView 4))))) (sRet (eTup (aCons (eVar 4) (aCons (eVar 5) (aCons (eVar 8) (aNil)))))) (sNil))
def lb2_gain_of : SF := sSeq (sAsg 6 (eBin dIx (eBin dIx (eFld [8] "worlds" (eView 0)) (eView 4)) (eView 5)))
  (sSeq (sAsg 7 (eBin dMod (eBin dDiv (eView 4) (eBin dIx (eView 3) (eView 5))) (eBin dIx (eView 2) (eView 5))))
  (sFor (gaName 8) (itR1 (eBin dIx (eView 2) (eView 5))) (lb1_gain_of)))
def lb3_gain_of : SF := sFor (gaName 5) (itR1 (eU dLen (eView 2))) (lb2_gain_of)
theorem sc_gain_of : FnScope ["domain", "choice", "sizes", "apart", "number", "person", "liking", "own", "said", "other"] ["domain", "choice"] (defScope st_gain_of) := ⟨rfl, rfl, rfl, by decide +kernel, rfl, by decide +kernel, by decide +kernel⟩
def ir_gain_of : SF := sSeq (sAsg 2 (eFld [7, 8] "sizes" (eView 0)))
  (sSeq (sOwn 3 (oLc [5] (itR1 (eU dLen (eView 2))) (gaName 5) (tfTrue) (eCall phi_count_plays (aCons (eSlice (eView 2) (nSome (eBin dAdd (eView 5) (eC (.int 1)))) (nNone)) (aNil)))))
  (sSeq (sFor (gaName 4) (itR1 (eU dLen (eFld [8] "worlds" (eView 0)))) (lb3_gain_of))
  (sRet (eC .non))))
def phi_gain_of : List D → Res D := dfn 2 10 ir_gain_of
theorem p_gain_of {f : Addr} {cdv : Value} {A : Around} {outer : List Env} {s : Shared} {H : Hp} {E : XK} {M : Fm} (x1 : Fx P w K mg base M.G) (hW : NoSt M) (C : Cxx (cxd P w K mg base ["domain", "choice", "sizes", "apart", "number", "person", "liking", "own", "said", "other"] "gain_of" (defScope st_gain_of) f cdv A outer s H E) M 1) : PSs (cxd P w K mg base ["domain", "choice", "sizes", "apart", "number", "person", "liking", "own", "said", "other"] "gain_of" (defScope st_gain_of) f cdv A outer s H E) (defBody st_gain_of) (tS M ir_gain_of) :=
  m_seq (m_asg C 2 (m_fld [7, 8] x1.fl_sizes (m_view 0)))
  (m_seq (m_setLc C 3 [("person", 5)] (m_ir1 C x1.b_range (m_v (m_len C.hK x1.b_len (m_view 2)))) (by rfl) (fun _ _ _ _ _ C => m_gname C.nd 5) (fun _ _ _ _ _ C => m_tnil) (fun _ _ _ _ _ C => m_call C (r_count_plays x1) (by decide) (m_acons (m_slice C (m_view 2) (m_psome (m_v (m_add (m_view 5) (m_v (m_int)) C.hK))) (m_pnone)) (m_anil))))
  (m_seq (m_for C (m_ir1 C x1.b_range (m_v (m_len C.hK x1.b_len (m_v (m_fld [8] x1.fl_worlds (m_view 0)))))) (m_gname C.nd 4) (m_last (m_for C (m_ir1 C x1.b_range (m_v (m_len C.hK x1.b_len (m_view 2)))) (m_gname C.nd 5) (m_seq (m_asg C 6 (m_ix (m_v (m_ix (m_v (m_fld [8] x1.fl_worlds (m_view 0))) (m_view 4) (by exact fun _ _ => rfl) C.hK)) (m_view 5) (by exact fun _ _ => rfl) C.hK))
  (m_seq (m_asg C 7 (m_mod (m_v (m_div (m_view 4) (m_v (m_ix (m_view 3) (m_view 5) (by exact fun _ _ => rfl) C.hK)))) (m_v (m_ix (m_view 2) (m_view 5) (by exact fun _ _ => rfl) C.hK))))
  (m_last (m_for C (m_ir1 C x1.b_range (m_v (m_ix (m_view 2) (m_view 5) (by exact fun _ _ => rfl) C.hK))) (m_gname C.nd 8) (m_seq (m_asg C 9 (m_add (m_view 4) (m_v (m_mul (m_v (m_sub (m_view 8) (m_view 7))) (m_v (m_ix (m_view 3) (m_view 5) (by exact fun _ _ => rfl) C.hK)))) C.hK))
  (m_last (m_if (t_cmp k_gt (m_v (m_ix (m_view 6) (m_v (m_ix (m_view 1) (m_view 9) (by exact fun _ _ => rfl) C.hK)) (by exact fun _ _ => rfl) C.hK)) (m_v (m_ix (m_view 6) (m_v (m_ix (m_view 1) (m_view 4) (by exact fun _ _ => rfl) C.hK)) (by exact fun _ _ => rfl) C.hK))) (m_last (m_ret (m_tup (m_acons (m_var 4) (m_acons (m_var 5) (m_acons (m_var 8) (m_anil))))))) (m_nil)))))))))))
  (m_last (m_ret (m_non)))))
theorem r_gain_of (x1 : Fx P w K mg base G) : FnR P w K mg base G 2 "gain_of" phi_gain_of := by
  obtain ⟨f, fd, hm, F⟩ := x1.d_gain_of
  exact ⟨f, fd, ["domain", "choice"], hm, F.kp, F.bindsN fun _ _ _ _ _ _ us hl => match us, hl with | [_, _], _ => rfl, ok_def F sc_gain_of rfl rfl rfl (by decide) x1.hK fun cdv A outer s H E M hM hW C => p_gain_of (hM.symm ▸ x1) hW C⟩
-- first_gain
theorem sc_first_gain : FnScope ["domain", "choice"] ["domain", "choice"] (defScope st_first_gain) := ⟨rfl, rfl, rfl, by decide +kernel, rfl, by decide +kernel, by decide +kernel⟩
def ir_first_gain : SF := sSeq (sExp (eCall phi_check_choice (aCons (eVar 0) (aCons (eVar 1) (aNil)))))
  (sRet (eCall phi_gain_of (aCons (eVar 0) (aCons (eVar 1) (aNil)))))
def phi_first_gain : List D → Res D := dfn 2 2 ir_first_gain
theorem p_first_gain {f : Addr} {cdv : Value} {A : Around} {outer : List Env} {s : Shared} {H : Hp} {E : XK} {M : Fm} (x1 : Fx P w K mg base M.G) (hW : NoSt M) (C : Cxx (cxd P w K mg base ["domain", "choice"] "first_gain" (defScope st_first_gain) f cdv A outer s H E) M 3) : PSs (cxd P w K mg base ["domain", "choice"] "first_gain" (defScope st_first_gain) f cdv A outer s H E) (defBody st_first_gain) (tS M ir_first_gain) :=
  m_seq (m_expr (m_call C (r_check_choice x1) (by decide) (m_acons (m_var 0) (m_acons (m_var 1) (m_anil)))))
  (m_last (m_ret (m_call C (r_gain_of x1) (by decide) (m_acons (m_var 0) (m_acons (m_var 1) (m_anil))))))
theorem r_first_gain (x1 : Fx P w K mg base G) : FnR P w K mg base G 4 "first_gain" phi_first_gain := by
  obtain ⟨f, fd, hm, F⟩ := x1.d_first_gain
  exact ⟨f, fd, ["domain", "choice"], hm, F.kp, F.bindsN fun _ _ _ _ _ _ us hl => match us, hl with | [_, _], _ => rfl, ok_def F sc_first_gain rfl rfl rfl (by decide) x1.hK fun cdv A outer s H E M hM hW C => p_first_gain (hM.symm ▸ x1) hW C⟩
-- best_messages
def lb1_best_messages : SF := sIf (tfE (eBin dLt (eBin dIx (eView 7) (eView 9)) (eView 8))) (sSetIx 4 (eView 9) (eC (.bl false))) (sNil)
def lb2_best_messages : SF := sSeq (sOwn 7 (oLc [9] (itR1 (eView 3)) (gaName 9) (tfTrue) (eBin dIx (eView 2) (eMeth 7 "outcome" phi_Game_outcome (eVar 0) (aCons (eCall phi_with_message (aCons (eVar 6) (aCons (eVar 1) (aCons (eVar 9) (aNil))))) (aNil))))))
  (sSeq (sAsg 8 (eU dMax (eView 7)))
  (sFor (gaName 9) (itR1 (eView 3)) (lb1_best_messages)))
theorem sc_best_messages : FnScope ["game", "person", "liking", "own", "best", "sizes", "play", "levels", "most", "message"] ["game", "person", "liking"] (defScope st_best_messages) := ⟨rfl, rfl, rfl, by decide +kernel, rfl, by decide +kernel, by decide +kernel⟩
def ir_best_messages : SF := sSeq (sExp (eCall phi_check_count (aCons (eFld [7, 8] "sizes" (eView 0)) (aCons (eC (.int 4096)) (aNil)))))
  (sSeq (sAsg 3 (eBin dIx (eFld [7, 8] "sizes" (eView 0)) (eView 1)))
  (sSeq (sOwn 4 (oRep (oLst (aCons (eC (.bl true)) (aNil))) (eView 3)))
  (sSeq (sAsg 5 (eCall phi_with_message (aCons (eFld [7, 8] "sizes" (eView 0)) (aCons (eVar 1) (aCons (eC (.int 1)) (aNil))))))
  (sSeq (sForG (gaName 6) (fun env => ((aCons (eVar 5) (aNil)) env).bind phi_plays) (lb2_best_messages))
  (sRet (eU dTuple (eO (oLc [9] (itR1 (eView 3)) (gaName 9) (tfE (eBin dIx (eView 4) (eView 9))) (eVar 9)))))))))
def phi_best_messages : List D → Res D := dfn 3 10 ir_best_messages
theorem p_best_messages {f : Addr} {cdv : Value} {A : Around} {outer : List Env} {s : Shared} {H : Hp} {E : XK} {M : Fm} (x1 : Fx P w K mg base M.G) (hW : NoSt M) (C : Cxx (cxd P w K mg base ["game", "person", "liking", "own", "best", "sizes", "play", "levels", "most", "message"] "best_messages" (defScope st_best_messages) f cdv A outer s H E) M 4) : PSs (cxd P w K mg base ["game", "person", "liking", "own", "best", "sizes", "play", "levels", "most", "message"] "best_messages" (defScope st_best_messages) f cdv A outer s H E) (defBody st_best_messages) (tS M ir_best_messages) :=
  m_seq (m_expr (m_call C (r_check_count x1) (by decide) (m_acons (m_fld [7, 8] x1.fl_sizes (m_view 0)) (m_acons (m_cint x1.k_Game_PLAYS.choose_spec.choose_spec.1 x1.k_Game_PLAYS.choose_spec.choose_spec.2.1 x1.k_Game_PLAYS.choose_spec.choose_spec.2.2) (m_anil)))))
  (m_seq (m_asg C 3 (m_ix (m_v (m_fld [7, 8] x1.fl_sizes (m_view 0))) (m_view 1) (by exact fun _ _ => rfl) C.hK))
  (m_seq (m_own C 4 (m_rep (m_lst (m_acons (m_bl) (m_anil))) (m_view 3)))
  (m_seq (m_asg C 5 (m_call C (r_with_message x1) (by decide) (m_acons (m_fld [7, 8] x1.fl_sizes (m_view 0)) (m_acons (m_var 1) (m_acons (m_int) (m_anil))))))
  (m_seq (m_forGen C (r_plays x1) (by decide) (m_acons (m_var 5) (m_anil)) (fun _ M hG C => m_gname C.nd 6) (fun _ M hG hW C => have x1 : Fx P w K mg base M.G := Eq.symm hG ▸ x1; m_seq (m_setLc C 7 [("message", 9)] (m_ir1 C x1.b_range (m_view 3)) (by rfl) (fun _ _ _ _ _ C => m_gname C.nd 9) (fun _ _ _ _ _ C => m_tnil) (fun _ _ _ _ _ C => m_ix (m_view 2) (m_v (m_meth C (r_Game_outcome x1) (by decide) nost_nx (m_var 0) (m_acons (m_call C (r_with_message x1) (by decide) (m_acons (m_var 6) (m_acons (m_var 1) (m_acons (m_var 9) (m_anil))))) (m_anil)))) (by exact fun _ _ => rfl) C.hK))
  (m_seq (m_asg C 8 (m_max C x1.b_max (m_view 7)))
  (m_last (m_for C (m_ir1 C x1.b_range (m_view 3)) (m_gname C.nd 9) (m_last (m_if (t_cmp k_lt (m_v (m_ix (m_view 7) (m_view 9) (by exact fun _ _ => rfl) C.hK)) (m_view 8)) (m_last (m_setIx (pos' := ⟨0, 0, 0, 0⟩) C 4 (m_view 9) (m_bl))) (m_nil))))))))
  (m_last (m_ret (m_tuple C.hK x1.b_tuple (m_v (m_o (m_lc C [("message", 9)] (m_ir1 C x1.b_range (m_view 3)) (by rfl) (fun _ _ _ _ _ C => m_gname C.nd 9) (fun _ _ _ _ _ C => m_tone (t_e (m_ix (m_view 4) (m_view 9) (by exact fun _ _ => rfl) C.hK))) (fun _ _ _ _ _ C => m_var 9)))))))))))
theorem r_best_messages (x1 : Fx P w K mg base G) : FnR P w K mg base G 5 "best_messages" phi_best_messages := by
  obtain ⟨f, fd, hm, F⟩ := x1.d_best_messages
  exact ⟨f, fd, ["game", "person", "liking"], hm, F.kp, F.bindsN fun _ _ _ _ _ _ us hl => match us, hl with | [_, _, _], _ => rfl, ok_def F sc_best_messages rfl rfl rfl (by decide) x1.hK fun cdv A outer s H E M hM hW C => p_best_messages (hM.symm ▸ x1) hW C⟩
-- are_likings
def lb1_are_likings : SF := sIf (tfNot (tfE (eCall phi_is_liking (aCons (eVar 2) (aCons (eVar 1) (aNil)))))) (sRet (eC (.bl false))) (sNil)
theorem sc_are_likings : FnScope ["likings", "outcomes", "liking"] ["likings", "outcomes"] (defScope st_are_likings) := ⟨rfl, rfl, rfl, by decide +kernel, rfl, by decide +kernel, by decide +kernel⟩
def ir_are_likings : SF := sSeq (sFor (gaName 2) (itSeq (eVar 0)) (lb1_are_likings))
  (sRet (eAnd (eChain dLe dLe (eC (.int 1)) (eU dLen (eView 0)) (eC (.int 6))) (eBin dEq (eLenT (eScG chkT [2] (itSeq (eVar 0)) (gaName 2) (tfTrue) (eU dTuple (eView 2)))) (eU dLen (eView 0)))))
def phi_are_likings : List D → Res D := dfn 2 3 ir_are_likings
theorem p_are_likings {f : Addr} {cdv : Value} {A : Around} {outer : List Env} {s : Shared} {H : Hp} {E : XK} {M : Fm} (x1 : Fx P w K mg base M.G) (hW : NoSt M) (C : Cxx (cxd P w K mg base ["likings", "outcomes", "liking"] "are_likings" (defScope st_are_likings) f cdv A outer s H E) M 2) : PSs (cxd P w K mg base ["likings", "outcomes", "liking"] "are_likings" (defScope st_are_likings) f cdv A outer s H E) (defBody st_are_likings) (tS M ir_are_likings) :=
  m_seq (m_for C (m_iseq C.hK (m_var 0)) (m_gname C.nd 2) (m_last (m_if (t_not (t_e (m_call C (r_is_liking x1) (by decide) (m_acons (m_var 2) (m_acons (m_var 1) (m_anil)))))) (m_last (m_ret (m_bl))) (m_nil))))
  (m_last (m_ret (m_and (c_chain k_le k_le (m_v (m_int)) (m_v (m_len C.hK x1.b_len (m_view 0))) (m_v (m_cint x1.k_Domain_LIKINGS.choose_spec.choose_spec.1 x1.k_Domain_LIKINGS.choose_spec.choose_spec.2.1 x1.k_Domain_LIKINGS.choose_spec.choose_spec.2.2))) (m_one (m_eq C.hu (m_v (m_lenScT C [("liking", 2)] x1.b_len (m_iseq C.hK (m_var 0)) (by rfl) (fun _ _ _ _ _ C => m_gname C.nd 2) (fun _ _ _ _ _ C => m_tnil) (fun _ _ _ _ _ C => m_tuple C.hK x1.b_tuple (m_view 2)))) (m_v (m_len C.hK x1.b_len (m_view 0))) C.hK)))))
theorem r_are_likings (x1 : Fx P w K mg base G) : FnR P w K mg base G 3 "are_likings" phi_are_likings := by
  obtain ⟨f, fd, hm, F⟩ := x1.d_are_likings
  exact ⟨f, fd, ["likings", "outcomes"], hm, F.kp, F.bindsN fun _ _ _ _ _ _ us hl => match us, hl with | [_, _], _ => rfl, ok_def F sc_are_likings rfl rfl rfl (by decide) x1.hK fun cdv A outer s H E M hM hW C => p_are_likings (hM.symm ▸ x1) hW C⟩
-- Domain_init
def lb1_Domain_init : SF := sIf (tfNot (tfE (eCall phi_are_likings (aCons (eBin dIx (eView 2) (eView 3)) (aCons (eVar 1) (aNil)))))) (sRaise 5 chkF (eVar 3)) (sNil)
def lb2_Domain_init : SF := sAug 4 dMul (eU dLen (eView 5))
def lb3_Domain_init : SF := sFrz 6 (sOwn 6 (oLc2 [8, 7] [7] (itSeq (eVar 6)) (gaName 8) (tfTrue) (itSeq (eVar 5)) (gaName 7) (tfTrue) (eBin dAdd (eView 8) (eTup (aCons (eVar 7) (aNil))))))
theorem sc_Domain_init : FnScope ["self", "outcomes", "likings", "person", "many", "row", "worlds", "liking", "world"] ["self", "outcomes", "likings"] (defScope st_Domain_init) := ⟨rfl, rfl, rfl, by decide +kernel, rfl, by decide +kernel, by decide +kernel⟩
def ir_Domain_init : SF := sSeq (sIf (tfNot (tfE (eChain dLe dLe (eC (.int 1)) (eView 1) (eC (.int 8))))) (sRaise 1 chkF (eC (.str "outcomes"))) (sNil))
  (sSeq (sIf (tfNot (tfE (eChain dLe dLe (eC (.int 1)) (eU dLen (eView 2)) (eC (.int 4))))) (sRaise 1 chkF (eC (.str "people"))) (sNil))
  (sSeq (sFor (gaName 3) (itR1 (eU dLen (eView 2))) (lb1_Domain_init))
  (sSeq (sAsg 4 (eC (.int 1)))
  (sSeq (sFor (gaName 5) (itSeq (eVar 2)) (lb2_Domain_init))
  (sSeq (sIf (tfE (eBin dGt (eView 4) (eC (.int 36)))) (sRaise 4 chkF (eC (.int 36))) (sNil))
  (sSeq (sFldSet 0 8 "outcomes" (eVar 1))
  (sSeq (sFldSet 0 8 "likings" (eU dTuple (eO (oLc [5] (itSeq (eVar 2)) (gaName 5) (tfTrue) (eU dTuple (eO (oLc [7] (itSeq (eVar 5)) (gaName 7) (tfTrue) (eU dTuple (eView 7)))))))))
  (sSeq (sFldSet 0 8 "sizes" (eU dTuple (eO (oLc [5] (itSeq (eVar 2)) (gaName 5) (tfTrue) (eU dLen (eView 5))))))
  (sSeq (sOwn 6 (oLst (aCons (eTup (aNil)) (aNil))))
  (sSeq (sFor (gaName 5) (itSeq (eFld [8] "likings" (eView 0))) (lb3_Domain_init))
  (sFldSet 0 8 "worlds" (eU dTuple (eView 6)))))))))))))
def phi_Domain_init : List D → Res (List (Str × D)) := dinit 8 2 9 ir_Domain_init
theorem p_Domain_init {f : Addr} {cdv : Value} {A : Around} {outer : List Env} {s : Shared} {H : Hp} {E : XK} {M : Fm} (x1 : Fx P w K mg base M.G) (hW : NoSt M) (C : Cxx (cxd P w K mg base ["self", "outcomes", "likings", "person", "many", "row", "worlds", "liking", "world"] "Domain.__init__" (defScope st_Domain_init) f cdv A outer s H E) M 3) : PSs (cxd P w K mg base ["self", "outcomes", "likings", "person", "many", "row", "worlds", "liking", "world"] "Domain.__init__" (defScope st_Domain_init) f cdv A outer s H E) (defBody st_Domain_init) (tS M ir_Domain_init) :=
  m_seq (m_if (t_not (t_chain k_le k_le (m_v (m_int)) (m_view 1) (m_v (m_gint x1.i_OUTCOMES)))) (m_last (m_raise C x1.x_BadSize (by decide) (m_str))) (m_nil))
  (m_seq (m_if (t_not (t_chain k_le k_le (m_v (m_int)) (m_v (m_len C.hK x1.b_len (m_view 2))) (m_v (m_gint x1.i_PEOPLE)))) (m_last (m_raise C x1.x_BadSize (by decide) (m_str))) (m_nil))
  (m_seq (m_for C (m_ir1 C x1.b_range (m_v (m_len C.hK x1.b_len (m_view 2)))) (m_gname C.nd 3) (m_last (m_if (t_not (t_e (m_call C (r_are_likings x1) (by decide) (m_acons (m_ix (m_view 2) (m_view 3) (by exact fun _ _ => rfl) C.hK) (m_acons (m_var 1) (m_anil)))))) (m_last (m_raise C x1.x_BadDomain (by decide) (m_var 3))) (m_nil))))
  (m_seq (m_asg C 4 (m_int))
  (m_seq (m_for C (m_iseq C.hK (m_var 2)) (m_gname C.nd 5) (m_last (m_imul C 4 (m_v (m_len C.hK x1.b_len (m_view 5))))))
  (m_seq (m_if (t_cmp k_gt (m_view 4) (m_v (m_cint x1.k_Domain_WORLDS.choose_spec.choose_spec.1 x1.k_Domain_WORLDS.choose_spec.choose_spec.2.1 x1.k_Domain_WORLDS.choose_spec.choose_spec.2.2))) (m_last (m_raise C x1.x_TooMany (by decide) (m_cint x1.k_Domain_WORLDS.choose_spec.choose_spec.1 x1.k_Domain_WORLDS.choose_spec.choose_spec.2.1 x1.k_Domain_WORLDS.choose_spec.choose_spec.2.2))) (m_nil))
  (m_seq (m_fldSet C 0 x1.fs_Domain_outcomes (m_var 1))
  (m_seq (m_fldSet C 0 x1.fs_Domain_likings (m_tuple C.hK x1.b_tuple (m_v (m_o (m_lc C [("row", 5)] (m_iseq C.hK (m_var 2)) (by rfl) (fun _ _ _ _ _ C => m_gname C.nd 5) (fun _ _ _ _ _ C => m_tnil) (fun _ _ _ _ _ C => m_tuple C.hK x1.b_tuple (m_v (m_o (m_lc C [("liking", 7)] (m_iseq C.hK (m_var 5)) (by rfl) (fun _ _ _ _ _ C => m_gname C.nd 7) (fun _ _ _ _ _ C => m_tnil) (fun _ _ _ _ _ C => m_tuple C.hK x1.b_tuple (m_view 7)))))))))))
  (m_seq (m_fldSet C 0 x1.fs_Domain_sizes (m_tuple C.hK x1.b_tuple (m_v (m_o (m_lc C [("row", 5)] (m_iseq C.hK (m_var 2)) (by rfl) (fun _ _ _ _ _ C => m_gname C.nd 5) (fun _ _ _ _ _ C => m_tnil) (fun _ _ _ _ _ C => m_len C.hK x1.b_len (m_view 5)))))))
  (m_seq (m_own C 6 (m_lst (m_acons (m_tup (m_anil)) (m_anil))))
  (m_seq (m_for C (m_iseq C.hK (m_fld [8] x1.fl_likings (m_view 0))) (m_gname C.nd 5) (m_last (m_frz 6 (m_setLc2 C 6 [("world", 8), ("liking", 7)] [7] (m_iseq C.hK (m_var 6)) (by rfl) ga_ok_name ga_ok_name (fun _ _ _ _ _ C => m_gname C.nd 8) (fun _ _ _ _ _ C => m_tnil) (fun _ _ _ _ _ C => m_iseq C.hK (m_var 5)) (fun _ _ _ _ _ C => m_gname C.nd 7) (fun _ _ _ _ _ C => m_tnil) (fun _ _ _ _ _ C => m_add (m_view 8) (m_v (m_tup (m_acons (m_var 7) (m_anil)))) C.hK)))))
  (m_last (m_fldSet C 0 x1.fs_Domain_worlds (m_tuple C.hK x1.b_tuple (m_view 6))))))))))))))
theorem r_Domain_init (x1 : Fx P w K mg base G) : ClR P w K mg base G 4 "Domain" 8 phi_Domain_init := by
  obtain ⟨f, fd, hm, mk, F⟩ := x1.d_Domain_init
  exact ⟨f, fd, ["self", "outcomes", "likings"], hm, mk, F.bindsN fun _ _ _ _ _ _ us hl => match us, hl with | [_, _, _], _ => rfl, ok_init F sc_Domain_init rfl rfl rfl (by decide) x1.hK fun cdv A outer s H E M hM hW C => p_Domain_init (hM.symm ▸ x1) hW C⟩
-- law_row
def lb1_law_row : SF := sIf (tfAnd (tfE (eVar 5)) (tfE (eBin dGt (eView 4) (eC (.int 0))))) (sSeq (sApp 7 (eBin dMod (eU dInt (eView 4)) (eView 3)))
  (sAsg 4 (eBin dDiv (eView 4) (eView 3)))) (sSeq (sAsg 6 (eBin dMod (eU dInt (eBin dAdd (eBin dMul (eView 6) (eC (.int 48271))) (eC (.int 11)))) (eC (.int 2147483647))))
  (sSeq (sAsg 9 (eBin dMod (eU dInt (eBin dAdd (eBin dMul (eView 6) (eC (.int 69621))) (eView 8))) (eC (.int 2147483629))))
  (sApp 7 (eBin dMod (eU dInt (eBin dDiv (eView 9) (eC (.int 7)))) (eView 3)))))
theorem sc_law_row : FnScope ["script", "at", "size", "limit", "cell", "digits", "first", "row", "index", "second"] ["script", "at", "size", "limit"] (defScope st_law_row) := ⟨rfl, rfl, rfl, by decide +kernel, rfl, by decide +kernel, by decide +kernel⟩
def ir_law_row : SF := sSeq (sAsg 4 (eC (.int 0)))
  (sSeq (sIf (tfE (eBin dLt (eView 1) (eU dLen (eView 0)))) (sAsg 4 (eU dAbs (eBin dIx (eView 0) (eView 1)))) (sNil))
  (sSeq (sAsg 5 (eBin dGe (eView 4) (eBin dPow (eC (.int 10)) (eC (.int 18)))))
  (sSeq (sAsg 6 (eBin dMod (eU dInt (eBin dAdd (eBin dAdd (eBin dMul (eView 4) (eC (.int 48271))) (eBin dMul (eView 1) (eC (.int 69621)))) (eC (.int 7)))) (eC (.int 2147483647))))
  (sSeq (sOwn 7 (oLst (aNil)))
  (sSeq (sFor (gaName 8) (itR1 (eView 2)) (lb1_law_row))
  (sFrz 7 (sRet (eVar 7))))))))
def phi_law_row : List D → Res D := dfn 4 10 ir_law_row
theorem p_law_row {f : Addr} {cdv : Value} {A : Around} {outer : List Env} {s : Shared} {H : Hp} {E : XK} {M : Fm} (x1 : Fx P w K mg base M.G) (hW : NoSt M) (C : Cxx (cxd P w K mg base ["script", "at", "size", "limit", "cell", "digits", "first", "row", "index", "second"] "_law_row" (defScope st_law_row) f cdv A outer s H E) M 0) : PSs (cxd P w K mg base ["script", "at", "size", "limit", "cell", "digits", "first", "row", "index", "second"] "_law_row" (defScope st_law_row) f cdv A outer s H E) (defBody st_law_row) (tS M ir_law_row) :=
  m_seq (m_asg C 4 (m_int))
  (m_seq (m_if (t_cmp k_lt (m_view 1) (m_v (m_len C.hK x1.b_len (m_view 0)))) (m_last (m_asg C 4 (m_abs C x1.b_abs (m_v (m_ix (m_view 0) (m_view 1) (by exact fun _ _ => rfl) C.hK))))) (m_nil))
  (m_seq (m_asg C 5 (m_ge (m_view 4) (m_v (m_pow (m_v (m_int)) (m_v (m_int))))))
  (m_seq (m_asg C 6 (m_mod (m_v (m_toint C x1.b_int (m_v (m_add (m_v (m_add (m_v (m_mul (m_view 4) (m_v (m_int)))) (m_v (m_mul (m_view 1) (m_v (m_int)))) C.hK)) (m_v (m_int)) C.hK)))) (m_v (m_int))))
  (m_seq (m_own C 7 (m_lst (m_anil)))
  (m_seq (m_for C (m_ir1 C x1.b_range (m_view 2)) (m_gname C.nd 8) (m_last (m_if ((t_and (t_e (m_var 5)) (t_and1 (t_cmp k_gt (m_view 4) (m_v (m_int))))).pt) (m_seq (m_app (pos' := ⟨0, 0, 0, 0⟩) C 7 (m_mod (m_v (m_toint C x1.b_int (m_view 4))) (m_view 3)))
  (m_last (m_asg C 4 (m_div (m_view 4) (m_view 3))))) (m_seq (m_asg C 6 (m_mod (m_v (m_toint C x1.b_int (m_v (m_add (m_v (m_mul (m_view 6) (m_v (m_int)))) (m_v (m_int)) C.hK)))) (m_v (m_int))))
  (m_seq (m_asg C 9 (m_mod (m_v (m_toint C x1.b_int (m_v (m_add (m_v (m_mul (m_view 6) (m_v (m_int)))) (m_view 8) C.hK)))) (m_v (m_int))))
  (m_last (m_app (pos' := ⟨0, 0, 0, 0⟩) C 7 (m_mod (m_v (m_toint C x1.b_int (m_v (m_div (m_view 9) (m_v (m_int)))))) (m_view 3)))))))))
  (m_last (m_frz 7 (m_ret (m_var 7)))))))))
theorem r_law_row (x1 : Fx P w K mg base G) : FnR P w K mg base G 1 "_law_row" phi_law_row := by
  obtain ⟨f, fd, hm, F⟩ := x1.d_law_row
  exact ⟨f, fd, ["script", "at", "size", "limit"], hm, F.kp, F.bindsN fun _ _ _ _ _ _ us hl => match us, hl with | [_, _, _, _], _ => rfl, ok_def F sc_law_row rfl rfl rfl (by decide) x1.hK fun cdv A outer s H E M hM hW C => p_law_row (hM.symm ▸ x1) hW C⟩
-- law_order
def lb1_law_order : SF := sAppPop 4 3 (eBin dMod (eU dInt (eView 5)) (eU dLen (eView 3)))
theorem sc_law_order : FnScope ["script", "at", "size", "left", "order", "number"] ["script", "at", "size"] (defScope st_law_order) := ⟨rfl, rfl, rfl, by decide +kernel, rfl, by decide +kernel, by decide +kernel⟩
def ir_law_order : SF := sSeq (sOwn 3 (oRg (eView 2)))
  (sSeq (sOwn 4 (oLst (aNil)))
  (sSeq (sFor (gaName 5) (itSeq (eCall phi_law_row (aCons (eVar 0) (aCons (eVar 1) (aCons (eVar 2) (aCons (eC (.int 5040)) (aNil))))))) (lb1_law_order))
  (sFrz 4 (sRet (eVar 4)))))
def phi_law_order : List D → Res D := dfn 3 6 ir_law_order
theorem p_law_order {f : Addr} {cdv : Value} {A : Around} {outer : List Env} {s : Shared} {H : Hp} {E : XK} {M : Fm} (x1 : Fx P w K mg base M.G) (hW : NoSt M) (C : Cxx (cxd P w K mg base ["script", "at", "size", "left", "order", "number"] "_law_order" (defScope st_law_order) f cdv A outer s H E) M 1) : PSs (cxd P w K mg base ["script", "at", "size", "left", "order", "number"] "_law_order" (defScope st_law_order) f cdv A outer s H E) (defBody st_law_order) (tS M ir_law_order) :=
  m_seq (m_own C 3 (m_listRg C x1.b_list x1.b_range (m_view 2)))
  (m_seq (m_own C 4 (m_lst (m_anil)))
  (m_seq (m_for C (m_iseq C.hK (m_call C (r_law_row x1) (by decide) (m_acons (m_var 0) (m_acons (m_var 1) (m_acons (m_var 2) (m_acons (m_int) (m_anil))))))) (m_gname C.nd 5) (m_last (m_appPop (pos' := ⟨0, 0, 0, 0⟩) C 4 3 (m_v (m_mod (m_v (m_toint C x1.b_int (m_view 5))) (m_v (m_len C.hK x1.b_len (m_view 3))))))))
  (m_last (m_frz 4 (m_ret (m_var 4))))))
theorem r_law_order (x1 : Fx P w K mg base G) : FnR P w K mg base G 2 "_law_order" phi_law_order := by
  obtain ⟨f, fd, hm, F⟩ := x1.d_law_order
  exact ⟨f, fd, ["script", "at", "size"], hm, F.kp, F.bindsN fun _ _ _ _ _ _ us hl => match us, hl with | [_, _, _], _ => rfl, ok_def F sc_law_order rfl rfl rfl (by decide) x1.hK fun cdv A outer s H E M hM hW C => p_law_order (hM.symm ▸ x1) hW C⟩
-- law_same
def lb1_law_same (rec : List D → Res D) : SF := sIf (tfNot (tfE (eCall rec (aCons (eBin dIx (eView 0) (eView 2)) (aCons (eBin dIx (eView 1) (eView 2)) (aNil)))))) (sRet (eC (.bl false))) (sNil)
theorem sc_law_same : FnScope ["told", "due", "index"] ["told", "due"] (defScope st_law_same) := ⟨rfl, rfl, rfl, by decide +kernel, rfl, by decide +kernel, by decide +kernel⟩
def ir_law_same (rec : List D → Res D) : SF := sSeq (sIf (tfE (eBin dIs (eView 1) (eC .non))) (sRet (eBin dIs (eView 0) (eC .non))) (sNil))
  (sSeq (sIf (tfE (eBin dIs (eView 1) (eC (.bl true)))) (sRet (eBin dIs (eView 0) (eC (.bl true)))) (sNil))
  (sSeq (sIf (tfE (eBin dIs (eView 1) (eC (.bl false)))) (sRet (eBin dIs (eView 0) (eC (.bl false)))) (sNil))
  (sSeq (sIf (tfE (eU (dIsi (bIs "str") insNo) (eView 1))) (sRet (eAnd (eU (dIsi (bIs "str") insNo) (eView 0)) (eBin dEq (eView 0) (eView 1)))) (sNil))
  (sSeq (sIf (tfE (eU (dIsi (bIs "int") insNo) (eView 1))) (sRet (eAnd (eU (dIsi (bIs "int") insNo) (eView 0)) (eAnd (eNot (eU (dIsi (bIs "bool") insNo) (eView 0))) (eBin dEq (eView 0) (eView 1))))) (sNil))
  (sSeq (sIf (tfOr (tfNot (tfE (eU (dIsi (bIs "tuple") insNo) (eView 0)))) (tfE (eBin dNe (eU dLen (eView 0)) (eU dLen (eView 1))))) (sRet (eC (.bl false))) (sNil))
  (sSeq (sFor (gaName 2) (itR1 (eU dLen (eView 1))) (lb1_law_same rec))
  (sRet (eC (.bl true)))))))))
def phi_law_same : Nat → List D → Res D
  | 0 => fun _ => .stuck
  | m + 1 => dfn 2 3 (ir_law_same (phi_law_same m))
theorem p_law_same {f : Addr} {cdv : Value} {A : Around} {outer : List Env} {s : Shared} {H : Hp} {E : XK} {M : Fm} {k : Nat} {rec : List D → Res D} (x1 : Fx P w K mg base M.G) (hW : NoSt M) (hrec : FnR P w K mg base M.G (k + 0) "_law_same" rec) (C : Cxx (cxd P w K mg base ["told", "due", "index"] "_law_same" (defScope st_law_same) f cdv A outer s H E) M (k + 0)) : PSs (cxd P w K mg base ["told", "due", "index"] "_law_same" (defScope st_law_same) f cdv A outer s H E) (defBody st_law_same) (tS M (ir_law_same rec)) :=
  m_seq (m_if (t_cmp k_is (m_view 1) (m_v (m_non))) (m_last (m_ret (m_is (m_view 0) (m_v (m_non))))) (m_nil))
  (m_seq (m_if (t_cmp k_is (m_view 1) (m_v (m_bl))) (m_last (m_ret (m_is (m_view 0) (m_v (m_bl))))) (m_nil))
  (m_seq (m_if (t_cmp k_is (m_view 1) (m_v (m_bl))) (m_last (m_ret (m_is (m_view 0) (m_v (m_bl))))) (m_nil))
  (m_seq (m_if (t_e (m_isiB C.hK is_str x1.b_isinstance x1.b_str (by decide +kernel) (m_view 1))) (m_last (m_ret (m_and (m_isiB C.hK is_str x1.b_isinstance x1.b_str (by decide +kernel) (m_view 0)) (m_one (m_eq C.hu (m_view 0) (m_view 1) C.hK))))) (m_nil))
  (m_seq (m_if (t_e (m_isiB C.hK is_int x1.b_isinstance x1.b_int (by decide +kernel) (m_view 1))) (m_last (m_ret (m_and (m_isiB C.hK is_int x1.b_isinstance x1.b_int (by decide +kernel) (m_view 0)) (m_and (m_not (m_isiB C.hK is_bool x1.b_isinstance x1.b_bool (by decide +kernel) (m_view 0))) (m_one (m_eq C.hu (m_view 0) (m_view 1) C.hK)))))) (m_nil))
  (m_seq (m_if ((t_or (t_not (t_e (m_isiB C.hK is_tuple x1.b_isinstance x1.b_tuple (by decide +kernel) (m_view 0)))) (t_or1 (t_cmp (k_ne C.hu C.hK) (m_v (m_len C.hK x1.b_len (m_view 0))) (m_v (m_len C.hK x1.b_len (m_view 1)))))).pt) (m_last (m_ret (m_bl))) (m_nil))
  (m_seq (m_for C (m_ir1 C x1.b_range (m_v (m_len C.hK x1.b_len (m_view 1)))) (m_gname C.nd 2) (m_last (m_if (t_not (t_e (m_call C hrec (by omega) (m_acons (m_ix (m_view 0) (m_view 2) (by exact fun _ _ => rfl) C.hK) (m_acons (m_ix (m_view 1) (m_view 2) (by exact fun _ _ => rfl) C.hK) (m_anil)))))) (m_last (m_ret (m_bl))) (m_nil))))
  (m_last (m_ret (m_bl)))))))))
theorem r_law_same (x1 : Fx P w K mg base G) : ∀ n, FnR P w K mg base G (n + 1) "_law_same" (phi_law_same n) := by
  obtain ⟨f, fd, hm, F⟩ := x1.d_law_same
  have hb := F.bindsN (ps := ["told", "due"]) fun _ _ _ _ _ _ us hl => match us, hl with | [_, _], _ => rfl
  intro n
  induction n with
  | zero => exact ⟨f, fd, ["told", "due"], hm, F.kp, hb, fn_stuck⟩
  | succ n ih => exact ⟨f, fd, ["told", "due"], hm, F.kp, hb, ok_def F sc_law_same rfl rfl rfl (by decide) x1.hK fun cdv A outer s H E M hM hW C => p_law_same (k := n + 1) (hM.symm ▸ x1) hW (hM.symm ▸ ih) C⟩
def irA_law_same : SF := sSeq (sIf (tfE (eBin dIs (eView 1) (eC .non))) (sRet (eBin dIs (eView 0) (eC .non))) (sNil))
  (sSeq (sIf (tfE (eBin dIs (eView 1) (eC (.bl true)))) (sRet (eBin dIs (eView 0) (eC (.bl true)))) (sNil))
  (sSeq (sIf (tfE (eBin dIs (eView 1) (eC (.bl false)))) (sRet (eBin dIs (eView 0) (eC (.bl false)))) (sNil))
  (sSeq (sIf (tfE (eU (dIsi (bIs "str") insNo) (eView 1))) (sRet (eAnd (eU (dIsi (bIs "str") insNo) (eView 0)) (eBin dEq (eView 0) (eView 1)))) (sNil))
  (sSeq (sIf (tfE (eU (dIsi (bIs "int") insNo) (eView 1))) (sRet (eAnd (eU (dIsi (bIs "int") insNo) (eView 0)) (eAnd (eNot (eU (dIsi (bIs "bool") insNo) (eView 0))) (eBin dEq (eView 0) (eView 1))))) (sNil))
  (sSeq (sIf (tfOr (tfNot (tfE (eU (dIsi (bIs "tuple") insNo) (eView 0)))) (tfE (eBin dNe (eU dLen (eView 0)) (eU dLen (eView 1))))) (sRet (eC (.bl false))) (sNil))
  (sSeq (sNever)
  (sRet (eC (.bl true)))))))))
def phiA_law_same : List D → Res D := onlyOk (dfn 2 3 irA_law_same)
theorem pA_law_same {f : Addr} {cdv : Value} {A : Around} {outer : List Env} {s : Shared} {H : Hp} {M : Fm} (x1 : Fx P w K mg base M.G) (C : Cxh (cxa P w K mg base ["told", "due", "index"] "_law_same" (defScope st_law_same) f cdv A outer s H) M 0) : PSs (cxa P w K mg base ["told", "due", "index"] "_law_same" (defScope st_law_same) f cdv A outer s H) (defBody st_law_same) (tS M irA_law_same) :=
  m_seq (m_if (t_cmp k_is (m_view 1) (m_v (m_non))) (m_last (m_ret (m_is (m_view 0) (m_v (m_non))))) (m_nil))
  (m_seq (m_if (t_cmp k_is (m_view 1) (m_v (m_bl))) (m_last (m_ret (m_is (m_view 0) (m_v (m_bl))))) (m_nil))
  (m_seq (m_if (t_cmp k_is (m_view 1) (m_v (m_bl))) (m_last (m_ret (m_is (m_view 0) (m_v (m_bl))))) (m_nil))
  (m_seq (m_if (t_e (m_isiB C.hK is_str x1.b_isinstance x1.b_str (by decide +kernel) (m_view 1))) (m_last (m_ret (m_and (m_isiB C.hK is_str x1.b_isinstance x1.b_str (by decide +kernel) (m_view 0)) (m_one (m_eq C.hu (m_view 0) (m_view 1) C.hK))))) (m_nil))
  (m_seq (m_if (t_e (m_isiB C.hK is_int x1.b_isinstance x1.b_int (by decide +kernel) (m_view 1))) (m_last (m_ret (m_and (m_isiB C.hK is_int x1.b_isinstance x1.b_int (by decide +kernel) (m_view 0)) (m_and (m_not (m_isiB C.hK is_bool x1.b_isinstance x1.b_bool (by decide +kernel) (m_view 0))) (m_one (m_eq C.hu (m_view 0) (m_view 1) C.hK)))))) (m_nil))
  (m_seq (m_if ((t_or (t_not (t_e (m_isiB C.hK is_tuple x1.b_isinstance x1.b_tuple (by decide +kernel) (m_view 0)))) (t_or1 (t_cmp (k_ne C.hu C.hK) (m_v (m_len C.hK x1.b_len (m_view 0))) (m_v (m_len C.hK x1.b_len (m_view 1)))))).pt) (m_last (m_ret (m_bl))) (m_nil))
  (m_seq (m_never)
  (m_last (m_ret (m_bl)))))))))
theorem rA_law_same (x1 : Fx P w K mg base G) : FnAR P w K mg base G 1 "_law_same" phiA_law_same := by
  obtain ⟨f, fd, hm, F⟩ := x1.d_law_same
  exact ⟨f, fd, ["told", "due"], hm, F.kp, F.bindsN fun _ _ _ _ _ _ us hl => match us, hl with | [_, _], _ => rfl, ok_defA F sc_law_same rfl rfl rfl (by decide) x1.hK fun cdv A outer s H M hM C => pA_law_same (hM.symm ▸ x1) C⟩
-- law_dense
theorem sc_law_dense : FnScope ["points", "steps", "point"] ["points"] (defScope st_law_dense) := ⟨rfl, rfl, rfl, by decide +kernel, rfl, by decide +kernel, by decide +kernel⟩
def ir_law_dense : SF := sSeq (sOwn 1 (oU dSortSet (eView 0)))
  (sRet (eU dTuple (eO (oLc [2] (itSeq (eVar 0)) (gaName 2) (tfTrue) (eIdx (eView 1) (eView 2))))))
def phi_law_dense : List D → Res D := dfn 1 3 ir_law_dense
theorem p_law_dense {f : Addr} {cdv : Value} {A : Around} {outer : List Env} {s : Shared} {H : Hp} {E : XK} {M : Fm} (x1 : Fx P w K mg base M.G) (hW : NoSt M) (C : Cxx (cxd P w K mg base ["points", "steps", "point"] "_law_dense" (defScope st_law_dense) f cdv A outer s H E) M 0) : PSs (cxd P w K mg base ["points", "steps", "point"] "_law_dense" (defScope st_law_dense) f cdv A outer s H E) (defBody st_law_dense) (tS M ir_law_dense) :=
  m_seq (m_own C 1 (m_sortSet C x1.b_sorted x1.b_set (m_view 0)))
  (m_last (m_ret (m_tuple C.hK x1.b_tuple (m_v (m_o (m_lc C [("point", 2)] (m_iseq C.hK (m_var 0)) (by rfl) (fun _ _ _ _ _ C => m_gname C.nd 2) (fun _ _ _ _ _ C => m_tnil) (fun _ _ _ _ _ C => m_index C (m_view 1) (m_view 2))))))))
theorem r_law_dense (x1 : Fx P w K mg base G) : FnR P w K mg base G 1 "_law_dense" phi_law_dense := by
  obtain ⟨f, fd, hm, F⟩ := x1.d_law_dense
  exact ⟨f, fd, ["points"], hm, F.kp, F.bindsN fun _ _ _ _ _ _ us hl => match us, hl with | [_], _ => rfl, ok_def F sc_law_dense rfl rfl rfl (by decide) x1.hK fun cdv A outer s H E M hM hW C => p_law_dense (hM.symm ▸ x1) hW C⟩
-- law_plays
def lb1_law_plays : SF := sApp 3 (eBin dAdd (eView 4) (eTup (aCons (eVar 5) (aNil))))
def lb2_law_plays : SF := sFor (gaName 5) (itR1 (eView 2)) (lb1_law_plays)
def lb3_law_plays : SF := sSeq (sOwn 3 (oLst (aNil)))
  (sSeq (sFrz 1 (sFor (gaName 4) (itSeq (eVar 1)) (lb2_law_plays)))
  (sFrz 3 (sAsg 1 (eVar 3))))
theorem sc_law_plays : FnScope ["sizes", "rows", "size", "longer", "row", "word"] ["sizes"] (defScope st_law_plays) := ⟨rfl, rfl, rfl, by decide +kernel, rfl, by decide +kernel, by decide +kernel⟩
def ir_law_plays : SF := sSeq (sOwn 1 (oLst (aCons (eTup (aNil)) (aNil))))
  (sSeq (sFor (gaName 2) (itSeq (eVar 0)) (lb3_law_plays))
  (sFrz 1 (sRet (eVar 1))))
def phi_law_plays : List D → Res D := dfn 1 6 ir_law_plays
theorem p_law_plays {f : Addr} {cdv : Value} {A : Around} {outer : List Env} {s : Shared} {H : Hp} {E : XK} {M : Fm} (x1 : Fx P w K mg base M.G) (hW : NoSt M) (C : Cxx (cxd P w K mg base ["sizes", "rows", "size", "longer", "row", "word"] "_law_plays" (defScope st_law_plays) f cdv A outer s H E) M 0) : PSs (cxd P w K mg base ["sizes", "rows", "size", "longer", "row", "word"] "_law_plays" (defScope st_law_plays) f cdv A outer s H E) (defBody st_law_plays) (tS M ir_law_plays) :=
  m_seq (m_own C 1 (m_lst (m_acons (m_tup (m_anil)) (m_anil))))
  (m_seq (m_for C (m_iseq C.hK (m_var 0)) (m_gname C.nd 2) (m_seq (m_own C 3 (m_lst (m_anil)))
  (m_seq (m_frz 1 (m_for C (m_iseq C.hK (m_var 1)) (m_gname C.nd 4) (m_last (m_for C (m_ir1 C x1.b_range (m_view 2)) (m_gname C.nd 5) (m_last (m_app (pos' := ⟨0, 0, 0, 0⟩) C 3 (m_add (m_view 4) (m_v (m_tup (m_acons (m_var 5) (m_anil)))) C.hK)))))))
  (m_last (m_frz 3 (m_asg C 1 (m_var 3)))))))
  (m_last (m_frz 1 (m_ret (m_var 1)))))
theorem r_law_plays (x1 : Fx P w K mg base G) : FnR P w K mg base G 1 "_law_plays" phi_law_plays := by
  obtain ⟨f, fd, hm, F⟩ := x1.d_law_plays
  exact ⟨f, fd, ["sizes"], hm, F.kp, F.bindsN fun _ _ _ _ _ _ us hl => match us, hl with | [_], _ => rfl, ok_def F sc_law_plays rfl rfl rfl (by decide) x1.hK fun cdv A outer s H E M hM hW C => p_law_plays (hM.symm ▸ x1) hW C⟩
-- law_number
def lb1_law_number : SF := sAsg 2 (eBin dAdd (eBin dMul (eView 2) (eBin dIx (eView 0) (eView 3))) (eBin dIx (eView 1) (eView 3)))
theorem sc_law_number : FnScope ["sizes", "play", "number", "who"] ["sizes", "play"] (defScope st_law_number) := ⟨rfl, rfl, rfl, by decide +kernel, rfl, by decide +kernel, by decide +kernel⟩
def ir_law_number : SF := sSeq (sAsg 2 (eC (.int 0)))
  (sSeq (sFor (gaName 3) (itR1 (eU dLen (eView 0))) (lb1_law_number))
  (sRet (eVar 2)))
def phi_law_number : List D → Res D := dfn 2 4 ir_law_number
theorem p_law_number {f : Addr} {cdv : Value} {A : Around} {outer : List Env} {s : Shared} {H : Hp} {E : XK} {M : Fm} (x1 : Fx P w K mg base M.G) (hW : NoSt M) (C : Cxx (cxd P w K mg base ["sizes", "play", "number", "who"] "_law_number" (defScope st_law_number) f cdv A outer s H E) M 0) : PSs (cxd P w K mg base ["sizes", "play", "number", "who"] "_law_number" (defScope st_law_number) f cdv A outer s H E) (defBody st_law_number) (tS M ir_law_number) :=
  m_seq (m_asg C 2 (m_int))
  (m_seq (m_for C (m_ir1 C x1.b_range (m_v (m_len C.hK x1.b_len (m_view 0)))) (m_gname C.nd 3) (m_last (m_asg C 2 (m_add (m_v (m_mul (m_view 2) (m_v (m_ix (m_view 0) (m_view 3) (by exact fun _ _ => rfl) C.hK)))) (m_v (m_ix (m_view 1) (m_view 3) (by exact fun _ _ => rfl) C.hK)) C.hK))))
  (m_last (m_ret (m_var 2))))
theorem r_law_number (x1 : Fx P w K mg base G) : FnR P w K mg base G 1 "_law_number" phi_law_number := by
  obtain ⟨f, fd, hm, F⟩ := x1.d_law_number
  exact ⟨f, fd, ["sizes", "play"], hm, F.kp, F.bindsN fun _ _ _ _ _ _ us hl => match us, hl with | [_, _], _ => rfl, ok_def F sc_law_number rfl rfl rfl (by decide) x1.hK fun cdv A outer s H E M hM hW C => p_law_number (hM.symm ▸ x1) hW C⟩
-- law_game
theorem sc_law_game : FnScope ["script", "at", "people", "outcomes", "sizes", "count", "size", "number"] ["script", "at", "people", "outcomes"] (defScope st_law_game) := ⟨rfl, rfl, rfl, by decide +kernel, rfl, by decide +kernel, by decide +kernel⟩
def ir_law_game : SF := sSeq (sAsg 4 (eU dTuple (eO (oLc [6] (itSeq (eCall phi_law_row (aCons (eVar 0) (aCons (eVar 1) (aCons (eVar 2) (aCons (eC (.int 5040)) (aNil))))))) (gaName 6) (tfTrue) (eBin dAdd (eC (.int 1)) (eBin dMod (eU dInt (eView 6)) (eC (.int 3))))))))
  (sSeq (sAsg 5 (eU dLen (eCall phi_law_plays (aCons (eVar 4) (aNil)))))
  (sRet (eTup (aCons (eVar 4) (aCons (eU dTuple (eO (oLc [7] (itSeq (eCall phi_law_row (aCons (eVar 0) (aCons (eBin dAdd (eView 1) (eC (.int 1))) (aCons (eVar 5) (aCons (eC (.int 5040)) (aNil))))))) (gaName 7) (tfTrue) (eBin dMod (eU dInt (eView 7)) (eView 3))))) (aNil))))))
def phi_law_game : List D → Res D := dfn 4 8 ir_law_game
theorem p_law_game {f : Addr} {cdv : Value} {A : Around} {outer : List Env} {s : Shared} {H : Hp} {E : XK} {M : Fm} (x1 : Fx P w K mg base M.G) (hW : NoSt M) (C : Cxx (cxd P w K mg base ["script", "at", "people", "outcomes", "sizes", "count", "size", "number"] "_law_game" (defScope st_law_game) f cdv A outer s H E) M 1) : PSs (cxd P w K mg base ["script", "at", "people", "outcomes", "sizes", "count", "size", "number"] "_law_game" (defScope st_law_game) f cdv A outer s H E) (defBody st_law_game) (tS M ir_law_game) :=
  m_seq (m_asg C 4 (m_tuple C.hK x1.b_tuple (m_v (m_o (m_lc C [("size", 6)] (m_iseq C.hK (m_call C (r_law_row x1) (by decide) (m_acons (m_var 0) (m_acons (m_var 1) (m_acons (m_var 2) (m_acons (m_int) (m_anil))))))) (by rfl) (fun _ _ _ _ _ C => m_gname C.nd 6) (fun _ _ _ _ _ C => m_tnil) (fun _ _ _ _ _ C => m_add (m_v (m_int)) (m_v (m_mod (m_v (m_toint C x1.b_int (m_view 6))) (m_v (m_int)))) C.hK))))))
  (m_seq (m_asg C 5 (m_len C.hK x1.b_len (m_v (m_call C (r_law_plays x1) (by decide) (m_acons (m_var 4) (m_anil))))))
  (m_last (m_ret (m_tup (m_acons (m_var 4) (m_acons (m_tuple C.hK x1.b_tuple (m_v (m_o (m_lc C [("number", 7)] (m_iseq C.hK (m_call C (r_law_row x1) (by decide) (m_acons (m_var 0) (m_acons (m_add (m_view 1) (m_v (m_int)) C.hK) (m_acons (m_var 5) (m_acons (m_int) (m_anil))))))) (by rfl) (fun _ _ _ _ _ C => m_gname C.nd 7) (fun _ _ _ _ _ C => m_tnil) (fun _ _ _ _ _ C => m_mod (m_v (m_toint C x1.b_int (m_view 7))) (m_view 3)))))) (m_anil)))))))
theorem r_law_game (x1 : Fx P w K mg base G) : FnR P w K mg base G 2 "_law_game" phi_law_game := by
  obtain ⟨f, fd, hm, F⟩ := x1.d_law_game
  exact ⟨f, fd, ["script", "at", "people", "outcomes"], hm, F.kp, F.bindsN fun _ _ _ _ _ _ us hl => match us, hl with | [_, _, _, _], _ => rfl, ok_def F sc_law_game rfl rfl rfl (by decide) x1.hK fun cdv A outer s H E M hM hW C => p_law_game (hM.symm ▸ x1) hW C⟩
-- law_likings
def lb1_law_likings : SF := sSeq (sAsg 9 (eSlice (eView 6) (nSome (eBin dMul (eView 8) (eView 3))) (nSome (eBin dAdd (eBin dMul (eView 8) (eView 3)) (eView 3)))))
  (sSeq (sAsg 10 (eCall phi_law_dense (aCons (eO (oLc [11] (itSeq (eVar 9)) (gaName 11) (tfTrue) (eBin dMod (eU dInt (eView 11)) (eView 3)))) (aNil))))
  (sIf (tfE (eBin dNotIn (eView 10) (eView 7))) (sApp 7 (eVar 10)) (sNil)))
def lb2_law_likings : SF := sSeq (sAsg 6 (eCall phi_law_row (aCons (eVar 0) (aCons (eBin dAdd (eView 1) (eView 5)) (aCons (eBin dAdd (eBin dMul (eC (.int 3)) (eView 3)) (eC (.int 1))) (aCons (eC (.int 5040)) (aNil)))))))
  (sSeq (sOwn 7 (oLst (aNil)))
  (sSeq (sFor (gaName 8) (itR1 (eBin dAdd (eC (.int 1)) (eBin dMod (eU dInt (eBin dIx (eView 6) (eBin dMul (eC (.int 3)) (eView 3)))) (eC (.int 3))))) (lb1_law_likings))
  (sApp 4 (eU dTuple (eView 7)))))
theorem sc_law_likings : FnScope ["script", "at", "people", "outcomes", "rows", "who", "drawn", "row", "index", "part", "liking", "point"] ["script", "at", "people", "outcomes"] (defScope st_law_likings) := ⟨rfl, rfl, rfl, by decide +kernel, rfl, by decide +kernel, by decide +kernel⟩
def ir_law_likings : SF := sSeq (sOwn 4 (oLst (aNil)))
  (sSeq (sFor (gaName 5) (itR1 (eView 2)) (lb2_law_likings))
  (sRet (eU dTuple (eView 4))))
def phi_law_likings : List D → Res D := dfn 4 12 ir_law_likings
theorem p_law_likings {f : Addr} {cdv : Value} {A : Around} {outer : List Env} {s : Shared} {H : Hp} {E : XK} {M : Fm} (x1 : Fx P w K mg base M.G) (hW : NoSt M) (C : Cxx (cxd P w K mg base ["script", "at", "people", "outcomes", "rows", "who", "drawn", "row", "index", "part", "liking", "point"] "_law_likings" (defScope st_law_likings) f cdv A outer s H E) M 1) : PSs (cxd P w K mg base ["script", "at", "people", "outcomes", "rows", "who", "drawn", "row", "index", "part", "liking", "point"] "_law_likings" (defScope st_law_likings) f cdv A outer s H E) (defBody st_law_likings) (tS M ir_law_likings) :=
  m_seq (m_own C 4 (m_lst (m_anil)))
  (m_seq (m_for C (m_ir1 C x1.b_range (m_view 2)) (m_gname C.nd 5) (m_seq (m_asg C 6 (m_call C (r_law_row x1) (by decide) (m_acons (m_var 0) (m_acons (m_add (m_view 1) (m_view 5) C.hK) (m_acons (m_add (m_v (m_mul (m_v (m_int)) (m_view 3))) (m_v (m_int)) C.hK) (m_acons (m_int) (m_anil)))))))
  (m_seq (m_own C 7 (m_lst (m_anil)))
  (m_seq (m_for C (m_ir1 C x1.b_range (m_v (m_add (m_v (m_int)) (m_v (m_mod (m_v (m_toint C x1.b_int (m_v (m_ix (m_view 6) (m_v (m_mul (m_v (m_int)) (m_view 3))) (by exact fun _ _ => rfl) C.hK)))) (m_v (m_int)))) C.hK))) (m_gname C.nd 8) (m_seq (m_asg C 9 (m_slice C (m_view 6) (m_psome (m_v (m_mul (m_view 8) (m_view 3)))) (m_psome (m_v (m_add (m_v (m_mul (m_view 8) (m_view 3))) (m_view 3) C.hK)))))
  (m_seq (m_asg C 10 (m_call C (r_law_dense x1) (by decide) (m_acons (m_o (m_lc C [("point", 11)] (m_iseq C.hK (m_var 9)) (by rfl) (fun _ _ _ _ _ C => m_gname C.nd 11) (fun _ _ _ _ _ C => m_tnil) (fun _ _ _ _ _ C => m_mod (m_v (m_toint C x1.b_int (m_view 11))) (m_view 3)))) (m_anil))))
  (m_last (m_if (t_cmp (k_notIn C.hu C.hK) (m_view 10) (m_view 7)) (m_last (m_app (pos' := ⟨0, 0, 0, 0⟩) C 7 (m_var 10))) (m_nil))))))
  (m_last (m_app (pos' := ⟨0, 0, 0, 0⟩) C 4 (m_tuple C.hK x1.b_tuple (m_view 7))))))))
  (m_last (m_ret (m_tuple C.hK x1.b_tuple (m_view 4)))))
theorem r_law_likings (x1 : Fx P w K mg base G) : FnR P w K mg base G 2 "_law_likings" phi_law_likings := by
  obtain ⟨f, fd, hm, F⟩ := x1.d_law_likings
  exact ⟨f, fd, ["script", "at", "people", "outcomes"], hm, F.kp, F.bindsN fun _ _ _ _ _ _ us hl => match us, hl with | [_, _, _, _], _ => rfl, ok_def F sc_law_likings rfl rfl rfl (by decide) x1.hK fun cdv A outer s H E M hM hW C => p_law_likings (hM.symm ▸ x1) hW C⟩
-- law_domain_worlds
def lb1_law_domain_worlds : SF := sApp 1 (eU dTuple (eO (oLc [4] (itR1 (eU dLen (eView 0))) (gaName 4) (tfTrue) (eBin dIx (eBin dIx (eView 0) (eView 4)) (eBin dIx (eView 2) (eView 4))))))
theorem sc_law_domain_worlds : FnScope ["likings", "worlds", "row", "one", "who"] ["likings"] (defScope st_law_domain_worlds) := ⟨rfl, rfl, rfl, by decide +kernel, rfl, by decide +kernel, by decide +kernel⟩
def ir_law_domain_worlds : SF := sSeq (sOwn 1 (oLst (aNil)))
  (sSeq (sFor (gaName 2) (itSeq (eCall phi_law_plays (aCons (eO (oLc [3] (itSeq (eVar 0)) (gaName 3) (tfTrue) (eU dLen (eView 3)))) (aNil)))) (lb1_law_domain_worlds))
  (sFrz 1 (sRet (eVar 1))))
def phi_law_domain_worlds : List D → Res D := dfn 1 5 ir_law_domain_worlds
theorem p_law_domain_worlds {f : Addr} {cdv : Value} {A : Around} {outer : List Env} {s : Shared} {H : Hp} {E : XK} {M : Fm} (x1 : Fx P w K mg base M.G) (hW : NoSt M) (C : Cxx (cxd P w K mg base ["likings", "worlds", "row", "one", "who"] "_law_domain_worlds" (defScope st_law_domain_worlds) f cdv A outer s H E) M 1) : PSs (cxd P w K mg base ["likings", "worlds", "row", "one", "who"] "_law_domain_worlds" (defScope st_law_domain_worlds) f cdv A outer s H E) (defBody st_law_domain_worlds) (tS M ir_law_domain_worlds) :=
  m_seq (m_own C 1 (m_lst (m_anil)))
  (m_seq (m_for C (m_iseq C.hK (m_call C (r_law_plays x1) (by decide) (m_acons (m_o (m_lc C [("one", 3)] (m_iseq C.hK (m_var 0)) (by rfl) (fun _ _ _ _ _ C => m_gname C.nd 3) (fun _ _ _ _ _ C => m_tnil) (fun _ _ _ _ _ C => m_len C.hK x1.b_len (m_view 3)))) (m_anil)))) (m_gname C.nd 2) (m_last (m_app (pos' := ⟨0, 0, 0, 0⟩) C 1 (m_tuple C.hK x1.b_tuple (m_v (m_o (m_lc C [("who", 4)] (m_ir1 C x1.b_range (m_v (m_len C.hK x1.b_len (m_view 0)))) (by rfl) (fun _ _ _ _ _ C => m_gname C.nd 4) (fun _ _ _ _ _ C => m_tnil) (fun _ _ _ _ _ C => m_ix (m_v (m_ix (m_view 0) (m_view 4) (by exact fun _ _ => rfl) C.hK)) (m_v (m_ix (m_view 2) (m_view 4) (by exact fun _ _ => rfl) C.hK)) (by exact fun _ _ => rfl) C.hK))))))))
  (m_last (m_frz 1 (m_ret (m_var 1)))))
theorem r_law_domain_worlds (x1 : Fx P w K mg base G) : FnR P w K mg base G 2 "_law_domain_worlds" phi_law_domain_worlds := by
  obtain ⟨f, fd, hm, F⟩ := x1.d_law_domain_worlds
  exact ⟨f, fd, ["likings"], hm, F.kp, F.bindsN fun _ _ _ _ _ _ us hl => match us, hl with | [_], _ => rfl, ok_def F sc_law_domain_worlds rfl rfl rfl (by decide) x1.hK fun cdv A outer s H E M hM hW C => p_law_domain_worlds (hM.symm ▸ x1) hW C⟩
-- law_serial
def lb1_law_serial : SF := sSeq (sFrz 5 (sAsg 7 (eU dMax (eO (oLc [8] (itSeq (eVar 5)) (gaName 8) (tfTrue) (eBin dIx (eBin dIx (eView 4) (eView 6)) (eView 8)))))))
  (sFrz 5 (sOwn 5 (oLc [8] (itSeq (eVar 5)) (gaName 8) (tfE (eBin dEq (eBin dIx (eBin dIx (eView 4) (eView 6)) (eView 8)) (eView 7))) (eVar 8))))
def lb2_law_serial : SF := sSeq (sOwn 5 (oU dList (eView 1)))
  (sSeq (sFor (gaName 6) (itSeq (eVar 2)) (lb1_law_serial))
  (sApp 3 (eBin dIx (eView 5) (eC (.int 0)))))
theorem sc_law_serial : FnScope ["worlds", "members", "order", "choice", "world", "best", "who", "high", "one"] ["worlds", "members", "order"] (defScope st_law_serial) := ⟨rfl, rfl, rfl, by decide +kernel, rfl, by decide +kernel, by decide +kernel⟩
def ir_law_serial : SF := sSeq (sOwn 3 (oLst (aNil)))
  (sSeq (sFor (gaName 4) (itSeq (eVar 0)) (lb2_law_serial))
  (sFrz 3 (sRet (eVar 3))))
def phi_law_serial : List D → Res D := dfn 3 9 ir_law_serial
theorem p_law_serial {f : Addr} {cdv : Value} {A : Around} {outer : List Env} {s : Shared} {H : Hp} {E : XK} {M : Fm} (x1 : Fx P w K mg base M.G) (hW : NoSt M) (C : Cxx (cxd P w K mg base ["worlds", "members", "order", "choice", "world", "best", "who", "high", "one"] "_law_serial" (defScope st_law_serial) f cdv A outer s H E) M 0) : PSs (cxd P w K mg base ["worlds", "members", "order", "choice", "world", "best", "who", "high", "one"] "_law_serial" (defScope st_law_serial) f cdv A outer s H E) (defBody st_law_serial) (tS M ir_law_serial) :=
  m_seq (m_own C 3 (m_lst (m_anil)))
  (m_seq (m_for C (m_iseq C.hK (m_var 0)) (m_gname C.nd 4) (m_seq (m_own C 5 (m_list C.hK x1.b_list (m_view 1)))
  (m_seq (m_for C (m_iseq C.hK (m_var 2)) (m_gname C.nd 6) (m_seq (m_frz 5 (m_asg C 7 (m_max C x1.b_max (m_v (m_o (m_lc C [("one", 8)] (m_iseq C.hK (m_var 5)) (by rfl) (fun _ _ _ _ _ C => m_gname C.nd 8) (fun _ _ _ _ _ C => m_tnil) (fun _ _ _ _ _ C => m_ix (m_v (m_ix (m_view 4) (m_view 6) (by exact fun _ _ => rfl) C.hK)) (m_view 8) (by exact fun _ _ => rfl) C.hK)))))))
  (m_last (m_frz 5 (m_setLc C 5 [("one", 8)] (m_iseq C.hK (m_var 5)) (by rfl) (fun _ _ _ _ _ C => m_gname C.nd 8) (fun _ _ _ _ _ C => m_tone (t_cmp (k_eq C.hu C.hK) (m_v (m_ix (m_v (m_ix (m_view 4) (m_view 6) (by exact fun _ _ => rfl) C.hK)) (m_view 8) (by exact fun _ _ => rfl) C.hK)) (m_view 7))) (fun _ _ _ _ _ C => m_var 8))))))
  (m_last (m_app (pos' := ⟨0, 0, 0, 0⟩) C 3 (m_ix (m_view 5) (m_v (m_int)) (by exact fun _ _ => rfl) C.hK))))))
  (m_last (m_frz 3 (m_ret (m_var 3)))))
theorem r_law_serial (x1 : Fx P w K mg base G) : FnR P w K mg base G 1 "_law_serial" phi_law_serial := by
  obtain ⟨f, fd, hm, F⟩ := x1.d_law_serial
  exact ⟨f, fd, ["worlds", "members", "order"], hm, F.kp, F.bindsN fun _ _ _ _ _ _ us hl => match us, hl with | [_, _, _], _ => rfl, ok_def F sc_law_serial rfl rfl rfl (by decide) x1.hK fun cdv A outer s H E M hM hW C => p_law_serial (hM.symm ▸ x1) hW C⟩
-- law_gain
def lb1_law_gain : SF := sSeq (sFrz 3 (sAsg 9 (eCall phi_law_number (aCons (eVar 3) (aCons (eBin dAdd (eBin dAdd (eSlice (eBin dIx (eView 4) (eView 5)) (nNone) (nSome (eView 6))) (eTup (aCons (eVar 8) (aNil)))) (eSlice (eBin dIx (eView 4) (eView 5)) (nSome (eBin dAdd (eView 6) (eC (.int 1)))) (nNone))) (aNil))))))
  (sIf (tfE (eBin dGt (eBin dIx (eView 7) (eBin dIx (eView 2) (eView 9))) (eBin dIx (eView 7) (eBin dIx (eView 2) (eView 5))))) (sRet (eTup (aCons (eVar 5) (aCons (eVar 6) (aCons (eVar 8) (aNil)))))) (sNil))
def lb2_law_gain : SF := sSeq (sAsg 7 (eBin dIx (eBin dIx (eView 1) (eView 5)) (eView 6)))
  (sFor (gaName 8) (itR1 (eBin dIx (eView 3) (eView 6))) (lb1_law_gain))
def lb3_law_gain : SF := sFor (gaName 6) (itR1 (eU dLen (eView 3))) (lb2_law_gain)
theorem sc_law_gain : FnScope ["likings", "worlds", "choice", "sizes", "rows", "number", "who", "liking", "said", "second", "one"] ["likings", "worlds", "choice"] (defScope st_law_gain) := ⟨rfl, rfl, rfl, by decide +kernel, rfl, by decide +kernel, by decide +kernel⟩
def ir_law_gain : SF := sSeq (sOwn 3 (oLc [10] (itSeq (eVar 0)) (gaName 10) (tfTrue) (eU dLen (eView 10))))
  (sSeq (sFrz 3 (sAsg 4 (eCall phi_law_plays (aCons (eVar 3) (aNil)))))
  (sSeq (sFor (gaName 5) (itR1 (eU dLen (eView 4))) (lb3_law_gain))
  (sRet (eC .non))))
def phi_law_gain : List D → Res D := dfn 3 11 ir_law_gain
theorem p_law_gain {f : Addr} {cdv : Value} {A : Around} {outer : List Env} {s : Shared} {H : Hp} {E : XK} {M : Fm} (x1 : Fx P w K mg base M.G) (hW : NoSt M) (C : Cxx (cxd P w K mg base ["likings", "worlds", "choice", "sizes", "rows", "number", "who", "liking", "said", "second", "one"] "_law_gain" (defScope st_law_gain) f cdv A outer s H E) M 1) : PSs (cxd P w K mg base ["likings", "worlds", "choice", "sizes", "rows", "number", "who", "liking", "said", "second", "one"] "_law_gain" (defScope st_law_gain) f cdv A outer s H E) (defBody st_law_gain) (tS M ir_law_gain) :=
  m_seq (m_setLc C 3 [("one", 10)] (m_iseq C.hK (m_var 0)) (by rfl) (fun _ _ _ _ _ C => m_gname C.nd 10) (fun _ _ _ _ _ C => m_tnil) (fun _ _ _ _ _ C => m_len C.hK x1.b_len (m_view 10)))
  (m_seq (m_frz 3 (m_asg C 4 (m_call C (r_law_plays x1) (by decide) (m_acons (m_var 3) (m_anil)))))
  (m_seq (m_for C (m_ir1 C x1.b_range (m_v (m_len C.hK x1.b_len (m_view 4)))) (m_gname C.nd 5) (m_last (m_for C (m_ir1 C x1.b_range (m_v (m_len C.hK x1.b_len (m_view 3)))) (m_gname C.nd 6) (m_seq (m_asg C 7 (m_ix (m_v (m_ix (m_view 1) (m_view 5) (by exact fun _ _ => rfl) C.hK)) (m_view 6) (by exact fun _ _ => rfl) C.hK))
  (m_last (m_for C (m_ir1 C x1.b_range (m_v (m_ix (m_view 3) (m_view 6) (by exact fun _ _ => rfl) C.hK))) (m_gname C.nd 8) (m_seq (m_frz 3 (m_asg C 9 (m_call C (r_law_number x1) (by decide) (m_acons (m_var 3) (m_acons (m_add (m_v (m_add (m_v (m_slice C (m_v (m_ix (m_view 4) (m_view 5) (by exact fun _ _ => rfl) C.hK)) (m_pnone) (m_psome (m_view 6)))) (m_v (m_tup (m_acons (m_var 8) (m_anil)))) C.hK)) (m_v (m_slice C (m_v (m_ix (m_view 4) (m_view 5) (by exact fun _ _ => rfl) C.hK)) (m_psome (m_v (m_add (m_view 6) (m_v (m_int)) C.hK))) (m_pnone))) C.hK) (m_anil))))))
  (m_last (m_if (t_cmp k_gt (m_v (m_ix (m_view 7) (m_v (m_ix (m_view 2) (m_view 9) (by exact fun _ _ => rfl) C.hK)) (by exact fun _ _ => rfl) C.hK)) (m_v (m_ix (m_view 7) (m_v (m_ix (m_view 2) (m_view 5) (by exact fun _ _ => rfl) C.hK)) (by exact fun _ _ => rfl) C.hK))) (m_last (m_ret (m_tup (m_acons (m_var 5) (m_acons (m_var 6) (m_acons (m_var 8) (m_anil))))))) (m_nil))))))))))
  (m_last (m_ret (m_non)))))
theorem r_law_gain (x1 : Fx P w K mg base G) : FnR P w K mg base G 2 "_law_gain" phi_law_gain := by
  obtain ⟨f, fd, hm, F⟩ := x1.d_law_gain
  exact ⟨f, fd, ["likings", "worlds", "choice"], hm, F.kp, F.bindsN fun _ _ _ _ _ _ us hl => match us, hl with | [_, _, _], _ => rfl, ok_def F sc_law_gain rfl rfl rfl (by decide) x1.hK fun cdv A outer s H E M hM hW C => p_law_gain (hM.symm ▸ x1) hW C⟩
-- law_best
def lb1_law_best : SF := sSeq (sAsg 8 (eBin dAdd (eBin dAdd (eSlice (eView 7) (nNone) (nSome (eView 2))) (eTup (aCons (eVar 5) (aNil)))) (eSlice (eView 7) (nSome (eBin dAdd (eView 2) (eC (.int 1)))) (nNone))))
  (sIf (tfE (eBin dGt (eBin dIx (eView 3) (eBin dIx (eView 1) (eCall phi_law_number (aCons (eVar 0) (aCons (eVar 7) (aNil)))))) (eBin dIx (eView 3) (eBin dIx (eView 1) (eCall phi_law_number (aCons (eVar 0) (aCons (eVar 8) (aNil)))))))) (sAug 6 dAddI (eC (.int 1))) (sNil))
def lb2_law_best : SF := sSeq (sAsg 6 (eC (.int 0)))
  (sSeq (sFor (gaName 7) (itSeq (eCall phi_law_plays (aCons (eVar 0) (aNil)))) (lb1_law_best))
  (sIf (tfE (eBin dEq (eView 6) (eC (.int 0)))) (sApp 4 (eVar 5)) (sNil)))
theorem sc_law_best : FnScope ["sizes", "table", "who", "liking", "best", "word", "worse", "play", "said"] ["sizes", "table", "who", "liking"] (defScope st_law_best) := ⟨rfl, rfl, rfl, by decide +kernel, rfl, by decide +kernel, by decide +kernel⟩
def ir_law_best : SF := sSeq (sOwn 4 (oLst (aNil)))
  (sSeq (sFor (gaName 5) (itR1 (eBin dIx (eView 0) (eView 2))) (lb2_law_best))
  (sFrz 4 (sRet (eVar 4))))
def phi_law_best : List D → Res D := dfn 4 9 ir_law_best
theorem p_law_best {f : Addr} {cdv : Value} {A : Around} {outer : List Env} {s : Shared} {H : Hp} {E : XK} {M : Fm} (x1 : Fx P w K mg base M.G) (hW : NoSt M) (C : Cxx (cxd P w K mg base ["sizes", "table", "who", "liking", "best", "word", "worse", "play", "said"] "_law_best" (defScope st_law_best) f cdv A outer s H E) M 1) : PSs (cxd P w K mg base ["sizes", "table", "who", "liking", "best", "word", "worse", "play", "said"] "_law_best" (defScope st_law_best) f cdv A outer s H E) (defBody st_law_best) (tS M ir_law_best) :=
  m_seq (m_own C 4 (m_lst (m_anil)))
  (m_seq (m_for C (m_ir1 C x1.b_range (m_v (m_ix (m_view 0) (m_view 2) (by exact fun _ _ => rfl) C.hK))) (m_gname C.nd 5) (m_seq (m_asg C 6 (m_int))
  (m_seq (m_for C (m_iseq C.hK (m_call C (r_law_plays x1) (by decide) (m_acons (m_var 0) (m_anil)))) (m_gname C.nd 7) (m_seq (m_asg C 8 (m_add (m_v (m_add (m_v (m_slice C (m_view 7) (m_pnone) (m_psome (m_view 2)))) (m_v (m_tup (m_acons (m_var 5) (m_anil)))) C.hK)) (m_v (m_slice C (m_view 7) (m_psome (m_v (m_add (m_view 2) (m_v (m_int)) C.hK))) (m_pnone))) C.hK))
  (m_last (m_if (t_cmp k_gt (m_v (m_ix (m_view 3) (m_v (m_ix (m_view 1) (m_v (m_call C (r_law_number x1) (by decide) (m_acons (m_var 0) (m_acons (m_var 7) (m_anil))))) (by exact fun _ _ => rfl) C.hK)) (by exact fun _ _ => rfl) C.hK)) (m_v (m_ix (m_view 3) (m_v (m_ix (m_view 1) (m_v (m_call C (r_law_number x1) (by decide) (m_acons (m_var 0) (m_acons (m_var 8) (m_anil))))) (by exact fun _ _ => rfl) C.hK)) (by exact fun _ _ => rfl) C.hK))) (m_last (m_iadd C 6 (m_v (m_int)))) (m_nil)))))
  (m_last (m_if (t_cmp (k_eq C.hu C.hK) (m_view 6) (m_v (m_int))) (m_last (m_app (pos' := ⟨0, 0, 0, 0⟩) C 4 (m_var 5))) (m_nil))))))
  (m_last (m_frz 4 (m_ret (m_var 4)))))
theorem r_law_best (x1 : Fx P w K mg base G) : FnR P w K mg base G 2 "_law_best" phi_law_best := by
  obtain ⟨f, fd, hm, F⟩ := x1.d_law_best
  exact ⟨f, fd, ["sizes", "table", "who", "liking"], hm, F.kp, F.bindsN fun _ _ _ _ _ _ us hl => match us, hl with | [_, _, _, _], _ => rfl, ok_def F sc_law_best rfl rfl rfl (by decide) x1.hK fun cdv A outer s H E M hM hW C => p_law_best (hM.symm ▸ x1) hW C⟩
-- law_many_likings
def lb1_law_many_likings : SF := sSeq (sAsg 9 (eSlice (eView 6) (nSome (eBin dMul (eView 8) (eView 3))) (nSome (eBin dAdd (eBin dMul (eView 8) (eView 3)) (eView 3)))))
  (sSeq (sAsg 10 (eCall phi_law_dense (aCons (eO (oLc [11] (itSeq (eVar 9)) (gaName 11) (tfTrue) (eBin dMod (eU dInt (eView 11)) (eView 3)))) (aNil))))
  (sIf (tfE (eBin dNotIn (eView 10) (eView 7))) (sApp 7 (eVar 10)) (sNil)))
def lb2_law_many_likings : SF := sSeq (sAsg 6 (eCall phi_law_row (aCons (eVar 0) (aCons (eBin dAdd (eView 1) (eView 5)) (aCons (eBin dMul (eBin dIx (eView 2) (eView 5)) (eView 3)) (aCons (eC (.int 5040)) (aNil)))))))
  (sSeq (sOwn 7 (oLst (aNil)))
  (sSeq (sFor (gaName 8) (itR1 (eBin dIx (eView 2) (eView 5))) (lb1_law_many_likings))
  (sApp 4 (eU dTuple (eView 7)))))
theorem sc_law_many_likings : FnScope ["script", "at", "shape", "outcomes", "rows", "who", "drawn", "row", "index", "part", "liking", "point"] ["script", "at", "shape", "outcomes"] (defScope st_law_many_likings) := ⟨rfl, rfl, rfl, by decide +kernel, rfl, by decide +kernel, by decide +kernel⟩
def ir_law_many_likings : SF := sSeq (sOwn 4 (oLst (aNil)))
  (sSeq (sFor (gaName 5) (itR1 (eU dLen (eView 2))) (lb2_law_many_likings))
  (sRet (eU dTuple (eView 4))))
def phi_law_many_likings : List D → Res D := dfn 4 12 ir_law_many_likings
theorem p_law_many_likings {f : Addr} {cdv : Value} {A : Around} {outer : List Env} {s : Shared} {H : Hp} {E : XK} {M : Fm} (x1 : Fx P w K mg base M.G) (hW : NoSt M) (C : Cxx (cxd P w K mg base ["script", "at", "shape", "outcomes", "rows", "who", "drawn", "row", "index", "part", "liking", "point"] "_law_many_likings" (defScope st_law_many_likings) f cdv A outer s H E) M 1) : PSs (cxd P w K mg base ["script", "at", "shape", "outcomes", "rows", "who", "drawn", "row", "index", "part", "liking", "point"] "_law_many_likings" (defScope st_law_many_likings) f cdv A outer s H E) (defBody st_law_many_likings) (tS M ir_law_many_likings) :=
  m_seq (m_own C 4 (m_lst (m_anil)))
  (m_seq (m_for C (m_ir1 C x1.b_range (m_v (m_len C.hK x1.b_len (m_view 2)))) (m_gname C.nd 5) (m_seq (m_asg C 6 (m_call C (r_law_row x1) (by decide) (m_acons (m_var 0) (m_acons (m_add (m_view 1) (m_view 5) C.hK) (m_acons (m_mul (m_v (m_ix (m_view 2) (m_view 5) (by exact fun _ _ => rfl) C.hK)) (m_view 3)) (m_acons (m_int) (m_anil)))))))
  (m_seq (m_own C 7 (m_lst (m_anil)))
  (m_seq (m_for C (m_ir1 C x1.b_range (m_v (m_ix (m_view 2) (m_view 5) (by exact fun _ _ => rfl) C.hK))) (m_gname C.nd 8) (m_seq (m_asg C 9 (m_slice C (m_view 6) (m_psome (m_v (m_mul (m_view 8) (m_view 3)))) (m_psome (m_v (m_add (m_v (m_mul (m_view 8) (m_view 3))) (m_view 3) C.hK)))))
  (m_seq (m_asg C 10 (m_call C (r_law_dense x1) (by decide) (m_acons (m_o (m_lc C [("point", 11)] (m_iseq C.hK (m_var 9)) (by rfl) (fun _ _ _ _ _ C => m_gname C.nd 11) (fun _ _ _ _ _ C => m_tnil) (fun _ _ _ _ _ C => m_mod (m_v (m_toint C x1.b_int (m_view 11))) (m_view 3)))) (m_anil))))
  (m_last (m_if (t_cmp (k_notIn C.hu C.hK) (m_view 10) (m_view 7)) (m_last (m_app (pos' := ⟨0, 0, 0, 0⟩) C 7 (m_var 10))) (m_nil))))))
  (m_last (m_app (pos' := ⟨0, 0, 0, 0⟩) C 4 (m_tuple C.hK x1.b_tuple (m_view 7))))))))
  (m_last (m_ret (m_tuple C.hK x1.b_tuple (m_view 4)))))
theorem r_law_many_likings (x1 : Fx P w K mg base G) : FnR P w K mg base G 2 "_law_many_likings" phi_law_many_likings := by
  obtain ⟨f, fd, hm, F⟩ := x1.d_law_many_likings
  exact ⟨f, fd, ["script", "at", "shape", "outcomes"], hm, F.kp, F.bindsN fun _ _ _ _ _ _ us hl => match us, hl with | [_, _, _, _], _ => rfl, ok_def F sc_law_many_likings rfl rfl rfl (by decide) x1.hK fun cdv A outer s H E M hM hW C => p_law_many_likings (hM.symm ▸ x1) hW C⟩
-- law_given
def lb1_law_given : SF := sSeq (sAsg 6 (eU dTuple (eO (oLc [8] (itR1 (eU dLen (eView 5))) (gaName 8) (tfTrue) (eBin dIx (eBin dIx (eView 3) (eView 8)) (eBin dIx (eView 5) (eView 8)))))))
  (sApp 4 (eBin dIx (eView 1) (eCall phi_law_number (aCons (eVar 0) (aCons (eVar 6) (aNil))))))
theorem sc_law_given : FnScope ["sizes", "table", "likings", "picks", "choice", "row", "play", "one", "who"] ["sizes", "table", "likings", "picks"] (defScope st_law_given) := ⟨rfl, rfl, rfl, by decide +kernel, rfl, by decide +kernel, by decide +kernel⟩
def ir_law_given : SF := sSeq (sOwn 4 (oLst (aNil)))
  (sSeq (sFor (gaName 5) (itSeq (eCall phi_law_plays (aCons (eO (oLc [7] (itSeq (eVar 2)) (gaName 7) (tfTrue) (eU dLen (eView 7)))) (aNil)))) (lb1_law_given))
  (sFrz 4 (sRet (eVar 4))))
def phi_law_given : List D → Res D := dfn 4 9 ir_law_given
theorem p_law_given {f : Addr} {cdv : Value} {A : Around} {outer : List Env} {s : Shared} {H : Hp} {E : XK} {M : Fm} (x1 : Fx P w K mg base M.G) (hW : NoSt M) (C : Cxx (cxd P w K mg base ["sizes", "table", "likings", "picks", "choice", "row", "play", "one", "who"] "_law_given" (defScope st_law_given) f cdv A outer s H E) M 1) : PSs (cxd P w K mg base ["sizes", "table", "likings", "picks", "choice", "row", "play", "one", "who"] "_law_given" (defScope st_law_given) f cdv A outer s H E) (defBody st_law_given) (tS M ir_law_given) :=
  m_seq (m_own C 4 (m_lst (m_anil)))
  (m_seq (m_for C (m_iseq C.hK (m_call C (r_law_plays x1) (by decide) (m_acons (m_o (m_lc C [("one", 7)] (m_iseq C.hK (m_var 2)) (by rfl) (fun _ _ _ _ _ C => m_gname C.nd 7) (fun _ _ _ _ _ C => m_tnil) (fun _ _ _ _ _ C => m_len C.hK x1.b_len (m_view 7)))) (m_anil)))) (m_gname C.nd 5) (m_seq (m_asg C 6 (m_tuple C.hK x1.b_tuple (m_v (m_o (m_lc C [("who", 8)] (m_ir1 C x1.b_range (m_v (m_len C.hK x1.b_len (m_view 5)))) (by rfl) (fun _ _ _ _ _ C => m_gname C.nd 8) (fun _ _ _ _ _ C => m_tnil) (fun _ _ _ _ _ C => m_ix (m_v (m_ix (m_view 3) (m_view 8) (by exact fun _ _ => rfl) C.hK)) (m_v (m_ix (m_view 5) (m_view 8) (by exact fun _ _ => rfl) C.hK)) (by exact fun _ _ => rfl) C.hK))))))
  (m_last (m_app (pos' := ⟨0, 0, 0, 0⟩) C 4 (m_ix (m_view 1) (m_v (m_call C (r_law_number x1) (by decide) (m_acons (m_var 0) (m_acons (m_var 6) (m_anil))))) (by exact fun _ _ => rfl) C.hK)))))
  (m_last (m_frz 4 (m_ret (m_var 4)))))
theorem r_law_given (x1 : Fx P w K mg base G) : FnR P w K mg base G 2 "_law_given" phi_law_given := by
  obtain ⟨f, fd, hm, F⟩ := x1.d_law_given
  exact ⟨f, fd, ["sizes", "table", "likings", "picks"], hm, F.kp, F.bindsN fun _ _ _ _ _ _ us hl => match us, hl with | [_, _, _, _], _ => rfl, ok_def F sc_law_given rfl rfl rfl (by decide) x1.hK fun cdv A outer s H E M hM hW C => p_law_given (hM.symm ▸ x1) hW C⟩
-- law_refused
theorem sc_law_refused : FnScope ["domain", "choice", "number", "e"] ["domain", "choice", "number"] (defScope st_law_refused) := ⟨rfl, rfl, rfl, by decide +kernel, rfl, by decide +kernel, by decide +kernel⟩
def ir_law_refused : SF := sSeq (sTry [6] (fun _ => true) (fun _ => true) 3 (sExp (eCall phi_first_gain (aCons (eVar 0) (aCons (eVar 1) (aNil))))) (fun _ => sRet (eAnd (eIsE 3 6 (fun _ => true) true) (eAnd (eIsE 3 6 (fun _ => true) true) (eCall phiA_law_same (aCons (eExF 3 6) (aCons (eVar 2) (aNil))))))))
  (sRet (eC (.bl false)))
def phi_law_refused : List D → Res D := dfn 3 4 ir_law_refused
theorem p_law_refused {f : Addr} {cdv : Value} {A : Around} {outer : List Env} {s : Shared} {H : Hp} {E : XK} {M : Fm} (x1 : Fx P w K mg base M.G) (hW : NoSt M) (C : Cxx (cxd P w K mg base ["domain", "choice", "number", "e"] "_law_refused" (defScope st_law_refused) f cdv A outer s H E) M 4) : PSs (cxd P w K mg base ["domain", "choice", "number", "e"] "_law_refused" (defScope st_law_refused) f cdv A outer s H E) (defBody st_law_refused) (tS M ir_law_refused) :=
  m_seq (m_try C [6] (fun _ => true) (fun _ => true) 3 rfl rfl ⟨rfl, by decide, .inl x1.g_Fault⟩ (fun c hc => by have e : c = 6 := (by simpa using hc); subst e; exact x1.em_BadChoice_Fault) (fun W pn xe C => m_last (m_expr (m_call C (r_first_gain x1) (by decide) (m_acons (m_var 0) (m_acons (m_var 1) (m_anil)))))) (fun a oe d pn c hc hp hz hf C => by have e : c = 6 := (by simpa using hc); subst e; exact m_last (m_ret (m_and (m_isXC 3 (fun _ => true) x1.ei_BadChoice hz hf hp x1.ki_BadChoice_BadChoice x1.b_isinstance x1.g_BadChoice) (m_and (m_isXB 3 (fun _ => true) x1.ei_BadChoice hz hf hp x1.ki_BadChoice_ValueError x1.b_isinstance x1.b_ValueError (by decide +kernel)) (m_one (m_callA C (rA_law_same x1) (by decide) (m_acons (m_exF 3 x1.xf_BadChoice x1.nf_BadChoice x1.ef_BadChoice hz hf) (m_acons (m_var 2) (m_anil))))))))))
  (m_last (m_ret (m_bl)))
theorem r_law_refused (x1 : Fx P w K mg base G) : FnR P w K mg base G 5 "_law_refused" phi_law_refused := by
  obtain ⟨f, fd, hm, F⟩ := x1.d_law_refused
  exact ⟨f, fd, ["domain", "choice", "number"], hm, F.kp, F.bindsN fun _ _ _ _ _ _ us hl => match us, hl with | [_, _, _], _ => rfl, ok_def F sc_law_refused rfl rfl rfl (by decide) x1.hK fun cdv A outer s H E M hM hW C => p_law_refused (hM.symm ▸ x1) hW C⟩
-- law_wrong
theorem sc_law_wrong : FnScope ["domain", "choice", "at", "outcomes", "strange"] ["domain", "choice", "at", "outcomes"] (defScope st_law_wrong) := ⟨rfl, rfl, rfl, by decide +kernel, rfl, by decide +kernel, by decide +kernel⟩
def ir_law_wrong : SF := sSeq (sIf (tfOr (tfNot (tfE (eCall phi_law_refused (aCons (eVar 0) (aCons (eSlice (eView 1) (nNone) (nSome (eView 2))) (aCons (eVar 2) (aNil))))))) (tfNot (tfE (eCall phi_law_refused (aCons (eVar 0) (aCons (eBin dAdd (eView 1) (eO (oLst (aCons (eC (.int 0)) (aNil))))) (aCons (eU dLen (eView 1)) (aNil)))))))) (sRet (eC (.bl false))) (sNil))
  (sSeq (sAsg 4 (eBin dAdd (eBin dAdd (eSlice (eView 1) (nNone) (nSome (eView 2))) (eO (oLst (aCons (eVar 3) (aNil))))) (eSlice (eView 1) (nSome (eBin dAdd (eView 2) (eC (.int 1)))) (nNone))))
  (sRet (eCall phi_law_refused (aCons (eVar 0) (aCons (eVar 4) (aCons (eVar 2) (aNil)))))))
def phi_law_wrong : List D → Res D := dfn 4 5 ir_law_wrong
theorem p_law_wrong {f : Addr} {cdv : Value} {A : Around} {outer : List Env} {s : Shared} {H : Hp} {E : XK} {M : Fm} (x1 : Fx P w K mg base M.G) (hW : NoSt M) (C : Cxx (cxd P w K mg base ["domain", "choice", "at", "outcomes", "strange"] "_law_wrong" (defScope st_law_wrong) f cdv A outer s H E) M 5) : PSs (cxd P w K mg base ["domain", "choice", "at", "outcomes", "strange"] "_law_wrong" (defScope st_law_wrong) f cdv A outer s H E) (defBody st_law_wrong) (tS M ir_law_wrong) :=
  m_seq (m_if ((t_or (t_not (t_e (m_call C (r_law_refused x1) (by decide) (m_acons (m_var 0) (m_acons (m_slice C (m_view 1) (m_pnone) (m_psome (m_view 2))) (m_acons (m_var 2) (m_anil))))))) (t_or1 (t_not (t_e (m_call C (r_law_refused x1) (by decide) (m_acons (m_var 0) (m_acons (m_add (m_view 1) (m_v (m_o (m_lst (m_acons (m_int) (m_anil))))) C.hK) (m_acons (m_len C.hK x1.b_len (m_view 1)) (m_anil))))))))).pt) (m_last (m_ret (m_bl))) (m_nil))
  (m_seq (m_asg C 4 (m_add (m_v (m_add (m_v (m_slice C (m_view 1) (m_pnone) (m_psome (m_view 2)))) (m_v (m_o (m_lst (m_acons (m_var 3) (m_anil))))) C.hK)) (m_v (m_slice C (m_view 1) (m_psome (m_v (m_add (m_view 2) (m_v (m_int)) C.hK))) (m_pnone))) C.hK))
  (m_last (m_ret (m_call C (r_law_refused x1) (by decide) (m_acons (m_var 0) (m_acons (m_var 4) (m_acons (m_var 2) (m_anil))))))))
theorem r_law_wrong (x1 : Fx P w K mg base G) : FnR P w K mg base G 6 "_law_wrong" phi_law_wrong := by
  obtain ⟨f, fd, hm, F⟩ := x1.d_law_wrong
  exact ⟨f, fd, ["domain", "choice", "at", "outcomes"], hm, F.kp, F.bindsN fun _ _ _ _ _ _ us hl => match us, hl with | [_, _, _, _], _ => rfl, ok_def F sc_law_wrong rfl rfl rfl (by decide) x1.hK fun cdv A outer s H E M hM hW C => p_law_wrong (hM.symm ▸ x1) hW C⟩
-- law_asked
def lb1_law_asked : SF := sSeq (sAsg 17 (eCall phi_law_best (aCons (eVar 2) (aCons (eVar 3) (aCons (eVar 13) (aCons (eBin dIx (eBin dIx (eView 4) (eView 13)) (eView 16)) (aNil)))))))
  (sSeq (sFrz 8 (sFrz 17 (sIf (tfNot (tfE (eCall (phi_law_same 6) (aCons (eCall phi_best_messages (aCons (eVar 8) (aCons (eVar 13) (aCons (eBin dIx (eBin dIx (eView 4) (eView 13)) (eView 16)) (aNil))))) (aCons (eVar 17) (aNil)))))) (sRet (eC (.bl false))) (sNil))))
  (sSeq (sIf (tfE (eBin dEq (eU dLen (eView 17)) (eC (.int 0)))) (sSeq (sOwn 17 (oLst (aCons (eC (.int 0)) (aNil))))
  (sAug 12 dAddI (eC (.int 1)))) (sNil))
  (sApp 15 (eBin dIx (eView 17) (eBin dMod (eU dInt (eBin dIx (eView 14) (eBin dMul (eC (.int 2)) (eView 16)))) (eU dLen (eView 17)))))))
def lb2_law_asked : SF := sSeq (sAsg 14 (eCall phi_law_row (aCons (eVar 0) (aCons (eBin dAdd (eView 1) (eView 13)) (aCons (eBin dMul (eC (.int 2)) (eU dLen (eBin dIx (eView 4) (eView 13)))) (aCons (eC (.int 5040)) (aNil)))))))
  (sSeq (sOwn 15 (oLst (aNil)))
  (sSeq (sFor (gaName 16) (itR1 (eU dLen (eBin dIx (eView 4) (eView 13)))) (lb1_law_asked))
  (sSeq (sFrz 15 (sApp 10 (eVar 15)))
  (sApp 11 (eO (oLc [16] (itR1 (eU dLen (eBin dIx (eView 4) (eView 13)))) (gaName 16) (tfTrue) (eBin dMod (eU dInt (eBin dIx (eView 14) (eBin dAdd (eBin dMul (eC (.int 2)) (eView 16)) (eC (.int 1))))) (eBin dIx (eView 2) (eView 13)))))))))
theorem sc_law_asked : FnScope ["script", "at", "sizes", "table", "likings", "outcomes", "way", "domain", "game", "worlds", "best", "loose", "empty", "who", "drawn", "picked", "index", "found", "choice", "row", "liking"] ["script", "at", "sizes", "table", "likings", "outcomes", "way"] (defScope st_law_asked) := ⟨rfl, rfl, rfl, by decide +kernel, rfl, by decide +kernel, by decide +kernel⟩
def ir_law_asked : SF := sSeq (sIf (tfE (eBin dEq (eBin dMod (eU dInt (eView 6)) (eC (.int 3))) (eC (.int 0)))) (sSeq (sOwn 7 (oMake 8 phi_Domain_init (aCons (eVar 5) (aCons (eO (oLc [19] (itSeq (eVar 4)) (gaName 19) (tfTrue) (eO (oLc [20] (itSeq (eVar 19)) (gaName 20) (tfTrue) (eO (oU dList (eView 20))))))) (aNil)))))
  (sOwn 8 (oMake 7 phi_Game_init (aCons (eO (oU dList (eView 2))) (aCons (eVar 5) (aCons (eO (oU dList (eView 3))) (aNil))))))) (sSeq (sOwn 7 (oMake 8 phi_Domain_init (aCons (eVar 5) (aCons (eVar 4) (aNil)))))
  (sOwn 8 (oMake 7 phi_Game_init (aCons (eVar 2) (aCons (eVar 5) (aCons (eVar 3) (aNil))))))))
  (sSeq (sAsg 9 (eCall phi_law_domain_worlds (aCons (eVar 4) (aNil))))
  (sSeq (sOwn 10 (oLst (aNil)))
  (sSeq (sOwn 11 (oLst (aNil)))
  (sSeq (sAsg 12 (eC (.int 0)))
  (sSeq (sFor (gaName 13) (itR1 (eU dLen (eView 4))) (lb2_law_asked))
  (sSeq (sFrz 10 (sAsg 18 (eCall phi_law_given (aCons (eVar 2) (aCons (eVar 3) (aCons (eVar 4) (aCons (eVar 10) (aNil))))))))
  (sSeq (sFrz 7 (sIf (tfAnd (tfE (eBin dEq (eView 12) (eC (.int 0)))) (tfE (eBin dIsNot (eCall phi_first_gain (aCons (eVar 7) (aCons (eU dTuple (eView 18)) (aNil)))) (eC .non)))) (sRet (eC (.bl false))) (sNil)))
  (sSeq (sFrz 7 (sIf (tfAnd (tfE (eBin dGt (eView 12) (eC (.int 0)))) (tfNot (tfE (eCall (phi_law_same 6) (aCons (eCall phi_first_gain (aCons (eVar 7) (aCons (eU dTuple (eView 18)) (aNil)))) (aCons (eCall phi_law_gain (aCons (eVar 4) (aCons (eVar 9) (aCons (eVar 18) (aNil))))) (aNil))))))) (sRet (eC (.bl false))) (sNil)))
  (sSeq (sFrz 11 (sAsg 18 (eCall phi_law_given (aCons (eVar 2) (aCons (eVar 3) (aCons (eVar 4) (aCons (eVar 11) (aNil))))))))
  (sSeq (sFrz 7 (sIf (tfNot (tfE (eCall (phi_law_same 6) (aCons (eCall phi_first_gain (aCons (eVar 7) (aCons (eO (oU dList (eView 18))) (aNil)))) (aCons (eCall phi_law_gain (aCons (eVar 4) (aCons (eVar 9) (aCons (eVar 18) (aNil))))) (aNil)))))) (sRet (eC (.bl false))) (sNil)))
  (sFrz 7 (sRet (eCall phi_law_wrong (aCons (eVar 7) (aCons (eVar 18) (aCons (eBin dMod (eU dInt (eView 6)) (eU dLen (eView 18))) (aCons (eVar 5) (aNil))))))))))))))))))
def phi_law_asked : List D → Res D := dfn 7 21 ir_law_asked
theorem p_law_asked {f : Addr} {cdv : Value} {A : Around} {outer : List Env} {s : Shared} {H : Hp} {E : XK} {M : Fm} (x1 : Fx P w K mg base M.G) (hW : NoSt M) (C : Cxx (cxd P w K mg base ["script", "at", "sizes", "table", "likings", "outcomes", "way", "domain", "game", "worlds", "best", "loose", "empty", "who", "drawn", "picked", "index", "found", "choice", "row", "liking"] "_law_asked" (defScope st_law_asked) f cdv A outer s H E) M 7) : PSs (cxd P w K mg base ["script", "at", "sizes", "table", "likings", "outcomes", "way", "domain", "game", "worlds", "best", "loose", "empty", "who", "drawn", "picked", "index", "found", "choice", "row", "liking"] "_law_asked" (defScope st_law_asked) f cdv A outer s H E) (defBody st_law_asked) (tS M ir_law_asked) :=
  m_seq (m_if (t_cmp (k_eq C.hu C.hK) (m_v (m_mod (m_v (m_toint C x1.b_int (m_view 6))) (m_v (m_int)))) (m_v (m_int))) (m_seq (m_own C 7 (m_make C (r_Domain_init x1) (by decide) hW (m_acons (m_var 5) (m_acons (m_o (m_lc C [("row", 19)] (m_iseq C.hK (m_var 4)) (by rfl) (fun _ _ _ _ _ C => m_gname C.nd 19) (fun _ _ _ _ _ C => m_tnil) (fun _ _ _ _ _ C => m_o (m_lc C [("liking", 20)] (m_iseq C.hK (m_var 19)) (by rfl) (fun _ _ _ _ _ C => m_gname C.nd 20) (fun _ _ _ _ _ C => m_tnil) (fun _ _ _ _ _ C => m_o (m_list C.hK x1.b_list (m_view 20))))))) (m_anil)))))
  (m_last (m_own C 8 (m_make C (r_Game_init x1) (by decide) hW (m_acons (m_o (m_list C.hK x1.b_list (m_view 2))) (m_acons (m_var 5) (m_acons (m_o (m_list C.hK x1.b_list (m_view 3))) (m_anil)))))))) (m_seq (m_own C 7 (m_make C (r_Domain_init x1) (by decide) hW (m_acons (m_var 5) (m_acons (m_var 4) (m_anil)))))
  (m_last (m_own C 8 (m_make C (r_Game_init x1) (by decide) hW (m_acons (m_var 2) (m_acons (m_var 5) (m_acons (m_var 3) (m_anil)))))))))
  (m_seq (m_asg C 9 (m_call C (r_law_domain_worlds x1) (by decide) (m_acons (m_var 4) (m_anil))))
  (m_seq (m_own C 10 (m_lst (m_anil)))
  (m_seq (m_own C 11 (m_lst (m_anil)))
  (m_seq (m_asg C 12 (m_int))
  (m_seq (m_for C (m_ir1 C x1.b_range (m_v (m_len C.hK x1.b_len (m_view 4)))) (m_gname C.nd 13) (m_seq (m_asg C 14 (m_call C (r_law_row x1) (by decide) (m_acons (m_var 0) (m_acons (m_add (m_view 1) (m_view 13) C.hK) (m_acons (m_mul (m_v (m_int)) (m_v (m_len C.hK x1.b_len (m_v (m_ix (m_view 4) (m_view 13) (by exact fun _ _ => rfl) C.hK))))) (m_acons (m_int) (m_anil)))))))
  (m_seq (m_own C 15 (m_lst (m_anil)))
  (m_seq (m_for C (m_ir1 C x1.b_range (m_v (m_len C.hK x1.b_len (m_v (m_ix (m_view 4) (m_view 13) (by exact fun _ _ => rfl) C.hK))))) (m_gname C.nd 16) (m_seq (m_asg C 17 (m_call C (r_law_best x1) (by decide) (m_acons (m_var 2) (m_acons (m_var 3) (m_acons (m_var 13) (m_acons (m_ix (m_v (m_ix (m_view 4) (m_view 13) (by exact fun _ _ => rfl) C.hK)) (m_view 16) (by exact fun _ _ => rfl) C.hK) (m_anil)))))))
  (m_seq (m_frz 8 (m_frz 17 (m_if (t_not (t_e (m_call C (r_law_same x1 6) (by decide) (m_acons (m_call C (r_best_messages x1) (by decide) (m_acons (m_var 8) (m_acons (m_var 13) (m_acons (m_ix (m_v (m_ix (m_view 4) (m_view 13) (by exact fun _ _ => rfl) C.hK)) (m_view 16) (by exact fun _ _ => rfl) C.hK) (m_anil))))) (m_acons (m_var 17) (m_anil)))))) (m_last (m_ret (m_bl))) (m_nil))))
  (m_seq (m_if (t_cmp (k_eq C.hu C.hK) (m_v (m_len C.hK x1.b_len (m_view 17))) (m_v (m_int))) (m_seq (m_own C 17 (m_lst (m_acons (m_int) (m_anil))))
  (m_last (m_iadd C 12 (m_v (m_int))))) (m_nil))
  (m_last (m_app (pos' := ⟨0, 0, 0, 0⟩) C 15 (m_ix (m_view 17) (m_v (m_mod (m_v (m_toint C x1.b_int (m_v (m_ix (m_view 14) (m_v (m_mul (m_v (m_int)) (m_view 16))) (by exact fun _ _ => rfl) C.hK)))) (m_v (m_len C.hK x1.b_len (m_view 17))))) (by exact fun _ _ => rfl) C.hK)))))))
  (m_seq (m_frz 15 (m_app (pos' := ⟨0, 0, 0, 0⟩) C 10 (m_var 15)))
  (m_last (m_app (pos' := ⟨0, 0, 0, 0⟩) C 11 (m_o (m_lc C [("index", 16)] (m_ir1 C x1.b_range (m_v (m_len C.hK x1.b_len (m_v (m_ix (m_view 4) (m_view 13) (by exact fun _ _ => rfl) C.hK))))) (by rfl) (fun _ _ _ _ _ C => m_gname C.nd 16) (fun _ _ _ _ _ C => m_tnil) (fun _ _ _ _ _ C => m_mod (m_v (m_toint C x1.b_int (m_v (m_ix (m_view 14) (m_v (m_add (m_v (m_mul (m_v (m_int)) (m_view 16))) (m_v (m_int)) C.hK)) (by exact fun _ _ => rfl) C.hK)))) (m_v (m_ix (m_view 2) (m_view 13) (by exact fun _ _ => rfl) C.hK))))))))))))
  (m_seq (m_frz 10 (m_asg C 18 (m_call C (r_law_given x1) (by decide) (m_acons (m_var 2) (m_acons (m_var 3) (m_acons (m_var 4) (m_acons (m_var 10) (m_anil))))))))
  (m_seq (m_frz 7 (m_if ((t_and (t_cmp (k_eq C.hu C.hK) (m_view 12) (m_v (m_int))) (t_and1 (t_cmp k_isNot (m_v (m_call C (r_first_gain x1) (by decide) (m_acons (m_var 7) (m_acons (m_tuple C.hK x1.b_tuple (m_view 18)) (m_anil))))) (m_v (m_non))))).pt) (m_last (m_ret (m_bl))) (m_nil)))
  (m_seq (m_frz 7 (m_if ((t_and (t_cmp k_gt (m_view 12) (m_v (m_int))) (t_and1 (t_not (t_e (m_call C (r_law_same x1 6) (by decide) (m_acons (m_call C (r_first_gain x1) (by decide) (m_acons (m_var 7) (m_acons (m_tuple C.hK x1.b_tuple (m_view 18)) (m_anil)))) (m_acons (m_call C (r_law_gain x1) (by decide) (m_acons (m_var 4) (m_acons (m_var 9) (m_acons (m_var 18) (m_anil))))) (m_anil)))))))).pt) (m_last (m_ret (m_bl))) (m_nil)))
  (m_seq (m_frz 11 (m_asg C 18 (m_call C (r_law_given x1) (by decide) (m_acons (m_var 2) (m_acons (m_var 3) (m_acons (m_var 4) (m_acons (m_var 11) (m_anil))))))))
  (m_seq (m_frz 7 (m_if (t_not (t_e (m_call C (r_law_same x1 6) (by decide) (m_acons (m_call C (r_first_gain x1) (by decide) (m_acons (m_var 7) (m_acons (m_o (m_list C.hK x1.b_list (m_view 18))) (m_anil)))) (m_acons (m_call C (r_law_gain x1) (by decide) (m_acons (m_var 4) (m_acons (m_var 9) (m_acons (m_var 18) (m_anil))))) (m_anil)))))) (m_last (m_ret (m_bl))) (m_nil)))
  (m_last (m_frz 7 (m_ret (m_call C (r_law_wrong x1) (by decide) (m_acons (m_var 7) (m_acons (m_var 18) (m_acons (m_mod (m_v (m_toint C x1.b_int (m_view 6))) (m_v (m_len C.hK x1.b_len (m_view 18)))) (m_acons (m_var 5) (m_anil)))))))))))))))))))
theorem r_law_asked (x1 : Fx P w K mg base G) : FnR P w K mg base G 8 "_law_asked" phi_law_asked := by
  obtain ⟨f, fd, hm, F⟩ := x1.d_law_asked
  exact ⟨f, fd, ["script", "at", "sizes", "table", "likings", "outcomes", "way"], hm, F.kp, F.bindsN fun _ _ _ _ _ _ us hl => match us, hl with | [_, _, _, _, _, _, _], _ => rfl, ok_def F sc_law_asked rfl rfl rfl (by decide) x1.hK fun cdv A outer s H E M hM hW C => p_law_asked (hM.symm ▸ x1) hW C⟩
-- law_said
theorem sc_law_said : FnScope ["script", "at", "count", "drawn", "said", "index"] ["script", "at", "count"] (defScope st_law_said) := ⟨rfl, rfl, rfl, by decide +kernel, rfl, by decide +kernel, by decide +kernel⟩
def ir_law_said : SF := sSeq (sAsg 3 (eCall phi_law_row (aCons (eVar 0) (aCons (eVar 1) (aCons (eC (.int 2)) (aCons (eC (.int 5040)) (aNil)))))))
  (sSeq (sOwn 4 (oRg (eView 2)))
  (sSeq (sIf (tfE (eBin dEq (eBin dMod (eU dInt (eBin dIx (eView 3) (eC (.int 0)))) (eC (.int 2))) (eC (.int 1)))) (sApp 4 (eBin dMod (eU dInt (eBin dIx (eView 3) (eC (.int 1)))) (eView 2))) (sNil))
  (sRet (eO (oLc [5] (itSeq (eCall phi_law_order (aCons (eVar 0) (aCons (eBin dAdd (eView 1) (eC (.int 4))) (aCons (eU dLen (eView 4)) (aNil)))))) (gaName 5) (tfTrue) (eBin dIx (eView 4) (eView 5)))))))
def phi_law_said : List D → Res D := dfn 3 6 ir_law_said
theorem p_law_said {f : Addr} {cdv : Value} {A : Around} {outer : List Env} {s : Shared} {H : Hp} {E : XK} {M : Fm} (x1 : Fx P w K mg base M.G) (hW : NoSt M) (C : Cxx (cxd P w K mg base ["script", "at", "count", "drawn", "said", "index"] "_law_said" (defScope st_law_said) f cdv A outer s H E) M 2) : PSs (cxd P w K mg base ["script", "at", "count", "drawn", "said", "index"] "_law_said" (defScope st_law_said) f cdv A outer s H E) (defBody st_law_said) (tS M ir_law_said) :=
  m_seq (m_asg C 3 (m_call C (r_law_row x1) (by decide) (m_acons (m_var 0) (m_acons (m_var 1) (m_acons (m_int) (m_acons (m_int) (m_anil)))))))
  (m_seq (m_own C 4 (m_listRg C x1.b_list x1.b_range (m_view 2)))
  (m_seq (m_if (t_cmp (k_eq C.hu C.hK) (m_v (m_mod (m_v (m_toint C x1.b_int (m_v (m_ix (m_view 3) (m_v (m_int)) (by exact fun _ _ => rfl) C.hK)))) (m_v (m_int)))) (m_v (m_int))) (m_last (m_app (pos' := ⟨0, 0, 0, 0⟩) C 4 (m_mod (m_v (m_toint C x1.b_int (m_v (m_ix (m_view 3) (m_v (m_int)) (by exact fun _ _ => rfl) C.hK)))) (m_view 2)))) (m_nil))
  (m_last (m_ret (m_o (m_lc C [("index", 5)] (m_iseq C.hK (m_call C (r_law_order x1) (by decide) (m_acons (m_var 0) (m_acons (m_add (m_view 1) (m_v (m_int)) C.hK) (m_acons (m_len C.hK x1.b_len (m_view 4)) (m_anil)))))) (by rfl) (fun _ _ _ _ _ C => m_gname C.nd 5) (fun _ _ _ _ _ C => m_tnil) (fun _ _ _ _ _ C => m_ix (m_view 4) (m_view 5) (by exact fun _ _ => rfl) C.hK)))))))
theorem r_law_said (x1 : Fx P w K mg base G) : FnR P w K mg base G 3 "_law_said" phi_law_said := by
  obtain ⟨f, fd, hm, F⟩ := x1.d_law_said
  exact ⟨f, fd, ["script", "at", "count"], hm, F.kp, F.bindsN fun _ _ _ _ _ _ us hl => match us, hl with | [_, _, _], _ => rfl, ok_def F sc_law_said rfl rfl rfl (by decide) x1.hK fun cdv A outer s H E M hM hW C => p_law_said (hM.symm ▸ x1) hW C⟩
-- law
def lb1_law : SF := sSeq (sAsg 14 (eU dTuple (eO (oLc [18] (itR1 (eView 2)) (gaName 18) (tfTrue) (eBin dIx (eBin dIx (eView 10) (eView 18)) (eBin dIx (eView 13) (eView 18)))))))
  (sApp 12 (eBin dIx (eView 9) (eCall phi_law_number (aCons (eO (oLc [17] (itSeq (eVar 4)) (gaName 17) (tfTrue) (eU dLen (eView 17)))) (aCons (eVar 14) (aNil))))))
theorem sc_law : FnScope ["script", "size", "people", "outcomes", "likings", "worlds", "drawn", "members", "order", "choice", "said", "sizes", "table", "play", "told", "game", "row", "one", "who"] ["script"] (defScope st_law) := ⟨rfl, rfl, rfl, by decide +kernel, rfl, by decide +kernel, by decide +kernel⟩
def ir_law : SF := sSeq (sAsg 1 (eCall phi_law_row (aCons (eVar 0) (aCons (eC (.int 0)) (aCons (eC (.int 8)) (aCons (eC (.int 5040)) (aNil)))))))
  (sSeq (sAsg 2 (eBin dAdd (eC (.int 1)) (eBin dMod (eU dInt (eBin dIx (eView 1) (eC (.int 0)))) (eC (.int 4)))))
  (sSeq (sAsg 3 (eBin dAdd (eC (.int 2)) (eBin dMod (eU dInt (eBin dIx (eView 1) (eC (.int 1)))) (eC (.int 3)))))
  (sSeq (sAsg 4 (eCall phi_law_likings (aCons (eVar 0) (aCons (eC (.int 1)) (aCons (eVar 2) (aCons (eVar 3) (aNil)))))))
  (sSeq (sIf (tfE (eBin dEq (eBin dMod (eU dInt (eBin dIx (eView 1) (eC (.int 5)))) (eC (.int 16))) (eC (.int 5)))) (sSeq (sAsg 2 (eC (.int 2)))
  (sSeq (sAsg 3 (eBin dAdd (eC (.int 1)) (eBin dMod (eU dInt (eBin dIx (eView 1) (eC (.int 1)))) (eC (.int 8)))))
  (sAsg 4 (eCall phi_law_many_likings (aCons (eVar 0) (aCons (eC (.int 1)) (aCons (eTup (aCons (eC (.int 6)) (aCons (eC (.int 6)) (aNil)))) (aCons (eVar 3) (aNil))))))))) (sNil))
  (sSeq (sIf (tfE (eBin dEq (eView 2) (eC (.int 4)))) (sAsg 4 (eU dTuple (eO (oLc [16] (itSeq (eVar 4)) (gaName 16) (tfTrue) (eSlice (eView 16) (nNone) (nSome (eC (.int 2)))))))) (sNil))
  (sSeq (sAsg 5 (eCall phi_law_domain_worlds (aCons (eVar 4) (aNil))))
  (sSeq (sAsg 6 (eCall phi_law_row (aCons (eVar 0) (aCons (eC (.int 5)) (aCons (eBin dAdd (eView 3) (eC (.int 1))) (aCons (eC (.int 5040)) (aNil)))))))
  (sSeq (sOwn 7 (oLc [17] (itR1 (eView 3)) (gaName 17) (tfE (eBin dGt (eBin dMod (eU dInt (eBin dIx (eView 6) (eView 17))) (eC (.int 3))) (eC (.int 0)))) (eVar 17)))
  (sSeq (sIf (tfE (eBin dEq (eU dLen (eView 7)) (eC (.int 0)))) (sOwn 7 (oLst (aCons (eBin dMod (eU dInt (eBin dIx (eView 6) (eView 3))) (eView 3)) (aNil)))) (sNil))
  (sSeq (sAsg 8 (eSlice (eCall phi_law_order (aCons (eVar 0) (aCons (eC (.int 6)) (aCons (eVar 2) (aNil))))) (nNone) (nSome (eBin dAdd (eC (.int 1)) (eBin dMod (eU dInt (eBin dIx (eView 1) (eC (.int 2)))) (eView 2))))))
  (sSeq (sFrz 7 (sAsg 9 (eCall phi_law_serial (aCons (eVar 5) (aCons (eVar 7) (aCons (eVar 8) (aNil)))))))
  (sSeq (sOwn 10 (oLc [18] (itR1 (eView 2)) (gaName 18) (tfTrue) (eCall phi_law_said (aCons (eVar 0) (aCons (eBin dAdd (eC (.int 8)) (eView 18)) (aCons (eU dLen (eBin dIx (eView 4) (eView 18))) (aNil)))))))
  (sSeq (sFrz 10 (sAsg 11 (eU dTuple (eO (oLc [17] (itSeq (eVar 10)) (gaName 17) (tfTrue) (eU dLen (eView 17)))))))
  (sSeq (sOwn 12 (oLst (aNil)))
  (sSeq (sFor (gaName 13) (itSeq (eCall phi_law_plays (aCons (eVar 11) (aNil)))) (lb1_law))
  (sSeq (sIf (tfNot (tfE (eCall phi_law_asked (aCons (eVar 0) (aCons (eC (.int 20)) (aCons (eVar 11) (aCons (eU dTuple (eView 12)) (aCons (eVar 4) (aCons (eVar 3) (aCons (eBin dIx (eView 1) (eC (.int 3))) (aNil))))))))))) (sRet (eC (.bl false))) (sNil))
  (sSeq (sAsg 15 (eCall phi_law_game (aCons (eVar 0) (aCons (eC (.int 30)) (aCons (eVar 2) (aCons (eVar 3) (aNil)))))))
  (sRet (eCall phi_law_asked (aCons (eVar 0) (aCons (eC (.int 40)) (aCons (eBin dIx (eView 15) (eC (.int 0))) (aCons (eBin dIx (eView 15) (eC (.int 1))) (aCons (eVar 4) (aCons (eVar 3) (aCons (eBin dIx (eView 1) (eC (.int 4))) (aNil)))))))))))))))))))))))))))
def phi_law : List D → Res D := dfn 1 19 ir_law
theorem p_law {f : Addr} {cdv : Value} {A : Around} {outer : List Env} {s : Shared} {H : Hp} {E : XK} {M : Fm} (x1 : Fx P w K mg base M.G) (hW : NoSt M) (C : Cxx (cxd P w K mg base ["script", "size", "people", "outcomes", "likings", "worlds", "drawn", "members", "order", "choice", "said", "sizes", "table", "play", "told", "game", "row", "one", "who"] "law" (defScope st_law) f cdv A outer s H E) M 8) : PSs (cxd P w K mg base ["script", "size", "people", "outcomes", "likings", "worlds", "drawn", "members", "order", "choice", "said", "sizes", "table", "play", "told", "game", "row", "one", "who"] "law" (defScope st_law) f cdv A outer s H E) (defBody st_law) (tS M ir_law) :=
  m_seq (m_asg C 1 (m_call C (r_law_row x1) (by decide) (m_acons (m_var 0) (m_acons (m_int) (m_acons (m_int) (m_acons (m_int) (m_anil)))))))
  (m_seq (m_asg C 2 (m_add (m_v (m_int)) (m_v (m_mod (m_v (m_toint C x1.b_int (m_v (m_ix (m_view 1) (m_v (m_int)) (by exact fun _ _ => rfl) C.hK)))) (m_v (m_int)))) C.hK))
  (m_seq (m_asg C 3 (m_add (m_v (m_int)) (m_v (m_mod (m_v (m_toint C x1.b_int (m_v (m_ix (m_view 1) (m_v (m_int)) (by exact fun _ _ => rfl) C.hK)))) (m_v (m_int)))) C.hK))
  (m_seq (m_asg C 4 (m_call C (r_law_likings x1) (by decide) (m_acons (m_var 0) (m_acons (m_int) (m_acons (m_var 2) (m_acons (m_var 3) (m_anil)))))))
  (m_seq (m_if (t_cmp (k_eq C.hu C.hK) (m_v (m_mod (m_v (m_toint C x1.b_int (m_v (m_ix (m_view 1) (m_v (m_int)) (by exact fun _ _ => rfl) C.hK)))) (m_v (m_int)))) (m_v (m_int))) (m_seq (m_asg C 2 (m_int))
  (m_seq (m_asg C 3 (m_add (m_v (m_int)) (m_v (m_mod (m_v (m_toint C x1.b_int (m_v (m_ix (m_view 1) (m_v (m_int)) (by exact fun _ _ => rfl) C.hK)))) (m_v (m_int)))) C.hK))
  (m_last (m_asg C 4 (m_call C (r_law_many_likings x1) (by decide) (m_acons (m_var 0) (m_acons (m_int) (m_acons (m_tup (m_acons (m_int) (m_acons (m_int) (m_anil)))) (m_acons (m_var 3) (m_anil)))))))))) (m_nil))
  (m_seq (m_if (t_cmp (k_eq C.hu C.hK) (m_view 2) (m_v (m_int))) (m_last (m_asg C 4 (m_tuple C.hK x1.b_tuple (m_v (m_o (m_lc C [("row", 16)] (m_iseq C.hK (m_var 4)) (by rfl) (fun _ _ _ _ _ C => m_gname C.nd 16) (fun _ _ _ _ _ C => m_tnil) (fun _ _ _ _ _ C => m_slice C (m_view 16) (m_pnone) (m_psome (m_v (m_int)))))))))) (m_nil))
  (m_seq (m_asg C 5 (m_call C (r_law_domain_worlds x1) (by decide) (m_acons (m_var 4) (m_anil))))
  (m_seq (m_asg C 6 (m_call C (r_law_row x1) (by decide) (m_acons (m_var 0) (m_acons (m_int) (m_acons (m_add (m_view 3) (m_v (m_int)) C.hK) (m_acons (m_int) (m_anil)))))))
  (m_seq (m_setLc C 7 [("one", 17)] (m_ir1 C x1.b_range (m_view 3)) (by rfl) (fun _ _ _ _ _ C => m_gname C.nd 17) (fun _ _ _ _ _ C => m_tone (t_cmp k_gt (m_v (m_mod (m_v (m_toint C x1.b_int (m_v (m_ix (m_view 6) (m_view 17) (by exact fun _ _ => rfl) C.hK)))) (m_v (m_int)))) (m_v (m_int)))) (fun _ _ _ _ _ C => m_var 17))
  (m_seq (m_if (t_cmp (k_eq C.hu C.hK) (m_v (m_len C.hK x1.b_len (m_view 7))) (m_v (m_int))) (m_last (m_own C 7 (m_lst (m_acons (m_mod (m_v (m_toint C x1.b_int (m_v (m_ix (m_view 6) (m_view 3) (by exact fun _ _ => rfl) C.hK)))) (m_view 3)) (m_anil))))) (m_nil))
  (m_seq (m_asg C 8 (m_slice C (m_v (m_call C (r_law_order x1) (by decide) (m_acons (m_var 0) (m_acons (m_int) (m_acons (m_var 2) (m_anil)))))) (m_pnone) (m_psome (m_v (m_add (m_v (m_int)) (m_v (m_mod (m_v (m_toint C x1.b_int (m_v (m_ix (m_view 1) (m_v (m_int)) (by exact fun _ _ => rfl) C.hK)))) (m_view 2))) C.hK)))))
  (m_seq (m_frz 7 (m_asg C 9 (m_call C (r_law_serial x1) (by decide) (m_acons (m_var 5) (m_acons (m_var 7) (m_acons (m_var 8) (m_anil)))))))
  (m_seq (m_own C 10 (m_lc C [("who", 18)] (m_ir1 C x1.b_range (m_view 2)) (by rfl) (fun _ _ _ _ _ C => m_gname C.nd 18) (fun _ _ _ _ _ C => m_tnil) (fun _ _ _ _ _ C => m_call C (r_law_said x1) (by decide) (m_acons (m_var 0) (m_acons (m_add (m_v (m_int)) (m_view 18) C.hK) (m_acons (m_len C.hK x1.b_len (m_v (m_ix (m_view 4) (m_view 18) (by exact fun _ _ => rfl) C.hK))) (m_anil)))))))
  (m_seq (m_frz 10 (m_asg C 11 (m_tuple C.hK x1.b_tuple (m_v (m_o (m_lc C [("one", 17)] (m_iseq C.hK (m_var 10)) (by rfl) (fun _ _ _ _ _ C => m_gname C.nd 17) (fun _ _ _ _ _ C => m_tnil) (fun _ _ _ _ _ C => m_len C.hK x1.b_len (m_view 17))))))))
  (m_seq (m_own C 12 (m_lst (m_anil)))
  (m_seq (m_for C (m_iseq C.hK (m_call C (r_law_plays x1) (by decide) (m_acons (m_var 11) (m_anil)))) (m_gname C.nd 13) (m_seq (m_asg C 14 (m_tuple C.hK x1.b_tuple (m_v (m_o (m_lc C [("who", 18)] (m_ir1 C x1.b_range (m_view 2)) (by rfl) (fun _ _ _ _ _ C => m_gname C.nd 18) (fun _ _ _ _ _ C => m_tnil) (fun _ _ _ _ _ C => m_ix (m_v (m_ix (m_view 10) (m_view 18) (by exact fun _ _ => rfl) C.hK)) (m_v (m_ix (m_view 13) (m_view 18) (by exact fun _ _ => rfl) C.hK)) (by exact fun _ _ => rfl) C.hK))))))
  (m_last (m_app (pos' := ⟨0, 0, 0, 0⟩) C 12 (m_ix (m_view 9) (m_v (m_call C (r_law_number x1) (by decide) (m_acons (m_o (m_lc C [("one", 17)] (m_iseq C.hK (m_var 4)) (by rfl) (fun _ _ _ _ _ C => m_gname C.nd 17) (fun _ _ _ _ _ C => m_tnil) (fun _ _ _ _ _ C => m_len C.hK x1.b_len (m_view 17)))) (m_acons (m_var 14) (m_anil))))) (by exact fun _ _ => rfl) C.hK)))))
  (m_seq (m_if (t_not (t_e (m_call C (r_law_asked x1) (by decide) (m_acons (m_var 0) (m_acons (m_int) (m_acons (m_var 11) (m_acons (m_tuple C.hK x1.b_tuple (m_view 12)) (m_acons (m_var 4) (m_acons (m_var 3) (m_acons (m_ix (m_view 1) (m_v (m_int)) (by exact fun _ _ => rfl) C.hK) (m_anil))))))))))) (m_last (m_ret (m_bl))) (m_nil))
  (m_seq (m_asg C 15 (m_call C (r_law_game x1) (by decide) (m_acons (m_var 0) (m_acons (m_int) (m_acons (m_var 2) (m_acons (m_var 3) (m_anil)))))))
  (m_last (m_ret (m_call C (r_law_asked x1) (by decide) (m_acons (m_var 0) (m_acons (m_int) (m_acons (m_ix (m_view 15) (m_v (m_int)) (by exact fun _ _ => rfl) C.hK) (m_acons (m_ix (m_view 15) (m_v (m_int)) (by exact fun _ _ => rfl) C.hK) (m_acons (m_var 4) (m_acons (m_var 3) (m_acons (m_ix (m_view 1) (m_v (m_int)) (by exact fun _ _ => rfl) C.hK) (m_anil))))))))))))))))))))))))))))
theorem r_law (x1 : Fx P w K mg base G) : FnR P w K mg base G 9 "law" phi_law := by
  obtain ⟨f, fd, hm, F⟩ := x1.d_law
  exact ⟨f, fd, ["script"], hm, F.kp, F.bindsN fun _ _ _ _ _ _ us hl => match us, hl with | [_], _ => rfl, ok_def F sc_law rfl rfl rfl (by decide) x1.hK fun cdv A outer s H E M hM hW C => p_law (hM.symm ▸ x1) hW C⟩
end
end Law
end
section
set_option maxRecDepth 100000
set_option maxHeartbeats 4000000
namespace Law
open PySem PySem.Spec L2 Mi Rx
def nats (l : List Nat) : List D := l.map fun n : Nat => .int (n : Int)
theorem nats_get {l : List Nat} {k n : Nat} (h : l[k]? = some n) : (nats l)[k]? = some (.int (n : Int)) := by unfold nats; rw [List.getElem?_map, h]; rfl
theorem nats_length (l : List Nat) : (nats l).length = l.length := List.length_map _
theorem nats_drop (l : List Nat) (k : Nat) : (nats l).drop k = nats (l.drop k) := by unfold nats; rw [List.map_drop]
theorem nats_take (l : List Nat) (k : Nat) : (nats l).take k = nats (l.take k) := by unfold nats; rw [List.map_take]
def wD (w : List (List Nat)) : D := .tup (w.map fun l => .tup (nats l))
def domX (o : Nat) (L : D) (zs : List Nat) (W : List (List (List Nat))) : List (Str × D) := [("outcomes", .int (o : Int)), ("likings", L), ("sizes", .tup (nats zs)), ("worlds", .tup (W.map wD))]
theorem fld_outcomes {o : Nat} {L : D} {zs : List Nat} {W : List (List (List Nat))} : (domX o L zs W).lookup ("outcomes" : Str) = some (.int (o : Int)) := rfl
theorem fld_sizes {o : Nat} {L : D} {zs : List Nat} {W : List (List (List Nat))} : (domX o L zs W).lookup ("sizes" : Str) = some (.tup (nats zs)) := rfl
theorem fld_worlds {o : Nat} {L : D} {zs : List Nat} {W : List (List (List Nat))} : (domX o L zs W).lookup ("worlds" : Str) = some (.tup (W.map wD)) := rfl
theorem fld_ok {n : Str} {f : EF} {env : Envt} {fs : List (Str × D)} {d : D} {c : Nat} {cs : List Nat} (h : f env = .ok (.ins c fs)) (hc : cs.contains c = true) (k : fs.lookup n = some d) : eFld cs n f env = .ok d := by
  unfold eFld
  rw [h]
  dsimp only [Res.bind]
  rw [if_pos hc, k]
theorem mul_ok {a b : Int} (h : a.natAbs < 1000000000) : dMul (.int a) (.int b) = .ok (.int (a * b)) := if_pos (Or.inl (Nat.lt_trans h (by decide)))
theorem div_ok {a b : Nat} (h : 0 < b) (h2 : b < 1000000000) : dDiv (.int (a : Int)) (.int (b : Int)) = .ok (.int ((a / b : Nat) : Int)) := by
  unfold dDiv
  dsimp only
  rw [if_pos (by omega), Int.natCast_ediv]
theorem mod_ok {a b : Nat} (h : 0 < b) : dMod (.int (a : Int)) (.int (b : Int)) = .ok (.int ((a % b : Nat) : Int)) := by
  unfold dMod
  dsimp only
  rw [if_pos (by omega), Int.natCast_emod]
theorem gt_ok {a b : Nat} : dGt (.int (a : Int)) (.int (b : Int)) = .ok (.bl (decide (b < a))) := by
  show Res.ok (D.bl (decide ((b : Int) < (a : Int)))) = _
  have : decide ((b : Int) < (a : Int)) = decide (b < a) := by
    apply decide_eq_decide.mpr
    exact Int.ofNat_lt
  rw [this]
/-! ### count_plays -/
theorem for_count (Z s2 : D) : ∀ (l : List Nat) (a : Nat) (sl : Mi.Slot), a * prodL l < 1000000000 → (∀ z ∈ l, 0 < z) → ∃ sl', forL (gaName 2) lb1_count_plays (nats l) [.val Z, .val (.int (a : Int)), sl] = .nx [.val Z, .val (.int ((a * prodL l : Nat) : Int)), sl']
  | [], a, sl, _, _ => ⟨sl, by show Out.nx _ = _; rw [show a * prodL [] = a from Nat.mul_one a]⟩
  | z :: l, a, sl, h, hp => by
    have hz := hp z List.mem_cons_self
    have hl : 0 < prodL l := prodL_pos fun y hy => hp y (List.mem_cons_of_mem _ hy)
    have hm : a * prodL (z :: l) = a * z * prodL l := by show a * (z * prodL l) = _; rw [Nat.mul_assoc]
    rw [hm] at h ⊢
    obtain ⟨sl', e⟩ := for_count Z s2 l (a * z) (.val (.int (z : Int))) h fun y hy => hp y (List.mem_cons_of_mem _ hy)
    refine ⟨sl', ?_⟩
    have ha : a < 1000000000 := by
      have h1 : a ≤ a * z := Nat.le_mul_of_pos_right _ hz
      have h2 : a * z ≤ a * z * prodL l := Nat.le_mul_of_pos_right _ hl
      omega
    show forL (gaName 2) lb1_count_plays (.int (z : Int) :: nats l) _ = _
    rw [forL_nx (env1 := [.val Z, .val (.int (a : Int)), .val (.int (z : Int))]) (e := [.val Z, .val (.int ((a * z : Nat) : Int)), .val (.int (z : Int))]) rfl ?_]
    · exact e
    · unfold lb1_count_plays sAug
      dsimp only [List.getElem?_cons_succ, List.getElem?_cons_zero]
      have : eView 2 [.val Z, .val (.int (a : Int)), .val (.int (z : Int))] = .ok (.int (z : Int)) := rfl
      rw [this]
      dsimp only
      rw [mul_ok (by omega), Int.natCast_mul]
      rfl
theorem count_ok {d : D} {l : List Nat} (h : SqD d (nats l)) (hb : prodL l < 1000000000) (hp : ∀ z ∈ l, 0 < z) : phi_count_plays [d] = .ok (.int (prodL l : Int)) := by
  show (ir_count_plays [.val d, .no, .no]).res = _
  obtain ⟨sl, e⟩ := for_count d .non l 1 .no (by omega) hp
  unfold ir_count_plays
  refine seq_res (e := [.val d, .val (.int ((1 : Nat) : Int)), .no]) rfl (seq_res ((for_ok (h.it rfl)).trans e) ?_)
  rw [Nat.one_mul]
  rfl
/-! ### gain_of -/
def enc (n k s : Nat) : D := .tup [.int (n : Int), .int (k : Int), .int (s : Int)]
def lv (W : List (List (List Nat))) (n k x : Nat) : Nat := ((W.getD n []).getD k []).getD x 0
def gain3 (zs : List Nat) (W : List (List (List Nat))) (c : List Nat) (n k s : Nat) : Option D := if lv W n k (c.getD n 0) < lv W n k (c.getD (alt zs n k s) 0) then some (enc n k s) else none
def gain2 (zs : List Nat) (W : List (List (List Nat))) (c : List Nat) (n k : Nat) : Option D := firstS (gain3 zs W c n k) 0 (zs.getD k 0)
def gain1 (zs : List Nat) (W : List (List (List Nat))) (c : List Nat) (n : Nat) : Option D := firstS (gain2 zs W c n) 0 zs.length
def gainF (zs : List Nat) (W : List (List (List Nat))) (c : List Nat) : Option D := firstS (gain1 zs W c) 0 (prodL zs)
def oD : Option D → D
  | some d => d
  | none => .non
/-- sizes, worlds and a choice that fit -/
structure Fit (o : Nat) (zs : List Nat) (W : List (List (List Nat))) (c : List Nat) : Prop where
  pos : ∀ z ∈ zs, 0 < z
  few : prodL zs < 100000
  fewz : zs.length < 100
  wl : W.length = prodL zs
  ww : ∀ w ∈ W, w.length = zs.length ∧ ∀ l ∈ w, l.length = o
  cl : c.length = prodL zs
  co : ∀ x ∈ c, x < o
section
variable {o : Nat} {zs : List Nat} {W : List (List (List Nat))} {c : List Nat} {L C : D}
theorem Fit.z (K : Fit o zs W c) {k : Nat} (h : k < zs.length) : zs[k]? = some (zs.getD k 0) := by
  rw [List.getD_eq_getElem?_getD, List.getElem?_eq_getElem h]; rfl
theorem Fit.w (K : Fit o zs W c) {n : Nat} (h : n < prodL zs) : W[n]? = some (W.getD n []) ∧ (W.getD n []).length = zs.length ∧ ∀ l ∈ W.getD n [], l.length = o := by
  have hn : n < W.length := by rw [K.wl]; exact h
  have e : W[n]? = some (W.getD n []) := by rw [List.getD_eq_getElem?_getD, List.getElem?_eq_getElem hn]; rfl
  exact ⟨e, K.ww _ (List.mem_of_getElem? e)⟩
theorem Fit.l (K : Fit o zs W c) {n k : Nat} (h : n < prodL zs) (hk : k < zs.length) : (W.getD n [])[k]? = some ((W.getD n []).getD k []) ∧ ((W.getD n []).getD k []).length = o := by
  obtain ⟨h1, h2, h3⟩ := K.w h
  have e : (W.getD n [])[k]? = some ((W.getD n []).getD k []) := by rw [List.getD_eq_getElem?_getD (l := W.getD n []), List.getElem?_eq_getElem (by omega)]; rfl
  exact ⟨e, h3 _ (List.mem_of_getElem? e)⟩
theorem Fit.ch (K : Fit o zs W c) {n : Nat} (h : n < prodL zs) : c[n]? = some (c.getD n 0) ∧ c.getD n 0 < o := by
  have e : c[n]? = some (c.getD n 0) := by rw [List.getD_eq_getElem?_getD, List.getElem?_eq_getElem (by rw [K.cl]; exact h)]; rfl
  exact ⟨e, K.co _ (List.mem_of_getElem? e)⟩
theorem Fit.v (K : Fit o zs W c) {n k x : Nat} (h : n < prodL zs) (hk : k < zs.length) (hx : x < o) : ((W.getD n []).getD k [])[x]? = some (lv W n k x) := by
  obtain ⟨_, h2⟩ := K.l h hk
  unfold lv
  rw [List.getD_eq_getElem?_getD (l := (W.getD n []).getD k []), List.getElem?_eq_getElem (by omega)]; rfl
abbrev EG (o : Nat) (L : D) (zs : List Nat) (W : List (List (List Nat))) (C : D) (s4 s5 s6 s7 s8 s9 : Mi.Slot) : Envt :=
  [.val (.ins 8 (domX o L zs W)), .val C, .val (.tup (nats zs)), .own (.lst ((List.range zs.length).map fun k => .int (ap zs k : Int))), s4, s5, s6, s7, s8, s9]
theorem g1_ok (K : Fit o zs W c) (hC : SqD C (nats c)) {n k s : Nat} (hn : n < prodL zs) (hk : k < zs.length) (hs : s < zs.getD k 0) (s9 : Mi.Slot) :
    match gain3 zs W c n k s with
      | none => ∃ s9', lb1_gain_of (EG o L zs W C (.val (.int (n : Int))) (.val (.int (k : Int))) (.val (.tup (nats ((W.getD n []).getD k [])))) (.val (.int ((n / ap zs k % zs.getD k 0 : Nat) : Int))) (.val (.int (s : Int))) s9)
        = .nx (EG o L zs W C (.val (.int (n : Int))) (.val (.int (k : Int))) (.val (.tup (nats ((W.getD n []).getD k [])))) (.val (.int ((n / ap zs k % zs.getD k 0 : Nat) : Int))) (.val (.int (s : Int))) s9')
      | some v => ∃ e, lb1_gain_of (EG o L zs W C (.val (.int (n : Int))) (.val (.int (k : Int))) (.val (.tup (nats ((W.getD n []).getD k [])))) (.val (.int ((n / ap zs k % zs.getD k 0 : Nat) : Int))) (.val (.int (s : Int))) s9) = .rt v e := by
  have hz := K.z hk
  have hal := alt_lt (n := n) K.pos hz hs
  have hae := alt_eq (s := s) hz hn
  have hap := ap_le (k := k) K.pos
  have few := K.few
  have hzl := get_le_prod K.pos hz
  have hmod : n / ap zs k % zs.getD k 0 < zs.getD k 0 := Nat.mod_lt _ (K.pos _ (List.mem_of_getElem? hz))
  let e9 := EG o L zs W C (.val (.int (n : Int))) (.val (.int (k : Int))) (.val (.tup (nats ((W.getD n []).getD k [])))) (.val (.int ((n / ap zs k % zs.getD k 0 : Nat) : Int))) (.val (.int (s : Int))) (.val (.int (alt zs n k s : Int)))
  have h1 : sAsg 9 (eBin dAdd (eView 4) (eBin dMul (eBin dSub (eView 8) (eView 7)) (eBin dIx (eView 3) (eView 5)))) (EG o L zs W C (.val (.int (n : Int))) (.val (.int (k : Int))) (.val (.tup (nats ((W.getD n []).getD k [])))) (.val (.int ((n / ap zs k % zs.getD k 0 : Nat) : Int))) (.val (.int (s : Int))) s9) = .nx e9 := by
    refine asg_ok ((bin_ok (x := .int (n : Int)) (y := .int (((s : Int) - ((n / ap zs k % zs.getD k 0 : Nat) : Int)) * (ap zs k : Int))) rfl ?_).trans ?_)
    · refine (bin_ok (x := .int ((s : Int) - ((n / ap zs k % zs.getD k 0 : Nat) : Int))) (y := .int (ap zs k : Int)) rfl ?_).trans (mul_ok (by omega))
      refine (bin_ok (x := .lst ((List.range zs.length).map fun k => .int (ap zs k : Int))) (y := .int (k : Int)) rfl rfl).trans (ixL ?_)
      rw [List.getElem?_map, List.getElem?_range hk]
      rfl
    · show Res.ok (D.int _) = _
      rw [hae]
  obtain ⟨c1, c2⟩ := K.ch hn
  obtain ⟨c3, c4⟩ := K.ch hal
  have lk : ∀ (m x : Nat), c[m]? = some x → x < o → ∀ (f : EF) env, f env = .ok (.int (m : Int)) → env[1]? = some (.val C) → env[6]? = some (.val (.tup (nats ((W.getD n []).getD k [])))) → eBin dIx (eView 6) (eBin dIx (eView 1) f) env = .ok (.int (lv W n k x : Int)) := by
    intro m x hm hx f env hf h1 h6
    refine (bin_ok (x := .tup (nats ((W.getD n []).getD k []))) (y := .int (x : Int)) (by unfold eView; rw [h6]) ((bin_ok (x := C) (y := .int (m : Int)) (by unfold eView; rw [h1]) hf).trans (hC.ix (nats_get hm)))).trans (ixT (nats_get (K.v hn hk hx)))
  have h2 : eBin dGt (eBin dIx (eView 6) (eBin dIx (eView 1) (eView 9))) (eBin dIx (eView 6) (eBin dIx (eView 1) (eView 4))) e9 = .ok (.bl (decide (lv W n k (c.getD n 0) < lv W n k (c.getD (alt zs n k s) 0)))) :=
    (bin_ok (lk _ _ c3 c4 (eView 9) e9 rfl rfl rfl) (lk _ _ c1 c2 (eView 4) e9 rfl rfl rfl)).trans gt_ok
  unfold gain3
  by_cases h : lv W n k (c.getD n 0) < lv W n k (c.getD (alt zs n k s) 0)
  · rw [if_pos h]
    refine ⟨e9, ?_⟩
    unfold lb1_gain_of
    refine seq_go h1 ?_
    rw [if_t (tfE_t (by rw [h2, decide_eq_true h]; rfl))]
    exact ret_ok rfl
  · rw [if_neg h]
    refine ⟨.val (.int (alt zs n k s : Int)), ?_⟩
    unfold lb1_gain_of
    refine seq_go h1 ?_
    rw [if_f (tfE_f (by rw [h2, decide_eq_false h]; rfl))]
    rfl
theorem g2_ok (K : Fit o zs W c) (hC : SqD C (nats c)) {n k : Nat} (hn : n < prodL zs) (hk : k < zs.length) (s6 s7 s8 s9 : Mi.Slot) :
    match gain2 zs W c n k with
      | none => ∃ e, lb2_gain_of (EG o L zs W C (.val (.int (n : Int))) (.val (.int (k : Int))) s6 s7 s8 s9) = .nx e ∧ ∃ s6' s7' s8' s9', e = EG o L zs W C (.val (.int (n : Int))) (.val (.int (k : Int))) s6' s7' s8' s9'
      | some v => ∃ e, lb2_gain_of (EG o L zs W C (.val (.int (n : Int))) (.val (.int (k : Int))) s6 s7 s8 s9) = .rt v e := by
  have hz := K.z hk
  have hap := ap_le (k := k) K.pos
  have hap0 := ap_pos (k := k) K.pos
  have few := K.few
  have hzl := get_le_prod K.pos hz
  have hz0 := K.pos _ (List.mem_of_getElem? hz)
  have h1 : sAsg 6 (eBin dIx (eBin dIx (eFld [8] "worlds" (eView 0)) (eView 4)) (eView 5)) (EG o L zs W C (.val (.int (n : Int))) (.val (.int (k : Int))) s6 s7 s8 s9) = .nx (EG o L zs W C (.val (.int (n : Int))) (.val (.int (k : Int))) (.val (.tup (nats ((W.getD n []).getD k [])))) s7 s8 s9) := by
    refine asg_ok ((bin_ok (x := wD (W.getD n [])) (y := .int (k : Int)) ((bin_ok (x := .tup (W.map wD)) (y := .int (n : Int)) (fld_ok (c := 8) (fs := domX o L zs W) rfl rfl fld_worlds) rfl).trans (ixT ?_)) rfl).trans ?_)
    · rw [List.getElem?_map, (K.w hn).1]; rfl
    · unfold wD
      refine ixT ?_
      rw [List.getElem?_map, (K.l hn hk).1]; rfl
  have h2 : sAsg 7 (eBin dMod (eBin dDiv (eView 4) (eBin dIx (eView 3) (eView 5))) (eBin dIx (eView 2) (eView 5))) (EG o L zs W C (.val (.int (n : Int))) (.val (.int (k : Int))) (.val (.tup (nats ((W.getD n []).getD k [])))) s7 s8 s9) = .nx (EG o L zs W C (.val (.int (n : Int))) (.val (.int (k : Int))) (.val (.tup (nats ((W.getD n []).getD k [])))) (.val (.int ((n / ap zs k % zs.getD k 0 : Nat) : Int))) s8 s9) := by
    refine asg_ok ((bin_ok (x := .int ((n / ap zs k : Nat) : Int)) (y := .int (zs.getD k 0 : Int)) ((bin_ok (x := .int (n : Int)) (y := .int (ap zs k : Int)) rfl ?_).trans (div_ok hap0 (by omega))) ((bin_ok (x := .tup (nats zs)) (y := .int (k : Int)) rfl rfl).trans (ixT (nats_get hz)))).trans (mod_ok hz0))
    refine (bin_ok (x := .lst ((List.range zs.length).map fun k => .int (ap zs k : Int))) (y := .int (k : Int)) rfl rfl).trans (ixL ?_)
    rw [List.getElem?_map, List.getElem?_range hk]
    rfl
  have hf := forL_find (ga := gaName 8) (body := lb1_gain_of) (fun e => ∃ s8' s9', e = EG o L zs W C (.val (.int (n : Int))) (.val (.int (k : Int))) (.val (.tup (nats ((W.getD n []).getD k [])))) (.val (.int ((n / ap zs k % zs.getD k 0 : Nat) : Int))) s8' s9') (gain3 zs W c n k) (zs.getD k 0) 0 (EG o L zs W C (.val (.int (n : Int))) (.val (.int (k : Int))) (.val (.tup (nats ((W.getD n []).getD k [])))) (.val (.int ((n / ap zs k % zs.getD k 0 : Nat) : Int))) s8 s9)
    (fun s env _ hs ⟨s8', s9', he⟩ => by
      subst he
      refine ⟨_, rfl, ?_⟩
      have h := g1_ok (L := L) K hC hn hk (s := s) (by omega) s9'
      cases q : gain3 zs W c n k s with
      | none => rw [q] at h; obtain ⟨x, hx⟩ := h; exact ⟨_, hx, _, _, rfl⟩
      | some v => rw [q] at h; exact h) ⟨_, _, rfl⟩
  have h3 : ∀ env, env = (EG o L zs W C (.val (.int (n : Int))) (.val (.int (k : Int))) (.val (.tup (nats ((W.getD n []).getD k [])))) (.val (.int ((n / ap zs k % zs.getD k 0 : Nat) : Int))) s8 s9) → sFor (gaName 8) (itR1 (eBin dIx (eView 2) (eView 5))) lb1_gain_of env = forL (gaName 8) lb1_gain_of (rangeD 0 (zs.getD k 0)) env := by
    rintro _ rfl
    exact for_ok (itR1_ok ((bin_ok (x := .tup (nats zs)) (y := .int (k : Int)) rfl rfl).trans (ixT (nats_get hz))) (by omega))
  unfold lb2_gain_of
  rw [seq_nx h1, seq_nx h2, h3 _ rfl]
  change (match gain2 zs W c n k with | none => _ | some v => _) at hf
  cases q : gain2 zs W c n k with
  | none => rw [q] at hf; obtain ⟨e, h4, s8', s9', h5⟩ := hf; exact ⟨e, h4, _, _, _, _, h5⟩
  | some v => rw [q] at hf; exact hf
theorem g3_ok (K : Fit o zs W c) (hC : SqD C (nats c)) {n : Nat} (hn : n < prodL zs) (s5 s6 s7 s8 s9 : Mi.Slot) :
    match gain1 zs W c n with
      | none => ∃ e, lb3_gain_of (EG o L zs W C (.val (.int (n : Int))) s5 s6 s7 s8 s9) = .nx e ∧ ∃ s5' s6' s7' s8' s9', e = EG o L zs W C (.val (.int (n : Int))) s5' s6' s7' s8' s9'
      | some v => ∃ e, lb3_gain_of (EG o L zs W C (.val (.int (n : Int))) s5 s6 s7 s8 s9) = .rt v e := by
  have fewz := K.fewz
  have hf := forL_find (ga := gaName 5) (body := lb2_gain_of) (fun e => ∃ s5' s6' s7' s8' s9', e = EG o L zs W C (.val (.int (n : Int))) s5' s6' s7' s8' s9') (gain2 zs W c n) zs.length 0 (EG o L zs W C (.val (.int (n : Int))) s5 s6 s7 s8 s9)
    (fun k env _ hk ⟨s5', s6', s7', s8', s9', he⟩ => by
      subst he
      refine ⟨_, rfl, ?_⟩
      have h := g2_ok (L := L) K hC hn (k := k) (by omega) s6' s7' s8' s9'
      cases q : gain2 zs W c n k with
      | none => rw [q] at h; obtain ⟨e, h1, x6, x7, x8, x9, rfl⟩ := h; exact ⟨_, h1, _, _, _, _, _, rfl⟩
      | some v => rw [q] at h; exact h) ⟨_, _, _, _, _, rfl⟩
  have h3 : sFor (gaName 5) (itR1 (eU dLen (eView 2))) lb2_gain_of (EG o L zs W C (.val (.int (n : Int))) s5 s6 s7 s8 s9) = forL (gaName 5) lb2_gain_of (rangeD 0 zs.length) (EG o L zs W C (.val (.int (n : Int))) s5 s6 s7 s8 s9) := by
    refine for_ok (itR1_ok ((u_ok (x := .tup (nats zs)) rfl).trans ?_) (by omega))
    show Res.ok (D.int ((nats zs).length : Int)) = _
    rw [nats_length]
  unfold lb3_gain_of
  rw [h3]
  exact hf
theorem gain_of_ok (K : Fit o zs W c) (hC : SqD C (nats c)) : phi_gain_of [.ins 8 (domX o L zs W), C] = .ok (oD (gainF zs W c)) := by
  have few := K.few
  have fewz := K.fewz
  show (ir_gain_of [.val (.ins 8 (domX o L zs W)), .val C, .no, .no, .no, .no, .no, .no, .no, .no]).res = _
  unfold ir_gain_of
  refine seq_res (e := [.val (.ins 8 (domX o L zs W)), .val C, .val (.tup (nats zs)), .no, .no, .no, .no, .no, .no, .no]) (asg_ok (fld_ok (c := 8) (fs := domX o L zs W) rfl rfl fld_sizes)) ?_
  refine seq_res (e := EG o L zs W C .no .no .no .no .no .no) (own_ok (m := .lst ((List.range zs.length).map fun k => .int (ap zs k : Int))) (oLc_ok (ds := rangeD 0 zs.length) (itR1_ok ((u_ok (x := .tup (nats zs)) rfl).trans (by show Res.ok (D.int ((nats zs).length : Int)) = _; rw [nats_length])) (by omega)) ?_ (by rw [List.length_map, List.length_range]; omega)) rfl) ?_
  · have := lcL_ok (ga := gaName 5) (t := tfTrue) (fe := eCall phi_count_plays (aCons (eSlice (eView 2) (nSome (eBin dAdd (eView 5) (eC (.int 1)))) (nNone)) (aNil))) (env := wipeE [.val (.ins 8 (domX o L zs W)), .val C, .val (.tup (nats zs)), .no, .no, .no, .no, .no, .no, .no] [5]) (fun _ => true) (fun d => match d with
      | .int i => .int (ap zs i.toNat : Int)
      | _ => .non) (rangeD 0 zs.length) fun d hd => ?_
    · rw [this, rangeD0, show ∀ l : List D, l.filter (fun _ => true) = l from fun l => by induction l with | nil => rfl | cons x l ih => rw [List.filter_cons_of_pos rfl, ih], List.map_map]
      congr 1
    · obtain ⟨k, hk, rfl⟩ := mem_rangeD hd
      rw [Int.zero_add]
      refine ⟨_, rfl, rfl, fun _ => ?_⟩
      refine (call_ok (ds := [.tup (nats (zs.drop (k + 1)))]) (acons_ok ?_ rfl)).trans ((count_ok (.inr rfl) (Nat.lt_of_le_of_lt (ap_le (k := k) K.pos) (by omega)) fun z hz => K.pos z (List.mem_of_mem_drop hz)).trans ?_)
      · show Res.ok (D.tup (cutD (nats zs) (some ((k : Int) + 1)) none)) = _
        rw [show ((k : Int) + 1) = ((k + 1 : Nat) : Int) from rfl, cut_from, nats_drop]
      · rfl
  have hf := forL_find (ga := gaName 4) (body := lb3_gain_of) (fun e => ∃ s4 s5' s6' s7' s8' s9', e = EG o L zs W C s4 s5' s6' s7' s8' s9') (gain1 zs W c) (prodL zs) 0 (EG o L zs W C .no .no .no .no .no .no)
    (fun n env _ hn ⟨s4, s5', s6', s7', s8', s9', he⟩ => by
      subst he
      refine ⟨_, rfl, ?_⟩
      have h := g3_ok (L := L) K hC (n := n) (by omega) s5' s6' s7' s8' s9'
      cases q : gain1 zs W c n with
      | none => rw [q] at h; obtain ⟨e, h1, x5, x6, x7, x8, x9, rfl⟩ := h; exact ⟨_, h1, _, _, _, _, _, _, rfl⟩
      | some v => rw [q] at h; exact h) ⟨_, _, _, _, _, _, rfl⟩
  have h3 : sFor (gaName 4) (itR1 (eU dLen (eFld [8] "worlds" (eView 0)))) lb3_gain_of (EG o L zs W C .no .no .no .no .no .no) = forL (gaName 4) lb3_gain_of (rangeD 0 (prodL zs)) (EG o L zs W C .no .no .no .no .no .no) := by
    refine for_ok (itR1_ok ((u_ok (x := .tup (W.map wD)) (fld_ok (c := 8) (fs := domX o L zs W) rfl rfl fld_worlds)).trans ?_) (by omega))
    show Res.ok (D.int ((W.map wD).length : Int)) = _
    rw [List.length_map, K.wl]
  change (match gainF zs W c with | none => _ | some v => _) at hf
  cases q : gainF zs W c with
  | none =>
    rw [q] at hf
    obtain ⟨e, h4, s4, s5, s6, s7, s8, s9, rfl⟩ := hf
    exact seq_res (h3.trans h4) rfl
  | some v =>
    rw [q] at hf
    obtain ⟨e, h4⟩ := hf
    rw [seq_rt (h3.trans h4)]
    rfl
end
end Law
end
section
set_option maxRecDepth 100000
set_option maxHeartbeats 4000000
namespace Rx
theorem num_append : ∀ (zs ds : List Nat) (z d acc : Nat), ds.length = zs.length → num (zs ++ [z]) (ds ++ [d]) acc = num zs ds acc * z + d
  | [], [], z, d, acc, _ => rfl
  | y :: zs, x :: ds, z, d, acc, h => num_append zs ds z d (acc * y + x) (by simpa using h)
  | [], x :: ds, _, _, _, h => by cases h
  | y :: zs, [], _, _, _, h => by cases h
theorem take_succ' {α : Type} {l : List α} {i : Nat} {x : α} (h : l[i]? = some x) : l.take (i + 1) = l.take i ++ [x] := by
  rw [List.take_succ, h]; rfl
theorem prodL_take_le {zs : List Nat} {k : Nat} (h : ∀ z ∈ zs, 0 < z) : prodL (zs.take k) ≤ prodL zs := by
  induction zs generalizing k with
  | nil => rw [List.take_nil]; exact Nat.le_refl _
  | cons z zs ih =>
    cases k with
    | zero => exact prodL_pos h
    | succ k => exact Nat.mul_le_mul_left _ (ih fun y hy => h y (List.mem_cons_of_mem _ hy))
end Rx
namespace Law
open PySem PySem.Spec L2 Mi Rx
theorem mul_ok2 {a b : Int} (h : b.natAbs < 1000000000) : dMul (.int a) (.int b) = .ok (.int (a * b)) := if_pos (Or.inr (Nat.lt_trans h (by decide)))
theorem addT_ok {xs ys : List D} (h : xs.length + ys.length < 1000) : dAdd (.tup xs) (.tup ys) = .ok (.tup (xs ++ ys)) := if_pos (by rw [sizeLine_eq]; omega)
theorem tup_ok {af : AF} {env : Envt} {ds : List D} (h : af env = .ok ds) (k : ds.length < 1000) : eTup af env = .ok (.tup ds) := by
  unfold eTup
  rw [h]
  exact if_pos (by rw [sizeLine_eq]; omega)
theorem app_ok {i : Nat} {f : EF} {env : Envt} {ds : List D} {d : D} (h : env[i]? = some (.own (.lst ds))) (k : f env = .ok d) (hz : ds.length < 1000000) : sApp i f env = .nx (env.set i (.own (.lst (ds ++ [d])))) := by
  unfold sApp
  rw [h]
  dsimp only
  rw [k]
  exact if_pos (by rw [sizeLine_eq]; omega)
def tups (l : List (List Nat)) : List D := l.map fun r => .tup (nats r)
/-! ### law_plays -/
theorem pl1_ok {Z : D} {s1 : Mi.Slot} {z : Nat} {acc : List D} {r : List Nat} {s5 : Mi.Slot} (hz : z < 100000) (ha : acc.length + z < 1000000) (hr : r.length < 100) :
    ∃ s5', lb2_law_plays [.val Z, s1, .val (.int (z : Int)), .own (.lst acc), .val (.tup (nats r)), s5] = .nx [.val Z, s1, .val (.int (z : Int)), .own (.lst (acc ++ tups ((List.range z).map fun w => r ++ [w]))), .val (.tup (nats r)), s5'] := by
  obtain ⟨e, h1, s5', h2⟩ := forL_inv (ga := gaName 5) (body := lb1_law_plays) (ds := rangeD 0 z) (fun i e => ∃ s5', e = [.val Z, s1, .val (.int (z : Int)), .own (.lst (acc ++ tups ((List.range i).map fun w => r ++ [w]))), .val (.tup (nats r)), s5'])
    (fun i d env hi ⟨s5', he⟩ => by
      subst he
      have hl : i < z := by have := (List.getElem?_eq_some_iff.mp hi).1; rw [rangeD_length] at this; exact this
      rw [rangeD_get 0 z i hl, Int.zero_add] at hi
      cases hi
      refine ⟨_, _, rfl, app_ok (ds := acc ++ tups ((List.range i).map fun w => r ++ [w])) (d := .tup (nats (r ++ [i]))) rfl ?_ ?_, .val (.int (i : Int)), ?_⟩
      · refine (bin_ok (x := .tup (nats r)) (y := .tup [.int (i : Int)]) rfl (tup_ok (ds := [.int (i : Int)]) rfl (by show 1 < 1000; omega))).trans ((addT_ok ?_).trans ?_)
        · rw [nats_length]; show r.length + 1 < 1000; omega
        · unfold nats; rw [List.map_append]; rfl
      · unfold tups; rw [List.length_append, List.length_map, List.length_map, List.length_range]; omega
      · rw [List.range_succ, List.map_append]
        unfold tups
        rw [List.map_append, List.append_assoc]
        rfl) (env := [.val Z, s1, .val (.int (z : Int)), .own (.lst acc), .val (.tup (nats r)), s5]) ⟨s5, by unfold tups; rw [List.range_zero, List.map_nil, List.map_nil, List.append_nil]⟩
  refine ⟨s5', ?_⟩
  unfold lb2_law_plays
  refine (for_ok (itR1_ok (n := z) rfl (by omega))).trans ?_
  rw [h1, h2, rangeD_length]
theorem pl2_ok {Z : D} {s1 : Mi.Slot} {z : Nat} : ∀ (R : List (List Nat)) (acc : List D) (s4 s5 : Mi.Slot), z < 100000 → acc.length + R.length * z < 1000000 → (∀ r ∈ R, r.length < 100) →
    ∃ s4' s5', forL (gaName 4) lb2_law_plays (tups R) [.val Z, s1, .val (.int (z : Int)), .own (.lst acc), s4, s5] = .nx [.val Z, s1, .val (.int (z : Int)), .own (.lst (acc ++ tups (R.flatMap fun r => (List.range z).map fun w => r ++ [w]))), s4', s5']
  | [], acc, s4, s5, _, _, _ => ⟨s4, s5, by show Out.nx _ = _; unfold tups; rw [List.flatMap_nil, List.map_nil, List.append_nil]⟩
  | r :: R, acc, s4, s5, hz, ha, hr => by
    rw [List.length_cons, Nat.add_mul, Nat.one_mul] at ha
    obtain ⟨s5', e1⟩ := pl1_ok (Z := Z) (s1 := s1) (s5 := s5) (acc := acc) hz (by omega) (hr r List.mem_cons_self)
    obtain ⟨s4'', s5'', e2⟩ := pl2_ok (Z := Z) (s1 := s1) R (acc ++ tups ((List.range z).map fun w => r ++ [w])) (.val (.tup (nats r))) s5' hz (by unfold tups; rw [List.length_append, List.length_map, List.length_map, List.length_range]; omega) fun x hx => hr x (List.mem_cons_of_mem _ hx)
    refine ⟨s4'', s5'', ?_⟩
    show forL (gaName 4) lb2_law_plays (.tup (nats r) :: tups R) _ = _
    rw [forL_nx (env1 := [.val Z, s1, .val (.int (z : Int)), .own (.lst acc), .val (.tup (nats r)), s5]) rfl e1, e2, List.flatMap_cons]
    unfold tups
    rw [List.map_append, List.append_assoc]
theorem rows_len {zs : List Nat} {r : List Nat} (h : r ∈ rows zs) : r.length = zs.length := by
  unfold rows at h
  obtain ⟨n, _, rfl⟩ := List.mem_map.mp h
  exact digits_length zs n
theorem pl3_ok {Z : D} {zs0 : List Nat} (hp : ∀ z ∈ zs0, 0 < z) (hb : prodL zs0 < 100000) (hl : zs0.length < 100) : ∀ (i : Nat) (e : Envt), i < zs0.length → (∃ s1 s2 s3 s4 s5, e = [.val Z, s1, s2, s3, s4, s5] ∧ (s1 = .own (.lst (tups (rows (zs0.take i)))) ∨ s1 = .val (.lst (tups (rows (zs0.take i)))))) →
    ∃ e', lb3_law_plays (e.set 2 (.val (.int (zs0.getD i 0 : Nat)))) = .nx e' ∧ (∃ s1 s2 s3 s4 s5, e' = [.val Z, s1, s2, s3, s4, s5] ∧ (s1 = .own (.lst (tups (rows (zs0.take (i + 1))))) ∨ s1 = .val (.lst (tups (rows (zs0.take (i + 1))))))) := by
  rintro i _ hi ⟨s1, s2, s3, s4, s5, rfl, h1⟩
  have hz : zs0[i]? = some (zs0.getD i 0) := by rw [List.getD_eq_getElem?_getD, List.getElem?_eq_getElem hi]; rfl
  have hzl := get_le_prod hp hz
  have hpl := prodL_take_le (k := i + 1) hp
  rw [take_succ' hz] at hpl ⊢
  rw [prodL_append] at hpl
  have hrl : (rows (zs0.take i)).length = prodL (zs0.take i) := rows_length _
  obtain ⟨s4', s5', e1⟩ := pl2_ok (Z := Z) (s1 := .val (.lst (tups (rows (zs0.take i))))) (z := zs0.getD i 0) (rows (zs0.take i)) [] s4 s5 (by omega) (by rw [hrl]; show 0 + _ < _; omega) (fun r hr => by rw [rows_len hr, List.length_take]; omega)
  rw [List.nil_append, ← rows_append] at e1
  refine ⟨[.val Z, .val (.lst (tups (rows (zs0.take i ++ [zs0.getD i 0])))), .val (.int (zs0.getD i 0 : Nat)), .val (.lst (tups (rows (zs0.take i ++ [zs0.getD i 0])))), s4', s5'], ?_, _, _, _, _, _, rfl, .inr rfl⟩
  unfold lb3_law_plays
  refine seq_go (e := [.val Z, s1, .val (.int (zs0.getD i 0 : Nat)), .own (.lst []), s4, s5]) rfl ?_
  refine seq_go (e := [.val Z, .val (.lst (tups (rows (zs0.take i)))), .val (.int (zs0.getD i 0 : Nat)), .own (.lst (tups (rows (zs0.take i ++ [zs0.getD i 0])))), s4', s5']) ?_ rfl
  have hf : frz 1 [.val Z, s1, .val (.int (zs0.getD i 0 : Nat)), .own (.lst []), s4, s5] = [.val Z, .val (.lst (tups (rows (zs0.take i)))), .val (.int (zs0.getD i 0 : Nat)), .own (.lst []), s4, s5] := by
    rcases h1 with rfl | rfl <;> rfl
  unfold sFrz
  rw [hf]
  exact (for_ok (ds := tups (rows (zs0.take i))) rfl).trans e1
theorem plays_ok {Z : D} {zs : List Nat} (hZ : SqD Z (nats zs)) (hp : ∀ z ∈ zs, 0 < z) (hb : prodL zs < 100000) (hl : zs.length < 100) : phi_law_plays [Z] = .ok (.lst (tups (rows zs))) := by
  show (ir_law_plays [.val Z, .no, .no, .no, .no, .no]).res = _
  obtain ⟨e, h1, s1, s2, s3, s4, s5, rfl, h2⟩ := forL_inv (ga := gaName 2) (body := lb3_law_plays) (ds := nats zs) (fun i e => ∃ s1 s2 s3 s4 s5, e = [.val Z, s1, s2, s3, s4, s5] ∧ (s1 = .own (.lst (tups (rows (zs.take i)))) ∨ s1 = .val (.lst (tups (rows (zs.take i))))))
    (fun i d env hi hP => by
      have hl : i < zs.length := by have := (List.getElem?_eq_some_iff.mp hi).1; rw [nats_length] at this; exact this
      have hz : zs[i]? = some (zs.getD i 0) := by rw [List.getD_eq_getElem?_getD, List.getElem?_eq_getElem hl]; rfl
      rw [nats_get hz] at hi
      cases hi
      obtain ⟨e', h3, h4⟩ := pl3_ok hp hb (by omega) i env hl hP
      exact ⟨_, e', rfl, h3, h4⟩) (env := [.val Z, .own (.lst [.tup []]), .no, .no, .no, .no]) ⟨_, _, _, _, _, rfl, .inl rfl⟩
  unfold ir_law_plays
  refine seq_res (e := [.val Z, .own (.lst [.tup []]), .no, .no, .no, .no]) rfl (seq_res ((for_ok (hZ.it rfl)).trans h1) ?_)
  rw [nats_length, List.take_length] at h2
  rcases h2 with rfl | rfl <;> rfl
/-! ### law_number -/
theorem number_ok {Z Pl : D} {zs ds : List Nat} (hZ : SqD Z (nats zs)) (hP : SqD Pl (nats ds)) (hl : ds.length = zs.length) (hz : ∀ z ∈ zs, z < 100000) (hn : zs.length < 100) : phi_law_number [Z, Pl] = .ok (.int (num zs ds 0 : Int)) := by
  show (ir_law_number [.val Z, .val Pl, .no, .no]).res = _
  obtain ⟨e, h1, s3, rfl⟩ := forL_inv (ga := gaName 3) (body := lb1_law_number) (ds := rangeD 0 zs.length) (fun i e => ∃ s3, e = [.val Z, .val Pl, .val (.int (num (zs.take i) (ds.take i) 0 : Int)), s3])
    (fun i d env hi ⟨s3, he⟩ => by
      subst he
      have hi2 : i < zs.length := by have := (List.getElem?_eq_some_iff.mp hi).1; rw [rangeD_length] at this; exact this
      rw [rangeD_get 0 _ i hi2, Int.zero_add] at hi
      cases hi
      have e1 : zs[i]? = some (zs[i]) := List.getElem?_eq_getElem hi2
      have e2 : ds[i]? = some (ds[i]'(by omega)) := List.getElem?_eq_getElem (by omega)
      have hzi := hz _ (List.mem_of_getElem? e1)
      refine ⟨_, [.val Z, .val Pl, .val (.int (num (zs.take (i + 1)) (ds.take (i + 1)) 0 : Int)), .val (.int (i : Int))], rfl, ?_, _, rfl⟩
      unfold lb1_law_number
      refine (asg_ok (d := .int (num (zs.take (i + 1)) (ds.take (i + 1)) 0 : Int)) ?_).trans rfl
      refine (bin_ok (x := .int ((num (zs.take i) (ds.take i) 0 : Int) * (zs[i] : Int))) (y := .int ((ds[i]'(by omega) : Nat) : Int)) ((bin_ok (x := .int (num (zs.take i) (ds.take i) 0 : Int)) (y := .int (zs[i] : Int)) rfl ((bin_ok (x := Z) (y := .int (i : Int)) rfl rfl).trans (hZ.ix (nats_get e1)))).trans (mul_ok2 (by omega))) ((bin_ok (x := Pl) (y := .int (i : Int)) rfl rfl).trans (hP.ix (nats_get e2)))).trans ?_
      rw [take_succ' e1, take_succ' e2, num_append _ _ _ _ _ (by rw [List.length_take, List.length_take]; omega), Int.natCast_add, Int.natCast_mul]
      rfl) (env := [.val Z, .val Pl, .val (.int 0), .no]) ⟨_, rfl⟩
  unfold ir_law_number
  refine seq_res (e := [.val Z, .val Pl, .val (.int 0), .no]) rfl (seq_res ((for_ok (itR1_ok ((u_ok (x := Z) rfl).trans (hZ.len.trans (by rw [nats_length]))) (by omega))).trans h1) ?_)
  rw [rangeD_length, List.take_length, ← hl, List.take_length]
  rfl
end Law
end
section
set_option maxRecDepth 100000
set_option maxHeartbeats 4000000
namespace Law
open PySem PySem.Spec L2 Mi Rx
section
variable {o : Nat} {zs : List Nat} {W : List (List (List Nat))} {c : List Nat} {LL WD C : D}
abbrev EH (LL WD C : D) (zs : List Nat) (s3 s5 s6 s7 s8 s9 : Mi.Slot) : Envt := [.val LL, .val WD, .val C, s3, .val (.lst (tups (rows zs))), s5, s6, s7, s8, s9, .no]
def S3 (zs : List Nat) (s3 : Mi.Slot) : Prop := s3 = .val (.lst (nats zs)) ∨ s3 = .own (.lst (nats zs))
theorem S3.frz {s3 s5 s6 s7 s8 s9 : Mi.Slot} (h : S3 zs s3) : frz 3 (EH LL WD C zs s3 s5 s6 s7 s8 s9) = EH LL WD C zs (.val (.lst (nats zs))) s5 s6 s7 s8 s9 := by
  rcases h with rfl | rfl <;> rfl
theorem S3.view {s3 s5 s6 s7 s8 s9 : Mi.Slot} (h : S3 zs s3) : eView 3 (EH LL WD C zs s3 s5 s6 s7 s8 s9) = .ok (.lst (nats zs)) := by
  rcases h with rfl | rfl <;> rfl
theorem tups_get {R : List (List Nat)} {n : Nat} {r : List Nat} (h : R[n]? = some r) : (tups R)[n]? = some (.tup (nats r)) := by unfold tups; rw [List.getElem?_map, h]; rfl
theorem h1_ok (K : Fit o zs W c) (hC : SqD C (nats c)) {n k s : Nat} (hn : n < prodL zs) (hk : k < zs.length) (hs : s < zs.getD k 0) (s3 s9 : Mi.Slot) (h3 : S3 zs s3) :
    match gain3 zs W c n k s with
      | none => ∃ s9', lb1_law_gain (EH LL WD C zs s3 (.val (.int (n : Int))) (.val (.int (k : Int))) (.val (.tup (nats ((W.getD n []).getD k [])))) (.val (.int (s : Int))) s9)
        = .nx (EH LL WD C zs (.val (.lst (nats zs))) (.val (.int (n : Int))) (.val (.int (k : Int))) (.val (.tup (nats ((W.getD n []).getD k [])))) (.val (.int (s : Int))) s9')
      | some v => ∃ e, lb1_law_gain (EH LL WD C zs s3 (.val (.int (n : Int))) (.val (.int (k : Int))) (.val (.tup (nats ((W.getD n []).getD k [])))) (.val (.int (s : Int))) s9) = .rt v e := by
  have hz := K.z hk
  have hal := alt_lt (n := n) K.pos hz hs
  have few := K.few
  have fewz := K.fewz
  have hdl := digits_length zs n
  let e0 := EH LL WD C zs (.val (.lst (nats zs))) (.val (.int (n : Int))) (.val (.int (k : Int))) (.val (.tup (nats ((W.getD n []).getD k [])))) (.val (.int (s : Int))) s9
  let e9 := EH LL WD C zs (.val (.lst (nats zs))) (.val (.int (n : Int))) (.val (.int (k : Int))) (.val (.tup (nats ((W.getD n []).getD k [])))) (.val (.int (s : Int))) (.val (.int (alt zs n k s : Int)))
  have hrow : eBin dIx (eView 4) (eView 5) e0 = .ok (.tup (nats (digits zs n))) := (bin_ok (x := .lst (tups (rows zs))) (y := .int (n : Int)) rfl rfl).trans (ixL (tups_get (rows_get hn)))
  have hpl : eBin dAdd (eBin dAdd (eSlice (eBin dIx (eView 4) (eView 5)) (nNone) (nSome (eView 6))) (eTup (aCons (eVar 8) (aNil)))) (eSlice (eBin dIx (eView 4) (eView 5)) (nSome (eBin dAdd (eView 6) (eC (.int 1)))) (nNone)) e0 = .ok (.tup (nats ((digits zs n).set k s))) := by
    have h1 : eSlice (eBin dIx (eView 4) (eView 5)) (nNone) (nSome (eView 6)) e0 = .ok (.tup (nats ((digits zs n).take k))) := by
      unfold eSlice
      rw [hrow]
      show Res.ok (D.tup (cutD (nats (digits zs n)) none (some (k : Int)))) = _
      rw [cut_upto, nats_take]
    have h2 : eSlice (eBin dIx (eView 4) (eView 5)) (nSome (eBin dAdd (eView 6) (eC (.int 1)))) (nNone) e0 = .ok (.tup (nats ((digits zs n).drop (k + 1)))) := by
      unfold eSlice
      rw [hrow]
      show Res.ok (D.tup (cutD (nats (digits zs n)) (some ((k + 1 : Nat) : Int)) none)) = _
      rw [cut_from, nats_drop]
    refine (bin_ok ((bin_ok h1 (tup_ok (ds := [.int (s : Int)]) rfl (by show 1 < 1000; omega))).trans (addT_ok ?_)) h2).trans ((addT_ok ?_).trans ?_)
    · rw [nats_length, List.length_take]; show min k _ + 1 < 1000; omega
    · rw [List.length_append, nats_length, nats_length, List.length_take, List.length_drop]; show min k _ + 1 + _ < 1000; omega
    · rw [← set_cut (digits zs n) k s (by omega)]
      unfold nats
      rw [List.map_append, List.map_append]
      rfl
  have h1 : sFrz 3 (sAsg 9 (eCall phi_law_number (aCons (eVar 3) (aCons (eBin dAdd (eBin dAdd (eSlice (eBin dIx (eView 4) (eView 5)) (nNone) (nSome (eView 6))) (eTup (aCons (eVar 8) (aNil)))) (eSlice (eBin dIx (eView 4) (eView 5)) (nSome (eBin dAdd (eView 6) (eC (.int 1)))) (nNone))) (aNil))))) (EH LL WD C zs s3 (.val (.int (n : Int))) (.val (.int (k : Int))) (.val (.tup (nats ((W.getD n []).getD k [])))) (.val (.int (s : Int))) s9) = .nx e9 := by
    unfold sFrz
    rw [h3.frz]
    refine (asg_ok (d := .int (alt zs n k s : Int)) ?_).trans rfl
    refine (call_ok (acons_ok (d := .lst (nats zs)) rfl (acons_ok hpl rfl))).trans (number_ok (.inl rfl) (.inr rfl) (by rw [List.length_set]; exact hdl) (fun z hz => ?_) fewz)
    obtain ⟨i, hi⟩ := List.getElem?_of_mem hz
    have := get_le_prod K.pos hi
    omega
  obtain ⟨c1, c2⟩ := K.ch hn
  obtain ⟨c3, c4⟩ := K.ch hal
  have lk : ∀ (m x : Nat), c[m]? = some x → x < o → ∀ (f : EF) env, f env = .ok (.int (m : Int)) → env[2]? = some (.val C) → env[7]? = some (.val (.tup (nats ((W.getD n []).getD k [])))) → eBin dIx (eView 7) (eBin dIx (eView 2) f) env = .ok (.int (lv W n k x : Int)) := by
    intro m x hm hx f env hf h1 h6
    refine (bin_ok (x := .tup (nats ((W.getD n []).getD k []))) (y := .int (x : Int)) (by unfold eView; rw [h6]) ((bin_ok (x := C) (y := .int (m : Int)) (by unfold eView; rw [h1]) hf).trans (hC.ix (nats_get hm)))).trans (ixT (nats_get (K.v hn hk hx)))
  have h2 : eBin dGt (eBin dIx (eView 7) (eBin dIx (eView 2) (eView 9))) (eBin dIx (eView 7) (eBin dIx (eView 2) (eView 5))) e9 = .ok (.bl (decide (lv W n k (c.getD n 0) < lv W n k (c.getD (alt zs n k s) 0)))) :=
    (bin_ok (lk _ _ c3 c4 (eView 9) e9 rfl rfl rfl) (lk _ _ c1 c2 (eView 5) e9 rfl rfl rfl)).trans gt_ok
  unfold gain3
  by_cases h : lv W n k (c.getD n 0) < lv W n k (c.getD (alt zs n k s) 0)
  · rw [if_pos h]
    refine ⟨e9, ?_⟩
    unfold lb1_law_gain
    refine seq_go h1 ?_
    rw [if_t (tfE_t (by rw [h2, decide_eq_true h]; rfl))]
    exact ret_ok rfl
  · rw [if_neg h]
    refine ⟨.val (.int (alt zs n k s : Int)), ?_⟩
    unfold lb1_law_gain
    refine seq_go h1 ?_
    rw [if_f (tfE_f (by rw [h2, decide_eq_false h]; rfl))]
    rfl
theorem h2_ok (K : Fit o zs W c) (hC : SqD C (nats c)) (hW : SqD WD (W.map wD)) {n k : Nat} (hn : n < prodL zs) (hk : k < zs.length) (s3 s7 s8 s9 : Mi.Slot) (h3 : S3 zs s3) :
    match gain2 zs W c n k with
      | none => ∃ e, lb2_law_gain (EH LL WD C zs s3 (.val (.int (n : Int))) (.val (.int (k : Int))) s7 s8 s9) = .nx e ∧ ∃ s3' s7' s8' s9', S3 zs s3' ∧ e = EH LL WD C zs s3' (.val (.int (n : Int))) (.val (.int (k : Int))) s7' s8' s9'
      | some v => ∃ e, lb2_law_gain (EH LL WD C zs s3 (.val (.int (n : Int))) (.val (.int (k : Int))) s7 s8 s9) = .rt v e := by
  have hz := K.z hk
  have few := K.few
  have hzl := get_le_prod K.pos hz
  have h1 : sAsg 7 (eBin dIx (eBin dIx (eView 1) (eView 5)) (eView 6)) (EH LL WD C zs s3 (.val (.int (n : Int))) (.val (.int (k : Int))) s7 s8 s9) = .nx (EH LL WD C zs s3 (.val (.int (n : Int))) (.val (.int (k : Int))) (.val (.tup (nats ((W.getD n []).getD k [])))) s8 s9) := by
    refine asg_ok ((bin_ok (x := wD (W.getD n [])) (y := .int (k : Int)) ((bin_ok (x := WD) (y := .int (n : Int)) rfl rfl).trans (hW.ix ?_)) rfl).trans ?_)
    · rw [List.getElem?_map, (K.w hn).1]; rfl
    · unfold wD
      refine ixT ?_
      rw [List.getElem?_map, (K.l hn hk).1]; rfl
  have hf := forL_find (ga := gaName 8) (body := lb1_law_gain) (fun e => ∃ s3' s8' s9', S3 zs s3' ∧ e = EH LL WD C zs s3' (.val (.int (n : Int))) (.val (.int (k : Int))) (.val (.tup (nats ((W.getD n []).getD k [])))) s8' s9') (gain3 zs W c n k) (zs.getD k 0) 0 (EH LL WD C zs s3 (.val (.int (n : Int))) (.val (.int (k : Int))) (.val (.tup (nats ((W.getD n []).getD k [])))) s8 s9)
    (fun s env _ hs ⟨s3', s8', s9', hs3, he⟩ => by
      subst he
      refine ⟨_, rfl, ?_⟩
      have h := h1_ok (LL := LL) (WD := WD) K hC hn hk (s := s) (by omega) s3' s9' hs3
      cases q : gain3 zs W c n k s with
      | none => rw [q] at h; obtain ⟨x, hx⟩ := h; exact ⟨_, hx, _, _, _, .inl rfl, rfl⟩
      | some v => rw [q] at h; exact h) ⟨_, _, _, h3, rfl⟩
  have h4 : sFor (gaName 8) (itR1 (eBin dIx (eView 3) (eView 6))) lb1_law_gain (EH LL WD C zs s3 (.val (.int (n : Int))) (.val (.int (k : Int))) (.val (.tup (nats ((W.getD n []).getD k [])))) s8 s9) = forL (gaName 8) lb1_law_gain (rangeD 0 (zs.getD k 0)) (EH LL WD C zs s3 (.val (.int (n : Int))) (.val (.int (k : Int))) (.val (.tup (nats ((W.getD n []).getD k [])))) s8 s9) :=
    for_ok (itR1_ok ((bin_ok (y := .int (k : Int)) h3.view rfl).trans (ixL (nats_get hz))) (by omega))
  unfold lb2_law_gain
  rw [seq_nx h1, h4]
  change (match gain2 zs W c n k with | none => _ | some v => _) at hf
  cases q : gain2 zs W c n k with
  | none => rw [q] at hf; obtain ⟨e, h4, s3', s8', s9', h6, h5⟩ := hf; exact ⟨e, h4, _, _, _, _, h6, h5⟩
  | some v => rw [q] at hf; exact hf
theorem h3_ok (K : Fit o zs W c) (hC : SqD C (nats c)) (hW : SqD WD (W.map wD)) {n : Nat} (hn : n < prodL zs) (s3 s6 s7 s8 s9 : Mi.Slot) (h3 : S3 zs s3) :
    match gain1 zs W c n with
      | none => ∃ e, lb3_law_gain (EH LL WD C zs s3 (.val (.int (n : Int))) s6 s7 s8 s9) = .nx e ∧ ∃ s3' s6' s7' s8' s9', S3 zs s3' ∧ e = EH LL WD C zs s3' (.val (.int (n : Int))) s6' s7' s8' s9'
      | some v => ∃ e, lb3_law_gain (EH LL WD C zs s3 (.val (.int (n : Int))) s6 s7 s8 s9) = .rt v e := by
  have fewz := K.fewz
  have hf := forL_find (ga := gaName 6) (body := lb2_law_gain) (fun e => ∃ s3' s6' s7' s8' s9', S3 zs s3' ∧ e = EH LL WD C zs s3' (.val (.int (n : Int))) s6' s7' s8' s9') (gain2 zs W c n) zs.length 0 (EH LL WD C zs s3 (.val (.int (n : Int))) s6 s7 s8 s9)
    (fun k env _ hk ⟨s3', s6', s7', s8', s9', hs3, he⟩ => by
      subst he
      refine ⟨_, rfl, ?_⟩
      have h := h2_ok (LL := LL) K hC hW hn (k := k) (by omega) s3' s7' s8' s9' hs3
      cases q : gain2 zs W c n k with
      | none => rw [q] at h; obtain ⟨e, h1, x3, x7, x8, x9, hx, rfl⟩ := h; exact ⟨_, h1, _, _, _, _, _, hx, rfl⟩
      | some v => rw [q] at h; exact h) ⟨_, _, _, _, _, h3, rfl⟩
  have h4 : sFor (gaName 6) (itR1 (eU dLen (eView 3))) lb2_law_gain (EH LL WD C zs s3 (.val (.int (n : Int))) s6 s7 s8 s9) = forL (gaName 6) lb2_law_gain (rangeD 0 zs.length) (EH LL WD C zs s3 (.val (.int (n : Int))) s6 s7 s8 s9) := by
    refine for_ok (itR1_ok ((u_ok h3.view).trans ?_) (by omega))
    show Res.ok (D.int ((nats zs).length : Int)) = _
    rw [nats_length]
  unfold lb3_law_gain
  rw [h4]
  exact hf
/-- rows of likings of these sizes -/
def Sized (LL : D) (zs : List Nat) : Prop := ∃ xs : List D, SqD LL xs ∧ xs.length = zs.length ∧ ∀ i x, xs[i]? = some x → dLen x = .ok (.int (zs.getD i 0 : Nat))
theorem sizes_ok {LL : D} {zs : List Nat} (h : Sized LL zs) (hz : zs.length < 100) {it : IF} {fe : EF} {env : Envt} {j : Nat} (hi : ∀ xs, SqD LL xs → it env = .ok xs) (hj : j < env.length) (hf : ∀ d, fe ((wipeE env [j]).set j (.val d)) = dLen d) : oLc [j] it (gaName j) tfTrue fe env = .ok (.lst (nats zs)) := by
  obtain ⟨xs, h1, h2, h3⟩ := h
  refine oLc_ok (hi xs h1) ?_ (by rw [nats_length]; omega)
  have := lcL_ok (ga := gaName j) (t := tfTrue) (fe := fe) (env := wipeE env [j]) (fun _ => true) (fun d => gd (dLen d)) xs fun d hd => ⟨_, rfl, rfl, fun _ => by
    obtain ⟨i, hi⟩ := List.getElem?_of_mem hd
    rw [hf, h3 i d hi]; rfl⟩
  rw [this, show ∀ l : List D, l.filter (fun _ => true) = l from fun l => by induction l with | nil => rfl | cons x l ih => rw [List.filter_cons_of_pos rfl, ih]]
  congr 1
  apply List.ext_getElem?
  intro i
  rw [List.getElem?_map]
  by_cases hi : i < xs.length
  · rw [List.getElem?_eq_getElem hi]
    show some (gd (dLen xs[i])) = _
    rw [h3 i _ (List.getElem?_eq_getElem hi)]
    have e : zs[i]? = some (zs.getD i 0) := by rw [List.getD_eq_getElem?_getD, List.getElem?_eq_getElem (by omega)]; rfl
    rw [nats_get e]
    rfl
  · rw [List.getElem?_eq_none (by omega), List.getElem?_eq_none (by rw [nats_length]; omega)]
    rfl
theorem law_gain_ok (K : Fit o zs W c) (hC : SqD C (nats c)) (hW : SqD WD (W.map wD)) (hL : Sized LL zs) : phi_law_gain [LL, WD, C] = .ok (oD (gainF zs W c)) := by
  have few := K.few
  have fewz := K.fewz
  show (ir_law_gain [.val LL, .val WD, .val C, .no, .no, .no, .no, .no, .no, .no, .no]).res = _
  unfold ir_law_gain
  refine seq_res (e := [.val LL, .val WD, .val C, .own (.lst (nats zs)), .no, .no, .no, .no, .no, .no, .no]) (own_ok (sizes_ok hL fewz (fun xs h => h.it rfl) (by show 10 < 11; omega) fun d => rfl) rfl) ?_
  refine seq_res (e := EH LL WD C zs (.val (.lst (nats zs))) .no .no .no .no .no) (f := sFrz 3 (sAsg 4 (eCall phi_law_plays (aCons (eVar 3) (aNil))))) ?_ ?_
  · show sAsg 4 (eCall phi_law_plays (aCons (eVar 3) (aNil))) [.val LL, .val WD, .val C, .val (.lst (nats zs)), .no, .no, .no, .no, .no, .no, .no] = _
    exact asg_ok (plays_ok (Z := .lst (nats zs)) (.inl rfl) K.pos K.few K.fewz)
  have hf := forL_find (ga := gaName 5) (body := lb3_law_gain) (fun e => ∃ s3' s5 s6' s7' s8' s9', S3 zs s3' ∧ e = EH LL WD C zs s3' s5 s6' s7' s8' s9') (gain1 zs W c) (prodL zs) 0 (EH LL WD C zs (.val (.lst (nats zs))) .no .no .no .no .no)
    (fun n env _ hn ⟨s3', s5, s6', s7', s8', s9', hs3, he⟩ => by
      subst he
      refine ⟨_, rfl, ?_⟩
      have h := h3_ok (LL := LL) K hC hW (n := n) (by omega) s3' s6' s7' s8' s9' hs3
      cases q : gain1 zs W c n with
      | none => rw [q] at h; obtain ⟨e, h1, x3, x6, x7, x8, x9, hx, rfl⟩ := h; exact ⟨_, h1, _, _, _, _, _, _, hx, rfl⟩
      | some v => rw [q] at h; exact h) ⟨_, _, _, _, _, _, .inl rfl, rfl⟩
  have h3 : sFor (gaName 5) (itR1 (eU dLen (eView 4))) lb3_law_gain (EH LL WD C zs (.val (.lst (nats zs))) .no .no .no .no .no) = forL (gaName 5) lb3_law_gain (rangeD 0 (prodL zs)) (EH LL WD C zs (.val (.lst (nats zs))) .no .no .no .no .no) := by
    refine for_ok (itR1_ok ((u_ok (x := .lst (tups (rows zs))) rfl).trans ?_) (by omega))
    show Res.ok (D.int ((tups (rows zs)).length : Int)) = _
    unfold tups
    rw [List.length_map, rows_length]
  change (match gainF zs W c with | none => _ | some v => _) at hf
  cases q : gainF zs W c with
  | none =>
    rw [q] at hf
    obtain ⟨e, h4, s3', s5, s6, s7, s8, s9, _, rfl⟩ := hf
    exact seq_res (h3.trans h4) rfl
  | some v =>
    rw [q] at hf
    obtain ⟨e, h4⟩ := hf
    rw [seq_rt (h3.trans h4)]
    rfl
end
end Law
end
section
set_option maxRecDepth 100000
set_option maxHeartbeats 4000000
namespace Law
open PySem PySem.Spec L2 Mi Rx
section
variable {o : Nat} {zs : List Nat} {W : List (List (List Nat))} {c : List Nat} {L C : D}
theorem le_ok {a b : Nat} : dLe (.int (a : Int)) (.int (b : Int)) = .ok (.bl (decide (a ≤ b))) := by
  show Res.ok (D.bl (decide ((a : Int) ≤ (b : Int)))) = _
  have : decide ((a : Int) ≤ (b : Int)) = decide (a ≤ b) := decide_eq_decide.mpr Int.ofNat_le
  rw [this]
theorem lt_ok {a b : Nat} : dLt (.int (a : Int)) (.int (b : Int)) = .ok (.bl (decide (a < b))) := by
  show Res.ok (D.bl (decide ((a : Int) < (b : Int)))) = _
  have : decide ((a : Int) < (b : Int)) = decide (a < b) := decide_eq_decide.mpr Int.ofNat_lt
  rw [this]
theorem ge_ok {a b : Nat} : dGe (.int (a : Int)) (.int (b : Int)) = .ok (.bl (decide (b ≤ a))) := by
  show Res.ok (D.bl (decide ((b : Int) ≤ (a : Int)))) = _
  have : decide ((b : Int) ≤ (a : Int)) = decide (b ≤ a) := decide_eq_decide.mpr Int.ofNat_le
  rw [this]
theorem tfE_bl {f : EF} {env : Envt} {b : Bool} (h : f env = .ok (.bl b)) : tfE f env = .ok b := by unfold tfE; rw [h]; rfl
theorem tfNot_bl {t : TF} {env : Envt} {b : Bool} (h : t env = .ok b) : tfNot t env = .ok (!b) := by unfold tfNot; rw [h]; rfl
theorem tfOr_bl {t u : TF} {env : Envt} {a b : Bool} (h : t env = .ok a) (k : a = false → u env = .ok b) : tfOr t u env = .ok (a || b) := by
  unfold tfOr
  rw [h]
  cases a with
  | true => rfl
  | false => exact k rfl
theorem chain_ok {k k' : D → D → Res D} {f g h : EF} {env : Envt} {x y z : D} {a : Bool} {r : Res D} (h1 : f env = .ok x) (h2 : g env = .ok y) (h3 : h env = .ok z) (e1 : k x y = .ok (.bl a)) (e2 : k' y z = r) : eChain k k' f g h env = if a = true then r else .ok (.bl false) := by
  unfold eChain
  rw [h1, h2]
  dsimp only [Res.bind]
  rw [e1]
  dsimp only [Res.bind]
  cases a with
  | true => rw [h3]; exact e2
  | false => rfl
/-- 0 ≤ x < o -/
theorem within_ok {f : EF} {g : EF} {env : Envt} {x o : Nat} (h : f env = .ok (.int (x : Int))) (hg : g env = .ok (.int (o : Int))) : eChain dLe dLt (eC (.int 0)) f g env = .ok (.bl (decide (x < o))) := by
  rw [chain_ok (a := true) (x := .int 0) rfl h hg ?_ lt_ok]
  · rfl
  · exact (le_ok (a := 0)).trans (by rw [decide_eq_true (Nat.zero_le _)])
/-! ### first_gain -/
theorem check_ok (K : Fit o zs W c) (hC : SqD C (nats c)) : phi_check_choice [.ins 8 (domX o L zs W), C] = .ok .non := by
  have few := K.few
  have hlen : dLen C = .ok (.int (prodL zs : Int)) := by rw [hC.len, nats_length, K.cl]
  show (ir_check_choice [.val (.ins 8 (domX o L zs W)), .val C, .no, .no]).res = _
  unfold ir_check_choice
  refine seq_res (e := [.val (.ins 8 (domX o L zs W)), .val C, .val (.int (prodL zs : Int)), .no]) (asg_ok ((u_ok (fld_ok (c := 8) (fs := domX o L zs W) rfl rfl fld_worlds)).trans ?_)) ?_
  · show Res.ok (D.int ((W.map wD).length : Int)) = _
    rw [List.length_map, K.wl]
  obtain ⟨e, h1, s3, rfl⟩ := forL_inv (ga := gaName 3) (body := lb1_check_choice) (ds := rangeD 0 (prodL zs)) (fun i e => ∃ s3, e = [.val (.ins 8 (domX o L zs W)), .val C, .val (.int (prodL zs : Int)), s3])
    (fun i d env hi ⟨s3, he⟩ => by
      subst he
      have hi2 : i < prodL zs := by have := (List.getElem?_eq_some_iff.mp hi).1; rw [rangeD_length] at this; exact this
      rw [rangeD_get 0 _ i hi2, Int.zero_add] at hi
      cases hi
      obtain ⟨c1, c2⟩ := K.ch hi2
      refine ⟨_, [.val (.ins 8 (domX o L zs W)), .val C, .val (.int (prodL zs : Int)), .val (.int (i : Int))], rfl, ?_, _, rfl⟩
      unfold lb1_check_choice
      refine (if_f ?_).trans rfl
      refine (tfOr_bl (a := false) (b := false) (tfE_bl ?_) fun _ => tfNot_bl (b := true) (tfE_bl ?_)).trans rfl
      · refine (bin_ok (x := .int (i : Int)) (y := .int (prodL zs : Int)) rfl ((u_ok (x := C) rfl).trans hlen)).trans (ge_ok.trans ?_)
        rw [decide_eq_false (by omega)]
      · refine (within_ok (x := c.getD i 0) (o := o) ((bin_ok (x := C) (y := .int (i : Int)) rfl rfl).trans (hC.ix (nats_get c1))) (fld_ok (c := 8) (fs := domX o L zs W) rfl rfl fld_outcomes)).trans ?_
        rw [decide_eq_true c2]) (env := [.val (.ins 8 (domX o L zs W)), .val C, .val (.int (prodL zs : Int)), .no]) ⟨_, rfl⟩
  refine seq_res ((for_ok (itR1_ok (n := prodL zs) rfl (by omega))).trans h1) ?_
  rw [if_f (tfE_bl (b := false) ?_)]
  · rfl
  · refine (bin_ok (x := .int (prodL zs : Int)) (y := .int (prodL zs : Int)) ((u_ok (x := C) rfl).trans hlen) rfl).trans (gt_ok.trans ?_)
    rw [decide_eq_false (by omega)]
theorem exp_ok {ef : EF} {env : Envt} {d : D} (h : ef env = .ok d) : sExp ef env = .nx env := by unfold sExp; rw [h]
theorem first_gain_ok (K : Fit o zs W c) (hC : SqD C (nats c)) : phi_first_gain [.ins 8 (domX o L zs W), C] = .ok (oD (gainF zs W c)) := by
  have ha : (aCons (eVar 0) (aCons (eVar 1) (aNil))) [.val (.ins 8 (domX o L zs W)), .val C] = .ok [.ins 8 (domX o L zs W), C] := acons_ok rfl (acons_ok rfl rfl)
  have e1 : eCall phi_check_choice (aCons (eVar 0) (aCons (eVar 1) (aNil))) [.val (.ins 8 (domX o L zs W)), .val C] = .ok .non := (call_ok ha).trans (check_ok K hC)
  have e2 : eCall phi_gain_of (aCons (eVar 0) (aCons (eVar 1) (aNil))) [.val (.ins 8 (domX o L zs W)), .val C] = .ok (oD (gainF zs W c)) := (call_ok ha).trans (gain_of_ok K hC)
  show (ir_first_gain [.val (.ins 8 (domX o L zs W)), .val C]).res = _
  unfold ir_first_gain
  exact seq_res (exp_ok e1) (congrArg Out.res (ret_ok e2))
end
end Law
end
section
set_option maxRecDepth 100000
set_option maxHeartbeats 4000000
namespace Law
open PySem PySem.Spec L2 Mi Rx
/-! ## drawn rows -/

theorem lb_row (S s1 s2 : D) (L : Int) (hL : 0 < L) (hL2 : L < 1073741824) (c f : Int) (g : Bool) (r : List Int) (i : Int) (s9 : Slot) (hc : 0 ≤ c) (hr : Mi.bnd L r) (hl : r.length < 1000) :
    ∃ c' f' y s9', lb1_law_row [.val S, .val s1, .val s2, .val (.int L), .val (.int c), .val (.bl g), .val (.int f), .own (.lst (r.map .int)), .val (.int i), s9]
      = .nx [.val S, .val s1, .val s2, .val (.int L), .val (.int c'), .val (.bl g), .val (.int f'), .own (.lst ((r ++ [y]).map .int)), .val (.int i), s9'] ∧ 0 ≤ c' ∧ 0 ≤ y ∧ y < L := by
  have hz : r.length < sizeLine := by rw [sizeLine_eq]; omega
  cases g with
  | false =>
    refine ⟨c, (f * 48271 + 11) % 2147483647, (((f * 48271 + 11) % 2147483647 * 69621 + i) % 2147483629 / 7) % L, .val (.int (((f * 48271 + 11) % 2147483647 * 69621 + i) % 2147483629)), ?_, hc, Int.emod_nonneg _ (by omega), Int.emod_lt_of_pos _ hL⟩
    simp [lb1_law_row, sIf, tfAnd, tfE, eVar, eView, eBin, eU, eC, sSeq, sAsg, sApp, dMod, dInt, dAdd, dMul, dDiv, dGt, Res.bind, hL, hz]
  | true =>
    by_cases h : 0 < c
    · refine ⟨c / L, f, c % L, s9, ?_, Int.ediv_nonneg hc (by omega), Int.emod_nonneg _ (by omega), Int.emod_lt_of_pos _ hL⟩
      simp [lb1_law_row, sIf, tfAnd, tfE, eVar, eView, eBin, eU, eC, sSeq, sAsg, sApp, dMod, dInt, dAdd, dMul, dDiv, dGt, Res.bind, hL, hL2, hz, h]
    · refine ⟨c, (f * 48271 + 11) % 2147483647, (((f * 48271 + 11) % 2147483647 * 69621 + i) % 2147483629 / 7) % L, .val (.int (((f * 48271 + 11) % 2147483647 * 69621 + i) % 2147483629)), ?_, hc, Int.emod_nonneg _ (by omega), Int.emod_lt_of_pos _ hL⟩
      simp [lb1_law_row, sIf, tfAnd, tfE, eVar, eView, eBin, eU, eC, sSeq, sAsg, sApp, dMod, dInt, dAdd, dMul, dDiv, dGt, Res.bind, hL, hz, h]
theorem bnd_app {L : Int} {r t : List Int} (h : Mi.bnd L r) (k : Mi.bnd L t) : Mi.bnd L (r ++ t) := fun x hx => (List.mem_append.mp hx).elim (h x) (k x)
theorem for_row (S s1 s2 : D) (L : Int) (hL : 0 < L) (hL2 : L < 1073741824) (g : Bool) : ∀ (n : Nat) (lo c f : Int) (r : List Int) (s8 s9 : Slot), 0 ≤ c → Mi.bnd L r → r.length + n < 1000 →
    ∃ c' f' t s8' s9', forL (gaName 8) lb1_law_row (rangeD lo n) [.val S, .val s1, .val s2, .val (.int L), .val (.int c), .val (.bl g), .val (.int f), .own (.lst (r.map .int)), s8, s9]
      = .nx [.val S, .val s1, .val s2, .val (.int L), .val (.int c'), .val (.bl g), .val (.int f'), .own (.lst ((r ++ t).map .int)), s8', s9'] ∧ Mi.bnd L t ∧ t.length = n := by
  intro n
  induction n with
  | zero => exact fun lo c f r s8 s9 _ _ _ => ⟨c, f, [], s8, s9, by rw [List.append_nil]; rfl, fun x hx => (by cases hx), rfl⟩
  | succ n ih =>
    intro lo c f r s8 s9 hc hr hl
    obtain ⟨c1, f1, y, s91, e1, hc1, hy1, hy2⟩ := lb_row S s1 s2 L hL hL2 c f g r lo s9 hc hr (by omega)
    obtain ⟨c2, f2, t, s82, s92, e2, ht, hn⟩ := ih (lo + 1) c1 f1 (r ++ [y]) (.val (.int lo)) s91 hc1 (bnd_app hr fun x hx => by rw [List.mem_singleton.mp hx]; exact ⟨hy1, hy2⟩) (by rw [List.length_append, List.length_singleton]; omega)
    refine ⟨c2, f2, y :: t, s82, s92, ?_, fun x hx => ?_, by rw [List.length_cons, hn]⟩
    · rw [show rangeD lo (n + 1) = .int lo :: rangeD (lo + 1) n from rfl, forL_nx (env1 := [.val S, .val s1, .val s2, .val (.int L), .val (.int c), .val (.bl g), .val (.int f), .own (.lst (r.map .int)), .val (.int lo), s9]) rfl e1, show r ++ y :: t = (r ++ [y]) ++ t by simp]
      exact e2
    · rcases List.mem_cons.mp hx with e | hx
      · rw [e]; exact ⟨hy1, hy2⟩
      · exact ht x hx
/-- a drawn row -/
theorem row_ok (ns : List Int) (a L : Int) (n : Nat) (ha : 0 ≤ a) (hL : 0 < L) (hL2 : L < 1073741824) (hn : n < 1000) :
    ∃ r : List Int, phi_law_row [.lst (ns.map .int), .int a, .int n, .int L] = .ok (.lst (r.map .int)) ∧ Mi.bnd L r ∧ r.length = n := by
  have hcell : ∃ c : Int, 0 ≤ c ∧ sIf (tfE (eBin dLt (eView 1) (eU dLen (eView 0)))) (sAsg 4 (eU dAbs (eBin dIx (eView 0) (eView 1)))) sNil
      [.val (.lst (ns.map .int)), .val (.int a), .val (.int n), .val (.int L), .val (.int 0), .no, .no, .no, .no, .no] = .nx [.val (.lst (ns.map .int)), .val (.int a), .val (.int n), .val (.int L), .val (.int c), .no, .no, .no, .no, .no] := by
    by_cases h : a < ns.length
    · have hg : L2.atI (ns.map D.int) a = some (.int (ns[a.toNat]'(by omega))) := by
        rw [atI_nat ha (by simpa using h)]
        simp
      refine ⟨if ns[a.toNat]'(by omega) < 0 then -(ns[a.toNat]'(by omega)) else ns[a.toNat]'(by omega), by split <;> omega, ?_⟩
      simp [sIf, tfE, eBin, eView, eU, dLt, dLen, Res.bind, h, sAsg, dAbs, dIx, hg]
    · refine ⟨0, by omega, ?_⟩
      simp [sIf, tfE, eBin, eView, eU, dLt, dLen, Res.bind, h, sNil]
  obtain ⟨c, hc, e1⟩ := hcell
  obtain ⟨g, hg⟩ : ∃ g, sAsg 5 (eBin dGe (eView 4) (eBin dPow (eC (.int 10)) (eC (.int 18)))) [.val (.lst (ns.map .int)), .val (.int a), .val (.int n), .val (.int L), .val (.int c), .no, .no, .no, .no, .no] = .nx [.val (.lst (ns.map .int)), .val (.int a), .val (.int n), .val (.int L), .val (.int c), .val (.bl g), .no, .no, .no, .no] :=
    ⟨_, by simp only [sAsg, eBin, eView, eC, dGe, dPow, Res.bind, List.getElem?_cons_succ, List.getElem?_cons_zero]; rfl⟩
  obtain ⟨c2, f2, t, s8, s9, e2, ht, hl⟩ := for_row (.lst (ns.map .int)) (.int a) (.int n) L hL hL2 g n 0 c ((c * 48271 + a * 69621 + 7) % 2147483647) [] .no .no hc (fun x hx => (by cases hx)) (by simpa using hn)
  refine ⟨t, ?_, ht, hl⟩
  have e3 : itR1 (eView 2) [.val (.lst (ns.map .int)), .val (.int a), .val (.int n), .val (.int L), .val (.int c), .val (.bl g), .val (.int ((c * 48271 + a * 69621 + 7) % 2147483647)), .own (.lst []), .no, .no] = .ok (rangeD 0 n) := itR1_ok rfl (by omega)
  show (ir_law_row [.val (.lst (ns.map .int)), .val (.int a), .val (.int n), .val (.int L), .no, .no, .no, .no, .no, .no]).res = _
  unfold ir_law_row
  refine seq_res (e := [.val (.lst (ns.map .int)), .val (.int a), .val (.int n), .val (.int L), .val (.int 0), .no, .no, .no, .no, .no]) rfl (seq_res e1 ?_)
  refine seq_res (e := [.val (.lst (ns.map .int)), .val (.int a), .val (.int n), .val (.int L), .val (.int c), .val (.bl g), .no, .no, .no, .no]) hg ?_
  refine seq_res (e := [.val (.lst (ns.map .int)), .val (.int a), .val (.int n), .val (.int L), .val (.int c), .val (.bl g), .val (.int ((c * 48271 + a * 69621 + 7) % 2147483647)), .no, .no, .no]) (by simp [sAsg, eBin, eU, eView, eC, dInt, dAdd, dMul, dMod, Res.bind]) ?_
  refine seq_res (e := [.val (.lst (ns.map .int)), .val (.int a), .val (.int n), .val (.int L), .val (.int c), .val (.bl g), .val (.int ((c * 48271 + a * 69621 + 7) % 2147483647)), .own (.lst []), .no, .no]) rfl ?_
  exact seq_res ((for_ok e3).trans e2) rfl
end Law
end
section
set_option maxRecDepth 100000
set_option maxHeartbeats 4000000
namespace Law
open PySem PySem.Spec L2 Mi Rx
/-! ### _law_same -/
theorem same_int {m : Nat} {n : Nat} : phi_law_same (m + 1) [.int (n : Int), .int (n : Int)] = .ok (.bl true) := by
  show (ir_law_same (phi_law_same m) [.val (.int (n : Int)), .val (.int (n : Int)), .no]).res = _
  have hE : dEq (.int (n : Int)) (.int (n : Int)) = .ok (.bl true) := by
    unfold dEq
    rw [if_pos (⟨rfl, rfl⟩ : D.shaped (.int (n : Int)) = true ∧ D.shaped (.int (n : Int)) = true)]
    show Res.ok (D.bl ((n : Int) == (n : Int))) = _
    rw [beq_self_eq_true]
  unfold ir_law_same
  refine seq_res (e := [.val (.int (n : Int)), .val (.int (n : Int)), .no]) rfl (seq_res (e := [.val (.int (n : Int)), .val (.int (n : Int)), .no]) rfl (seq_res (e := [.val (.int (n : Int)), .val (.int (n : Int)), .no]) rfl (seq_res (e := [.val (.int (n : Int)), .val (.int (n : Int)), .no]) rfl ?_)))
  rw [seq_rt (d := .bl true) (e := [.val (.int (n : Int)), .val (.int (n : Int)), .no])]
  · rfl
  · rw [if_t (tfE_t rfl)]
    refine ret_ok ?_
    have e1 : eBin dEq (eView 0) (eView 1) [.val (.int (n : Int)), .val (.int (n : Int)), .no] = .ok (.bl true) := (bin_ok rfl rfl).trans hE
    have e2 : eNot (eU (dIsi (bIs "bool") insNo) (eView 0)) [.val (.int (n : Int)), .val (.int (n : Int)), .no] = .ok (.bl true) := rfl
    have e3 : eU (dIsi (bIs "int") insNo) (eView 0) [.val (.int (n : Int)), .val (.int (n : Int)), .no] = .ok (.bl true) := rfl
    unfold eAnd
    rw [e3]
    show ((eNot (eU (dIsi (bIs "bool") insNo) (eView 0)) [.val (.int (n : Int)), .val (.int (n : Int)), .no]).bind _) = _
    rw [e2]
    exact e1
theorem same_non {m : Nat} : phi_law_same (m + 1) [.non, .non] = .ok (.bl true) := rfl
theorem same_seq {m : Nat} {l : List Nat} {d : D} (hd : SqD d (nats l)) (hl : l.length < 1000) : phi_law_same (m + 2) [.tup (nats l), d] = .ok (.bl true) := by
  show (ir_law_same (phi_law_same (m + 1)) [.val (.tup (nats l)), .val d, .no]).res = _
  have hlen := hd.len
  rw [nats_length] at hlen
  have i1 : ∀ (x : Bool), eBin dIs (eView 1) (eC (.bl x)) [.val (.tup (nats l)), .val d, .no] = .ok (.bl false) := fun x => by rcases hd with rfl | rfl <;> rfl
  have i0 : eBin dIs (eView 1) (eC .non) [.val (.tup (nats l)), .val d, .no] = .ok (.bl false) := by rcases hd with rfl | rfl <;> rfl
  have t1 : ∀ T : String, T = "str" ∨ T = "int" → eU (dIsi (bIs T) insNo) (eView 1) [.val (.tup (nats l)), .val d, .no] = .ok (.bl false) := fun T hT => by
    rcases hT with rfl | rfl
    · rcases hd with rfl | rfl <;> rfl
    · rcases hd with rfl | rfl <;> rfl
  unfold ir_law_same
  refine seq_res (e := [.val (.tup (nats l)), .val d, .no]) ((if_f (tfE_bl i0)).trans rfl) ?_
  refine seq_res (e := [.val (.tup (nats l)), .val d, .no]) ((if_f (tfE_bl (i1 true))).trans rfl) ?_
  refine seq_res (e := [.val (.tup (nats l)), .val d, .no]) ((if_f (tfE_bl (i1 false))).trans rfl) ?_
  refine seq_res (e := [.val (.tup (nats l)), .val d, .no]) ((if_f (tfE_bl (t1 _ (.inl rfl)))).trans rfl) ?_
  refine seq_res (e := [.val (.tup (nats l)), .val d, .no]) ((if_f (tfE_bl (t1 _ (.inr rfl)))).trans rfl) ?_
  have hlen0 : dLen (.tup (nats l)) = .ok (.int (l.length : Int)) := by
    show Res.ok (D.int ((nats l).length : Int)) = _
    rw [nats_length]
  have ne_self : ∀ n : Nat, dNe (.int (n : Int)) (.int (n : Int)) = .ok (.bl false) := fun n => by
    unfold dNe
    rw [if_pos (⟨rfl, rfl⟩ : D.shaped (.int (n : Int)) = true ∧ D.shaped (.int (n : Int)) = true)]
    show Res.ok (D.bl (!((n : Int) == (n : Int)))) = _
    rw [beq_self_eq_true]; rfl
  refine seq_res (e := [.val (.tup (nats l)), .val d, .no]) ((if_f ?_).trans rfl) ?_
  · refine (tfOr_bl (a := false) (b := false) (tfNot_bl (b := true) (tfE_bl rfl)) fun _ => tfE_bl ?_).trans rfl
    exact (bin_ok (x := .int (l.length : Int)) (y := .int (l.length : Int)) ((u_ok (x := .tup (nats l)) rfl).trans hlen0) ((u_ok (x := d) rfl).trans hlen)).trans (ne_self _)
  obtain ⟨e, h1, s2, rfl⟩ := forL_inv (ga := gaName 2) (body := lb1_law_same (phi_law_same (m + 1))) (ds := rangeD 0 l.length) (fun i e => ∃ s2, e = [.val (.tup (nats l)), .val d, s2])
    (fun i x env hi ⟨s2, he⟩ => by
      subst he
      have hi2 : i < l.length := by have := (List.getElem?_eq_some_iff.mp hi).1; rw [rangeD_length] at this; exact this
      rw [rangeD_get 0 _ i hi2, Int.zero_add] at hi
      cases hi
      have e1 : l[i]? = some l[i] := List.getElem?_eq_getElem hi2
      refine ⟨_, [.val (.tup (nats l)), .val d, .val (.int (i : Int))], rfl, ?_, _, rfl⟩
      unfold lb1_law_same
      have ha : (aCons (eBin dIx (eView 0) (eView 2)) (aCons (eBin dIx (eView 1) (eView 2)) (aNil))) [.val (.tup (nats l)), .val d, .val (.int (i : Int))] = .ok [.int (l[i] : Int), .int (l[i] : Int)] :=
        acons_ok ((bin_ok (x := .tup (nats l)) (y := .int (i : Int)) rfl rfl).trans (ixT (nats_get e1))) (acons_ok ((bin_ok (x := d) (y := .int (i : Int)) rfl rfl).trans (hd.ix (nats_get e1))) rfl)
      exact (if_f (tfNot_bl (b := true) (tfE_bl ((call_ok ha).trans same_int)))).trans rfl) (env := [.val (.tup (nats l)), .val d, .no]) ⟨_, rfl⟩
  exact seq_res ((for_ok (itR1_ok ((u_ok (x := d) rfl).trans hlen) (by omega))).trans h1) rfl
theorem same_enc {m n k s : Nat} : phi_law_same (m + 2) [enc n k s, enc n k s] = .ok (.bl true) := same_seq (l := [n, k, s]) (.inr rfl) (by show 3 < 1000; omega)
theorem same_gain {m : Nat} (x : Option D) (h : ∀ d, x = some d → ∃ n k s, d = enc n k s) : phi_law_same (m + 2) [oD x, oD x] = .ok (.bl true) := by
  cases x with
  | none => rfl
  | some d => obtain ⟨n, k, s, rfl⟩ := h d rfl; exact same_enc
end Law
end
section
set_option maxRecDepth 100000
set_option maxHeartbeats 4000000
namespace Rx
theorem digits_mod : ∀ (zs : List Nat) (a n : Nat), digits zs (a * prodL zs + n) = digits zs n
  | [], _, _ => rfl
  | z :: zs, a, n => by
    show ((a * (z * prodL zs) + n) / prodL zs % z) :: digits zs (a * (z * prodL zs) + n) = (n / prodL zs % z) :: digits zs n
    rw [show a * (z * prodL zs) + n = (a * z) * prodL zs + n by rw [Nat.mul_assoc], digits_mod zs (a * z) n]
    congr 1
    by_cases h : prodL zs = 0
    · rw [h, Nat.mul_zero, Nat.zero_add]
    · rw [Nat.mul_comm (a * z), Nat.mul_add_div (by omega), Nat.mul_add_mod_self_right]
theorem digits_num : ∀ (zs ds : List Nat), Ply zs ds → digits zs (num zs ds 0) = ds
  | [], [], _ => rfl
  | z :: zs, d :: ds, h => by
    have ih := digits_num zs ds h.2
    have hl := num_lt zs ds h.2
    show ((num zs ds (0 * z + d)) / prodL zs % z) :: digits zs (num zs ds (0 * z + d)) = d :: ds
    rw [Nat.zero_mul, Nat.zero_add, num_acc zs ds d h.2.length, digits_mod, ih]
    congr 1
    rw [Nat.mul_comm, Nat.mul_add_div (by omega), Nat.div_eq_of_lt hl, Nat.add_zero, Nat.mod_eq_of_lt h.1]
  | [], d :: ds, h => h.elim
  | z :: zs, [], h => h.elim
theorem mem_rows {zs r : List Nat} (hp : ∀ z ∈ zs, 0 < z) : r ∈ rows zs ↔ Ply zs r := by
  unfold rows
  constructor
  · intro h
    obtain ⟨n, _, rfl⟩ := List.mem_map.mp h
    exact ply_digits zs n hp
  · intro h
    exact List.mem_map.mpr ⟨num zs r 0, List.mem_range.mpr (num_lt zs r h), digits_num zs r h⟩
theorem ply_set1 : ∀ (zs ds : List Nat) (k : Nat), Ply zs ds → Ply (zs.set k 1) (ds.set k 0)
  | [], ds, k, h => by
    cases ds with
    | nil => exact h
    | cons d ds => exact h.elim
  | z :: zs, d :: ds, 0, h => ⟨Nat.one_pos, h.2⟩
  | z :: zs, d :: ds, k + 1, h => ⟨h.1, ply_set1 zs ds k h.2⟩
  | z :: zs, [], k, h => h.elim
theorem ply_unset : ∀ (zs ds : List Nat) (k m z : Nat), Ply (zs.set k 1) ds → zs[k]? = some z → m < z → Ply zs (ds.set k m)
  | [], ds, k, m, z, h, hk, _ => by simp at hk
  | y :: zs, d :: ds, 0, m, z, h, hk, hm => by
    have : y = z := by simpa using hk
    subst this
    exact ⟨hm, h.2⟩
  | y :: zs, d :: ds, k + 1, m, z, h, hk, hm => by
    rw [List.getElem?_cons_succ] at hk
    exact ⟨h.1, ply_unset zs ds k m z h.2 hk hm⟩
  | y :: zs, [], 0, m, z, h, hk, hm => h.elim
  | y :: zs, [], k + 1, m, z, h, hk, hm => h.elim
theorem pos_set1 {zs : List Nat} {k : Nat} (hp : ∀ z ∈ zs, 0 < z) : ∀ z ∈ zs.set k 1, 0 < z := fun z hz => by
  rcases List.mem_or_eq_of_mem_set hz with h | h
  · exact hp z h
  · rw [h]; exact Nat.one_pos
theorem prodL_set1_le : ∀ (zs : List Nat) (k : Nat), (∀ z ∈ zs, 0 < z) → prodL (zs.set k 1) ≤ prodL zs
  | [], k, _ => by rw [List.set_nil]; exact Nat.le_refl _
  | z :: zs, 0, h => by
    show 1 * prodL zs ≤ z * prodL zs
    exact Nat.mul_le_mul_right _ (h z List.mem_cons_self)
  | z :: zs, k + 1, h => by
    show z * prodL (zs.set k 1) ≤ z * prodL zs
    exact Nat.mul_le_mul_left _ (prodL_set1_le zs k fun y hy => h y (List.mem_cons_of_mem _ hy))
end Rx
namespace Law
open PySem PySem.Spec L2 Mi Rx
/-! ### play_at, plays -/
theorem pa_loop (Z : D) : ∀ (zs : List Nat) (n : Nat) (acc : List D) (s3 : Mi.Slot), (∀ z ∈ zs, 0 < z) → (∀ z ∈ zs, z < 1000000) → acc.length + zs.length < 1000 →
    ∃ s3', forL (gaName 3) lb1_play_at (nats zs).reverse [.val Z, .val (.int (n : Int)), .own (.lst acc), s3] = .nx [.val Z, .val (.int ((n / prodL zs : Nat) : Int)), .own (.lst (acc ++ (nats (digits zs n)).reverse)), s3']
  | [], n, acc, s3, _, _, _ => ⟨s3, by show Out.nx _ = _; rw [show prodL [] = 1 from rfl, Nat.div_one]; show Out.nx _ = Out.nx [_, _, .own (.lst (acc ++ [])), _]; rw [List.append_nil]⟩
  | z :: zs, n, acc, s3, hp, hb, hl => by
    rw [List.length_cons] at hl
    obtain ⟨s3', e⟩ := pa_loop Z zs n acc s3 (fun y hy => hp y (List.mem_cons_of_mem _ hy)) (fun y hy => hb y (List.mem_cons_of_mem _ hy)) (by omega)
    have hz := hp z List.mem_cons_self
    have hzb := hb z List.mem_cons_self
    refine ⟨.val (.int (z : Int)), ?_⟩
    show forL (gaName 3) lb1_play_at (D.int (z : Int) :: nats zs).reverse _ = _
    rw [List.reverse_cons, forL_app e (fun env e h => by
      unfold lb1_play_at sSeq at h
      split at h
      · rename_i e1 _
        unfold sAsg at h
        split at h <;> cases h
      · cases h
      · rename_i e1 h1
        unfold sApp at h1
        split at h1
        · split at h1
          · split at h1 <;> cases h1
          · cases h1
          · cases h1
        · cases h1
      · cases h
      · cases h
      · cases h), forL_nx (env1 := [.val Z, .val (.int ((n / prodL zs : Nat) : Int)), .own (.lst (acc ++ (nats (digits zs n)).reverse)), .val (.int (z : Int))]) (e := [.val Z, .val (.int ((n / prodL (z :: zs) : Nat) : Int)), .own (.lst (acc ++ (nats (digits (z :: zs) n)).reverse)), .val (.int (z : Int))]) rfl]
    · rfl
    · unfold lb1_play_at
      refine seq_go ((app_ok (ds := acc ++ (nats (digits zs n)).reverse) (d := .int ((n / prodL zs % z : Nat) : Int)) rfl ((bin_ok (x := .int ((n / prodL zs : Nat) : Int)) (y := .int (z : Int)) rfl rfl).trans (mod_ok hz)) ?_).trans rfl) ?_
      · rw [List.length_append, List.length_reverse, nats_length, digits_length]; omega
      · refine (asg_ok (d := .int ((n / prodL (z :: zs) : Nat) : Int)) ((bin_ok (x := .int ((n / prodL zs : Nat) : Int)) (y := .int (z : Int)) rfl rfl).trans ((div_ok hz (by omega)).trans ?_))).trans ?_
        · rw [Nat.div_div_eq_div_mul, Nat.mul_comm (prodL zs)]
          rfl
        · show Out.nx [_, _, .own (.lst (acc ++ (nats (digits zs n)).reverse ++ [.int ((n / prodL zs % z : Nat) : Int)])), _] = _
          rw [List.append_assoc]
          show _ = Out.nx [_, _, .own (.lst (acc ++ (D.int ((n / prodL zs % z : Nat) : Int) :: nats (digits zs n)).reverse)), _]
          rw [List.reverse_cons]
/-- sizes that are not too large -/
structure Sz (zs : List Nat) : Prop where
  pos : ∀ z ∈ zs, 0 < z
  few : prodL zs < 100000
  fewz : zs.length < 100
theorem Sz.lt {zs : List Nat} (h : Sz zs) : ∀ z ∈ zs, z < 100000 := fun z hz => by
  obtain ⟨i, hi⟩ := List.getElem?_of_mem hz
  exact Nat.lt_of_le_of_lt (get_le_prod h.pos hi) h.few
theorem Sz.set1 {zs : List Nat} (h : Sz zs) (k : Nat) : Sz (zs.set k 1) := ⟨pos_set1 h.pos, Nat.lt_of_le_of_lt (prodL_set1_le zs k h.pos) h.few, by rw [List.length_set]; exact h.fewz⟩
theorem play_at_ok {Z : D} {zs : List Nat} {n : Nat} (hZ : SqD Z (nats zs)) (h : Sz zs) : phi_play_at [Z, .int (n : Int)] = .ok (.tup (nats (digits zs n))) := by
  show (ir_play_at [.val Z, .val (.int (n : Int)), .no, .no]).res = _
  obtain ⟨s3, e⟩ := pa_loop Z zs n [] .no h.pos (fun z hz => by have := h.lt z hz; omega) (by have := h.fewz; show 0 + _ < _; omega)
  unfold ir_play_at
  have hit : itRev (eVar 0) [.val Z, .val (.int (n : Int)), .own (.lst []), .no] = .ok (nats zs).reverse := by
    unfold itRev
    rw [hZ.it rfl]
    rfl
  refine seq_res (e := [.val Z, .val (.int (n : Int)), .own (.lst []), .no]) rfl (seq_res ((for_ok hit).trans e) ?_)
  rw [ret_ok (d := .tup (nats (digits zs n)))]
  · rfl
  · show Res.ok (D.tup ([] ++ (nats (digits zs n)).reverse).reverse) = _
    rw [List.nil_append, List.reverse_reverse]
theorem fg_plays {Z : D} {zs : List Nat} (hZ : SqD Z (nats zs)) (h : Sz zs) : ∀ (m lo : Nat) (s1 : Mi.Slot), ∃ s1', forGL 1 (gYield (eCall phi_play_at (aCons (eVar 0) (aCons (eVar 1) (aNil))))) (rangeD (lo : Int) m) [.val Z, s1] = ((List.range m).map (fun k => D.tup (nats (digits zs (lo + k)))), .nx [.val Z, s1'])
  | 0, lo, s1 => ⟨s1, rfl⟩
  | m + 1, lo, s1 => by
    obtain ⟨s1', e⟩ := fg_plays hZ h m (lo + 1) (.val (.int (lo : Int)))
    refine ⟨s1', ?_⟩
    have ha : (aCons (eVar 0) (aCons (eVar 1) (aNil))) [.val Z, .val (.int (lo : Int))] = .ok [Z, .int (lo : Int)] := acons_ok rfl (acons_ok rfl rfl)
    have hy : gYield (eCall phi_play_at (aCons (eVar 0) (aCons (eVar 1) (aNil)))) [.val Z, .val (.int (lo : Int))] = ([.tup (nats (digits zs lo))], .nx [.val Z, .val (.int (lo : Int))]) := by
      unfold gYield
      rw [(call_ok ha).trans (play_at_ok hZ h)]
    show forGL 1 _ (D.int (lo : Int) :: rangeD ((lo + 1 : Nat) : Int) m) _ = _
    unfold forGL
    rw [show ([.val Z, s1] : Envt).set 1 (.val (.int (lo : Int))) = [.val Z, .val (.int (lo : Int))] from rfl, hy]
    dsimp only
    rw [e]
    dsimp only
    rw [List.range_succ_eq_map, List.map_cons, List.map_map]
    congr 1
    show D.tup _ :: _ = _
    congr 1
    apply List.map_congr_left
    intro k _
    show D.tup (nats (digits zs (lo + 1 + k))) = D.tup (nats (digits zs (lo + (k + 1))))
    rw [show lo + 1 + k = lo + (k + 1) by omega]
theorem gplays_ok {Z : D} {zs : List Nat} (hZ : SqD Z (nats zs)) (h : Sz zs) : phi_plays [Z] = .ok (tups (rows zs)) := by
  obtain ⟨s1, e⟩ := fg_plays hZ h (prodL zs) 0 .no
  have ha : (aCons (eVar 0) (aNil)) [.val Z, .no] = .ok [Z] := acons_ok rfl rfl
  have hc : eCall phi_count_plays (aCons (eVar 0) (aNil)) [.val Z, .no] = .ok (.int (prodL zs : Int)) := (call_ok ha).trans (count_ok hZ (by have := h.few; omega) h.pos)
  have hg : ir_plays [.val Z, .no] = (tups (rows zs), .nx [.val Z, s1]) := by
    unfold ir_plays gForR
    rw [hc]
    dsimp only
    rw [if_pos ⟨Int.natCast_nonneg _, by have := h.few; omega⟩, Int.toNat_natCast]
    refine Eq.trans e ?_
    unfold tups rows
    rw [List.map_map]
    congr 1
    apply List.map_congr_left
    intro k _
    rw [Nat.zero_add]; rfl
  show (match ir_plays [.val Z, .no] with
    | (ys, .nx _) => Res.ok ys
    | _ => .stuck) = _
  rw [hg]
/-! ### with_message, number_of, outcome -/
theorem astar_ok {f : EF} {g : AF} {env : Envt} {d : D} {xs ds : List D} (h : f env = .ok d) (hd : d.items = some xs) (h2 : g env = .ok ds) : aStar f g env = .ok (xs ++ ds) := by
  unfold aStar
  rw [h]
  dsimp only [Res.bind]
  rw [hd]
  dsimp only
  rw [h2]
theorem with_ok {P0 : D} {ds : List Nat} {k m : Nat} (hP : P0 = .tup (nats ds)) (hk : k < ds.length) (hl : ds.length < 900) : phi_with_message [P0, .int (k : Int), .int (m : Int)] = .ok (.tup (nats (ds.set k m))) := by
  subst hP
  show (ir_with_message [.val (.tup (nats ds)), .val (.int (k : Int)), .val (.int (m : Int))]).res = _
  have h1 : eSlice (eView 0) (nNone) (nSome (eView 1)) [.val (.tup (nats ds)), .val (.int (k : Int)), .val (.int (m : Int))] = .ok (.tup (nats (ds.take k))) := by
    show Res.ok (D.tup (cutD (nats ds) none (some (k : Int)))) = _
    rw [cut_upto, nats_take]
  have h2 : eSlice (eView 0) (nSome (eBin dAdd (eView 1) (eC (.int 1)))) (nNone) [.val (.tup (nats ds)), .val (.int (k : Int)), .val (.int (m : Int))] = .ok (.tup (nats (ds.drop (k + 1)))) := by
    show Res.ok (D.tup (cutD (nats ds) (some ((k + 1 : Nat) : Int)) none)) = _
    rw [cut_from, nats_drop]
  have h3 : (aStar (eSlice (eView 0) (nNone) (nSome (eView 1))) (aCons (eVar 2) (aStar (eSlice (eView 0) (nSome (eBin dAdd (eView 1) (eC (.int 1)))) (nNone)) (aNil)))) [.val (.tup (nats ds)), .val (.int (k : Int)), .val (.int (m : Int))] = .ok (nats (ds.set k m)) := by
    have h4 := astar_ok h1 rfl (acons_ok (f := eVar 2) (d := .int (m : Int)) rfl (astar_ok h2 rfl (rfl : aNil [.val (.tup (nats ds)), .val (.int (k : Int)), .val (.int (m : Int))] = .ok [])))
    refine h4.trans ?_
    rw [← set_cut ds k m hk, List.append_nil]
    unfold nats
    rw [List.map_append, List.map_append, List.append_assoc]
    rfl
  unfold ir_with_message
  rw [ret_ok (tup_ok h3 (by rw [nats_length, List.length_set]; omega))]
  rfl
theorem num_loop {Z P0 : D} : ∀ (zs ds : List Nat) (acc : Nat) (s3 s4 : Mi.Slot), ds.length = zs.length → (∀ z ∈ zs, z < 1000000) → ∃ s3' s4', forL (gaTup 2 (gaCons (gaName 3) (gaCons (gaName 4) (gaNil)))) lb1_number_of (zipD (nats zs) (nats ds)) [.val Z, .val P0, .val (.int (acc : Int)), s3, s4] = .nx [.val Z, .val P0, .val (.int (num zs ds acc : Int)), s3', s4']
  | [], [], acc, s3, s4, _, _ => ⟨s3, s4, rfl⟩
  | z :: zs, d :: ds, acc, s3, s4, h, hb => by
    obtain ⟨s3', s4', e⟩ := num_loop zs ds (acc * z + d) (.val (.int (z : Int))) (.val (.int (d : Int))) (by simpa using h) fun y hy => hb y (List.mem_cons_of_mem _ hy)
    have hz := hb z List.mem_cons_self
    refine ⟨s3', s4', ?_⟩
    show forL _ lb1_number_of (D.tup [.int (z : Int), .int (d : Int)] :: zipD (nats zs) (nats ds)) _ = _
    rw [forL_nx (env1 := [.val Z, .val P0, .val (.int (acc : Int)), .val (.int (z : Int)), .val (.int (d : Int))]) (e := [.val Z, .val P0, .val (.int ((acc * z + d : Nat) : Int)), .val (.int (z : Int)), .val (.int (d : Int))]) rfl, e]
    · rfl
    · unfold lb1_number_of
      refine (asg_ok (d := .int ((acc * z + d : Nat) : Int)) ((bin_ok (x := .int ((acc : Int) * (z : Int))) (y := .int (d : Int)) ((bin_ok (x := .int (acc : Int)) (y := .int (z : Int)) rfl rfl).trans (mul_ok2 (by omega))) rfl).trans ?_)).trans rfl
      rw [Int.natCast_add, Int.natCast_mul]
      rfl
  | [], d :: ds, _, _, _, h, _ => by cases h
  | z :: zs, [], _, _, _, h, _ => by cases h
theorem number_of_ok {zs ds : List Nat} (hl : ds.length = zs.length) (hz : ∀ z ∈ zs, z < 1000000) : phi_number_of [.tup (nats zs), .tup (nats ds)] = .ok (.int (num zs ds 0 : Int)) := by
  show (ir_number_of [.val (.tup (nats zs)), .val (.tup (nats ds)), .no, .no, .no]).res = _
  obtain ⟨s3, s4, e⟩ := num_loop (Z := .tup (nats zs)) (P0 := .tup (nats ds)) zs ds 0 .no .no hl hz
  unfold ir_number_of
  refine seq_res (e := [.val (.tup (nats zs)), .val (.tup (nats ds)), .val (.int ((0 : Nat) : Int)), .no, .no]) rfl (seq_res ((for_ok (ds := zipD (nats zs) (nats ds)) rfl).trans e) rfl)
theorem chk_loop {Z P0 : D} : ∀ (zs ds : List Nat) (s2 s3 : Mi.Slot), Ply zs ds → ∃ s2' s3', forL (gaTup 2 (gaCons (gaName 2) (gaCons (gaName 3) (gaNil)))) lb1_check_play (zipD (nats zs) (nats ds)) [.val Z, .val P0, s2, s3] = .nx [.val Z, .val P0, s2', s3']
  | [], [], s2, s3, _ => ⟨s2, s3, rfl⟩
  | z :: zs, d :: ds, s2, s3, h => by
    obtain ⟨s2', s3', e⟩ := chk_loop (Z := Z) (P0 := P0) zs ds (.val (.int (z : Int))) (.val (.int (d : Int))) h.2
    refine ⟨s2', s3', ?_⟩
    show forL _ lb1_check_play (D.tup [.int (z : Int), .int (d : Int)] :: zipD (nats zs) (nats ds)) _ = _
    rw [forL_nx (env1 := [.val Z, .val P0, .val (.int (z : Int)), .val (.int (d : Int))]) (e := [.val Z, .val P0, .val (.int (z : Int)), .val (.int (d : Int))]) rfl, e]
    unfold lb1_check_play
    refine (if_f (tfNot_bl (b := true) (tfE_bl ((within_ok (x := d) (o := z) rfl rfl).trans ?_)))).trans rfl
    rw [decide_eq_true h.1]
  | [], d :: ds, _, _, h => h.elim
  | z :: zs, [], _, _, h => h.elim
theorem ne_nat {n : Nat} : dNe (.int (n : Int)) (.int (n : Int)) = .ok (.bl false) := by
  unfold dNe
  rw [if_pos (⟨rfl, rfl⟩ : D.shaped (.int (n : Int)) = true ∧ D.shaped (.int (n : Int)) = true)]
  show Res.ok (D.bl (!((n : Int) == (n : Int)))) = _
  rw [beq_self_eq_true]; rfl
theorem check_play_ok {zs ds : List Nat} (h : Ply zs ds) : phi_check_play [.tup (nats zs), .tup (nats ds)] = .ok .non := by
  show (ir_check_play [.val (.tup (nats zs)), .val (.tup (nats ds)), .no, .no]).res = _
  obtain ⟨s2, s3, e⟩ := chk_loop (Z := .tup (nats zs)) (P0 := .tup (nats ds)) zs ds .no .no h
  have hl : ∀ l : List Nat, dLen (.tup (nats l)) = .ok (.int (l.length : Int)) := fun l => by
    show Res.ok (D.int ((nats l).length : Int)) = _
    rw [nats_length]
  unfold ir_check_play
  refine seq_res (e := [.val (.tup (nats zs)), .val (.tup (nats ds)), .no, .no]) ((if_f (tfE_bl ?_)).trans rfl) ?_
  · refine (bin_ok (x := .int (zs.length : Int)) (y := .int (zs.length : Int)) ((u_ok (x := .tup (nats ds)) rfl).trans ((hl ds).trans (by rw [h.length]))) ((u_ok (x := .tup (nats zs)) rfl).trans (hl zs))).trans ne_nat
  · rw [for_ok (ds := zipD (nats zs) (nats ds)) rfl, e]
    rfl
def gameX (o : Nat) (Z : List Nat) (T : List Nat) : List (Str × D) := [("sizes", .tup (nats Z)), ("outcomes", .int (o : Int)), ("table", .tup (nats T))]
theorem gfld_sizes {o : Nat} {Z T : List Nat} : (gameX o Z T).lookup ("sizes" : Str) = some (.tup (nats Z)) := rfl
theorem gfld_table {o : Nat} {Z T : List Nat} : (gameX o Z T).lookup ("table" : Str) = some (.tup (nats T)) := rfl
theorem gfld_no {o : Nat} {Z T : List Nat} : (gameX o Z T).lookup ("outcome" : Str) = none := rfl
theorem outcome_ok {o : Nat} {Z T ds : List Nat} {x : Nat} (h : Ply Z ds) (hz : ∀ z ∈ Z, z < 1000000) (hx : T[num Z ds 0]? = some x) : phi_Game_outcome [.ins 7 (gameX o Z T), .tup (nats ds)] = .ok (.int (x : Int)) := by
  have e0 : eFld [7, 8] "sizes" (eView 0) [.val (.ins 7 (gameX o Z T)), .val (.tup (nats ds))] = .ok (.tup (nats Z)) := fld_ok (c := 7) (fs := gameX o Z T) rfl rfl gfld_sizes
  have ha : (aCons (eFld [7, 8] "sizes" (eView 0)) (aCons (eVar 1) (aNil))) [.val (.ins 7 (gameX o Z T)), .val (.tup (nats ds))] = .ok [.tup (nats Z), .tup (nats ds)] := acons_ok e0 (acons_ok rfl rfl)
  have e1 : eCall phi_check_play (aCons (eFld [7, 8] "sizes" (eView 0)) (aCons (eVar 1) (aNil))) [.val (.ins 7 (gameX o Z T)), .val (.tup (nats ds))] = .ok .non := (call_ok ha).trans (check_play_ok h)
  have e2 : eCall phi_number_of (aCons (eFld [7, 8] "sizes" (eView 0)) (aCons (eVar 1) (aNil))) [.val (.ins 7 (gameX o Z T)), .val (.tup (nats ds))] = .ok (.int (num Z ds 0 : Int)) := (call_ok ha).trans (number_of_ok h.length hz)
  show (ir_Game_outcome [.val (.ins 7 (gameX o Z T)), .val (.tup (nats ds))]).res = _
  unfold ir_Game_outcome
  refine seq_res (exp_ok e1) (congrArg Out.res (ret_ok ?_))
  exact (bin_ok (x := .tup (nats T)) (y := .int (num Z ds 0 : Int)) (fld_ok (c := 7) (fs := gameX o Z T) rfl rfl gfld_table) e2).trans (ixT (nats_get hx))
end Law
end
section
set_option maxRecDepth 100000
set_option maxHeartbeats 4000000
namespace Mi
open PySem PySem.Spec L2
theorem forG_nx {ga : GF} {body : SF} {d : D} {ds : List D} {env env1 e : Envt} (h : ga d env = some env1) (k : body env1 = .nx e) : forG ga body (d :: ds) env = forG ga body ds e := by rw [forG]; rw [h]; dsimp only; rw [k]
theorem bind_okk {α β : Type} {a : α} {f : α → Res β} : (Res.ok a).bind f = f a := rfl
theorem forG_ok {ga : GF} {body : SF} {it : Envt → Res (List D)} {ds : List D} {env : Envt} (h : it env = .ok ds) : sForG ga it body env = forG ga body ds env := by unfold sForG; rw [h]
theorem two63 : (2 : Int) ^ 63 = ((9223372036854775808 : Nat) : Int) := by
  have h := Int.natCast_pow 2 63
  have h2 : (2 : Nat) ^ 63 = 9223372036854775808 := by decide
  rw [h2] at h
  exact h.symm
theorem lt63 {n : Nat} (h : n < 1000000) : (n : Int) < ((9223372036854775808 : Nat) : Int) := Int.ofNat_lt.mpr (Nat.lt_trans h (by decide))
theorem ge63 (n : Nat) : -((9223372036854775808 : Nat) : Int) ≤ (n : Int) := Int.le_trans (Int.neg_le_neg (Int.natCast_nonneg _)) (by rw [Int.neg_zero]; exact Int.natCast_nonneg n)
def rep1 (ds : List D) (n : Int) : Res Mu := if (-(2 ^ 63) ≤ n ∧ n < 2 ^ 63) ∧ ds.length * n.toNat ≤ sizeLine then .ok (.lst (List.replicate n.toNat ds).flatten) else .stuck
theorem rep_u (of : OF) (g : EF) (env : Envt) : oRep of g env = (of env).bind fun m => (g env).bind fun d => match m, d with
  | .lst ds, .int n => rep1 ds n
  | _, _ => .stuck := rfl
theorem rep1_ok {d : D} {n : Nat} (h : n < 1000000) : rep1 [d] n = .ok (.lst (List.replicate n d)) := by
  unfold rep1
  have h3 : (-(2 ^ 63) ≤ (n : Int) ∧ (n : Int) < 2 ^ 63) ∧ ([d] : List D).length * (n : Int).toNat ≤ sizeLine := by
    rw [two63]
    refine ⟨⟨ge63 n, lt63 h⟩, ?_⟩
    rw [Int.toNat_natCast, sizeLine_eq]
    show 1 * n ≤ _
    omega
  rw [if_pos h3, Int.toNat_natCast]
  congr 2
  clear h h3
  induction n with
  | zero => rfl
  | succ n ih => rw [List.replicate_succ, List.flatten_cons, ih, List.replicate_succ]; rfl
theorem rep_as (r : List D → Int → Res Mu) (x : Res Mu) (y : Res D) (ds : List D) (n : Int) (h : x = .ok (.lst ds)) (k : y = .ok (.int n)) : (x.bind fun m => y.bind fun d => match m, d with
  | .lst ds, .int n => r ds n
  | _, _ => .stuck) = r ds n := by rw [h, k]; rfl
theorem rep_ok {of : OF} {g : EF} {env : Envt} {d : D} {n : Nat} (h1 : of env = .ok (.lst [d])) (h2 : g env = .ok (.int (n : Int))) (h : n < 1000000) : oRep of g env = .ok (.lst (List.replicate n d)) :=
  (rep_u of g env).trans ((rep_as rep1 _ _ [d] n h1 h2).trans (rep1_ok h))
theorem filt_true {α : Type} : ∀ l : List α, l.filter (fun _ => true) = l
  | [] => rfl
  | x :: l => by rw [List.filter_cons_of_pos rfl, filt_true l]
end Mi
namespace Law
open PySem PySem.Spec L2 Mi Rx
/-- the level of what is said -/
def lvl (l T Z r : List Nat) : Nat := l.getD (T.getD (num Z r 0) 0) 0
def good (l T Z : List Nat) (k : Nat) (q : List Nat) (m : Nat) : Bool := (List.range (Z.getD k 0)).all fun m' => decide (lvl l T Z (q.set k m') ≤ lvl l T Z (q.set k m))
def bestN (l T Z : List Nat) (k : Nat) : List Nat := (List.range (Z.getD k 0)).filter fun m => (rows Z).all fun r => !decide (lvl l T Z (r.set k m) < lvl l T Z r)
/-- a game and a liking that fit -/
structure GFit (o : Nat) (Z T l : List Nat) : Prop where
  sz : Sz Z
  tl : T.length = prodL Z
  tv : ∀ x ∈ T, x < o
  ll : l.length = o
section
variable {o : Nat} {Z T l : List Nat} {k : Nat}
theorem GFit.out (K : GFit o Z T l) {r : List Nat} (h : Ply Z r) : T[num Z r 0]? = some (T.getD (num Z r 0) 0) ∧ l[T.getD (num Z r 0) 0]? = some (lvl l T Z r) := by
  have hl := num_lt Z r h
  have e : T[num Z r 0]? = some (T.getD (num Z r 0) 0) := by rw [List.getD_eq_getElem?_getD, List.getElem?_eq_getElem (by rw [K.tl]; exact hl)]; rfl
  have hx := K.tv _ (List.mem_of_getElem? e)
  refine ⟨e, ?_⟩
  unfold lvl
  rw [List.getD_eq_getElem?_getD (l := l), List.getElem?_eq_getElem (by rw [K.ll]; exact hx)]; rfl
theorem getD_some {α : Type} {xs : List α} {i : Nat} {d : α} (h : i < xs.length) : xs[i]? = some (xs.getD i d) := by
  rw [List.getD_eq_getElem?_getD, List.getElem?_eq_getElem h]; rfl
theorem best_same (K : GFit o Z T l) (hk : k < Z.length) : bestN l T Z k = (List.range (Z.getD k 0)).filter fun m => (rows (Z.set k 1)).all fun q => good l T Z k q m := by
  unfold bestN
  apply List.filter_congr
  intro m hm
  have hm := List.mem_range.mp hm
  have hz := getD_some (d := 0) hk
  apply Bool.eq_iff_iff.mpr
  rw [List.all_eq_true, List.all_eq_true]
  constructor
  · intro h q hq
    have hq := (mem_rows (pos_set1 K.sz.pos)).mp hq
    unfold good
    rw [List.all_eq_true]
    intro m' hm'
    have hm' := List.mem_range.mp hm'
    have := h (q.set k m') ((mem_rows K.sz.pos).mpr (ply_unset Z q k m' _ hq hz hm'))
    rw [List.set_set] at this
    simpa using this
  · intro h r hr
    have hr := (mem_rows K.sz.pos).mp hr
    obtain ⟨d, hd, hdz⟩ := ply_get hr hz
    have := h (r.set k 0) ((mem_rows (pos_set1 K.sz.pos)).mpr (ply_set1 Z r k hr))
    unfold good at this
    rw [List.all_eq_true] at this
    have := this d (List.mem_range.mpr hdz)
    rw [List.set_set, List.set_set] at this
    have e : r.set k d = r := by
      apply List.ext_getElem?
      intro i
      by_cases q : i = k
      · subst q
        rw [List.getElem?_set_self (List.getElem?_eq_some_iff.mp hd).1, hd]
      · rw [List.getElem?_set_ne (Ne.symm q)]
    rw [e] at this
    simpa using this
/-! ### _law_best -/
theorem lbest1_ok (K : GFit o Z T l) {ZD TD LD : D} (hZ : SqD ZD (nats Z)) (hT : SqD TD (nats T)) (hL : SqD LD (nats l)) (hk : k < Z.length) {w : Nat} (hw : w < Z.getD k 0) {r : List Nat} (hr : Ply Z r) (c : Nat) (s4 s8 : Mi.Slot) :
    ∃ s8', lb1_law_best [.val ZD, .val TD, .val (.int (k : Int)), .val LD, s4, .val (.int (w : Int)), .val (.int (c : Int)), .val (.tup (nats r)), s8]
      = .nx [.val ZD, .val TD, .val (.int (k : Int)), .val LD, s4, .val (.int (w : Int)), .val (.int ((if lvl l T Z (r.set k w) < lvl l T Z r then c + 1 else c : Nat) : Int)), .val (.tup (nats r)), s8'] := by
  refine ⟨.val (.tup (nats (r.set k w))), ?_⟩
  have hz := getD_some (d := 0) hk
  have fewz := K.sz.fewz
  have hrl := hr.length
  have hr2 := ply_set Z r k w _ hr hz hw
  let e0 : Envt := [.val ZD, .val TD, .val (.int (k : Int)), .val LD, s4, .val (.int (w : Int)), .val (.int (c : Int)), .val (.tup (nats r)), s8]
  let e8 : Envt := [.val ZD, .val TD, .val (.int (k : Int)), .val LD, s4, .val (.int (w : Int)), .val (.int (c : Int)), .val (.tup (nats r)), .val (.tup (nats (r.set k w)))]
  have h1 : eSlice (eView 7) (nNone) (nSome (eView 2)) e0 = .ok (.tup (nats (r.take k))) := by
    show Res.ok (D.tup (cutD (nats r) none (some (k : Int)))) = _
    rw [cut_upto, nats_take]
  have h2 : eSlice (eView 7) (nSome (eBin dAdd (eView 2) (eC (.int 1)))) (nNone) e0 = .ok (.tup (nats (r.drop (k + 1)))) := by
    show Res.ok (D.tup (cutD (nats r) (some ((k + 1 : Nat) : Int)) none)) = _
    rw [cut_from, nats_drop]
  have h3 : eBin dAdd (eBin dAdd (eSlice (eView 7) (nNone) (nSome (eView 2))) (eTup (aCons (eVar 5) (aNil)))) (eSlice (eView 7) (nSome (eBin dAdd (eView 2) (eC (.int 1)))) (nNone)) e0 = .ok (.tup (nats (r.set k w))) := by
    refine (bin_ok ((bin_ok h1 (tup_ok (ds := [.int (w : Int)]) rfl (by show 1 < 1000; omega))).trans (addT_ok ?_)) h2).trans ((addT_ok ?_).trans ?_)
    · rw [nats_length, List.length_take]; show min k _ + 1 < 1000; omega
    · rw [List.length_append, nats_length, nats_length, List.length_take, List.length_drop]; show min k _ + 1 + _ < 1000; omega
    · rw [← set_cut r k w (by omega)]
      unfold nats
      rw [List.map_append, List.map_append]
      rfl
  have hzb : ∀ z ∈ Z, z < 100000 := K.sz.lt
  have look : ∀ (i : Nat) (q : List Nat), Ply Z q → e8[i]? = some (.val (.tup (nats q))) → eBin dIx (eView 3) (eBin dIx (eView 1) (eCall phi_law_number (aCons (eVar 0) (aCons (eVar i) (aNil))))) e8 = .ok (.int (lvl l T Z q : Int)) := by
    intro i q hq he
    obtain ⟨o1, o2⟩ := K.out hq
    have ha : (aCons (eVar 0) (aCons (eVar i) (aNil))) e8 = .ok [ZD, .tup (nats q)] := acons_ok rfl (acons_ok (by unfold eVar; rw [he]) rfl)
    exact (bin_ok (x := LD) (y := .int (T.getD (num Z q 0) 0 : Nat)) rfl ((bin_ok (x := TD) (y := .int (num Z q 0 : Int)) rfl ((call_ok ha).trans (number_ok hZ (.inr rfl) hq.length hzb fewz))).trans (hT.ix (nats_get o1)))).trans (hL.ix (nats_get o2))
  unfold lb1_law_best
  refine seq_go (e := e8) ((asg_ok h3).trans rfl) ?_
  have h4 := (bin_ok (k := dGt) (look 7 r hr rfl) (look 8 (r.set k w) hr2 rfl)).trans gt_ok
  by_cases h : lvl l T Z (r.set k w) < lvl l T Z r
  · rw [if_pos h, if_t (tfE_bl (b := true) (h4.trans (by rw [decide_eq_true h])))]
    unfold sAug
    show (match (eC (.int 1)) e8 with | .ok y => (match dAddI (.int (c : Int)) y with | .ok z => Out.nx (e8.set 6 (.val z)) | .exc a x => .exc a x e8 | .stuck => .stuck) | .exc a x => .exc a x e8 | .stuck => .stuck) = _
    rfl
  · rw [if_neg h, if_f (tfE_bl (b := false) (h4.trans (by rw [decide_eq_false h])))]
    rfl
theorem lbest2_ok (K : GFit o Z T l) {ZD TD LD : D} (hZ : SqD ZD (nats Z)) (hT : SqD TD (nats T)) (hL : SqD LD (nats l)) (hk : k < Z.length) {w : Nat} (hw : w < Z.getD k 0) (s4 : Mi.Slot) : ∀ (R : List (List Nat)) (c : Nat) (s7 s8 : Mi.Slot), (∀ r ∈ R, Ply Z r) →
    ∃ s7' s8', forL (gaName 7) lb1_law_best (tups R) [.val ZD, .val TD, .val (.int (k : Int)), .val LD, s4, .val (.int (w : Int)), .val (.int (c : Int)), s7, s8]
      = .nx [.val ZD, .val TD, .val (.int (k : Int)), .val LD, s4, .val (.int (w : Int)), .val (.int ((c + (R.filter fun r => decide (lvl l T Z (r.set k w) < lvl l T Z r)).length : Nat) : Int)), s7', s8']
  | [], c, s7, s8, _ => ⟨s7, s8, rfl⟩
  | r :: R, c, s7, s8, h => by
    obtain ⟨s8', e1⟩ := lbest1_ok K hZ hT hL hk hw (h r List.mem_cons_self) c s4 s8
    obtain ⟨s7', s8'', e2⟩ := lbest2_ok K hZ hT hL hk hw s4 R (if lvl l T Z (r.set k w) < lvl l T Z r then c + 1 else c) (.val (.tup (nats r))) s8' fun x hx => h x (List.mem_cons_of_mem _ hx)
    refine ⟨s7', s8'', ?_⟩
    show forL (gaName 7) lb1_law_best (.tup (nats r) :: tups R) _ = _
    rw [forL_nx (env1 := [.val ZD, .val TD, .val (.int (k : Int)), .val LD, s4, .val (.int (w : Int)), .val (.int (c : Int)), .val (.tup (nats r)), s8]) rfl e1, e2]
    by_cases q : lvl l T Z (r.set k w) < lvl l T Z r
    · rw [if_pos q, List.filter_cons_of_pos (by rw [decide_eq_true q]), List.length_cons]
      rw [show c + 1 + (R.filter fun r => decide (lvl l T Z (r.set k w) < lvl l T Z r)).length = c + ((R.filter fun r => decide (lvl l T Z (r.set k w) < lvl l T Z r)).length + 1) by omega]
    · rw [if_neg q, List.filter_cons_of_neg (by rw [decide_eq_false q]; exact Bool.false_ne_true)]
theorem filter_zero {α : Type} (p : α → Bool) : ∀ l : List α, ((l.filter p).length == 0) = l.all fun x => !p x
  | [] => rfl
  | x :: l => by
    rw [List.all_cons]
    cases q : p x with
    | true => rw [List.filter_cons_of_pos q]; rfl
    | false => rw [List.filter_cons_of_neg (by rw [q]; exact Bool.false_ne_true), filter_zero p l]; rfl
theorem eq_zero {n : Nat} : dEq (.int (n : Int)) (.int 0) = .ok (.bl (n == 0)) := by
  unfold dEq
  rw [if_pos (⟨rfl, rfl⟩ : D.shaped (.int (n : Int)) = true ∧ D.shaped (.int 0) = true)]
  show Res.ok (D.bl ((n : Int) == 0)) = _
  congr 2
  by_cases h : n = 0
  · subst h; rfl
  · rw [beq_false_of_ne h, beq_false_of_ne (by omega)]
theorem law_best_ok (K : GFit o Z T l) {ZD TD LD : D} (hZ : SqD ZD (nats Z)) (hT : SqD TD (nats T)) (hL : SqD LD (nats l)) (hk : k < Z.length) : phi_law_best [ZD, TD, .int (k : Int), LD] = .ok (.lst (nats (bestN l T Z k))) := by
  have hz := getD_some (d := 0) hk
  have hzb := K.sz.lt _ (List.mem_of_getElem? hz)
  have few := K.sz.few
  show (ir_law_best [.val ZD, .val TD, .val (.int (k : Int)), .val LD, .no, .no, .no, .no, .no]).res = _
  obtain ⟨e, h1, s5, s6, s7, s8, rfl⟩ := forL_inv (ga := gaName 5) (body := lb2_law_best) (ds := rangeD 0 (Z.getD k 0)) (fun i e => ∃ s5 s6 s7 s8, e = [.val ZD, .val TD, .val (.int (k : Int)), .val LD, .own (.lst (nats ((List.range i).filter fun m => (rows Z).all fun r => !decide (lvl l T Z (r.set k m) < lvl l T Z r)))), s5, s6, s7, s8])
    (fun i d env hi ⟨s5, s6, s7, s8, he⟩ => by
      subst he
      have hi2 : i < Z.getD k 0 := by have := (List.getElem?_eq_some_iff.mp hi).1; rw [rangeD_length] at this; exact this
      rw [rangeD_get 0 _ i hi2, Int.zero_add] at hi
      cases hi
      obtain ⟨s7', s8', e1⟩ := lbest2_ok K hZ hT hL hk hi2 (.own (.lst (nats ((List.range i).filter fun m => (rows Z).all fun r => !decide (lvl l T Z (r.set k m) < lvl l T Z r))))) (rows Z) 0 s7 s8 fun r hr => (mem_rows K.sz.pos).mp hr
      have hfl := List.length_filter_le (fun m => (rows Z).all fun r => !decide (lvl l T Z (r.set k m) < lvl l T Z r)) (List.range i)
      rw [List.length_range] at hfl
      have ha : ∀ env : Envt, env[0]? = some (.val ZD) → itSeq (eCall phi_law_plays (aCons (eVar 0) (aNil))) env = .ok (tups (rows Z)) := fun env h0 => by
        have ha : (aCons (eVar 0) (aNil)) env = .ok [ZD] := acons_ok (by unfold eVar; rw [h0]) rfl
        exact SqD.it (d := .lst (tups (rows Z))) (.inl rfl) ((call_ok ha).trans (plays_ok hZ K.sz.pos K.sz.few K.sz.fewz))
      have e0 := eq_zero (n := 0 + ((rows Z).filter fun r => decide (lvl l T Z (r.set k i) < lvl l T Z r)).length)
      rw [Nat.zero_add, filter_zero] at e0
      rw [Nat.zero_add] at e1
      refine ⟨_, [.val ZD, .val TD, .val (.int (k : Int)), .val LD, .own (.lst (nats ((List.range (i + 1)).filter fun m => (rows Z).all fun r => !decide (lvl l T Z (r.set k m) < lvl l T Z r)))), .val (.int (i : Int)), .val (.int (((rows Z).filter fun r => decide (lvl l T Z (r.set k i) < lvl l T Z r)).length : Nat)), s7', s8'], rfl, ?_, _, _, _, _, rfl⟩
      · unfold lb2_law_best
        refine seq_go (e := [.val ZD, .val TD, .val (.int (k : Int)), .val LD, .own (.lst (nats ((List.range i).filter fun m => (rows Z).all fun r => !decide (lvl l T Z (r.set k m) < lvl l T Z r)))), .val (.int (i : Int)), .val (.int ((0 : Nat) : Int)), s7, s8]) rfl ?_
        refine seq_go ((for_ok (ha _ rfl)).trans e1) ?_
        rw [List.range_succ, List.filter_append]
        cases q : (rows Z).all fun r => !decide (lvl l T Z (r.set k i) < lvl l T Z r) with
        | true =>
          rw [q] at e0
          rw [if_t (tfE_bl (b := true) ((bin_ok rfl rfl).trans e0)), List.filter_cons_of_pos (p := fun m => (rows Z).all fun r => !decide (lvl l T Z (r.set k m) < lvl l T Z r)) q]
          refine (app_ok (d := .int (i : Int)) rfl rfl (by rw [nats_length]; omega)).trans ?_
          unfold nats
          rw [List.map_append]
          rfl
        | false =>
          rw [q] at e0
          rw [if_f (tfE_bl (b := false) ((bin_ok rfl rfl).trans e0)), List.filter_cons_of_neg (p := fun m => (rows Z).all fun r => !decide (lvl l T Z (r.set k m) < lvl l T Z r)) (by rw [q]; exact Bool.false_ne_true), List.filter_nil, List.append_nil]
          rfl) (env := [.val ZD, .val TD, .val (.int (k : Int)), .val LD, .own (.lst []), .no, .no, .no, .no]) ⟨_, _, _, _, rfl⟩
  unfold ir_law_best
  refine seq_res (e := [.val ZD, .val TD, .val (.int (k : Int)), .val LD, .own (.lst []), .no, .no, .no, .no]) rfl (seq_res ((for_ok (itR1_ok ((bin_ok (x := ZD) (y := .int (k : Int)) rfl rfl).trans (hZ.ix (nats_get hz))) (by omega))).trans h1) ?_)
  rw [rangeD_length]
  rfl
/-! ### best_messages -/
def blD (z : Nat) (f : Nat → Bool) : List D := (List.range z).map fun m => D.bl (f m)
theorem blD_get {z m : Nat} {f : Nat → Bool} (h : m < z) : (blD z f)[m]? = some (.bl (f m)) := by unfold blD; rw [List.getElem?_map, List.getElem?_range h]; rfl
theorem blD_len {z : Nat} {f : Nat → Bool} : (blD z f).length = z := by unfold blD; rw [List.length_map, List.length_range]
theorem blD_congr {z : Nat} {f g : Nat → Bool} (h : ∀ m, m < z → f m = g m) : blD z f = blD z g := by
  unfold blD
  apply List.map_congr_left
  intro m hm
  rw [h m (List.mem_range.mp hm)]
theorem blD_set {z i : Nat} {f : Nat → Bool} : (blD z f).set i (.bl false) = blD z fun m => f m && !(m == i) := by
  apply List.ext_getElem?
  intro m
  by_cases hm : m < z
  · rw [blD_get hm]
    by_cases q : i = m
    · subst q
      rw [List.getElem?_set_self (by rw [blD_len]; exact hm), beq_self_eq_true, Bool.not_true, Bool.and_false]
    · rw [List.getElem?_set_ne q, blD_get hm, beq_false_of_ne (Ne.symm q), Bool.not_false, Bool.and_true]
  · rw [List.getElem?_eq_none (by rw [List.length_set, blD_len]; omega), List.getElem?_eq_none (by rw [blD_len]; omega)]
theorem setIx_ok {i : Nat} {g f : EF} {env : Envt} {ds : List D} {d : D} {m : Nat} (h : env[i]? = some (.own (.lst ds))) (h1 : f env = .ok d) (h2 : g env = .ok (.int (m : Int))) (hm : m < ds.length) : sSetIx i g f env = .nx (env.set i (.own (.lst (ds.set m d)))) := by
  unfold sSetIx
  rw [h]
  dsimp only
  rw [h1]
  dsimp only
  rw [h2]
  dsimp only
  have : ixN ds.length (m : Int) = some m := by
    unfold ixN
    rw [if_pos (Int.natCast_nonneg m), if_pos (Int.ofNat_lt.mpr hm), Int.toNat_natCast]
  rw [this]
theorem ints_nats : ∀ L : List Nat, D.ints (nats L) = some (L.map fun n : Nat => (n : Int))
  | [] => rfl
  | n :: L => by
    show (D.ints (nats L)).map ((n : Int) :: ·) = _
    rw [ints_nats L]; rfl
theorem max_ok {L : List Nat} (h : L ≠ []) : ∃ mx : Nat, dMax (.lst (nats L)) = .ok (.int (mx : Int)) ∧ mx ∈ L ∧ ∀ y ∈ L, y ≤ mx := by
  have hne : L.map (fun n : Nat => (n : Int)) ≠ [] := fun e => h (List.map_eq_nil_iff.mp e)
  obtain ⟨h1, h2⟩ := maxI_spec hne
  obtain ⟨mx, hm, e⟩ := List.mem_map.mp h1
  refine ⟨mx, ?_, hm, fun y hy => ?_⟩
  · unfold dMax
    dsimp only
    rw [ints_nats]
    dsimp only
    rw [if_neg hne, ← e]
  · have := h2 (y : Int) (List.mem_map.mpr ⟨y, hy, rfl⟩)
    rw [← e] at this
    exact Int.ofNat_le.mp this
abbrev EB (o : Nat) (Z T l : List Nat) (k z : Nat) (f : Nat → Bool) (s6 s7 s8 s9 : Mi.Slot) : Envt :=
  [.val (.ins 7 (gameX o Z T)), .val (.int (k : Int)), .val (.tup (nats l)), .val (.int (z : Int)), .own (.lst (blD z f)), .val (.tup (nats (Z.set k 1))), s6, s7, s8, s9]
theorem bm1_ok (K : GFit o Z T l) {z : Nat} (hz : Z[k]? = some z) (hzs : z < 1000) {q : List Nat} (hq : Ply (Z.set k 1) q) (f : Nat → Bool) (s7 s8 s9 : Mi.Slot) :
    ∃ s7' s8' s9', lb2_best_messages (EB o Z T l k z f (.val (.tup (nats q))) s7 s8 s9) = .nx (EB o Z T l k z (fun m => f m && good l T Z k q m) (.val (.tup (nats q))) s7' s8' s9') := by
  have hk : k < Z.length := (List.getElem?_eq_some_iff.mp hz).1
  have hzD : Z.getD k 0 = z := by rw [List.getD_eq_getElem?_getD, hz]; rfl
  have hz0 := K.sz.pos _ (List.mem_of_getElem? hz)
  have hzb := K.sz.lt _ (List.mem_of_getElem? hz)
  have hqk : k < q.length := by rw [hq.length, List.length_set]; exact hk
  let L := (List.range z).map fun m => lvl l T Z (q.set k m)
  have hLne : L ≠ [] := fun e => by
    have := congrArg List.length e
    rw [List.length_map, List.length_range] at this
    simp at this; omega
  obtain ⟨mx, hmx, hmem, hle⟩ := max_ok hLne
  have hLget : ∀ m, m < z → L[m]? = some (lvl l T Z (q.set k m)) := fun m hm => by show ((List.range z).map _)[m]? = _; rw [List.getElem?_map, List.getElem?_range hm]; rfl
  have hgood : ∀ m, m < z → good l T Z k q m = decide (mx ≤ lvl l T Z (q.set k m)) := fun m hm => by
    unfold good
    rw [hzD]
    apply Bool.eq_iff_iff.mpr
    rw [List.all_eq_true, decide_eq_true_eq]
    constructor
    · intro h
      obtain ⟨m', hm', e⟩ := List.mem_map.mp hmem
      have := of_decide_eq_true (h m' hm')
      rw [e] at this
      exact this
    · intro h m' hm'
      exact decide_eq_true (Nat.le_trans (hle _ (List.mem_map.mpr ⟨m', hm', rfl⟩)) h)
  refine ⟨.own (.lst (nats L)), .val (.int (mx : Int)), ?_⟩
  have e1 : sOwn 7 (oLc [9] (itR1 (eView 3)) (gaName 9) (tfTrue) (eBin dIx (eView 2) (eMeth 7 "outcome" phi_Game_outcome (eVar 0) (aCons (eCall phi_with_message (aCons (eVar 6) (aCons (eVar 1) (aCons (eVar 9) (aNil))))) (aNil))))) (EB o Z T l k z f (.val (.tup (nats q))) s7 s8 s9) = .nx (EB o Z T l k z f (.val (.tup (nats q))) (.own (.lst (nats L))) s8 s9) := by
    refine (own_ok (m := .lst (nats L)) (oLc_ok (ds := rangeD 0 z) (itR1_ok rfl (by omega)) ?_ ?_) rfl).trans rfl
    · have := lcL_ok (ga := gaName 9) (t := tfTrue) (fe := eBin dIx (eView 2) (eMeth 7 "outcome" phi_Game_outcome (eVar 0) (aCons (eCall phi_with_message (aCons (eVar 6) (aCons (eVar 1) (aCons (eVar 9) (aNil))))) (aNil)))) (env := wipeE (EB o Z T l k z f (.val (.tup (nats q))) s7 s8 s9) [9]) (fun _ => true) (fun d => match d with
        | .int i => .int (lvl l T Z (q.set k i.toNat) : Nat)
        | _ => .non) (rangeD 0 z) fun d hd => ?_
      · rw [this, filt_true, rangeD0, List.map_map]
        congr 1
        show _ = nats ((List.range z).map _)
        unfold nats
        rw [List.map_map]
        rfl
      · obtain ⟨m, hm, rfl⟩ := mem_rangeD hd
        rw [Int.zero_add]
        have hp := ply_unset Z q k m z hq hz hm
        obtain ⟨o1, o2⟩ := K.out hp
        refine ⟨_, rfl, rfl, fun _ => ?_⟩
        have ha : (aCons (eVar 6) (aCons (eVar 1) (aCons (eVar 9) (aNil)))) ((wipeE (EB o Z T l k z f (.val (.tup (nats q))) s7 s8 s9) [9]).set 9 (.val (.int (m : Int)))) = .ok [.tup (nats q), .int (k : Int), .int (m : Int)] := acons_ok rfl (acons_ok rfl (acons_ok rfl rfl))
        have hw := (call_ok (φ := phi_with_message) ha).trans (with_ok rfl hqk (by rw [hq.length, List.length_set]; have := K.sz.fewz; omega))
        have hm2 : eMeth 7 "outcome" phi_Game_outcome (eVar 0) (aCons (eCall phi_with_message (aCons (eVar 6) (aCons (eVar 1) (aCons (eVar 9) (aNil))))) (aNil)) ((wipeE (EB o Z T l k z f (.val (.tup (nats q))) s7 s8 s9) [9]).set 9 (.val (.int (m : Int)))) = .ok (.int (T.getD (num Z (q.set k m) 0) 0 : Nat)) := by
          unfold eMeth
          rw [show eVar 0 ((wipeE (EB o Z T l k z f (.val (.tup (nats q))) s7 s8 s9) [9]).set 9 (.val (.int (m : Int)))) = .ok (.ins 7 (gameX o Z T)) from rfl]
          dsimp only [Res.bind]
          rw [if_pos ⟨rfl, gfld_no⟩, acons_ok hw rfl]
          exact outcome_ok hp (fun z hz => by have := K.sz.lt z hz; omega) o1
        exact (bin_ok (x := .tup (nats l)) (y := .int (T.getD (num Z (q.set k m) 0) 0 : Nat)) rfl hm2).trans (ixT (nats_get o2))
    · rw [nats_length]
      show ((List.range z).map _).length < 1000
      rw [List.length_map, List.length_range]
      exact hzs
  have e2 : sAsg 8 (eU dMax (eView 7)) (EB o Z T l k z f (.val (.tup (nats q))) (.own (.lst (nats L))) s8 s9) = .nx (EB o Z T l k z f (.val (.tup (nats q))) (.own (.lst (nats L))) (.val (.int (mx : Int))) s9) := asg_ok ((u_ok (x := .lst (nats L)) rfl).trans hmx)
  obtain ⟨e, h1, s9', rfl⟩ := forL_inv (ga := gaName 9) (body := lb1_best_messages) (ds := rangeD 0 z) (fun i e => ∃ s9', e = EB o Z T l k z (fun m => f m && (!decide (m < i) || good l T Z k q m)) (.val (.tup (nats q))) (.own (.lst (nats L))) (.val (.int (mx : Int))) s9')
    (fun i d env hi ⟨s9', he⟩ => by
      subst he
      have hi2 : i < z := by have := (List.getElem?_eq_some_iff.mp hi).1; rw [rangeD_length] at this; exact this
      rw [rangeD_get 0 _ i hi2, Int.zero_add] at hi
      cases hi
      refine ⟨_, EB o Z T l k z (fun m => f m && (!decide (m < i + 1) || good l T Z k q m)) (.val (.tup (nats q))) (.own (.lst (nats L))) (.val (.int (mx : Int))) (.val (.int (i : Int))), rfl, ?_, _, rfl⟩
      have ht : eBin dLt (eBin dIx (eView 7) (eView 9)) (eView 8) (EB o Z T l k z (fun m => f m && (!decide (m < i) || good l T Z k q m)) (.val (.tup (nats q))) (.own (.lst (nats L))) (.val (.int (mx : Int))) (.val (.int (i : Int)))) = .ok (.bl (decide (lvl l T Z (q.set k i) < mx))) :=
        (bin_ok ((bin_ok (x := .lst (nats L)) (y := .int (i : Int)) rfl rfl).trans (ixL (nats_get (hLget i hi2)))) rfl).trans lt_ok
      unfold lb1_best_messages
      by_cases hlt : lvl l T Z (q.set k i) < mx
      · refine (if_t (tfE_bl (b := true) (ht.trans (by rw [decide_eq_true hlt])))).trans ?_
        refine (setIx_ok (ds := blD z _) (d := .bl false) (m := i) rfl rfl rfl (by rw [blD_len]; exact hi2)).trans ?_
        rw [blD_set]
        show Out.nx (EB o Z T l k z _ _ _ _ _) = _
        have : blD z (fun m => (f m && (!decide (m < i) || good l T Z k q m)) && !(m == i)) = blD z (fun m => f m && (!decide (m < i + 1) || good l T Z k q m)) := blD_congr fun m hm => by
          by_cases q1 : m = i
          · subst q1
            rw [hgood m hm, decide_eq_false (show ¬ mx ≤ lvl l T Z (q.set k m) by omega)]
            simp
          · have : decide (m < i + 1) = decide (m < i) := by apply decide_eq_decide.mpr; omega
            rw [this, beq_false_of_ne q1, Bool.not_false, Bool.and_true]
        show Out.nx [_, _, _, _, .own (.lst (blD z (fun m => (f m && (!decide (m < i) || good l T Z k q m)) && !(m == i)))), _, _, _, _, _] = _
        rw [this]
      · refine (if_f (tfE_bl (b := false) (ht.trans (by rw [decide_eq_false hlt])))).trans ?_
        have : blD z (fun m => (f m && (!decide (m < i) || good l T Z k q m))) = blD z (fun m => f m && (!decide (m < i + 1) || good l T Z k q m)) := blD_congr fun m hm => by
          by_cases q1 : m = i
          · subst q1
            rw [hgood m hm, decide_eq_true (show mx ≤ lvl l T Z (q.set k m) by omega), Bool.or_true, Bool.or_true]
          · have : decide (m < i + 1) = decide (m < i) := by apply decide_eq_decide.mpr; omega
            rw [this]
        show Out.nx [_, _, _, _, .own (.lst (blD z (fun m => (f m && (!decide (m < i) || good l T Z k q m))))), _, _, _, _, _] = _
        rw [this]) (env := EB o Z T l k z f (.val (.tup (nats q))) (.own (.lst (nats L))) (.val (.int (mx : Int))) s9) ⟨s9, by
      have : blD z f = blD z (fun m => f m && (!decide (m < 0) || good l T Z k q m)) := blD_congr fun m hm => by simp
      show [(_ : Mi.Slot), _, _, _, Mi.Slot.own (Mi.Mu.lst (blD z f)), _, _, _, _, _] = _
      rw [this]⟩
  refine ⟨s9', ?_⟩
  unfold lb2_best_messages
  refine seq_go e1 (seq_go e2 ((for_ok (itR1_ok (n := z) rfl (by omega))).trans (h1.trans ?_)))
  rw [rangeD_length]
  have : blD z (fun m => f m && (!decide (m < z) || good l T Z k q m)) = blD z (fun m => f m && good l T Z k q m) := blD_congr fun m hm => by
    rw [decide_eq_true hm]; simp
  show Out.nx (EB o Z T l k z _ _ _ _ _) = Out.nx (EB o Z T l k z _ _ _ _ _)
  unfold EB
  rw [this]
theorem bm2_ok (K : GFit o Z T l) {z : Nat} (hz : Z[k]? = some z) (hzs : z < 1000) : ∀ (R : List (List Nat)) (f : Nat → Bool) (s6 s7 s8 s9 : Mi.Slot), (∀ q ∈ R, Ply (Z.set k 1) q) →
    ∃ s6' s7' s8' s9', forG (gaName 6) lb2_best_messages (tups R) (EB o Z T l k z f s6 s7 s8 s9) = .nx (EB o Z T l k z (fun m => f m && R.all fun q => good l T Z k q m) s6' s7' s8' s9')
  | [], f, s6, s7, s8, s9, _ => ⟨s6, s7, s8, s9, by
    have : (fun m => f m && ([] : List (List Nat)).all fun q => good l T Z k q m) = f := by funext m; simp
    rw [this]; rfl⟩
  | q :: R, f, s6, s7, s8, s9, h => by
    obtain ⟨s7', s8', s9', e1⟩ := bm1_ok K hz hzs (h q List.mem_cons_self) f s7 s8 s9
    obtain ⟨t6, t7, t8, t9, e2⟩ := bm2_ok K hz hzs R (fun m => f m && good l T Z k q m) (.val (.tup (nats q))) s7' s8' s9' fun x hx => h x (List.mem_cons_of_mem _ hx)
    refine ⟨t6, t7, t8, t9, ?_⟩
    show forG (gaName 6) lb2_best_messages (.tup (nats q) :: tups R) _ = _
    rw [forG_nx (env1 := EB o Z T l k z f (.val (.tup (nats q))) s7 s8 s9) rfl e1, e2]
    have : (fun m => (f m && good l T Z k q m) && R.all fun q => good l T Z k q m) = fun m => f m && (q :: R).all fun q => good l T Z k q m := by
      funext m
      rw [List.all_cons, Bool.and_assoc]
    rw [this]
theorem best_messages_ok (K : GFit o Z T l) (hk : k < Z.length) (hb : prodL Z ≤ 4096) (hz1 : ∀ z ∈ Z, z < 1000) : phi_best_messages [.ins 7 (gameX o Z T), .int (k : Int), .tup (nats l)] = .ok (.tup (nats (bestN l T Z k))) := by
  have hz := getD_some (d := 0) hk
  have hzs := hz1 _ (List.mem_of_getElem? hz)
  have few := K.sz.few
  have fewz := K.sz.fewz
  show (ir_best_messages [.val (.ins 7 (gameX o Z T)), .val (.int (k : Int)), .val (.tup (nats l)), .no, .no, .no, .no, .no, .no, .no]).res = _
  have hs : ∀ env : Envt, env[0]? = some (.val (.ins 7 (gameX o Z T))) → eFld [7, 8] "sizes" (eView 0) env = .ok (.tup (nats Z)) := fun env h => fld_ok (c := 7) (fs := gameX o Z T) (by unfold eView; rw [h]) rfl gfld_sizes
  have hcc : phi_check_count [.tup (nats Z), .int 4096] = .ok .non := by
    show (ir_check_count [.val (.tup (nats Z)), .val (.int 4096)]).res = _
    unfold ir_check_count
    have ha : (aCons (eVar 0) (aNil)) [.val (.tup (nats Z)), .val (.int 4096)] = .ok [.tup (nats Z)] := acons_ok rfl rfl
    have hc := (call_ok (φ := phi_count_plays) ha).trans (count_ok (.inr rfl) (by omega) K.sz.pos)
    rw [if_f (tfE_bl (b := false) ((bin_ok (x := .int (prodL Z : Int)) (y := .int ((4096 : Nat) : Int)) hc rfl).trans (gt_ok.trans (by rw [decide_eq_false (by omega)]))))]
    rfl
  unfold ir_best_messages
  refine seq_res (e := [.val (.ins 7 (gameX o Z T)), .val (.int (k : Int)), .val (.tup (nats l)), .no, .no, .no, .no, .no, .no, .no]) (exp_ok ((call_ok (acons_ok (hs _ rfl) (acons_ok rfl rfl))).trans hcc)) ?_
  refine seq_res (e := [.val (.ins 7 (gameX o Z T)), .val (.int (k : Int)), .val (.tup (nats l)), .val (.int (Z.getD k 0 : Nat)), .no, .no, .no, .no, .no, .no]) (asg_ok ((bin_ok (hs _ rfl) rfl).trans (ixT (nats_get hz)))) ?_
  refine seq_res (e := [.val (.ins 7 (gameX o Z T)), .val (.int (k : Int)), .val (.tup (nats l)), .val (.int (Z.getD k 0 : Nat)), .own (.lst (blD (Z.getD k 0) fun _ => true)), .no, .no, .no, .no, .no]) ?_ ?_
  · have hrep : blD (Z.getD k 0) (fun _ => true) = List.replicate (Z.getD k 0) (.bl true) := by
      unfold blD
      apply List.ext_getElem?
      intro i
      rw [List.getElem?_map, List.getElem?_replicate]
      by_cases hi : i < Z.getD k 0
      · rw [List.getElem?_range hi, if_pos hi]; rfl
      · rw [if_neg hi, List.getElem?_eq_none (by rw [List.length_range]; omega)]; rfl
    rw [hrep]
    exact (own_ok (rep_ok (d := .bl true) rfl rfl (by omega)) rfl).trans rfl
  refine seq_res (e := EB o Z T l k (Z.getD k 0) (fun _ => true) .no .no .no .no) (asg_ok ((call_ok (acons_ok (hs _ rfl) (acons_ok rfl (acons_ok rfl rfl)))).trans (with_ok (m := 1) rfl hk (by omega)))) ?_
  obtain ⟨s6, s7, s8, s9, e1⟩ := bm2_ok K hz hzs (rows (Z.set k 1)) (fun _ => true) .no .no .no .no fun q hq => (mem_rows (pos_set1 K.sz.pos)).mp hq
  have ha : (aCons (eVar 5) (aNil)) (EB o Z T l k (Z.getD k 0) (fun _ => true) .no .no .no .no) = .ok [.tup (nats (Z.set k 1))] := acons_ok rfl rfl
  refine seq_res ((forG_ok (ds := tups (rows (Z.set k 1))) (by rw [ha, bind_okk]; exact gplays_ok (.inr rfl) (K.sz.set1 k))).trans e1) ?_
  have hlc : oLc [9] (itR1 (eView 3)) (gaName 9) (tfE (eBin dIx (eView 4) (eView 9))) (eVar 9) (EB o Z T l k (Z.getD k 0) (fun m => true && (rows (Z.set k 1)).all fun q => good l T Z k q m) s6 s7 s8 s9) = .ok (.lst (nats (bestN l T Z k))) := by
    rw [best_same K hk]
    have hfl := List.length_filter_le (fun m => (rows (Z.set k 1)).all fun q => good l T Z k q m) (List.range (Z.getD k 0))
    rw [List.length_range] at hfl
    refine oLc_ok (ds := rangeD 0 (Z.getD k 0)) (itR1_ok rfl (by omega)) ?_ (by rw [nats_length]; omega)
    have := lcL_ok (ga := gaName 9) (t := tfE (eBin dIx (eView 4) (eView 9))) (fe := eVar 9) (env := wipeE (EB o Z T l k (Z.getD k 0) (fun m => true && (rows (Z.set k 1)).all fun q => good l T Z k q m) s6 s7 s8 s9) [9]) (fun d => match d with
      | .int i => (rows (Z.set k 1)).all fun q => good l T Z k q i.toNat
      | _ => false) id (rangeD 0 (Z.getD k 0)) fun d hd => ?_
    · rw [this, List.map_id, rangeD0, List.filter_map]
      rfl
    · obtain ⟨m, hm, rfl⟩ := mem_rangeD hd
      rw [Int.zero_add]
      refine ⟨_, rfl, tfE_bl ?_, fun _ => rfl⟩
      refine (bin_ok (x := .lst (blD (Z.getD k 0) fun m => true && (rows (Z.set k 1)).all fun q => good l T Z k q m)) (y := .int (m : Int)) rfl rfl).trans ((ixL (blD_get hm)).trans ?_)
      rw [Bool.true_and]
      rfl
  rw [ret_ok (d := .tup (nats (bestN l T Z k)))]
  · rfl
  · unfold eU eO
    rw [hlc]
    rfl
end
end Law
end
section
set_option maxRecDepth 100000
set_option maxHeartbeats 4000000
namespace Rx
/-! ## dense levels -/
def insN (k : Nat) : List Nat → List Nat
  | [] => [k]
  | x :: r => if k < x then k :: x :: r else if k = x then x :: r else x :: insN k r
def srtN : List Nat → List Nat
  | [] => []
  | x :: r => insN x (srtN r)
theorem mem_insN {k j : Nat} : ∀ {l : List Nat}, j ∈ insN k l ↔ j = k ∨ j ∈ l
  | [] => by simp [insN]
  | x :: r => by
    unfold insN
    split
    · simp
    · split
      · rename_i h; subst h; simp
      · simp only [List.mem_cons, mem_insN (l := r)]
        constructor
        · rintro (h | h | h)
          · exact .inr (.inl h)
          · exact .inl h
          · exact .inr (.inr h)
        · rintro (h | h | h)
          · exact .inr (.inl h)
          · exact .inl h
          · exact .inr (.inr h)
theorem mem_srtN {j : Nat} : ∀ {l : List Nat}, j ∈ srtN l ↔ j ∈ l
  | [] => Iff.rfl
  | x :: r => by
    unfold srtN
    rw [mem_insN, mem_srtN (l := r), List.mem_cons]
theorem asc_insN {k : Nat} : ∀ {l : List Nat}, l.Pairwise (· < ·) → (insN k l).Pairwise (· < ·)
  | [], _ => by simp [insN]
  | x :: r, h => by
    obtain ⟨h1, h2⟩ := List.pairwise_cons.mp h
    unfold insN
    split
    · rename_i hk
      refine List.pairwise_cons.mpr ⟨fun y hy => ?_, h⟩
      rcases List.mem_cons.mp hy with e | hy
      · rw [e]; exact hk
      · exact Nat.lt_trans hk (h1 y hy)
    · split
      · exact h
      · rename_i hk1 hk2
        refine List.pairwise_cons.mpr ⟨fun y hy => ?_, asc_insN h2⟩
        rcases mem_insN.mp hy with e | hy
        · rw [e]; omega
        · exact h1 y hy
theorem asc_srtN : ∀ (l : List Nat), (srtN l).Pairwise (· < ·)
  | [] => List.Pairwise.nil
  | x :: r => asc_insN (asc_srtN r)
theorem asc_ext : ∀ {a b : List Nat}, a.Pairwise (· < ·) → b.Pairwise (· < ·) → (∀ x, x ∈ a ↔ x ∈ b) → a = b
  | [], [], _, _, _ => rfl
  | [], y :: b, _, _, h => absurd ((h y).mpr List.mem_cons_self) (by simp)
  | x :: a, [], _, _, h => absurd ((h x).mp List.mem_cons_self) (by simp)
  | x :: a, y :: b, ha, hb, h => by
    obtain ⟨a1, a2⟩ := List.pairwise_cons.mp ha
    obtain ⟨b1, b2⟩ := List.pairwise_cons.mp hb
    have e : x = y := by
      rcases List.mem_cons.mp ((h x).mp List.mem_cons_self) with e | h1
      · exact e
      · rcases List.mem_cons.mp ((h y).mpr List.mem_cons_self) with e | h2
        · exact e.symm
        · have := a1 y h2
          have := b1 x h1
          omega
    subst e
    congr 1
    refine asc_ext a2 b2 fun z => ⟨fun hz => ?_, fun hz => ?_⟩
    · rcases List.mem_cons.mp ((h z).mp (List.mem_cons_of_mem _ hz)) with e | h1
      · have := a1 z hz; omega
      · exact h1
    · rcases List.mem_cons.mp ((h z).mpr (List.mem_cons_of_mem _ hz)) with e | h1
      · have := b1 z hz; omega
      · exact h1
def den (l : List Nat) : List Nat := l.map fun x => (srtN l).idxOf x
theorem den_length (l : List Nat) : (den l).length = l.length := List.length_map _
theorem asc_range (n : Nat) : (List.range n).Pairwise (· < ·) := List.pairwise_lt_range
theorem asc_nodup {l : List Nat} (h : l.Pairwise (· < ·)) : l.Nodup := h.imp fun h => Nat.ne_of_lt h
theorem idxOf_getElem' : ∀ {l : List Nat} {i : Nat} (h : i < l.length), l.Nodup → l.idxOf l[i] = i
  | [], i, h, _ => by cases h
  | x :: l, 0, _, _ => by rw [List.getElem_cons_zero, List.idxOf_cons_self]
  | x :: l, i + 1, h, hn => by
    obtain ⟨h1, h2⟩ := List.nodup_cons.mp hn
    have hi : i < l.length := by simpa using h
    rw [List.getElem_cons_succ, List.idxOf_cons, beq_false_of_ne (fun e => h1 (by rw [e]; exact List.getElem_mem hi))]
    show l.idxOf l[i] + 1 = i + 1
    rw [idxOf_getElem' hi h2]
theorem srt_den (l : List Nat) : srtN (den l) = List.range (srtN l).length := by
  refine asc_ext (asc_srtN _) (asc_range _) fun v => ?_
  rw [mem_srtN, List.mem_range]
  unfold den
  constructor
  · intro h
    obtain ⟨x, hx, rfl⟩ := List.mem_map.mp h
    exact List.idxOf_lt_length_of_mem (mem_srtN.mpr hx)
  · intro h
    refine List.mem_map.mpr ⟨(srtN l)[v], mem_srtN.mp (List.getElem_mem h), idxOf_getElem' h (asc_nodup (asc_srtN l))⟩
theorem idxOf_range {n v : Nat} (h : v < n) : (List.range n).idxOf v = v := by
  have := idxOf_getElem' (l := List.range n) (i := v) (by rw [List.length_range]; exact h) (asc_nodup (asc_range n))
  rw [List.getElem_range] at this
  exact this
theorem den_den (l : List Nat) : den (den l) = den l := by
  unfold den
  show (den l).map (fun x => (srtN (den l)).idxOf x) = den l
  rw [srt_den]
  have : (den l).map (fun x => (List.range (srtN l).length).idxOf x) = (den l).map id := by
    apply List.map_congr_left
    intro v hv
    have : v ∈ srtN (den l) := mem_srtN.mpr hv
    rw [srt_den, List.mem_range] at this
    rw [idxOf_range this]; rfl
  rw [this, List.map_id]
end Rx
namespace Law
open PySem PySem.Spec L2 Mi Rx
theorem ins_cast (k : Nat) : ∀ l : List Nat, insD (k : Int) (l.map fun n : Nat => (n : Int)) = (insN k l).map fun n : Nat => (n : Int)
  | [] => rfl
  | x :: l => by
    show (if (k : Int) < (x : Int) then _ else if (k : Int) = (x : Int) then _ else _) = _
    unfold insN
    by_cases h : k < x
    · rw [if_pos (Int.ofNat_lt.mpr h), if_pos h]; rfl
    · rw [if_neg (fun z => h (Int.ofNat_lt.mp z)), if_neg h]
      by_cases h2 : k = x
      · rw [if_pos (by rw [h2]), if_pos h2]; rfl
      · rw [if_neg (by omega), if_neg h2]
        show (x : Int) :: insD (k : Int) (l.map _) = _
        rw [ins_cast k l]; rfl
theorem srt_cast : ∀ l : List Nat, sortD (l.map fun n : Nat => (n : Int)) = (srtN l).map fun n : Nat => (n : Int)
  | [] => rfl
  | x :: l => by
    show insD (x : Int) (sortD (l.map _)) = _
    rw [srt_cast l, ins_cast]; rfl
theorem toPs_nats : ∀ l : List Nat, D.toPs (nats l) = l.map fun n : Nat => PyData.int (n : Int)
  | [] => rfl
  | x :: l => by show PyData.int (x : Int) :: D.toPs (nats l) = _; rw [toPs_nats l]; rfl
theorem canLay_ints : ∀ l : List Nat, PyData.canLayAll0 (l.map fun n : Nat => PyData.int (n : Int)) = true
  | [] => rfl
  | x :: l => by
    show (PyData.canLay0 (.int (x : Int)) && PyData.canLayAll0 (l.map _)) = true
    rw [canLay_ints l]; rfl
theorem depth_ints : ∀ l : List Nat, PyData.depthAll (l.map fun n : Nat => PyData.int (n : Int)) = 0
  | [] => rfl
  | x :: l => by
    show max (PyData.depth (.int (x : Int))) (PyData.depthAll (l.map _)) = 0
    rw [depth_ints l]; rfl
theorem shaped_seq {d : D} {l : List Nat} (h : SqD d (nats l)) : D.shaped d = true := by
  have h1 : ∀ d', (d' = PyData.list (D.toPs (nats l)) ∨ d' = PyData.tuple (D.toPs (nats l))) → SeqAt.shaped d' = true := fun d' hd => by
    unfold SeqAt.shaped
    rw [Bool.and_eq_true, decide_eq_true_eq]
    rcases hd with rfl | rfl
    · refine ⟨?_, ?_⟩
      · show PyData.canLayAll0 _ = true
        rw [toPs_nats]; exact canLay_ints l
      · show PyData.depthAll _ + 1 ≤ 64
        rw [toPs_nats, depth_ints]; omega
    · refine ⟨?_, ?_⟩
      · show PyData.canLayAll0 _ = true
        rw [toPs_nats]; exact canLay_ints l
      · show PyData.depthAll _ + 1 ≤ 64
        rw [toPs_nats, depth_ints]; omega
  rcases h with rfl | rfl
  · exact h1 _ (.inl rfl)
  · exact h1 _ (.inr rfl)
theorem eqv_int {a b : Nat} : PyData.eqv (.int (a : Int)) (.int (b : Int)) = (a == b) := by
  show ((a : Int) == (b : Int)) = _
  by_cases h : a = b
  · subst h; rw [beq_self_eq_true, beq_self_eq_true]
  · rw [beq_false_of_ne h, beq_false_of_ne (by omega)]
theorem ix_nats (x : Nat) : ∀ (s : List Nat) (n : Nat), x ∈ s → ixD (D.toP (.int (x : Int))) (nats s) n = some (n + s.idxOf x)
  | [], n, h => by cases h
  | y :: s, n, h => by
    show (if PyData.eqv (D.toP (.int (y : Int))) (D.toP (.int (x : Int))) = true then some n else ixD _ (nats s) (n + 1)) = _
    rw [show D.toP (.int (y : Int)) = .int (y : Int) from rfl, show D.toP (.int (x : Int)) = .int (x : Int) from rfl, eqv_int]
    by_cases q : y = x
    · subst q
      rw [beq_self_eq_true, if_pos rfl, List.idxOf_cons_self, Nat.add_zero]
    · rw [beq_false_of_ne q, if_neg Bool.false_ne_true]
      have h' : x ∈ s := (List.mem_cons.mp h).resolve_left fun e => q e.symm
      have := ix_nats x s (n + 1) h'
      rw [show D.toP (.int (x : Int)) = .int (x : Int) from rfl] at this
      rw [this, List.idxOf_cons, beq_false_of_ne q]
      show some (n + 1 + s.idxOf x) = some (n + (s.idxOf x + 1))
      congr 1
      omega
theorem index_ok {s : List Nat} {x : Nat} (h : x ∈ s) : dIndex (nats s) (.int (x : Int)) = .ok (.int (s.idxOf x : Int)) := by
  unfold dIndex
  rw [if_pos ⟨shaped_seq (.inl rfl), rfl⟩, ix_nats x s 0 h, Nat.zero_add]
theorem sortSet_ok {d : D} {l : List Nat} (h : SqD d (nats l)) (hl : l.length < 64) : dSortSet d = .ok (.lst (nats (srtN l))) := by
  have hi : d.items = some (nats l) := by rcases h with rfl | rfl <;> rfl
  unfold dSortSet
  rw [hi]
  dsimp only
  rw [ints_nats]
  dsimp only
  rw [if_pos (by rw [List.length_map]; exact hl), srt_cast]
  unfold nats
  rw [List.map_map]
  rfl
theorem den_core {d : D} {l : List Nat} (h : SqD d (nats l)) (hl : l.length < 64) : ∀ s2 : Mi.Slot, oLc [2] (itSeq (eVar 0)) (gaName 2) (tfTrue) (eIdx (eView 1) (eView 2)) [.val d, .own (.lst (nats (srtN l))), s2] = .ok (.lst (nats (den l))) := fun s2 => by
  refine oLc_ok (ds := nats l) (h.it rfl) ?_ (by rw [nats_length, den_length]; omega)
  have := lcL_ok (ga := gaName 2) (t := tfTrue) (fe := eIdx (eView 1) (eView 2)) (env := wipeE [.val d, .own (.lst (nats (srtN l))), s2] [2]) (fun _ => true) (fun x => match x with
    | .int i => .int ((srtN l).idxOf i.toNat : Nat)
    | _ => .non) (nats l) fun x hx => ?_
  · rw [this, filt_true]
    unfold nats den
    rw [List.map_map, List.map_map]
    rfl
  · obtain ⟨n, hn, rfl⟩ := List.mem_map.mp hx
    refine ⟨_, rfl, rfl, fun _ => ?_⟩
    exact index_ok (mem_srtN.mpr hn)
theorem dense_ok {d : D} {l : List Nat} (h : SqD d (nats l)) (hl : l.length < 64) : phi_law_dense [d] = .ok (.tup (nats (den l))) := by
  show (ir_law_dense [.val d, .no, .no]).res = _
  unfold ir_law_dense
  refine seq_res (e := [.val d, .own (.lst (nats (srtN l))), .no]) ((own_ok (m := .lst (nats (srtN l))) (sortSet_ok h hl) rfl).trans rfl) ?_
  rw [ret_ok (d := .tup (nats (den l)))]
  · rfl
  · unfold eU eO
    rw [den_core h hl]
    rfl
theorem liking_of_ok {d : D} {l : List Nat} (h : SqD d (nats l)) (hl : l.length < 64) : phi_liking_of [d] = .ok (.tup (nats (den l))) := by
  show (ir_liking_of [.val d, .no, .no]).res = _
  unfold ir_liking_of
  refine seq_res (e := [.val d, .own (.lst (nats (srtN l))), .no]) ((own_ok (m := .lst (nats (srtN l))) (sortSet_ok h hl) rfl).trans rfl) ?_
  rw [ret_ok (d := .tup (nats (den l)))]
  · rfl
  · unfold eU eO
    rw [den_core h hl]
    rfl
theorem eqvAll_self : ∀ l : List Nat, PyData.eqvAll (D.toPs (nats l)) (D.toPs (nats l)) = true
  | [] => rfl
  | x :: l => by
    show (PyData.eqv (.int (x : Int)) (.int (x : Int)) && PyData.eqvAll (D.toPs (nats l)) (D.toPs (nats l))) = true
    rw [eqv_int, beq_self_eq_true, eqvAll_self l]; rfl
theorem eq_tup (l : List Nat) : dEq (.tup (nats l)) (.tup (nats l)) = .ok (.bl true) := by
  unfold dEq
  rw [if_pos ⟨shaped_seq (.inr rfl), shaped_seq (.inr rfl)⟩]
  show Res.ok (D.bl (PyData.eqvAll (D.toPs (nats l)) (D.toPs (nats l)))) = _
  rw [eqvAll_self]
theorem eq_nat {a b : Nat} : dEq (.int (a : Int)) (.int (b : Int)) = .ok (.bl (a == b)) := by
  unfold dEq
  rw [if_pos (⟨rfl, rfl⟩ : D.shaped (.int (a : Int)) = true ∧ D.shaped (.int (b : Int)) = true)]
  show Res.ok (D.bl (PyData.eqv (.int (a : Int)) (.int (b : Int)))) = _
  rw [eqv_int]
theorem and_ok {f g : EF} {env : Envt} {r : Res D} (h : f env = .ok (.bl true)) (k : g env = r) : eAnd f g env = r := by
  unfold eAnd
  rw [h]
  exact k
/-- a liking of o outcomes -/
def Lik (o : Nat) (l : List Nat) : Prop := l.length = o ∧ den l = l
theorem is_liking_ok {d : D} {l : List Nat} {o : Nat} (h : SqD d (nats l)) (hl : Lik o l) (ho : o < 64) : phi_is_liking [d, .int (o : Int)] = .ok (.bl true) := by
  have hlen := hl.1
  have ha : (aCons (eVar 0) (aNil)) [.val d, .val (.int (o : Int))] = .ok [d] := acons_ok rfl rfl
  have e1 : eBin dEq (eU dLen (eView 0)) (eView 1) [.val d, .val (.int (o : Int))] = .ok (.bl true) := (bin_ok ((u_ok (x := d) rfl).trans (h.len.trans (by rw [nats_length, hlen]))) rfl).trans (eq_nat.trans (by rw [beq_self_eq_true]))
  have e2 : eBin dEq (eU dTuple (eView 0)) (eCall phi_liking_of (aCons (eVar 0) (aNil))) [.val d, .val (.int (o : Int))] = .ok (.bl true) := by
    refine (bin_ok ((u_ok (x := d) rfl).trans h.tuple) ((call_ok ha).trans (liking_of_ok h (by omega)))).trans ?_
    rw [hl.2]; exact eq_tup l
  show (ir_is_liking [.val d, .val (.int (o : Int))]).res = _
  unfold ir_is_liking
  rw [ret_ok (and_ok e1 e2)]
  rfl
theorem nub_nodup {α : Type} [DecidableEq α] : ∀ {l : List α}, l.Nodup → nub l = l
  | [], _ => rfl
  | x :: r, h => by
    obtain ⟨h1, h2⟩ := List.nodup_cons.mp h
    unfold nub
    rw [if_neg h1, nub_nodup h2]
theorem castl_inj {a b : List Nat} (h : (a.map fun n : Nat => (n : Int)) = b.map fun n : Nat => (n : Int)) : a = b := by
  induction a generalizing b with
  | nil => cases b with
    | nil => rfl
    | cons y b => cases h
  | cons x a ih => cases b with
    | nil => cases h
    | cons y b =>
      have h1 := List.cons.inj h
      rw [Int.ofNat.inj h1.1, ih h1.2]
/-- some likings handed in as a row of rows -/
def RowD (R : D) (L : List (List Nat)) : Prop := ∃ ds : List D, SqD R ds ∧ ds.length = L.length ∧ ∀ (i : Nat) (d : D) (l : List Nat), ds[i]? = some d → L[i]? = some l → SqD d (nats l)
theorem RowD.mem {R : D} {L : List (List Nat)} {ds : List D} (hl : ds.length = L.length) (h : ∀ (i : Nat) (d : D) (l : List Nat), ds[i]? = some d → L[i]? = some l → SqD d (nats l)) {d : D} (hd : d ∈ ds) : ∃ l ∈ L, SqD d (nats l) := by
  obtain ⟨i, hi⟩ := List.getElem?_of_mem hd
  have hil := (List.getElem?_eq_some_iff.mp hi).1
  have e : L[i]? = some (L[i]'(by omega)) := List.getElem?_eq_getElem (by omega)
  exact ⟨_, List.mem_of_getElem? e, h i d _ hi e⟩
theorem map_tuple {ds : List D} {L : List (List Nat)} (hl : ds.length = L.length) (h : ∀ (i : Nat) (d : D) (l : List Nat), ds[i]? = some d → L[i]? = some l → SqD d (nats l)) : ds.map (fun d => gd (dTuple d)) = tups L := by
  unfold tups
  apply List.ext_getElem?
  intro i
  rw [List.getElem?_map, List.getElem?_map]
  by_cases hi : i < ds.length
  · have e1 : ds[i]? = some ds[i] := List.getElem?_eq_getElem hi
    have e2 : L[i]? = some (L[i]'(by omega)) := List.getElem?_eq_getElem (by omega)
    rw [e1, e2]
    show some (gd (dTuple ds[i])) = some _
    rw [(h i _ _ e1 e2).tuple]
    rfl
  · rw [List.getElem?_eq_none (by omega), List.getElem?_eq_none (by omega)]; rfl
theorem are_likings_ok {R : D} {L : List (List Nat)} {o : Nat} (h : RowD R L) (ho : o < 64) (hg : ∀ l ∈ L, Lik o l) (h1 : 1 ≤ L.length) (h6 : L.length ≤ 6) (hn : L.Nodup) : phi_are_likings [R, .int (o : Int)] = .ok (.bl true) := by
  obtain ⟨ds, hs, hl, hi⟩ := h
  show (ir_are_likings [.val R, .val (.int (o : Int)), .no]).res = _
  obtain ⟨e, e1, s2, rfl⟩ := forL_inv (ga := gaName 2) (body := lb1_are_likings) (ds := ds) (fun i e => ∃ s2, e = [.val R, .val (.int (o : Int)), s2])
    (fun i d env hd ⟨s2, he⟩ => by
      subst he
      obtain ⟨l, hlm, hsq⟩ := RowD.mem (R := R) hl hi (List.mem_of_getElem? hd)
      refine ⟨_, [.val R, .val (.int (o : Int)), .val d], rfl, ?_, _, rfl⟩
      have ha : (aCons (eVar 2) (aCons (eVar 1) (aNil))) [.val R, .val (.int (o : Int)), .val d] = .ok [d, .int (o : Int)] := acons_ok rfl (acons_ok rfl rfl)
      unfold lb1_are_likings
      exact (if_f (tfNot_bl (b := true) (tfE_bl ((call_ok ha).trans (is_liking_ok hsq (hg l hlm) ho))))).trans rfl) (env := [.val R, .val (.int (o : Int)), .no]) ⟨_, rfl⟩
  have hlenR : dLen R = .ok (.int (L.length : Int)) := by rw [hs.len, hl]
  unfold ir_are_likings
  refine seq_res ((for_ok (hs.it rfl)).trans e1) ?_
  have c1 : eChain dLe dLe (eC (.int 1)) (eU dLen (eView 0)) (eC (.int 6)) [.val R, .val (.int (o : Int)), s2] = .ok (.bl true) := by
    rw [chain_ok (a := true) (x := .int ((1 : Nat) : Int)) (y := .int (L.length : Int)) (z := .int ((6 : Nat) : Int)) rfl ((u_ok (x := R) rfl).trans hlenR) rfl (le_ok.trans (by rw [decide_eq_true h1])) le_ok, if_pos rfl, decide_eq_true h6]
  have c2 : eLenT (eScG chkT [2] (itSeq (eVar 0)) (gaName 2) (tfTrue) (eU dTuple (eView 2))) [.val R, .val (.int (o : Int)), s2] = .ok (.int (L.length : Int)) := by
    have hlc := lcL_ok (ga := gaName 2) (t := tfTrue) (fe := eU dTuple (eView 2)) (env := wipeE [.val R, .val (.int (o : Int)), s2] [2]) (fun _ => true) (fun d => gd (dTuple d)) ds fun d hd => ⟨_, rfl, rfl, fun _ => by
      obtain ⟨l, hlm, hsq⟩ := RowD.mem (R := R) hl hi hd
      show dTuple d = _
      rw [hsq.tuple]; rfl⟩
    rw [filt_true, map_tuple hl hi] at hlc
    have htin : ∀ M : List (List Nat), (tups M).filterMap D.tints = M.map fun l => l.map fun n : Nat => (n : Int) := fun M => by
      induction M with
      | nil => rfl
      | cons l M ih =>
        show (D.tup (nats l) :: tups M).filterMap D.tints = _
        rw [List.filterMap_cons, show D.tints (.tup (nats l)) = some (l.map fun n : Nat => (n : Int)) from ints_nats l]
        dsimp only
        rw [ih]; rfl
    have hchk : chkT (tups L) = true := by
      unfold chkT
      rw [Bool.and_eq_true]
      refine ⟨decide_eq_true (by unfold tups; rw [List.length_map]; omega), List.all_eq_true.mpr fun d hd => ?_⟩
      obtain ⟨l, _, rfl⟩ := List.mem_map.mp hd
      show (D.tints (.tup (nats l))).isSome = true
      rw [show D.tints (.tup (nats l)) = some (l.map fun n : Nat => (n : Int)) from ints_nats l]; rfl
    unfold eLenT eScG
    rw [hs.it (f := eVar 0) rfl]
    dsimp only [Res.bind]
    rw [hlc]
    dsimp only [Res.bind]
    rw [if_pos hchk]
    dsimp only [Res.bind]
    rw [htin, nub_nodup, List.length_map]
    exact List.Pairwise.map _ (fun a b hab e => hab (castl_inj e)) hn
  rw [ret_ok (and_ok c1 ((bin_ok c2 ((u_ok (x := R) rfl).trans hlenR)).trans (eq_nat.trans (by rw [beq_self_eq_true]))))]
  rfl
end Law
end
section
set_option maxRecDepth 100000
set_option maxHeartbeats 4000000
namespace Mi
open PySem PySem.Spec L2
theorem eO_ok {of : OF} {env : Envt} {m : Mu} (h : of env = .ok m) : eO of env = .ok m.d := by unfold eO; rw [h]; rfl
theorem lc2_ok {ga : GF} {t : TF} {it1 : IF} {ga1 : GF} {t1 : TF} {fe : EF} {vs1 : List Nat} {env : Envt} (h : D → List D) : ∀ ds : List D, (∀ d ∈ ds, ∃ env1 ds1, ga d env = some env1 ∧ t env1 = .ok true ∧ it1 env1 = .ok ds1 ∧ lcL ga1 t1 fe (wipeE env1 vs1) ds1 = .ok (h d)) → lc2L ga t it1 ga1 t1 fe vs1 env ds = .ok (ds.flatMap h)
  | [], _ => rfl
  | d :: ds, k => by
    obtain ⟨env1, ds1, h1, h2, h3, h4⟩ := k d List.mem_cons_self
    have ih := lc2_ok h ds fun x hx => k x (List.mem_cons_of_mem _ hx)
    unfold lc2L
    rw [h1]
    dsimp only
    rw [h2]
    dsimp only
    rw [h3]
    dsimp only
    rw [h4]
    dsimp only
    rw [ih, List.flatMap_cons]
    rfl
theorem oLc2_ok {vs vs1 : List Nat} {it : IF} {ga : GF} {t : TF} {it1 : IF} {ga1 : GF} {t1 : TF} {fe : EF} {env : Envt} {ds r : List D} (h : it env = .ok ds) (h2 : lc2L ga t it1 ga1 t1 fe vs1 (wipeE env vs) ds = .ok r) (hz : r.length < 1000000) : oLc2 vs vs1 it ga t it1 ga1 t1 fe env = .ok (.lst r) := by
  unfold oLc2
  rw [h]
  dsimp only [Res.bind]
  rw [h2]
  dsimp only [Res.bind]
  rw [if_pos (by rw [sizeLine_eq]; omega)]
theorem fldset_ok {c : Nat} {n : Str} {f : EF} {env : Envt} {fs : List (Str × D)} {d : D} (h : env[0]? = some (.own (.ins c fs))) (k : f env = .ok d) (hl : fs.length < 1000) : sFldSet 0 c n f env = .nx (env.set 0 (.own (.ins c (putD n d fs)))) := by
  unfold sFldSet
  rw [h]
  dsimp only
  rw [if_pos rfl, k]
  exact if_pos hl
end Mi
namespace Rx
theorem fm_congr {α β : Type} {f g : α → List β} : ∀ {l : List α}, (∀ x ∈ l, f x = g x) → l.flatMap f = l.flatMap g
  | [], _ => rfl
  | x :: l, h => by rw [List.flatMap_cons, List.flatMap_cons, h x List.mem_cons_self, fm_congr fun y hy => h y (List.mem_cons_of_mem _ hy)]
def pick (LL : List (List (List Nat))) (r : List Nat) : List (List Nat) := List.zipWith (fun L i => L.getD i []) LL r
def worldsN (LL : List (List (List Nat))) : List (List (List Nat)) := (rows (LL.map List.length)).map (pick LL)
theorem rows_len' {zs r : List Nat} (h : r ∈ rows zs) : r.length = zs.length := by
  unfold rows at h
  obtain ⟨n, _, rfl⟩ := List.mem_map.mp h
  exact digits_length zs n
theorem map_getD {α : Type} (L : List α) (d : α) : (List.range L.length).map (fun w => L.getD w d) = L := by
  apply List.ext_getElem?
  intro i
  rw [List.getElem?_map]
  by_cases h : i < L.length
  · rw [List.getElem?_range h]
    show some (L.getD i d) = _
    rw [List.getD_eq_getElem?_getD, List.getElem?_eq_getElem h]; rfl
  · rw [List.getElem?_eq_none (by rw [List.length_range]; omega), List.getElem?_eq_none (by omega)]; rfl
theorem worldsN_append (LL : List (List (List Nat))) (L : List (List Nat)) : worldsN (LL ++ [L]) = (worldsN LL).flatMap fun w => L.map fun l => w ++ [l] := by
  unfold worldsN
  rw [List.map_append, List.map_cons, List.map_nil, rows_append, List.map_flatMap, List.flatMap_map]
  refine fm_congr fun r hr => ?_
  have hl := rows_len' hr
  rw [List.length_map] at hl
  rw [List.map_map]
  have : ∀ w, (pick (LL ++ [L]) ∘ fun w => r ++ [w]) w = pick LL r ++ [L.getD w []] := fun w => by
    show List.zipWith _ (LL ++ [L]) (r ++ [w]) = _
    rw [List.zipWith_append hl.symm]
    rfl
  rw [show (pick (LL ++ [L]) ∘ fun w => r ++ [w]) = fun w => pick LL r ++ [L.getD w []] from funext this]
  have h2 := congrArg (List.map fun l => pick LL r ++ [l]) (map_getD L [])
  rw [List.map_map] at h2
  exact h2
theorem worldsN_length (LL : List (List (List Nat))) : (worldsN LL).length = prodL (LL.map List.length) := by unfold worldsN; rw [List.length_map, rows_length]
end Rx
namespace Law
open PySem PySem.Spec L2 Mi Rx
def LKD (LL : List (List (List Nat))) : D := .tup (LL.map fun L => .tup (tups L))
/-- likings handed in -/
def DomIn (LD : D) (LL : List (List (List Nat))) : Prop := ∃ rs : List D, SqD LD rs ∧ rs.length = LL.length ∧ ∀ (i : Nat) (r : D) (L : List (List Nat)), rs[i]? = some r → LL[i]? = some L → RowD r L
/-- likings that a domain takes -/
structure GoodL (o : Nat) (LL : List (List (List Nat))) : Prop where
  o1 : 1 ≤ o
  o8 : o ≤ 8
  p1 : 1 ≤ LL.length
  p4 : LL.length ≤ 4
  r1 : ∀ L ∈ LL, 1 ≤ L.length ∧ L.length ≤ 6 ∧ L.Nodup ∧ ∀ l ∈ L, Lik o l
  w : prodL (LL.map List.length) ≤ 36
theorem RowD.len {R : D} {L : List (List Nat)} (h : RowD R L) : dLen R = .ok (.int (L.length : Int)) := by
  obtain ⟨ds, h1, h2, _⟩ := h
  rw [h1.len, h2]
theorem RowD.frozen {R : D} {L : List (List Nat)} (h : RowD R L) : ∃ ds, SqD R ds ∧ ds.map (fun d => gd (dTuple d)) = tups L ∧ (∀ d ∈ ds, okB (dTuple d) = true) ∧ ds.length = L.length := by
  obtain ⟨ds, h1, h2, h3⟩ := h
  exact ⟨ds, h1, map_tuple h2 h3, fun d hd => by obtain ⟨l, _, hs⟩ := RowD.mem (R := R) h2 h3 hd; rw [hs.tuple]; rfl, h2⟩
section
variable {o : Nat} {LL : List (List (List Nat))} {LD : D}
theorem GoodL.pos (h : GoodL o LL) : ∀ z ∈ LL.map List.length, 0 < z := fun z hz => by
  obtain ⟨L, hL, rfl⟩ := List.mem_map.mp hz
  have := (h.r1 L hL).1
  omega
theorem many_loop {s0 s3 s6 s7 s8 : Mi.Slot} {O : D} : ∀ (rs : List D) (M : List (List (List Nat))) (a : Nat) (s5 : Mi.Slot), rs.length = M.length → (∀ (i : Nat) (r : D) (L : List (List Nat)), rs[i]? = some r → M[i]? = some L → RowD r L) → (∀ L ∈ M, 1 ≤ L.length) → a * prodL (M.map List.length) < 1000000 →
    ∃ s5', forL (gaName 5) lb2_Domain_init rs [s0, .val O, .val LD, s3, .val (.int (a : Int)), s5, s6, s7, s8] = .nx [s0, .val O, .val LD, s3, .val (.int ((a * prodL (M.map List.length) : Nat) : Int)), s5', s6, s7, s8]
  | [], [], a, s5, _, _, _, _ => ⟨s5, by rw [show a * prodL (([] : List (List (List Nat))).map List.length) = a from Nat.mul_one a]; rfl⟩
  | r :: rs, L :: M, a, s5, hl, hr, h1, hb => by
    have hm : a * prodL ((L :: M).map List.length) = a * L.length * prodL (M.map List.length) := by
      show a * (L.length * prodL (M.map List.length)) = _
      rw [Nat.mul_assoc]
    rw [hm] at hb ⊢
    obtain ⟨s5', e⟩ := many_loop (s0 := s0) (s3 := s3) (s6 := s6) (s7 := s7) (s8 := s8) (O := O) rs M (a * L.length) (.val r) (by simpa using hl) (fun i r' L' x y => hr (i + 1) r' L' (by simpa using x) (by simpa using y)) (fun L' h => h1 L' (List.mem_cons_of_mem _ h)) hb
    refine ⟨s5', ?_⟩
    have hp : 0 < prodL (M.map List.length) := prodL_pos fun z hz => by
      obtain ⟨L', hL', rfl⟩ := List.mem_map.mp hz
      exact h1 L' (List.mem_cons_of_mem _ hL')
    have hlb := h1 L List.mem_cons_self
    have ha : a < 1000000 := by
      have x1 : a ≤ a * L.length := Nat.le_mul_of_pos_right _ hlb
      have x2 : a * L.length ≤ a * L.length * prodL (M.map List.length) := Nat.le_mul_of_pos_right _ hp
      omega
    rw [forL_nx (env1 := [s0, .val O, .val LD, s3, .val (.int (a : Int)), .val r, s6, s7, s8]) (e := [s0, .val O, .val LD, s3, .val (.int ((a * L.length : Nat) : Int)), .val r, s6, s7, s8]) rfl ?_, e]
    unfold lb2_Domain_init sAug
    dsimp only [List.getElem?_cons_succ, List.getElem?_cons_zero]
    rw [(u_ok (k := dLen) (f := eView 5) (env := [s0, .val O, .val LD, s3, .val (.int (a : Int)), .val r, s6, s7, s8]) (x := r) rfl).trans (hr 0 r L rfl rfl).len]
    dsimp only
    rw [mul_ok (by omega), Int.natCast_mul]
    rfl
  | [], L :: M, _, _, h, _, _, _ => by cases h
  | r :: rs, [], _, _, h, _, _, _ => by cases h
theorem wl_add {w : List (List Nat)} {l : List Nat} (h : w.length < 100) : dAdd (wD w) (.tup [.tup (nats l)]) = .ok (wD (w ++ [l])) := by
  unfold wD
  rw [addT_ok (by rw [List.length_map]; show w.length + 1 < 1000; omega), List.map_append]
  rfl
theorem domain_ok (K : GoodL o LL) (h : DomIn LD LL) : phi_Domain_init [.int (o : Int), LD] = .ok (domX o (LKD LL) (LL.map List.length) (worldsN LL)) := by
  obtain ⟨rs, hs, hl, hr⟩ := h
  have hlen : dLen LD = .ok (.int (LL.length : Int)) := by rw [hs.len, hl]
  have p4 := K.p4
  have getR : ∀ {r : D}, r ∈ rs → ∃ L ∈ LL, RowD r L := fun {r} hm => by
    obtain ⟨i, hi⟩ := List.getElem?_of_mem hm
    have hil := (List.getElem?_eq_some_iff.mp hi).1
    have e : LL[i]? = some (LL[i]'(by omega)) := List.getElem?_eq_getElem (by omega)
    exact ⟨_, List.mem_of_getElem? e, hr i r _ hi e⟩
  show (ir_Domain_init [.own (.ins 8 []), .val (.int (o : Int)), .val LD, .no, .no, .no, .no, .no, .no]).fields 8 = _
  have sf : ∀ {f g : SF} {env e : Envt} {r : Res (List (Str × D))}, f env = .nx e → (g e).fields 8 = r → (sSeq f g env).fields 8 = r := fun h k => (congrArg (Out.fields 8) (seq_nx h)).trans k
  unfold ir_Domain_init
  refine sf (e := [.own (.ins 8 []), .val (.int (o : Int)), .val LD, .no, .no, .no, .no, .no, .no]) ((if_f (tfNot_bl (b := true) (tfE_bl ?_))).trans rfl) ?_
  · rw [chain_ok (a := true) (x := .int ((1 : Nat) : Int)) (y := .int (o : Int)) (z := .int ((8 : Nat) : Int)) rfl rfl rfl (le_ok.trans (by rw [decide_eq_true K.o1])) le_ok, if_pos rfl, decide_eq_true K.o8]
  refine sf (e := [.own (.ins 8 []), .val (.int (o : Int)), .val LD, .no, .no, .no, .no, .no, .no]) ((if_f (tfNot_bl (b := true) (tfE_bl ?_))).trans rfl) ?_
  · rw [chain_ok (a := true) (x := .int ((1 : Nat) : Int)) (y := .int (LL.length : Int)) (z := .int ((4 : Nat) : Int)) rfl ((u_ok (x := LD) rfl).trans hlen) rfl (le_ok.trans (by rw [decide_eq_true K.p1])) le_ok, if_pos rfl, decide_eq_true K.p4]
  obtain ⟨e, e1, s3, rfl⟩ := forL_inv (ga := gaName 3) (body := lb1_Domain_init) (ds := rangeD 0 LL.length) (fun i e => ∃ s3, e = [.own (.ins 8 []), .val (.int (o : Int)), .val LD, s3, .no, .no, .no, .no, .no])
    (fun i d env hi ⟨s3, he⟩ => by
      subst he
      have hi2 : i < LL.length := by have := (List.getElem?_eq_some_iff.mp hi).1; rw [rangeD_length] at this; exact this
      rw [rangeD_get 0 _ i hi2, Int.zero_add] at hi
      cases hi
      have e2 : LL[i]? = some LL[i] := List.getElem?_eq_getElem hi2
      have e3 : rs[i]? = some (rs[i]'(by omega)) := List.getElem?_eq_getElem (by omega)
      obtain ⟨k1, k2, k3, k4⟩ := K.r1 _ (List.mem_of_getElem? e2)
      refine ⟨_, [.own (.ins 8 []), .val (.int (o : Int)), .val LD, .val (.int (i : Int)), .no, .no, .no, .no, .no], rfl, ?_, _, rfl⟩
      have ha : (aCons (eBin dIx (eView 2) (eView 3)) (aCons (eVar 1) (aNil))) [.own (.ins 8 []), .val (.int (o : Int)), .val LD, .val (.int (i : Int)), .no, .no, .no, .no, .no] = .ok [rs[i]'(by omega), .int (o : Int)] :=
        acons_ok ((bin_ok (x := LD) (y := .int (i : Int)) rfl rfl).trans (hs.ix e3)) (acons_ok rfl rfl)
      have ho := K.o8
      unfold lb1_Domain_init
      exact (if_f (tfNot_bl (b := true) (tfE_bl ((call_ok ha).trans (are_likings_ok (hr i _ _ e3 e2) (by omega) k4 k1 k2 k3))))).trans rfl) (env := [.own (.ins 8 []), .val (.int (o : Int)), .val LD, .no, .no, .no, .no, .no, .no]) ⟨_, rfl⟩
  refine sf ((for_ok (itR1_ok ((u_ok (x := LD) rfl).trans hlen) (by omega))).trans e1) ?_
  refine sf (e := [.own (.ins 8 []), .val (.int (o : Int)), .val LD, s3, .val (.int ((1 : Nat) : Int)), .no, .no, .no, .no]) rfl ?_
  have hw := K.w
  obtain ⟨s5, e4⟩ := many_loop (LD := LD) (s0 := .own (.ins 8 [])) (s3 := s3) (s6 := .no) (s7 := .no) (s8 := .no) (O := .int (o : Int)) rs LL 1 .no hl hr (fun L hL => (K.r1 L hL).1) (by omega)
  refine sf ((for_ok (hs.it rfl)).trans e4) ?_
  rw [Nat.one_mul]
  refine sf (e := [.own (.ins 8 []), .val (.int (o : Int)), .val LD, s3, .val (.int (prodL (LL.map List.length) : Int)), s5, .no, .no, .no]) ((if_f (tfE_bl ((bin_ok (x := .int (prodL (LL.map List.length) : Int)) (y := .int ((36 : Nat) : Int)) rfl rfl).trans (gt_ok.trans (by rw [decide_eq_false (by omega)]))))).trans rfl) ?_
  refine sf (e := [.own (.ins 8 [("outcomes", .int (o : Int))]), .val (.int (o : Int)), .val LD, s3, .val (.int (prodL (LL.map List.length) : Int)), s5, .no, .no, .no]) (fldset_ok (fs := []) (d := .int (o : Int)) rfl rfl (by show 0 < 1000; omega)) ?_
  refine sf (e := [.own (.ins 8 [("outcomes", .int (o : Int)), ("likings", LKD LL)]), .val (.int (o : Int)), .val LD, s3, .val (.int (prodL (LL.map List.length) : Int)), s5, .no, .no, .no]) ((fldset_ok (d := LKD LL) rfl ?_ (by show 1 < 1000; omega)).trans rfl) ?_
  · have hlc := lcL_ok (ga := gaName 5) (t := tfTrue) (fe := eU dTuple (eO (oLc [7] (itSeq (eVar 5)) (gaName 7) (tfTrue) (eU dTuple (eView 7))))) (env := wipeE [.own (.ins 8 [("outcomes", .int (o : Int))]), .val (.int (o : Int)), .val LD, s3, .val (.int (prodL (LL.map List.length) : Int)), s5, .no, .no, .no] [5]) (fun _ => true) (fun d => match d.items with
      | some ds => .tup (ds.map fun d => gd (dTuple d))
      | none => .non) rs fun d hd => ⟨_, rfl, rfl, fun _ => by
      obtain ⟨L, hL, hR⟩ := getR hd
      obtain ⟨k1, k2, k3, k4⟩ := K.r1 _ hL
      obtain ⟨ds, q1, q2, q3, q4⟩ := hR.frozen
      have hi : d.items = some ds := by rcases q1 with rfl | rfl <;> rfl
      rw [hi]
      have := lcL_ok (ga := gaName 7) (t := tfTrue) (fe := eU dTuple (eView 7)) (env := wipeE ((wipeE [.own (.ins 8 [("outcomes", .int (o : Int))]), .val (.int (o : Int)), .val LD, s3, .val (.int (prodL (LL.map List.length) : Int)), s5, .no, .no, .no] [5]).set 5 (.val d)) [7]) (fun _ => true) (fun d => gd (dTuple d)) ds fun x hx => ⟨_, rfl, rfl, fun _ => okB_gd (q3 x hx)⟩
      rw [filt_true] at this
      refine (u_ok (x := .lst (ds.map fun d => gd (dTuple d))) ?_).trans rfl
      exact eO_ok (oLc_ok (ds := ds) (q1.it rfl) this (by rw [List.length_map]; omega))⟩
    rw [filt_true] at hlc
    have hfin : rs.map (fun d => match d.items with
      | some ds => D.tup (ds.map fun d => gd (dTuple d))
      | none => .non) = LL.map fun L => D.tup (tups L) := by
      apply List.ext_getElem?
      intro i
      rw [List.getElem?_map, List.getElem?_map]
      by_cases hi : i < rs.length
      · have e1 : rs[i]? = some rs[i] := List.getElem?_eq_getElem hi
        have e2 : LL[i]? = some (LL[i]'(by omega)) := List.getElem?_eq_getElem (by omega)
        obtain ⟨ds, q1, q2, _, _⟩ := (hr i _ _ e1 e2).frozen
        have hi' : (rs[i]).items = some ds := by rcases q1 with q | q <;> rw [q] <;> rfl
        rw [e1, e2]
        simp only [Option.map_some]
        rw [hi']
        dsimp only
        rw [q2]
      · rw [List.getElem?_eq_none (by omega), List.getElem?_eq_none (by omega)]; rfl
    rw [hfin] at hlc
    refine (u_ok (x := .lst (LL.map fun L => D.tup (tups L))) ?_).trans rfl
    exact eO_ok (oLc_ok (ds := rs) (hs.it rfl) hlc (by rw [List.length_map]; omega))
  refine sf (e := [.own (.ins 8 [("outcomes", .int (o : Int)), ("likings", LKD LL), ("sizes", .tup (nats (LL.map List.length)))]), .val (.int (o : Int)), .val LD, s3, .val (.int (prodL (LL.map List.length) : Int)), s5, .no, .no, .no]) ((fldset_ok (d := .tup (nats (LL.map List.length))) rfl ?_ (by show 2 < 1000; omega)).trans rfl) ?_
  · have hz : Sized LD (LL.map List.length) := ⟨rs, hs, by rw [List.length_map]; exact hl, fun i x hx => by
      have hil := (List.getElem?_eq_some_iff.mp hx).1
      have e2 : LL[i]? = some (LL[i]'(by omega)) := List.getElem?_eq_getElem (by omega)
      rw [(hr i _ _ hx e2).len]
      have : (LL.map List.length).getD i 0 = (LL[i]'(by omega)).length := by rw [List.getD_eq_getElem?_getD, List.getElem?_map, e2]; rfl
      rw [this]⟩
    refine (u_ok (x := .lst (nats (LL.map List.length))) ?_).trans rfl
    exact eO_ok (sizes_ok hz (by rw [List.length_map]; omega) (fun xs h => h.it rfl) (by show 5 < 9; omega) fun d => rfl)
  let fs3 : List (Str × D) := [("outcomes", .int (o : Int)), ("likings", LKD LL), ("sizes", .tup (nats (LL.map List.length)))]
  refine sf (e := [.own (.ins 8 fs3), .val (.int (o : Int)), .val LD, s3, .val (.int (prodL (LL.map List.length) : Int)), s5, .own (.lst [.tup []]), .no, .no]) rfl ?_
  obtain ⟨e, e5, s5', rfl⟩ := forL_inv (ga := gaName 5) (body := lb3_Domain_init) (ds := LL.map fun L => D.tup (tups L)) (fun i e => ∃ s5', e = [.own (.ins 8 fs3), .val (.int (o : Int)), .val LD, s3, .val (.int (prodL (LL.map List.length) : Int)), s5', .own (.lst ((worldsN (LL.take i)).map wD)), .no, .no])
    (fun i d env hi ⟨s5', he⟩ => by
      subst he
      have hi2 : i < LL.length := by have := (List.getElem?_eq_some_iff.mp hi).1; rw [List.length_map] at this; exact this
      have e2 : LL[i]? = some LL[i] := List.getElem?_eq_getElem hi2
      rw [List.getElem?_map, e2] at hi
      cases hi
      have hk := K.r1 _ (List.mem_of_getElem? e2)
      have hwl : (worldsN (LL.take (i + 1))).length ≤ 36 := by
        rw [worldsN_length, List.map_take]
        exact Nat.le_trans (prodL_take_le K.pos) K.w
      have hwi : (worldsN (LL.take i)).length ≤ 36 := by
        rw [worldsN_length, List.map_take]
        exact Nat.le_trans (prodL_take_le K.pos) K.w
      refine ⟨_, [.own (.ins 8 fs3), .val (.int (o : Int)), .val LD, s3, .val (.int (prodL (LL.map List.length) : Int)), .val (.tup (tups LL[i])), .own (.lst ((worldsN (LL.take (i + 1))).map wD)), .no, .no], rfl, ?_, _, rfl⟩
      unfold lb3_Domain_init
      show sOwn 6 (oLc2 [8, 7] [7] (itSeq (eVar 6)) (gaName 8) (tfTrue) (itSeq (eVar 5)) (gaName 7) (tfTrue) (eBin dAdd (eView 8) (eTup (aCons (eVar 7) (aNil))))) [.own (.ins 8 fs3), .val (.int (o : Int)), .val LD, s3, .val (.int (prodL (LL.map List.length) : Int)), .val (.tup (tups LL[i])), .val (.lst ((worldsN (LL.take i)).map wD)), .no, .no] = _
      have hl2 := lc2_ok (ga := gaName 8) (t := tfTrue) (it1 := itSeq (eVar 5)) (ga1 := gaName 7) (t1 := tfTrue) (fe := eBin dAdd (eView 8) (eTup (aCons (eVar 7) (aNil)))) (vs1 := [7]) (env := wipeE [.own (.ins 8 fs3), .val (.int (o : Int)), .val LD, s3, .val (.int (prodL (LL.map List.length) : Int)), .val (.tup (tups LL[i])), .val (.lst ((worldsN (LL.take i)).map wD)), .no, .no] [8, 7]) (fun d => (tups LL[i]).map fun l => gd (dAdd d (.tup [l]))) ((worldsN (LL.take i)).map wD) fun d hd => by
        obtain ⟨w, hw, rfl⟩ := List.mem_map.mp hd
        have hwlen : w.length < 100 := by
          unfold worldsN at hw
          obtain ⟨r, hr, rfl⟩ := List.mem_map.mp hw
          unfold pick
          rw [List.length_zipWith, List.length_take]
          omega
        refine ⟨_, tups LL[i], rfl, rfl, rfl, ?_⟩
        have := lcL_ok (ga := gaName 7) (t := tfTrue) (fe := eBin dAdd (eView 8) (eTup (aCons (eVar 7) (aNil)))) (env := wipeE ((wipeE [.own (.ins 8 fs3), .val (.int (o : Int)), .val LD, s3, .val (.int (prodL (LL.map List.length) : Int)), .val (.tup (tups LL[i])), .val (.lst ((worldsN (LL.take i)).map wD)), .no, .no] [8, 7]).set 8 (.val (wD w))) [7]) (fun _ => true) (fun l => gd (dAdd (wD w) (.tup [l]))) (tups LL[i]) fun x hx => ⟨_, rfl, rfl, fun _ => by
          obtain ⟨l, _, rfl⟩ := List.mem_map.mp hx
          rw [wl_add hwlen]
          exact (bin_ok (x := wD w) (y := .tup [.tup (nats l)]) rfl (tup_ok (ds := [.tup (nats l)]) rfl (by show 1 < 1000; omega))).trans (wl_add hwlen)⟩
        rw [filt_true] at this
        exact this
      have hfm : ((worldsN (LL.take i)).map wD).flatMap (fun d => (tups LL[i]).map fun l => gd (dAdd d (.tup [l]))) = (worldsN (LL.take (i + 1))).map wD := by
        rw [take_succ' e2, worldsN_append, List.flatMap_map, List.map_flatMap]
        refine fm_congr fun w hw => ?_
        have hwlen : w.length < 100 := by
          unfold worldsN at hw
          obtain ⟨r, hr, rfl⟩ := List.mem_map.mp hw
          unfold pick
          rw [List.length_zipWith, List.length_take]
          omega
        unfold tups
        rw [List.map_map, List.map_map]
        apply List.map_congr_left
        intro l _
        show gd (dAdd (wD w) (.tup [.tup (nats l)])) = wD (w ++ [l])
        rw [wl_add hwlen]; rfl
      rw [hfm] at hl2
      exact (own_ok (m := .lst ((worldsN (LL.take (i + 1))).map wD)) (oLc2_ok (ds := (worldsN (LL.take i)).map wD) rfl hl2 (by rw [List.length_map]; omega)) rfl).trans rfl) (env := [.own (.ins 8 fs3), .val (.int (o : Int)), .val LD, s3, .val (.int (prodL (LL.map List.length) : Int)), s5, .own (.lst [.tup []]), .no, .no]) ⟨s5, rfl⟩
  have hit : itSeq (eFld [8] "likings" (eView 0)) [.own (.ins 8 fs3), .val (.int (o : Int)), .val LD, s3, .val (.int (prodL (LL.map List.length) : Int)), s5, .own (.lst [.tup []]), .no, .no] = .ok (LL.map fun L => D.tup (tups L)) := SqD.it (d := LKD LL) (.inr rfl) (fld_ok (c := 8) (fs := fs3) rfl rfl rfl)
  refine sf ((for_ok hit).trans e5) ?_
  have htk : LL.take (LL.map fun L => D.tup (tups L)).length = LL := by rw [List.length_map, List.take_length]
  rw [htk]
  rw [fldset_ok (d := .tup ((worldsN LL).map wD)) (fs := fs3) rfl rfl (by show 3 < 1000; omega)]
  rfl
end
end Law
end
section
set_option maxRecDepth 100000
set_option maxHeartbeats 4000000
namespace Rx
theorem pick_get {LL : List (List (List Nat))} {r : List Nat} {k i : Nat} {L : List (List Nat)} (h1 : LL[k]? = some L) (h2 : r[k]? = some i) : (pick LL r)[k]? = some (L.getD i []) := by
  unfold pick
  rw [List.getElem?_zipWith, h1, h2]
theorem pick_len {LL : List (List (List Nat))} {r : List Nat} (h : r.length = LL.length) : (pick LL r).length = LL.length := by
  unfold pick
  rw [List.length_zipWith, h, Nat.min_self]
/-- the play that picks give -/
def pickN (PK : List (List Nat)) (r : List Nat) : List Nat := List.zipWith (fun p i => p.getD i 0) PK r
theorem pickN_get {PK : List (List Nat)} {r : List Nat} {k i : Nat} {p : List Nat} (h1 : PK[k]? = some p) (h2 : r[k]? = some i) : (pickN PK r)[k]? = some (p.getD i 0) := by
  unfold pickN
  rw [List.getElem?_zipWith, h1, h2]
/-- picks that fit: one message for each liking -/
def PFit (zs Z : List Nat) (PK : List (List Nat)) : Prop := PK.length = zs.length ∧ Z.length = zs.length ∧ ∀ (k : Nat) (p : List Nat) (z y : Nat), PK[k]? = some p → zs[k]? = some z → Z[k]? = some y → p.length = z ∧ ∀ x ∈ p, x < y
theorem ply_pick : ∀ {zs Z r : List Nat} {PK : List (List Nat)}, PFit zs Z PK → Ply zs r → Ply Z (pickN PK r)
  | [], [], [], [], _, _ => True.intro
  | z :: zs, y :: Z, i :: r, p :: PK, h, hr => by
    obtain ⟨h1, h2, h3⟩ := h
    obtain ⟨k1, k2⟩ := h3 0 p z y rfl rfl rfl
    refine ⟨k2 _ ?_, ply_pick (zs := zs) ⟨by simpa using h1, by simpa using h2, fun k p' z' y' a b c => h3 (k + 1) p' z' y' (by simpa using a) (by simpa using b) (by simpa using c)⟩ hr.2⟩
    have hi : i < p.length := by rw [k1]; exact hr.1
    show p.getD i 0 ∈ p
    rw [List.getD_eq_getElem?_getD, List.getElem?_eq_getElem hi]
    exact List.getElem_mem hi
  | [], y :: Z, _, _, h, _ => by have := h.2.1; simp at this
  | [], [], _, p :: PK, h, _ => by have := h.1; simp at this
  | [], [], i :: r, [], _, hr => hr.elim
  | z :: zs, [], _, _, h, _ => by have := h.2.1; simp at this
  | z :: zs, y :: Z, _, [], h, _ => by have := h.1; simp at this
  | z :: zs, y :: Z, [], p :: PK, _, hr => hr.elim
theorem pickN_set : ∀ {PK : List (List Nat)} {r : List Nat} {k s : Nat} {p : List Nat}, PK[k]? = some p → pickN PK (r.set k s) = (pickN PK r).set k (p.getD s 0)
  | [], r, k, s, p, h => by simp at h
  | q :: PK, [], k, s, p, h => by
    unfold pickN
    rw [List.set_nil, List.zipWith_nil_right, List.set_nil]
  | q :: PK, i :: r, 0, s, p, h => by
    have : q = p := by simpa using h
    subst this
    rfl
  | q :: PK, i :: r, k + 1, s, p, h => by
    show q.getD i 0 :: pickN PK (r.set k s) = q.getD i 0 :: (pickN PK r).set k (p.getD s 0)
    rw [pickN_set (by simpa using h)]
end Rx
namespace Law
open PySem PySem.Spec L2 Mi Rx
section
variable {o : Nat} {LL : List (List (List Nat))}
theorem GoodL.sz (K : GoodL o LL) : Sz (LL.map List.length) := ⟨K.pos, by have := K.w; omega, by rw [List.length_map]; have := K.p4; omega⟩
theorem lkd_sized : Sized (LKD LL) (LL.map List.length) := ⟨LL.map fun L => .tup (tups L), .inr rfl, by rw [List.length_map, List.length_map], fun i x hx => by
  rw [List.getElem?_map] at hx
  cases q : LL[i]? with
  | none => rw [q] at hx; cases hx
  | some L =>
    rw [q] at hx
    cases hx
    have : (LL.map List.length).getD i 0 = L.length := by rw [List.getD_eq_getElem?_getD, List.getElem?_map, q]; rfl
    rw [this]
    show Res.ok (D.int ((tups L).length : Int)) = _
    unfold tups
    rw [List.length_map]⟩
theorem domain_worlds_ok (K : GoodL o LL) : phi_law_domain_worlds [LKD LL] = .ok (.lst ((worldsN LL).map wD)) := by
  have p4 := K.p4
  have hzl : (LL.map List.length).length < 100 := by rw [List.length_map]; omega
  show (ir_law_domain_worlds [.val (LKD LL), .no, .no, .no, .no]).res = _
  have hpl : eCall phi_law_plays (aCons (eO (oLc [3] (itSeq (eVar 0)) (gaName 3) (tfTrue) (eU dLen (eView 3)))) (aNil)) [.val (LKD LL), .own (.lst []), .no, .no, .no] = .ok (.lst (tups (rows (LL.map List.length)))) :=
    (call_ok (ds := [.lst (nats (LL.map List.length))]) (acons_ok (eO_ok (sizes_ok lkd_sized hzl (fun xs h => h.it rfl) (by show 3 < 5; omega) fun d => rfl)) rfl)).trans (plays_ok (.inl rfl) K.sz.pos K.sz.few K.sz.fewz)
  have hw := K.w
  obtain ⟨e, e1, s2, rfl⟩ := forL_inv (ga := gaName 2) (body := lb1_law_domain_worlds) (ds := tups (rows (LL.map List.length))) (fun i e => ∃ s2, e = [.val (LKD LL), .own (.lst (((rows (LL.map List.length)).take i).map fun r => wD (pick LL r))), s2, .no, .no])
    (fun i d env hi ⟨s2, he⟩ => by
      subst he
      have hi2 : i < (rows (LL.map List.length)).length := by have := (List.getElem?_eq_some_iff.mp hi).1; unfold tups at this; rw [List.length_map] at this; exact this
      have e2 : (rows (LL.map List.length))[i]? = some (rows (LL.map List.length))[i] := List.getElem?_eq_getElem hi2
      generalize hr : (rows (LL.map List.length))[i] = r at e2
      have hply := (mem_rows K.sz.pos).mp (List.mem_of_getElem? e2)
      rw [tups_get e2] at hi
      cases hi
      have hrl : r.length = LL.length := by rw [hply.length, List.length_map]
      refine ⟨_, [.val (LKD LL), .own (.lst (((rows (LL.map List.length)).take (i + 1)).map fun r => wD (pick LL r))), .val (.tup (nats r)), .no, .no], rfl, ?_, _, rfl⟩
      have hlc := lcL_ok (ga := gaName 4) (t := tfTrue) (fe := eBin dIx (eBin dIx (eView 0) (eView 4)) (eBin dIx (eView 2) (eView 4))) (env := wipeE [.val (LKD LL), .own (.lst (((rows (LL.map List.length)).take i).map fun r => wD (pick LL r))), .val (.tup (nats r)), .no, .no] [4]) (fun _ => true) (fun d => match d with
        | .int k => .tup (nats ((pick LL r).getD k.toNat []))
        | _ => .non) (rangeD 0 LL.length) fun d hd => by
          obtain ⟨k, hk, rfl⟩ := mem_rangeD hd
          rw [Int.zero_add]
          have q1 : LL[k]? = some LL[k] := List.getElem?_eq_getElem hk
          have hz : (LL.map List.length)[k]? = some LL[k].length := by rw [List.getElem?_map, q1]; rfl
          obtain ⟨j, hj, hjz⟩ := ply_get hply hz
          have q2 := pick_get q1 hj
          have q3 : (pick LL r).getD k [] = (LL[k]).getD j [] := by rw [List.getD_eq_getElem?_getD, q2]; rfl
          have q4 : (tups LL[k])[j]? = some (.tup (nats ((LL[k]).getD j []))) := by
            refine tups_get ?_
            rw [List.getD_eq_getElem?_getD, List.getElem?_eq_getElem hjz]; rfl
          refine ⟨_, rfl, rfl, fun _ => ?_⟩
          refine (bin_ok (x := .tup (tups LL[k])) (y := .int (j : Int)) ((bin_ok (x := LKD LL) (y := .int (k : Int)) rfl rfl).trans (ixT ?_)) ((bin_ok (x := .tup (nats r)) (y := .int (k : Int)) rfl rfl).trans (ixT (nats_get hj)))).trans ((ixT q4).trans ?_)
          · rw [List.getElem?_map, q1]; rfl
          · show _ = Res.ok (D.tup (nats ((pick LL r).getD k [])))
            rw [q3]
      have hfin : (rangeD 0 LL.length).map (fun d => match d with
        | .int k => D.tup (nats ((pick LL r).getD k.toNat []))
        | _ => .non) = (pick LL r).map fun l => .tup (nats l) := by
        rw [rangeD0, List.map_map, ← pick_len hrl]
        have := congrArg (List.map fun l => D.tup (nats l)) (map_getD (pick LL r) [])
        rw [List.map_map] at this
        exact this
      rw [filt_true, hfin] at hlc
      unfold lb1_law_domain_worlds
      refine (app_ok (d := wD (pick LL r)) rfl ?_ ?_).trans ?_
      · refine (u_ok (x := .lst ((pick LL r).map fun l => .tup (nats l))) (eO_ok (oLc_ok (ds := rangeD 0 LL.length) (itR1_ok ((u_ok (x := LKD LL) rfl).trans ?_) (by omega)) hlc (by rw [List.length_map, pick_len hrl]; omega)))).trans rfl
        show Res.ok (D.int ((LL.map _).length : Int)) = _
        rw [List.length_map]
      · rw [List.length_map, List.length_take, rows_length]; omega
      · rw [take_succ' e2, List.map_append]
        rfl) (env := [.val (LKD LL), .own (.lst []), .no, .no, .no]) ⟨.no, rfl⟩
  unfold ir_law_domain_worlds
  refine seq_res (e := [.val (LKD LL), .own (.lst []), .no, .no, .no]) rfl (seq_res ((for_ok (SqD.it (d := .lst (tups (rows (LL.map List.length)))) (.inl rfl) hpl)).trans e1) ?_)
  have : (rows (LL.map List.length)).take (tups (rows (LL.map List.length))).length = rows (LL.map List.length) := List.take_of_length_le (by unfold tups; rw [List.length_map]; exact Nat.le_refl _)
  rw [this]
  show Res.ok (D.lst ((rows (LL.map List.length)).map fun r => wD (pick LL r))) = _
  unfold worldsN
  rw [List.map_map]
  rfl
theorem GoodL.fit (K : GoodL o LL) {c : List Nat} (hc : c.length = prodL (LL.map List.length)) (ho : ∀ x ∈ c, x < o) : Fit o (LL.map List.length) (worldsN LL) c where
  pos := K.pos
  few := K.sz.few
  fewz := K.sz.fewz
  wl := worldsN_length LL
  ww := fun w hw => by
    unfold worldsN at hw
    obtain ⟨r, hr, rfl⟩ := List.mem_map.mp hw
    have hply := (mem_rows K.pos).mp hr
    have hrl : r.length = LL.length := by rw [hply.length, List.length_map]
    refine ⟨by rw [pick_len hrl, List.length_map], fun l hl => ?_⟩
    obtain ⟨k, hk⟩ := List.getElem?_of_mem hl
    have hkl := (List.getElem?_eq_some_iff.mp hk).1
    rw [pick_len hrl] at hkl
    have q1 : LL[k]? = some LL[k] := List.getElem?_eq_getElem hkl
    have hz : (LL.map List.length)[k]? = some LL[k].length := by rw [List.getElem?_map, q1]; rfl
    obtain ⟨j, hj, hjz⟩ := ply_get hply hz
    rw [pick_get q1 hj] at hk
    cases hk
    rw [List.getD_eq_getElem?_getD, List.getElem?_eq_getElem hjz]
    exact ((K.r1 _ (List.mem_of_getElem? q1)).2.2.2 _ (List.getElem_mem hjz)).1
  cl := hc
  co := ho
/-! ### _law_given -/
def lsts (l : List (List Nat)) : List D := l.map fun r => .lst (nats r)
def givenN (zs Z T : List Nat) (PK : List (List Nat)) : List Nat := (rows zs).map fun r => T.getD (num Z (pickN PK r) 0) 0
theorem given_ok {Z T : List Nat} {PK : List (List Nat)} {ZD TD PD : D} (K : GoodL o LL) (hZ : SqD ZD (nats Z)) (hT : SqD TD (nats T)) (hsz : Sz Z) (hTl : T.length = prodL Z) (hP : SqD PD (lsts PK)) (hF : PFit (LL.map List.length) Z PK) :
    phi_law_given [ZD, TD, LKD LL, PD] = .ok (.lst (nats (givenN (LL.map List.length) Z T PK))) := by
  have p4 := K.p4
  have hw := K.w
  have hzl : (LL.map List.length).length < 100 := by rw [List.length_map]; omega
  show (ir_law_given [.val ZD, .val TD, .val (LKD LL), .val PD, .no, .no, .no, .no, .no]).res = _
  have hpl : eCall phi_law_plays (aCons (eO (oLc [7] (itSeq (eVar 2)) (gaName 7) (tfTrue) (eU dLen (eView 7)))) (aNil)) [.val ZD, .val TD, .val (LKD LL), .val PD, .own (.lst []), .no, .no, .no, .no] = .ok (.lst (tups (rows (LL.map List.length)))) :=
    (call_ok (ds := [.lst (nats (LL.map List.length))]) (acons_ok (eO_ok (sizes_ok lkd_sized hzl (fun xs h => h.it rfl) (by show 7 < 9; omega) fun d => rfl)) rfl)).trans (plays_ok (.inl rfl) K.sz.pos K.sz.few K.sz.fewz)
  obtain ⟨e, e1, s5, s6, rfl⟩ := forL_inv (ga := gaName 5) (body := lb1_law_given) (ds := tups (rows (LL.map List.length))) (fun i e => ∃ s5 s6, e = [.val ZD, .val TD, .val (LKD LL), .val PD, .own (.lst (nats (((rows (LL.map List.length)).take i).map fun r => T.getD (num Z (pickN PK r) 0) 0))), s5, s6, .no, .no])
    (fun i d env hi ⟨s5, s6, he⟩ => by
      subst he
      have hi2 : i < (rows (LL.map List.length)).length := by have := (List.getElem?_eq_some_iff.mp hi).1; unfold tups at this; rw [List.length_map] at this; exact this
      have e2 : (rows (LL.map List.length))[i]? = some (rows (LL.map List.length))[i] := List.getElem?_eq_getElem hi2
      generalize hr : (rows (LL.map List.length))[i] = r at e2
      have hply := (mem_rows K.sz.pos).mp (List.mem_of_getElem? e2)
      have hpp := ply_pick hF hply
      rw [tups_get e2] at hi
      cases hi
      have hrl : r.length = LL.length := by rw [hply.length, List.length_map]
      have hPl : PK.length = LL.length := by rw [hF.1, List.length_map]
      have hpn : (pickN PK r).length = LL.length := by unfold pickN; rw [List.length_zipWith, hPl, hrl, Nat.min_self]
      refine ⟨_, [.val ZD, .val TD, .val (LKD LL), .val PD, .own (.lst (nats (((rows (LL.map List.length)).take (i + 1)).map fun r => T.getD (num Z (pickN PK r) 0) 0))), .val (.tup (nats r)), .val (.tup (nats (pickN PK r))), .no, .no], rfl, ?_, _, _, rfl⟩
      have hlc := lcL_ok (ga := gaName 8) (t := tfTrue) (fe := eBin dIx (eBin dIx (eView 3) (eView 8)) (eBin dIx (eView 5) (eView 8))) (env := wipeE [.val ZD, .val TD, .val (LKD LL), .val PD, .own (.lst (nats (((rows (LL.map List.length)).take i).map fun r => T.getD (num Z (pickN PK r) 0) 0))), .val (.tup (nats r)), s6, .no, .no] [8]) (fun _ => true) (fun d => match d with
        | .int k => .int ((pickN PK r).getD k.toNat 0 : Nat)
        | _ => .non) (rangeD 0 LL.length) fun d hd => by
          obtain ⟨k, hk, rfl⟩ := mem_rangeD hd
          rw [Int.zero_add]
          have q1 : PK[k]? = some (PK[k]'(by omega)) := List.getElem?_eq_getElem (by omega)
          have q0 : LL[k]? = some LL[k] := List.getElem?_eq_getElem hk
          have hz : (LL.map List.length)[k]? = some LL[k].length := by rw [List.getElem?_map, q0]; rfl
          obtain ⟨j, hj, hjz⟩ := ply_get hply hz
          have hZk : k < Z.length := by rw [hF.2.1, List.length_map]; exact hk
          have qz : Z[k]? = some Z[k] := List.getElem?_eq_getElem hZk
          obtain ⟨w1, w2⟩ := hF.2.2 k _ _ _ q1 hz qz
          have q2 := pickN_get q1 hj
          have q3 : (pickN PK r).getD k 0 = (PK[k]'(by omega)).getD j 0 := by rw [List.getD_eq_getElem?_getD, q2]; rfl
          have q4 : (PK[k]'(by omega))[j]? = some ((PK[k]'(by omega)).getD j 0) := by rw [List.getD_eq_getElem?_getD, List.getElem?_eq_getElem (by rw [w1]; exact hjz)]; rfl
          refine ⟨_, rfl, rfl, fun _ => ?_⟩
          refine (bin_ok (x := .lst (nats (PK[k]'(by omega)))) (y := .int (j : Int)) ((bin_ok (x := PD) (y := .int (k : Int)) rfl rfl).trans (hP.ix ?_)) ((bin_ok (x := .tup (nats r)) (y := .int (k : Int)) rfl rfl).trans (ixT (nats_get hj)))).trans ((ixL (nats_get q4)).trans ?_)
          · unfold lsts; rw [List.getElem?_map, q1]; rfl
          · show _ = Res.ok (D.int ((pickN PK r).getD k 0 : Nat))
            rw [q3]
      have hfin : (rangeD 0 LL.length).map (fun d => match d with
        | .int k => D.int ((pickN PK r).getD k.toNat 0 : Nat)
        | _ => .non) = nats (pickN PK r) := by
        rw [rangeD0, List.map_map, ← hpn]
        have := congrArg nats (map_getD (pickN PK r) 0)
        unfold nats at this
        rw [List.map_map] at this
        exact this
      rw [filt_true, hfin] at hlc
      have hnl := num_lt Z _ hpp
      have hT2 : T[num Z (pickN PK r) 0]? = some (T.getD (num Z (pickN PK r) 0) 0) := by rw [List.getD_eq_getElem?_getD, List.getElem?_eq_getElem (by rw [hTl]; exact hnl)]; rfl
      have hln : eU dLen (eView 5) [.val ZD, .val TD, .val (LKD LL), .val PD, .own (.lst (nats (((rows (LL.map List.length)).take i).map fun r => T.getD (num Z (pickN PK r) 0) 0))), .val (.tup (nats r)), s6, .no, .no] = .ok (.int (LL.length : Int)) := by
        show Res.ok (D.int ((nats r).length : Int)) = _
        rw [nats_length, hrl]
      have hoc : oLc [8] (itR1 (eU dLen (eView 5))) (gaName 8) (tfTrue) (eBin dIx (eBin dIx (eView 3) (eView 8)) (eBin dIx (eView 5) (eView 8))) [.val ZD, .val TD, .val (LKD LL), .val PD, .own (.lst (nats (((rows (LL.map List.length)).take i).map fun r => T.getD (num Z (pickN PK r) 0) 0))), .val (.tup (nats r)), s6, .no, .no] = .ok (.lst (nats (pickN PK r))) := oLc_ok (ds := rangeD 0 LL.length) (itR1_ok hln (by omega)) hlc (by rw [nats_length, hpn]; omega)
      have htu : eU dTuple (eO (oLc [8] (itR1 (eU dLen (eView 5))) (gaName 8) (tfTrue) (eBin dIx (eBin dIx (eView 3) (eView 8)) (eBin dIx (eView 5) (eView 8))))) [.val ZD, .val TD, .val (LKD LL), .val PD, .own (.lst (nats (((rows (LL.map List.length)).take i).map fun r => T.getD (num Z (pickN PK r) 0) 0))), .val (.tup (nats r)), s6, .no, .no] = .ok (.tup (nats (pickN PK r))) := (u_ok (eO_ok hoc)).trans rfl
      unfold lb1_law_given
      refine seq_go (e := [.val ZD, .val TD, .val (LKD LL), .val PD, .own (.lst (nats (((rows (LL.map List.length)).take i).map fun r => T.getD (num Z (pickN PK r) 0) 0))), .val (.tup (nats r)), .val (.tup (nats (pickN PK r))), .no, .no]) ((asg_ok htu).trans rfl) ?_
      · have ha : (aCons (eVar 0) (aCons (eVar 6) (aNil))) [.val ZD, .val TD, .val (LKD LL), .val PD, .own (.lst (nats (((rows (LL.map List.length)).take i).map fun r => T.getD (num Z (pickN PK r) 0) 0))), .val (.tup (nats r)), .val (.tup (nats (pickN PK r))), .no, .no] = .ok [ZD, .tup (nats (pickN PK r))] := acons_ok rfl (acons_ok rfl rfl)
        have hnum : eCall phi_law_number (aCons (eVar 0) (aCons (eVar 6) (aNil))) [.val ZD, .val TD, .val (LKD LL), .val PD, .own (.lst (nats (((rows (LL.map List.length)).take i).map fun r => T.getD (num Z (pickN PK r) 0) 0))), .val (.tup (nats r)), .val (.tup (nats (pickN PK r))), .no, .no] = .ok (.int (num Z (pickN PK r) 0 : Int)) := (call_ok (φ := phi_law_number) ha).trans (number_ok hZ (.inr rfl) hpp.length hsz.lt hsz.fewz)
        refine (app_ok (d := .int (T.getD (num Z (pickN PK r) 0) 0 : Nat)) rfl ((bin_ok (x := TD) (y := .int (num Z (pickN PK r) 0 : Int)) rfl hnum).trans (hT.ix (nats_get hT2))) ?_).trans ?_
        · rw [nats_length, List.length_map, List.length_take, rows_length]; omega
        · rw [take_succ' e2, List.map_append]
          unfold nats
          rw [List.map_append]
          rfl) (env := [.val ZD, .val TD, .val (LKD LL), .val PD, .own (.lst []), .no, .no, .no, .no]) ⟨.no, .no, rfl⟩
  unfold ir_law_given
  refine seq_res (e := [.val ZD, .val TD, .val (LKD LL), .val PD, .own (.lst []), .no, .no, .no, .no]) rfl (seq_res ((for_ok (SqD.it (d := .lst (tups (rows (LL.map List.length)))) (.inl rfl) hpl)).trans e1) ?_)
  have : (rows (LL.map List.length)).take (tups (rows (LL.map List.length))).length = rows (LL.map List.length) := List.take_of_length_le (by unfold tups; rw [List.length_map]; exact Nat.le_refl _)
  rw [this]
  rfl
theorem given_len {zs Z T : List Nat} {PK : List (List Nat)} : (givenN zs Z T PK).length = prodL zs := by unfold givenN; rw [List.length_map, rows_length]
theorem given_lt {zs Z T : List Nat} {PK : List (List Nat)} (hp : ∀ z ∈ zs, 0 < z) (hTl : T.length = prodL Z) (hTo : ∀ x ∈ T, x < o) (hF : PFit zs Z PK) : ∀ x ∈ givenN zs Z T PK, x < o := fun x hx => by
  unfold givenN at hx
  obtain ⟨r, hr, rfl⟩ := List.mem_map.mp hx
  have hn := num_lt Z _ (ply_pick hF ((mem_rows hp).mp hr))
  rw [List.getD_eq_getElem?_getD, List.getElem?_eq_getElem (by rw [hTl]; exact hn)]
  exact hTo _ (List.getElem_mem _)
/-! ### best messages give no gain -/
theorem firstS_none {α : Type} {r : Nat → Option α} : ∀ (n lo : Nat), (∀ i, lo ≤ i → i < lo + n → r i = none) → firstS r lo n = none
  | 0, _, _ => rfl
  | n + 1, lo, h => by
    unfold firstS
    rw [h lo (Nat.le_refl _) (by omega)]
    exact firstS_none n (lo + 1) fun i h1 h2 => h i (by omega) (by omega)
theorem no_gain {Z T : List Nat} {PK : List (List Nat)} (K : GoodL o LL) (hsz : Sz Z) (hF : PFit (LL.map List.length) Z PK)
    (hb : ∀ (k i : Nat) (p : List Nat) (L : List (List Nat)) (l : List Nat), PK[k]? = some p → LL[k]? = some L → L[i]? = some l → p.getD i 0 ∈ bestN l T Z k) : gainF (LL.map List.length) (worldsN LL) (givenN (LL.map List.length) Z T PK) = none := by
  refine firstS_none _ _ fun n _ hn => firstS_none _ _ fun k _ hk => firstS_none _ _ fun s _ hs => ?_
  have hn : n < prodL (LL.map List.length) := by omega
  have hk : k < LL.length := by rw [List.length_map] at hk; omega
  have hs : s < (LL.map List.length).getD k 0 := by omega
  unfold gain3
  rw [if_neg]
  have q0 : LL[k]? = some LL[k] := List.getElem?_eq_getElem hk
  have hz : (LL.map List.length)[k]? = some LL[k].length := by rw [List.getElem?_map, q0]; rfl
  have hzD : (LL.map List.length).getD k 0 = LL[k].length := by rw [List.getD_eq_getElem?_getD, hz]; rfl
  rw [hzD] at hs
  have hPk : k < PK.length := by rw [hF.1, List.length_map]; exact hk
  have q1 : PK[k]? = some PK[k] := List.getElem?_eq_getElem hPk
  let r := digits (LL.map List.length) n
  have hply : Ply (LL.map List.length) r := ply_digits _ n K.pos
  obtain ⟨j, hj, hjz⟩ := ply_get hply hz
  have hLj : (LL[k])[j]? = some ((LL[k]).getD j []) := by rw [List.getD_eq_getElem?_getD, List.getElem?_eq_getElem hjz]; rfl
  -- the liking
  have hlv : ∀ x, lv (worldsN LL) n k x = ((LL[k]).getD j []).getD x 0 := fun x => by
    unfold lv
    have h1 : (worldsN LL).getD n [] = pick LL r := by
      unfold worldsN
      rw [List.getD_eq_getElem?_getD, List.getElem?_map, rows_get hn]; rfl
    have h2 : (pick LL r).getD k [] = (LL[k]).getD j [] := by rw [List.getD_eq_getElem?_getD, pick_get q0 hj]; rfl
    rw [h1, h2]
  have hgv : ∀ m, m < prodL (LL.map List.length) → (givenN (LL.map List.length) Z T PK).getD m 0 = T.getD (num Z (pickN PK (digits (LL.map List.length) m)) 0) 0 := fun m hm => by
    unfold givenN
    rw [List.getD_eq_getElem?_getD, List.getElem?_map, rows_get hm]; rfl
  have hsz' : s < LL[k].length := hs
  have halt := alt_lt (n := n) K.pos hz hsz'
  have hda : digits (LL.map List.length) (alt (LL.map List.length) n k s) = r.set k s := digits_num _ _ (ply_set _ _ _ _ _ hply hz hsz')
  rw [hlv, hlv, hgv n hn, hgv _ halt, hda, pickN_set q1]
  have hbest := hb k j PK[k] LL[k] _ q1 q0 hLj
  unfold bestN at hbest
  have hall := (List.mem_filter.mp hbest).2
  rw [List.all_eq_true] at hall
  have hpp := ply_pick hF hply
  have hpk := pickN_get q1 hj
  have hZk : k < Z.length := by rw [hF.2.1, List.length_map]; exact hk
  have qz : Z[k]? = some Z[k] := List.getElem?_eq_getElem hZk
  obtain ⟨w1, w2⟩ := hF.2.2 k _ _ _ q1 hz qz
  have hps : (PK[k]).getD s 0 < Z[k] := by
    have : s < (PK[k]).length := by rw [w1]; exact hsz'
    rw [List.getD_eq_getElem?_getD, List.getElem?_eq_getElem this]
    exact w2 _ (List.getElem_mem this)
  have := hall ((pickN PK r).set k ((PK[k]).getD s 0)) ((mem_rows hsz.pos).mpr (ply_set _ _ _ _ _ hpp qz hps))
  rw [List.set_set] at this
  have e : (pickN PK r).set k ((PK[k]).getD j 0) = pickN PK r := by
    apply List.ext_getElem?
    intro i
    by_cases q : i = k
    · subst q
      rw [List.getElem?_set_self (List.getElem?_eq_some_iff.mp hpk).1, hpk]
    · rw [List.getElem?_set_ne (Ne.symm q)]
  rw [e] at this
  unfold lvl at this
  simpa using this
end
end Law
end
section
set_option maxRecDepth 100000
set_option maxHeartbeats 4000000
namespace Mi
open PySem PySem.Spec L2
theorem forL_exc {ga : GF} {body : SF} {c : Nat} {x : Option D} (Q : Envt → Prop) : ∀ (n m lo : Nat) (env : Envt), (∀ i env, lo ≤ i → i < lo + n → Q env → ∃ env1 e, ga (.int (i : Int)) env = some env1 ∧ body env1 = .nx e ∧ Q e) →
    (∀ env, Q env → ∃ env1 e, ga (.int ((lo + n : Nat) : Int)) env = some env1 ∧ body env1 = .exc c x e) → n < m → Q env → ∃ e, forL ga body (rangeD (lo : Int) m) env = .exc c x e
  | _, 0, _, _, _, _, h, _ => by omega
  | 0, m + 1, lo, env, _, h2, _, q => by
    obtain ⟨env1, e, h3, h4⟩ := h2 env q
    refine ⟨e, ?_⟩
    show forL ga body (.int (lo : Int) :: rangeD ((lo : Int) + 1) m) env = _
    rw [forL, show D.int (lo : Int) = .int ((lo + 0 : Nat) : Int) from rfl, h3]
    dsimp only
    rw [h4]
  | n + 1, m + 1, lo, env, h1, h2, hm, q => by
    obtain ⟨env1, e, h3, h4, h5⟩ := h1 lo env (Nat.le_refl _) (by omega) q
    show ∃ e, forL ga body (.int (lo : Int) :: rangeD ((lo + 1 : Nat) : Int) m) env = _
    rw [forL_nx h3 h4]
    exact forL_exc Q n m (lo + 1) e (fun i env a b => h1 i env (by omega) (by omega)) (by rw [show lo + 1 + n = lo + (n + 1) by omega]; exact h2) (by omega) h5
end Mi
namespace Law
open PySem PySem.Spec L2 Mi Rx
theorem chkF_int {n : Nat} (h : n < 1000000) : chkF (.int (n : Int)) = true := by
  show decide ((n : Int).natAbs.log2 < 64) = true
  rw [Int.natAbs_natCast]
  apply decide_eq_true
  by_cases h0 : n = 0
  · subst h0; decide
  · exact (Nat.log2_lt h0).mpr (Nat.lt_trans h (by decide))
section
variable {o : Nat} {LL : List (List (List Nat))} {L C : D} {zs : List Nat} {W : List (List (List Nat))} {c : List Nat}
/-! ### a wrong choice -/
theorem cc_start (hW : W.length = prodL zs) (rest : SF) : (sSeq (sAsg 2 (eU dLen (eFld [8] "worlds" (eView 0)))) rest) [.val (.ins 8 (domX o L zs W)), .val C, .no, .no] = rest [.val (.ins 8 (domX o L zs W)), .val C, .val (.int (prodL zs : Int)), .no] := by
  refine seq_nx ((asg_ok ((u_ok (fld_ok (c := 8) (fs := domX o L zs W) rfl rfl fld_worlds)).trans ?_)).trans rfl)
  show Res.ok (D.int ((W.map wD).length : Int)) = _
  rw [List.length_map, hW]
theorem cc_good (hC : SqD C (nats c)) {i : Nat} (hi : i < c.length) (ho : c.getD i 0 < o) (s3 : Mi.Slot) : ∃ env1 e, gaName 3 (.int (i : Int)) [.val (.ins 8 (domX o L zs W)), .val C, .val (.int (prodL zs : Int)), s3] = some env1 ∧ lb1_check_choice env1 = .nx e ∧ e = [.val (.ins 8 (domX o L zs W)), .val C, .val (.int (prodL zs : Int)), .val (.int (i : Int))] := by
  refine ⟨_, _, rfl, ?_, rfl⟩
  have c1 : c[i]? = some (c.getD i 0) := getD_some hi
  unfold lb1_check_choice
  refine (if_f ?_).trans rfl
  refine (tfOr_bl (a := false) (b := false) (tfE_bl ?_) fun _ => tfNot_bl (b := true) (tfE_bl ?_)).trans rfl
  · refine (bin_ok (x := .int (i : Int)) (y := .int (c.length : Int)) rfl ((u_ok (x := C) rfl).trans (hC.len.trans (by rw [nats_length])))).trans (ge_ok.trans ?_)
    rw [decide_eq_false (by omega)]
  · refine (within_ok (x := c.getD i 0) (o := o) ((bin_ok (x := C) (y := .int (i : Int)) rfl rfl).trans (hC.ix (nats_get c1))) (fld_ok (c := 8) (fs := domX o L zs W) rfl rfl fld_outcomes)).trans ?_
    rw [decide_eq_true ho]
theorem cc_bad (hC : SqD C (nats c)) {n : Nat} (hb : n < c.length → o ≤ c.getD n 0) (hn : n < 1000000) (s3 : Mi.Slot) : ∃ env1 e, gaName 3 (.int (n : Int)) [.val (.ins 8 (domX o L zs W)), .val C, .val (.int (prodL zs : Int)), s3] = some env1 ∧ lb1_check_choice env1 = .exc 6 (some (.int (n : Int))) e := by
  have hlen : eU dLen (eView 1) [.val (.ins 8 (domX o L zs W)), .val C, .val (.int (prodL zs : Int)), .val (.int (n : Int))] = .ok (.int (c.length : Int)) := (u_ok (x := C) rfl).trans (hC.len.trans (by rw [nats_length]))
  have hr : sRaise 6 chkF (eVar 3) [.val (.ins 8 (domX o L zs W)), .val C, .val (.int (prodL zs : Int)), .val (.int (n : Int))] = .exc 6 (some (.int (n : Int))) [.val (.ins 8 (domX o L zs W)), .val C, .val (.int (prodL zs : Int)), .val (.int (n : Int))] := by
    unfold sRaise
    rw [show eVar 3 [.val (.ins 8 (domX o L zs W)), .val C, .val (.int (prodL zs : Int)), .val (.int (n : Int))] = .ok (.int (n : Int)) from rfl]
    dsimp only
    rw [if_pos (chkF_int hn)]
  refine ⟨_, [.val (.ins 8 (domX o L zs W)), .val C, .val (.int (prodL zs : Int)), .val (.int (n : Int))], rfl, ?_⟩
  unfold lb1_check_choice
  refine (if_t ?_).trans hr
  have hge := (bin_ok (k := dGe) (f := eView 3) (env := [.val (.ins 8 (domX o L zs W)), .val C, .val (.int (prodL zs : Int)), .val (.int (n : Int))]) (x := .int (n : Int)) rfl hlen).trans ge_ok
  by_cases h : c.length ≤ n
  · refine (tfOr_bl (a := true) (b := true) (tfE_bl (hge.trans (by rw [decide_eq_true h]))) fun e => (by cases e)).trans rfl
  · have c1 : c[n]? = some (c.getD n 0) := getD_some (by omega)
    refine (tfOr_bl (a := false) (b := true) (tfE_bl (hge.trans (by rw [decide_eq_false h]))) fun _ => tfNot_bl (b := false) (tfE_bl ?_)).trans rfl
    refine (within_ok (x := c.getD n 0) (o := o) ((bin_ok (x := C) (y := .int (n : Int)) rfl rfl).trans (hC.ix (nats_get c1))) (fld_ok (c := 8) (fs := domX o L zs W) rfl rfl fld_outcomes)).trans ?_
    have := hb (by omega)
    rw [decide_eq_false (by omega)]
theorem check_exc (hW : W.length = prodL zs) (hP : prodL zs < 100000) (hC : SqD C (nats c)) {n : Nat} (hg : ∀ i, i < n → i < c.length ∧ c.getD i 0 < o) (hn : n < prodL zs) (hb : n < c.length → o ≤ c.getD n 0) : phi_check_choice [.ins 8 (domX o L zs W), C] = .exc 6 (some (.int (n : Int))) := by
  show (ir_check_choice [.val (.ins 8 (domX o L zs W)), .val C, .no, .no]).res = _
  unfold ir_check_choice
  rw [cc_start hW]
  obtain ⟨e, he⟩ := forL_exc (ga := gaName 3) (body := lb1_check_choice) (c := 6) (x := some (.int (n : Int))) (fun e => ∃ s3, e = [.val (.ins 8 (domX o L zs W)), .val C, .val (.int (prodL zs : Int)), s3]) n (prodL zs) 0 [.val (.ins 8 (domX o L zs W)), .val C, .val (.int (prodL zs : Int)), .no]
    (fun i env _ hi ⟨s3, h⟩ => by
      subst h
      obtain ⟨h1, h2⟩ := hg i (by omega)
      obtain ⟨env1, e, k1, k2, k3⟩ := cc_good (L := L) (zs := zs) (W := W) hC h1 h2 s3
      exact ⟨env1, e, k1, k2, _, k3⟩)
    (fun env ⟨s3, h⟩ => by subst h; rw [Nat.zero_add]; exact cc_bad hC hb (by omega) s3) hn ⟨_, rfl⟩
  rw [seq_exc ((for_ok (itR1_ok (n := prodL zs) rfl (by omega))).trans he)]
  rfl
theorem check_long (hW : W.length = prodL zs) (hP : prodL zs < 100000) (hC : SqD C (nats c)) (hg : ∀ i, i < prodL zs → i < c.length ∧ c.getD i 0 < o) (hl : prodL zs < c.length) : phi_check_choice [.ins 8 (domX o L zs W), C] = .exc 6 (some (.int (prodL zs : Int))) := by
  show (ir_check_choice [.val (.ins 8 (domX o L zs W)), .val C, .no, .no]).res = _
  unfold ir_check_choice
  rw [cc_start hW]
  obtain ⟨e, h1, s3, rfl⟩ := forL_inv (ga := gaName 3) (body := lb1_check_choice) (ds := rangeD 0 (prodL zs)) (fun i e => ∃ s3, e = [.val (.ins 8 (domX o L zs W)), .val C, .val (.int (prodL zs : Int)), s3])
    (fun i d env hi ⟨s3, he⟩ => by
      subst he
      have hi2 : i < prodL zs := by have := (List.getElem?_eq_some_iff.mp hi).1; rw [rangeD_length] at this; exact this
      rw [rangeD_get 0 _ i hi2, Int.zero_add] at hi
      cases hi
      obtain ⟨h1, h2⟩ := hg i hi2
      obtain ⟨env1, e, k1, k2, k3⟩ := cc_good (L := L) (zs := zs) (W := W) hC h1 h2 s3
      exact ⟨env1, e, k1, k2, _, k3⟩) (env := [.val (.ins 8 (domX o L zs W)), .val C, .val (.int (prodL zs : Int)), .no]) ⟨_, rfl⟩
  refine seq_res ((for_ok (itR1_ok (n := prodL zs) rfl (by omega))).trans h1) ?_
  have hlen : eU dLen (eView 1) [.val (.ins 8 (domX o L zs W)), .val C, .val (.int (prodL zs : Int)), s3] = .ok (.int (c.length : Int)) := (u_ok (x := C) rfl).trans (hC.len.trans (by rw [nats_length]))
  rw [if_t (tfE_bl (b := true) ((bin_ok hlen rfl).trans (gt_ok.trans (by rw [decide_eq_true hl]))))]
  unfold sRaise
  rw [show eVar 2 [.val (.ins 8 (domX o L zs W)), .val C, .val (.int (prodL zs : Int)), s3] = .ok (.int (prodL zs : Int)) from rfl]
  dsimp only
  rw [if_pos (chkF_int (by omega))]
  rfl
theorem first_exc {x : Option D} {X0 C0 : D} (h : phi_check_choice [X0, C0] = .exc 6 x) : phi_first_gain [X0, C0] = .exc 6 x := by
  have ha : (aCons (eVar 0) (aCons (eVar 1) (aNil))) [.val X0, .val C0] = .ok [X0, C0] := acons_ok rfl (acons_ok rfl rfl)
  have e1 : eCall phi_check_choice (aCons (eVar 0) (aCons (eVar 1) (aNil))) [.val X0, .val C0] = .exc 6 x := (call_ok ha).trans h
  show (ir_first_gain [.val X0, .val C0]).res = _
  unfold ir_first_gain
  rw [seq_exc (c := 6) (x := x) (e := [.val X0, .val C0])]
  · rfl
  · unfold sExp; rw [e1]
theorem sameA_int {n : Nat} : phiA_law_same [.int (n : Int), .int (n : Int)] = .ok (.bl true) := by
  have hE : dEq (.int (n : Int)) (.int (n : Int)) = .ok (.bl true) := eq_nat.trans (by rw [beq_self_eq_true])
  have h : (irA_law_same [.val (.int (n : Int)), .val (.int (n : Int)), .no]).res = .ok (.bl true) := by
    unfold irA_law_same
    refine seq_res (e := [.val (.int (n : Int)), .val (.int (n : Int)), .no]) rfl (seq_res (e := [.val (.int (n : Int)), .val (.int (n : Int)), .no]) rfl (seq_res (e := [.val (.int (n : Int)), .val (.int (n : Int)), .no]) rfl (seq_res (e := [.val (.int (n : Int)), .val (.int (n : Int)), .no]) rfl ?_)))
    rw [seq_rt (d := .bl true) (e := [.val (.int (n : Int)), .val (.int (n : Int)), .no])]
    · rfl
    · rw [if_t (tfE_t rfl)]
      exact ret_ok (and_ok rfl (and_ok rfl ((bin_ok rfl rfl).trans hE)))
  show (match dfn 2 3 irA_law_same [.int (n : Int), .int (n : Int)] with
    | .ok b => Res.ok b
    | _ => .stuck) = _
  have h2 : dfn 2 3 irA_law_same [.int (n : Int), .int (n : Int)] = .ok (.bl true) := h
  rw [h2]
theorem refused_ok {X0 C0 : D} {n : Nat} (h : phi_first_gain [X0, C0] = .exc 6 (some (.int (n : Int)))) : phi_law_refused [X0, C0, .int (n : Int)] = .ok (.bl true) := by
  have ha : (aCons (eVar 0) (aCons (eVar 1) (aNil))) [.val X0, .val C0, .val (.int (n : Int)), .no] = .ok [X0, C0] := acons_ok rfl (acons_ok rfl rfl)
  have e1 : sExp (eCall phi_first_gain (aCons (eVar 0) (aCons (eVar 1) (aNil)))) [.val X0, .val C0, .val (.int (n : Int)), .no] = .exc 6 (some (.int (n : Int))) [.val X0, .val C0, .val (.int (n : Int)), .no] := by
    unfold sExp
    rw [(call_ok (φ := phi_first_gain) ha).trans h]
  have hb : (aCons (eExF 3 6) (aCons (eVar 2) (aNil))) [.val X0, .val C0, .val (.int (n : Int)), .ex 6 (some (.int (n : Int)))] = .ok [.int (n : Int), .int (n : Int)] := acons_ok rfl (acons_ok rfl rfl)
  have e2 : sRet (eAnd (eIsE 3 6 (fun _ => true) true) (eAnd (eIsE 3 6 (fun _ => true) true) (eCall phiA_law_same (aCons (eExF 3 6) (aCons (eVar 2) (aNil)))))) [.val X0, .val C0, .val (.int (n : Int)), .ex 6 (some (.int (n : Int)))] = .rt (.bl true) [.val X0, .val C0, .val (.int (n : Int)), .ex 6 (some (.int (n : Int)))] :=
    ret_ok (and_ok rfl (and_ok rfl ((call_ok (φ := phiA_law_same) hb).trans sameA_int)))
  show (ir_law_refused [.val X0, .val C0, .val (.int (n : Int)), .no]).res = _
  unfold ir_law_refused
  rw [seq_rt (d := .bl true) (e := [.val X0, .val C0, .val (.int (n : Int)), .no])]
  · rfl
  · unfold sTry
    rw [e1]
    dsimp only
    rw [if_pos ⟨rfl, rfl⟩, if_pos rfl]
    show endTry 3 (sRet _ [.val X0, .val C0, .val (.int (n : Int)), .ex 6 (some (.int (n : Int)))]) = _
    rw [e2]
    rfl
theorem addL_ok {xs ys : List D} (h : xs.length + ys.length < 1000000) : dAdd (.lst xs) (.lst ys) = .ok (.lst (xs ++ ys)) := if_pos (by rw [sizeLine_eq]; omega)
theorem wrong_ok (K : Fit o zs W c) {a : Nat} (ha : a < c.length) : phi_law_wrong [.ins 8 (domX o L zs W), .lst (nats c), .int (a : Int), .int (o : Int)] = .ok (.bl true) := by
  have few := K.few
  have hcl := K.cl
  have hgood : ∀ i, i < c.length → c.getD i 0 < o := fun i hi => K.co _ (List.mem_of_getElem? (getD_some hi))
  let X0 : D := .ins 8 (domX o L zs W)
  let e0 : Envt := [.val X0, .val (.lst (nats c)), .val (.int (a : Int)), .val (.int (o : Int)), .no]
  have r1 : phi_law_refused [X0, .lst (nats (c.take a)), .int (a : Int)] = .ok (.bl true) := refused_ok (first_exc (check_exc K.wl few (.inl rfl) (fun i hi => by
    have hl : i < (c.take a).length := by rw [List.length_take]; omega
    refine ⟨hl, ?_⟩
    rw [List.getD_eq_getElem?_getD, List.getElem?_take_of_lt hi, ← List.getD_eq_getElem?_getD]
    exact hgood i (by omega)) (by omega) (fun h => by rw [List.length_take] at h; omega)))
  have r2 : phi_law_refused [X0, .lst (nats (c ++ [0])), .int (c.length : Int)] = .ok (.bl true) := by
    rw [hcl]
    refine refused_ok (first_exc (check_long K.wl few (.inl rfl) (fun i hi => ?_) (by rw [List.length_append]; show _ < _ + 1; omega)))
    refine ⟨by rw [List.length_append]; omega, ?_⟩
    rw [List.getD_eq_getElem?_getD, List.getElem?_append_left (by omega), ← List.getD_eq_getElem?_getD]
    exact hgood i (by omega)
  have r3 : phi_law_refused [X0, .lst (nats (c.set a o)), .int (a : Int)] = .ok (.bl true) := refused_ok (first_exc (check_exc K.wl few (.inl rfl) (fun i hi => by
    refine ⟨by rw [List.length_set]; omega, ?_⟩
    rw [List.getD_eq_getElem?_getD, List.getElem?_set_ne (by omega), ← List.getD_eq_getElem?_getD]
    exact hgood i (by omega)) (by omega) (fun h => by
    rw [List.getD_eq_getElem?_getD, List.getElem?_set_self ha]
    exact Nat.le_refl _)))
  have s1 : eSlice (eView 1) (nNone) (nSome (eView 2)) e0 = .ok (.lst (nats (c.take a))) := by
    show Res.ok (D.lst (cutD (nats c) none (some (a : Int)))) = _
    rw [cut_upto, nats_take]
  have s2 : eBin dAdd (eView 1) (eO (oLst (aCons (eC (.int 0)) (aNil)))) e0 = .ok (.lst (nats (c ++ [0]))) := by
    refine (bin_ok (x := .lst (nats c)) (y := .lst [.int 0]) rfl rfl).trans ((addL_ok (by rw [nats_length]; show c.length + 1 < _; omega)).trans ?_)
    unfold nats
    rw [List.map_append]
    rfl
  have s3 : eU dLen (eView 1) e0 = .ok (.int (c.length : Int)) := by
    show Res.ok (D.int ((nats c).length : Int)) = _
    rw [nats_length]
  have s4 : eSlice (eView 1) (nSome (eBin dAdd (eView 2) (eC (.int 1)))) (nNone) e0 = .ok (.lst (nats (c.drop (a + 1)))) := by
    show Res.ok (D.lst (cutD (nats c) (some ((a + 1 : Nat) : Int)) none)) = _
    rw [cut_from, nats_drop]
  have s5 : eBin dAdd (eBin dAdd (eSlice (eView 1) (nNone) (nSome (eView 2))) (eO (oLst (aCons (eVar 3) (aNil))))) (eSlice (eView 1) (nSome (eBin dAdd (eView 2) (eC (.int 1)))) (nNone)) e0 = .ok (.lst (nats (c.set a o))) := by
    refine (bin_ok ((bin_ok s1 (rfl : eO (oLst (aCons (eVar 3) (aNil))) e0 = .ok (.lst [.int (o : Int)]))).trans (addL_ok ?_)) s4).trans ((addL_ok ?_).trans ?_)
    · rw [nats_length, List.length_take]; show min a _ + 1 < _; omega
    · rw [List.length_append, nats_length, nats_length, List.length_take, List.length_drop]; show min a _ + 1 + _ < _; omega
    · rw [← set_cut c a o ha]
      unfold nats
      rw [List.map_append, List.map_append]
      rfl
  have a1 : (aCons (eVar 0) (aCons (eSlice (eView 1) (nNone) (nSome (eView 2))) (aCons (eVar 2) (aNil)))) e0 = .ok [X0, .lst (nats (c.take a)), .int (a : Int)] := acons_ok rfl (acons_ok s1 (acons_ok rfl rfl))
  have a2 : (aCons (eVar 0) (aCons (eBin dAdd (eView 1) (eO (oLst (aCons (eC (.int 0)) (aNil))))) (aCons (eU dLen (eView 1)) (aNil)))) e0 = .ok [X0, .lst (nats (c ++ [0])), .int (c.length : Int)] := acons_ok rfl (acons_ok s2 (acons_ok s3 rfl))
  show (ir_law_wrong e0).res = _
  unfold ir_law_wrong
  refine seq_res (e := e0) ((if_f ((tfOr_bl (a := false) (b := false) (tfNot_bl (b := true) (tfE_bl ((call_ok (φ := phi_law_refused) a1).trans r1))) fun _ => tfNot_bl (b := true) (tfE_bl ((call_ok (φ := phi_law_refused) a2).trans r2))).trans rfl)).trans rfl) ?_
  refine seq_res (e := [.val X0, .val (.lst (nats c)), .val (.int (a : Int)), .val (.int (o : Int)), .val (.lst (nats (c.set a o)))]) ((asg_ok s5).trans rfl) ?_
  have a3 : (aCons (eVar 0) (aCons (eVar 4) (aCons (eVar 2) (aNil)))) [.val X0, .val (.lst (nats c)), .val (.int (a : Int)), .val (.int (o : Int)), .val (.lst (nats (c.set a o)))] = .ok [X0, .lst (nats (c.set a o)), .int (a : Int)] := acons_ok rfl (acons_ok rfl (acons_ok rfl rfl))
  rw [ret_ok ((call_ok (φ := phi_law_refused) a3).trans r3)]
  rfl
end
/-! ### Game -/
section
variable {o : Nat} {Z T : List Nat} {ZD TD : D}
theorem check_table_ok (hT : SqD TD (nats T)) (hTl : T.length = prodL Z) (hTo : ∀ x ∈ T, x < o) (hP : prodL Z < 100000) : phi_check_table [TD, .int (prodL Z : Int), .int (o : Int)] = .ok .non := by
  have hlen : dLen TD = .ok (.int (prodL Z : Int)) := by rw [hT.len, nats_length, hTl]
  show (ir_check_table [.val TD, .val (.int (prodL Z : Int)), .val (.int (o : Int)), .no]).res = _
  obtain ⟨e, h1, s3, rfl⟩ := forL_inv (ga := gaName 3) (body := lb1_check_table) (ds := rangeD 0 (prodL Z)) (fun i e => ∃ s3, e = [.val TD, .val (.int (prodL Z : Int)), .val (.int (o : Int)), s3])
    (fun i d env hi ⟨s3, he⟩ => by
      subst he
      have hi2 : i < prodL Z := by have := (List.getElem?_eq_some_iff.mp hi).1; rw [rangeD_length] at this; exact this
      rw [rangeD_get 0 _ i hi2, Int.zero_add] at hi
      cases hi
      have c1 : T[i]? = some (T.getD i 0) := getD_some (by omega)
      refine ⟨_, [.val TD, .val (.int (prodL Z : Int)), .val (.int (o : Int)), .val (.int (i : Int))], rfl, ?_, _, rfl⟩
      unfold lb1_check_table
      refine (if_f (tfNot_bl (b := true) (tfE_bl ((within_ok (x := T.getD i 0) (o := o) ((bin_ok (x := TD) (y := .int (i : Int)) rfl rfl).trans (hT.ix (nats_get c1))) rfl).trans ?_)))).trans rfl
      rw [decide_eq_true (hTo _ (List.mem_of_getElem? c1))]) (env := [.val TD, .val (.int (prodL Z : Int)), .val (.int (o : Int)), .no]) ⟨_, rfl⟩
  have hmin : eBin dMin2 (eView 1) (eU dLen (eView 0)) [.val TD, .val (.int (prodL Z : Int)), .val (.int (o : Int)), .no] = .ok (.int (prodL Z : Int)) := by
    refine (bin_ok (x := .int (prodL Z : Int)) (y := .int (prodL Z : Int)) rfl ((u_ok (x := TD) rfl).trans hlen)).trans ?_
    show Res.ok (D.int (if (prodL Z : Int) < (prodL Z : Int) then _ else _)) = _
    rw [if_neg (by omega)]
  unfold ir_check_table
  refine seq_res ((for_ok (itR1_ok hmin (by omega))).trans h1) ?_
  rw [if_f (tfE_bl (b := false) ((bin_ok ((u_ok (x := TD) rfl).trans hlen) rfl).trans ne_nat))]
  rfl
theorem game_ok (hZ : SqD ZD (nats Z)) (hT : SqD TD (nats T)) (hsz : Sz Z) (h1 : 1 ≤ Z.length) (h4 : Z.length ≤ 4) (hP : prodL Z ≤ 4096) (o1 : 1 ≤ o) (o8 : o ≤ 8) (hTl : T.length = prodL Z) (hTo : ∀ x ∈ T, x < o) : phi_Game_init [ZD, .int (o : Int), TD] = .ok (gameX o Z T) := by
  have hlen : dLen ZD = .ok (.int (Z.length : Int)) := by rw [hZ.len, nats_length]
  have sf : ∀ {f g : SF} {env e : Envt} {r : Res (List (Str × D))}, f env = .nx e → (g e).fields 7 = r → (sSeq f g env).fields 7 = r := fun h k => (congrArg (Out.fields 7) (seq_nx h)).trans k
  show (ir_Game_init [.own (.ins 7 []), .val ZD, .val (.int (o : Int)), .val TD]).fields 7 = _
  let e0 : Envt := [.own (.ins 7 []), .val ZD, .val (.int (o : Int)), .val TD]
  have hmin : ∃ m : Nat, 1 ≤ m ∧ dMinA ZD = .ok (.int (m : Int)) := by
    have hne : Z.map (fun n : Nat => (n : Int)) ≠ [] := fun e => by
      have := congrArg List.length e
      rw [List.length_map, List.length_nil] at this
      omega
    obtain ⟨k1, _⟩ := minI_spec hne
    obtain ⟨m, hm, e⟩ := List.mem_map.mp k1
    refine ⟨m, hsz.pos m hm, ?_⟩
    have hi : ZD.items = some (nats Z) := by rcases hZ with rfl | rfl <;> rfl
    unfold dMinA
    rw [hi]
    dsimp only
    rw [ints_nats]
    dsimp only
    rw [if_neg hne, ← e]
  obtain ⟨m, hm1, hmin⟩ := hmin
  have hcc : phi_check_count [ZD, .int 4096] = .ok .non := by
    show (ir_check_count [.val ZD, .val (.int 4096)]).res = _
    unfold ir_check_count
    have ha : (aCons (eVar 0) (aNil)) [.val ZD, .val (.int 4096)] = .ok [ZD] := acons_ok rfl rfl
    have hc := (call_ok (φ := phi_count_plays) ha).trans (count_ok hZ (by omega) hsz.pos)
    rw [if_f (tfE_bl (b := false) ((bin_ok (x := .int (prodL Z : Int)) (y := .int ((4096 : Nat) : Int)) hc rfl).trans (gt_ok.trans (by rw [decide_eq_false (by omega)]))))]
    rfl
  have hcp : eCall phi_count_plays (aCons (eVar 1) (aNil)) e0 = .ok (.int (prodL Z : Int)) := (call_ok (ds := [ZD]) (acons_ok rfl rfl)).trans (count_ok hZ (by omega) hsz.pos)
  have a1 : (aCons (eVar 1) (aCons (eC (.int 4096)) (aNil))) e0 = .ok [ZD, .int 4096] := acons_ok rfl (acons_ok rfl rfl)
  have a2 : (aCons (eVar 3) (aCons (eCall phi_count_plays (aCons (eVar 1) (aNil))) (aCons (eVar 2) (aNil)))) e0 = .ok [TD, .int (prodL Z : Int), .int (o : Int)] := acons_ok rfl (acons_ok hcp (acons_ok rfl rfl))
  unfold ir_Game_init
  refine sf (e := e0) ((if_f (tfNot_bl (b := true) (tfE_bl ?_))).trans rfl) ?_
  · rw [chain_ok (a := true) (x := .int ((1 : Nat) : Int)) (y := .int (Z.length : Int)) (z := .int ((4 : Nat) : Int)) rfl ((u_ok (x := ZD) rfl).trans hlen) rfl (le_ok.trans (by rw [decide_eq_true h1])) le_ok, if_pos rfl, decide_eq_true h4]
  refine sf (e := e0) ((if_f (tfE_bl ((bin_ok (x := .int (m : Int)) (y := .int ((1 : Nat) : Int)) ((u_ok (x := ZD) rfl).trans hmin) rfl).trans (lt_ok.trans (by rw [decide_eq_false (by omega)]))))).trans rfl) ?_
  refine sf (e := e0) ((if_f (tfNot_bl (b := true) (tfE_bl ?_))).trans rfl) ?_
  · rw [chain_ok (a := true) (x := .int ((1 : Nat) : Int)) (y := .int (o : Int)) (z := .int ((8 : Nat) : Int)) rfl rfl rfl (le_ok.trans (by rw [decide_eq_true o1])) le_ok, if_pos rfl, decide_eq_true o8]
  refine sf (e := e0) (exp_ok ((call_ok (φ := phi_check_count) a1).trans hcc)) ?_
  refine sf (e := e0) (exp_ok ((call_ok (φ := phi_check_table) a2).trans (check_table_ok hT hTl hTo hsz.few))) ?_
  refine sf (e := [.own (.ins 7 [("sizes", .tup (nats Z))]), .val ZD, .val (.int (o : Int)), .val TD]) (fldset_ok (fs := []) (d := .tup (nats Z)) rfl ((u_ok (x := ZD) rfl).trans hZ.tuple) (by show 0 < 1000; omega)) ?_
  refine sf (e := [.own (.ins 7 [("sizes", .tup (nats Z)), ("outcomes", .int (o : Int))]), .val ZD, .val (.int (o : Int)), .val TD]) (fldset_ok (fs := [("sizes", .tup (nats Z))]) (d := .int (o : Int)) rfl rfl (by show 1 < 1000; omega)) ?_
  rw [fldset_ok (fs := [("sizes", .tup (nats Z)), ("outcomes", .int (o : Int))]) (d := .tup (nats T)) rfl ((u_ok (x := TD) rfl).trans hT.tuple) (by show 2 < 1000; omega)]
  rfl
end
end Law
end
section
set_option maxRecDepth 100000
set_option maxHeartbeats 4000000
namespace Mi
open PySem PySem.Spec L2
theorem tfAnd_bl {t u : TF} {env : Envt} {a b : Bool} (h : t env = .ok a) (k : a = true → u env = .ok b) : tfAnd t u env = .ok (a && b) := by
  unfold tfAnd
  rw [h]
  cases a with
  | true => exact k rfl
  | false => rfl
end Mi
namespace Law
open PySem PySem.Spec L2 Mi Rx
def HDD (LL : List (List (List Nat))) : D := .lst (LL.map fun L => .lst (lsts L))
theorem dom_t (LL : List (List (List Nat))) : DomIn (LKD LL) LL := ⟨LL.map fun L => .tup (tups L), .inr rfl, List.length_map _, fun i r L hr hL => by
  rw [List.getElem?_map, hL] at hr
  cases hr
  refine ⟨tups L, .inr rfl, by unfold tups; rw [List.length_map], fun j d l hd hl => ?_⟩
  rw [tups_get hl] at hd
  cases hd
  exact .inr rfl⟩
theorem dom_l (LL : List (List (List Nat))) : DomIn (HDD LL) LL := ⟨LL.map fun L => .lst (lsts L), .inl rfl, List.length_map _, fun i r L hr hL => by
  rw [List.getElem?_map, hL] at hr
  cases hr
  refine ⟨lsts L, .inl rfl, by unfold lsts; rw [List.length_map], fun j d l hd hl => ?_⟩
  unfold lsts at hd
  rw [List.getElem?_map, hl] at hd
  cases hd
  exact .inl rfl⟩
section
variable {o : Nat} {Z T : List Nat} {LL : List (List (List Nat))} {S AT W9 : D} {w e k i : Nat} {PB PL : List (List Nat)} {s7 s8 s13 s14 s15 s16 s17 s18 : Mi.Slot}
/-- sizes and a table that fit the likings -/
structure AFit (o : Nat) (Z T : List Nat) (LL : List (List (List Nat))) : Prop where
  G : GoodL o LL
  sz : Sz Z
  zl : Z.length = LL.length
  zb : prodL Z ≤ 4096
  z1 : ∀ z ∈ Z, z < 1000
  tl : T.length = prodL Z
  tv : ∀ x ∈ T, x < o
abbrev EA (S AT : D) (o : Nat) (Z T : List Nat) (LL : List (List (List Nat))) (w : Nat) (s7 s8 : Mi.Slot) (W9 : D) (PB PL : List (List Nat)) (e : Nat) (s13 s14 s15 s16 s17 s18 : Mi.Slot) : Envt :=
  [.val S, .val AT, .val (.tup (nats Z)), .val (.tup (nats T)), .val (LKD LL), .val (.int (o : Int)), .val (.int (w : Int)), s7, s8, .val W9, .own (.lst (lsts PB)), .own (.lst (lsts PL)), .val (.int (e : Int)), s13, s14, s15, s16, s17, s18, .no, .no]
def S8 (o : Nat) (Z T : List Nat) (s : Mi.Slot) : Prop := s = .own (.ins 7 (gameX o Z T)) ∨ s = .val (.ins 7 (gameX o Z T))
theorem lik_at {L : List (List Nat)} {l : List Nat} (hL : LL[k]? = some L) (hl : L[i]? = some l) {env : Envt} {a b : Nat} (h4 : env[4]? = some (.val (LKD LL))) (ha : env[a]? = some (.val (.int (k : Int)))) (hb : env[b]? = some (.val (.int (i : Int)))) : eBin dIx (eBin dIx (eView 4) (eView a)) (eView b) env = .ok (.tup (nats l)) := by
  refine (bin_ok (x := .tup (tups L)) (y := .int (i : Int)) ((bin_ok (x := LKD LL) (y := .int (k : Int)) (by unfold eView; rw [h4]) (by unfold eView; rw [ha])).trans (ixT ?_)) (by unfold eView; rw [hb])).trans (ixT (tups_get hl))
  rw [List.getElem?_map, hL]
  rfl
theorem lik_len {L : List (List Nat)} (hL : LL[k]? = some L) {env : Envt} {a : Nat} (h4 : env[4]? = some (.val (LKD LL))) (ha : env[a]? = some (.val (.int (k : Int)))) : eU dLen (eBin dIx (eView 4) (eView a)) env = .ok (.int (L.length : Int)) := by
  refine (u_ok (x := .tup (tups L)) ((bin_ok (x := LKD LL) (y := .int (k : Int)) (by unfold eView; rw [h4]) (by unfold eView; rw [ha])).trans (ixT ?_))).trans ?_
  · rw [List.getElem?_map, hL]; rfl
  · show Res.ok (D.int ((tups L).length : Int)) = _
    unfold tups
    rw [List.length_map]
theorem AFit.g (K : AFit o Z T LL) {L : List (List Nat)} {l : List Nat} (hL : L ∈ LL) (hl : l ∈ L) : GFit o Z T l := ⟨K.sz, K.tl, K.tv, ((K.G.r1 L hL).2.2.2 l hl).1⟩
theorem best_lt {l : List Nat} {x : Nat} (h : x ∈ bestN l T Z k) : x < Z.getD k 0 := List.mem_range.mp (List.mem_filter.mp h).1
theorem asked1_ok (K : AFit o Z T LL) {L : List (List Nat)} {l : List Nat} (hL : LL[k]? = some L) (hl : L[i]? = some l) {R pk : List Nat} (hR : R.length = 2 * L.length) (hpk : pk.length < 100) (h8 : S8 o Z T s8) :
    ∃ x e' s8' s17', lb1_law_asked (EA S AT o Z T LL w s7 s8 W9 PB PL e (.val (.int (k : Int))) (.val (.lst (nats R))) (.own (.lst (nats pk))) (.val (.int (i : Int))) s17 s18)
      = .nx (EA S AT o Z T LL w s7 s8' W9 PB PL e' (.val (.int (k : Int))) (.val (.lst (nats R))) (.own (.lst (nats (pk ++ [x])))) (.val (.int (i : Int))) s17' s18) ∧ S8 o Z T s8' ∧ x < Z.getD k 0 ∧ ((e' = e ∧ x ∈ bestN l T Z k) ∨ e' = e + 1) := by
  have hk : k < LL.length := (List.getElem?_eq_some_iff.mp hL).1
  have hkZ : k < Z.length := by rw [K.zl]; exact hk
  have hil : i < L.length := (List.getElem?_eq_some_iff.mp hl).1
  have hLm := List.mem_of_getElem? hL
  have hz := getD_some (d := 0) hkZ
  have hz0 := K.sz.pos _ (List.mem_of_getElem? hz)
  have hz1 := K.z1 _ (List.mem_of_getElem? hz)
  have hL6 := (K.G.r1 L hLm).2.1
  have G := K.g hLm (List.mem_of_getElem? hl)
  let B := bestN l T Z k
  have hB : B.length < 1000 := by
    have := List.length_filter_le (fun m => (rows Z).all fun r => !decide (lvl l T Z (r.set k m) < lvl l T Z r)) (List.range (Z.getD k 0))
    rw [List.length_range] at this
    exact Nat.lt_of_le_of_lt this hz1
  let V : Mi.Slot := .val (.ins 7 (gameX o Z T))
  have st1 : sAsg 17 (eCall phi_law_best (aCons (eVar 2) (aCons (eVar 3) (aCons (eVar 13) (aCons (eBin dIx (eBin dIx (eView 4) (eView 13)) (eView 16)) (aNil)))))) (EA S AT o Z T LL w s7 s8 W9 PB PL e (.val (.int (k : Int))) (.val (.lst (nats R))) (.own (.lst (nats pk))) (.val (.int (i : Int))) s17 s18) = .nx (EA S AT o Z T LL w s7 s8 W9 PB PL e (.val (.int (k : Int))) (.val (.lst (nats R))) (.own (.lst (nats pk))) (.val (.int (i : Int))) (.val (.lst (nats B))) s18) := by
    have ha : (aCons (eVar 2) (aCons (eVar 3) (aCons (eVar 13) (aCons (eBin dIx (eBin dIx (eView 4) (eView 13)) (eView 16)) (aNil))))) (EA S AT o Z T LL w s7 s8 W9 PB PL e (.val (.int (k : Int))) (.val (.lst (nats R))) (.own (.lst (nats pk))) (.val (.int (i : Int))) s17 s18) = .ok [.tup (nats Z), .tup (nats T), .int (k : Int), .tup (nats l)] := acons_ok rfl (acons_ok rfl (acons_ok rfl (acons_ok (lik_at hL hl rfl rfl rfl) rfl)))
    exact (asg_ok ((call_ok (φ := phi_law_best) ha).trans (law_best_ok G (.inr rfl) (.inr rfl) (.inr rfl) hkZ))).trans rfl
  let E1 : Envt := EA S AT o Z T LL w s7 V W9 PB PL e (.val (.int (k : Int))) (.val (.lst (nats R))) (.own (.lst (nats pk))) (.val (.int (i : Int))) (.val (.lst (nats B))) s18
  have st2 : sFrz 8 (sFrz 17 (sIf (tfNot (tfE (eCall (phi_law_same 6) (aCons (eCall phi_best_messages (aCons (eVar 8) (aCons (eVar 13) (aCons (eBin dIx (eBin dIx (eView 4) (eView 13)) (eView 16)) (aNil))))) (aCons (eVar 17) (aNil)))))) (sRet (eC (.bl false))) (sNil))) (EA S AT o Z T LL w s7 s8 W9 PB PL e (.val (.int (k : Int))) (.val (.lst (nats R))) (.own (.lst (nats pk))) (.val (.int (i : Int))) (.val (.lst (nats B))) s18) = .nx E1 := by
    have hf : frz 17 (frz 8 (EA S AT o Z T LL w s7 s8 W9 PB PL e (.val (.int (k : Int))) (.val (.lst (nats R))) (.own (.lst (nats pk))) (.val (.int (i : Int))) (.val (.lst (nats B))) s18)) = E1 := by rcases h8 with rfl | rfl <;> rfl
    unfold sFrz
    rw [hf]
    have ha : (aCons (eVar 8) (aCons (eVar 13) (aCons (eBin dIx (eBin dIx (eView 4) (eView 13)) (eView 16)) (aNil)))) E1 = .ok [.ins 7 (gameX o Z T), .int (k : Int), .tup (nats l)] := acons_ok rfl (acons_ok rfl (acons_ok (lik_at hL hl rfl rfl rfl) rfl))
    have hb := (call_ok (φ := phi_best_messages) ha).trans (best_messages_ok G hkZ K.zb K.z1)
    have hc : (aCons (eCall phi_best_messages (aCons (eVar 8) (aCons (eVar 13) (aCons (eBin dIx (eBin dIx (eView 4) (eView 13)) (eView 16)) (aNil))))) (aCons (eVar 17) (aNil))) E1 = .ok [.tup (nats B), .lst (nats B)] := acons_ok hb (acons_ok rfl rfl)
    exact (if_f (tfNot_bl (b := true) (tfE_bl ((call_ok (φ := phi_law_same 6) hc).trans (same_seq (.inl rfl) hB))))).trans rfl
  have hR2 : R[2 * i]? = some (R.getD (2 * i) 0) := getD_some (by omega)
  have idx : ∀ (F : List Nat) (s : Mi.Slot) (en : Nat), F ≠ [] → F.length < 1000 → (s = .val (.lst (nats F)) ∨ s = .own (.lst (nats F))) → eBin dIx (eView 17) (eBin dMod (eU dInt (eBin dIx (eView 14) (eBin dMul (eC (.int 2)) (eView 16)))) (eU dLen (eView 17))) (EA S AT o Z T LL w s7 V W9 PB PL en (.val (.int (k : Int))) (.val (.lst (nats R))) (.own (.lst (nats pk))) (.val (.int (i : Int))) s s18) = .ok (.int (F.getD (R.getD (2 * i) 0 % F.length) 0 : Nat)) := by
    intro F s en hF hFl hs
    have hpos : 0 < F.length := List.length_pos_iff.mpr hF
    have hv : eView 17 (EA S AT o Z T LL w s7 V W9 PB PL en (.val (.int (k : Int))) (.val (.lst (nats R))) (.own (.lst (nats pk))) (.val (.int (i : Int))) s s18) = .ok (.lst (nats F)) := by rcases hs with rfl | rfl <;> rfl
    have h1 : eBin dMul (eC (.int 2)) (eView 16) (EA S AT o Z T LL w s7 V W9 PB PL en (.val (.int (k : Int))) (.val (.lst (nats R))) (.own (.lst (nats pk))) (.val (.int (i : Int))) s s18) = .ok (.int ((2 * i : Nat) : Int)) := by
      refine (bin_ok (x := .int 2) (y := .int (i : Int)) rfl rfl).trans ((mul_ok (by decide)).trans ?_)
      rw [Int.natCast_mul]; rfl
    have h2 : eU dInt (eBin dIx (eView 14) (eBin dMul (eC (.int 2)) (eView 16))) (EA S AT o Z T LL w s7 V W9 PB PL en (.val (.int (k : Int))) (.val (.lst (nats R))) (.own (.lst (nats pk))) (.val (.int (i : Int))) s s18) = .ok (.int (R.getD (2 * i) 0 : Nat)) := (u_ok ((bin_ok (x := .lst (nats R)) (y := .int ((2 * i : Nat) : Int)) rfl h1).trans (ixL (nats_get hR2)))).trans rfl
    have h3 : eU dLen (eView 17) (EA S AT o Z T LL w s7 V W9 PB PL en (.val (.int (k : Int))) (.val (.lst (nats R))) (.own (.lst (nats pk))) (.val (.int (i : Int))) s s18) = .ok (.int (F.length : Int)) := (u_ok hv).trans (by show Res.ok (D.int ((nats F).length : Int)) = _; rw [nats_length])
    exact (bin_ok hv ((bin_ok h2 h3).trans (mod_ok hpos))).trans (ixL (nats_get (getD_some (Nat.mod_lt _ hpos))))
  have hl0 : eBin dEq (eU dLen (eView 17)) (eC (.int 0)) E1 = .ok (.bl (B.length == 0)) := by
    refine (bin_ok (x := .int (B.length : Int)) (y := .int 0) ((u_ok (x := .lst (nats B)) rfl).trans (by show Res.ok (D.int ((nats B).length : Int)) = _; rw [nats_length])) rfl).trans eq_zero
  unfold lb1_law_asked
  by_cases hB0 : B = []
  · -- none is best
    have hlb : (B.length == 0) = true := by rw [hB0]; rfl
    refine ⟨0, e + 1, V, .own (.lst [.int 0]), ?_, .inr rfl, hz0, .inr rfl⟩
    refine seq_go st1 (seq_go st2 (seq_go (e := EA S AT o Z T LL w s7 V W9 PB PL (e + 1) (.val (.int (k : Int))) (.val (.lst (nats R))) (.own (.lst (nats pk))) (.val (.int (i : Int))) (.own (.lst [.int 0])) s18) ((if_t (tfE_bl (hl0.trans (by rw [hlb])))).trans ?_) ?_))
    · refine seq_go (e := EA S AT o Z T LL w s7 V W9 PB PL e (.val (.int (k : Int))) (.val (.lst (nats R))) (.own (.lst (nats pk))) (.val (.int (i : Int))) (.own (.lst [.int 0])) s18) rfl ?_
      rfl
    · have := idx [0] (.own (.lst [.int 0])) (e + 1) (by decide) (by decide) (.inr rfl)
      have hx : ([0] : List Nat).getD (R.getD (2 * i) 0 % ([0] : List Nat).length) 0 = 0 := by
        rw [show ([0] : List Nat).length = 1 from rfl, Nat.mod_one]; rfl
      rw [hx] at this
      refine (app_ok (ds := nats pk) (d := .int ((0 : Nat) : Int)) rfl this (by rw [nats_length]; omega)).trans ?_
      unfold nats
      rw [List.map_append]
      rfl
  · have hlb : (B.length == 0) = false := beq_false_of_ne (fun h => hB0 (List.length_eq_zero_iff.mp h))
    have hpos : 0 < B.length := List.length_pos_iff.mpr hB0
    have hxm : B.getD (R.getD (2 * i) 0 % B.length) 0 ∈ B := List.mem_of_getElem? (getD_some (Nat.mod_lt _ hpos))
    refine ⟨B.getD (R.getD (2 * i) 0 % B.length) 0, e, V, .val (.lst (nats B)), ?_, .inr rfl, best_lt hxm, .inl ⟨rfl, hxm⟩⟩
    refine seq_go st1 (seq_go st2 (seq_go (e := E1) ((if_f (tfE_bl (hl0.trans (by rw [hlb])))).trans rfl) ?_))
    refine (app_ok (ds := nats pk) rfl (idx B (.val (.lst (nats B))) e hB0 hB (.inl rfl)) (by rw [nats_length]; omega)).trans ?_
    unfold nats
    rw [List.map_append]
    rfl
/-- picks so far -/
def PicksTo (zs Z : List Nat) (n : Nat) (PK : List (List Nat)) : Prop := PK.length = n ∧ ∀ (k : Nat) (p : List Nat) (z y : Nat), PK[k]? = some p → zs[k]? = some z → Z[k]? = some y → p.length = z ∧ ∀ x ∈ p, x < y
def BestTo (T Z : List Nat) (LL : List (List (List Nat))) (PK : List (List Nat)) : Prop := ∀ (k i : Nat) (p : List Nat) (L : List (List Nat)) (l : List Nat), PK[k]? = some p → LL[k]? = some L → L[i]? = some l → p.getD i 0 ∈ bestN l T Z k
theorem picks_snoc {zs Z : List Nat} {n : Nat} {PK : List (List Nat)} {p : List Nat} (h : PicksTo zs Z n PK) (hp : ∀ z y, zs[n]? = some z → Z[n]? = some y → p.length = z ∧ ∀ x ∈ p, x < y) : PicksTo zs Z (n + 1) (PK ++ [p]) := by
  obtain ⟨h1, h2⟩ := h
  refine ⟨by rw [List.length_append, h1]; rfl, fun k q z y a b c => ?_⟩
  by_cases hk : k < n
  · rw [List.getElem?_append_left (by omega)] at a
    exact h2 k q z y a b c
  · rw [List.getElem?_append_right (by omega)] at a
    have hkn : k = n := by
      have := (List.getElem?_eq_some_iff.mp a).1
      simp at this
      omega
    subst hkn
    rw [h1, Nat.sub_self] at a
    cases a
    exact hp z y b c
theorem best_snoc {PK : List (List Nat)} {p : List Nat} {n : Nat} (hn : PK.length = n) (h : BestTo T Z LL PK) (hp : ∀ i L l, LL[n]? = some L → L[i]? = some l → p.getD i 0 ∈ bestN l T Z n) : BestTo T Z LL (PK ++ [p]) := by
  intro k i q L l a b c
  by_cases hk : k < n
  · rw [List.getElem?_append_left (by omega)] at a
    exact h k i q L l a b c
  · rw [List.getElem?_append_right (by omega)] at a
    have hkn : k = n := by
      have := (List.getElem?_eq_some_iff.mp a).1
      simp at this
      omega
    subst hkn
    rw [hn, Nat.sub_self] at a
    cases a
    exact hp i L l b c
theorem nats_of5 {r : List Int} {m : Int} (h : Mi.bnd m r) : r.map D.int = nats (r.map Int.toNat) := by
  unfold nats
  rw [List.map_map]
  apply List.map_congr_left
  intro x hx
  have := h x hx
  show D.int x = D.int (x.toNat : Int)
  rw [Int.toNat_of_nonneg this.1]
/-- a drawn row, as naturals -/
theorem rowN (ns : List Int) (a L n : Nat) (hL : 0 < L) (hL2 : L < 1073741824) (hn : n < 1000) : ∃ R : List Nat, phi_law_row [.lst (ns.map .int), .int (a : Int), .int (n : Int), .int (L : Int)] = .ok (.lst (nats R)) ∧ R.length = n ∧ ∀ x ∈ R, x < L := by
  obtain ⟨r, h1, h2, h3⟩ := row_ok ns (a : Int) (L : Int) n (Int.natCast_nonneg a) (by omega) (by omega) hn
  refine ⟨r.map Int.toNat, by rw [h1, nats_of5 h2], by rw [List.length_map]; exact h3, fun x hx => ?_⟩
  obtain ⟨y, hy, rfl⟩ := List.mem_map.mp hx
  have := h2 y hy
  omega
theorem asked2_ok {ns : List Int} {at0 : Nat} (K : AFit o Z T LL) {L : List (List Nat)} (hL : LL[k]? = some L) (h8 : S8 o Z T s8) (hPB : PB.length < 100) (hPL : PL.length < 100) :
    ∃ p q e' s8' s14' s15' s16' s17', lb2_law_asked (EA (.lst (ns.map .int)) (.int (at0 : Int)) o Z T LL w s7 s8 W9 PB PL e (.val (.int (k : Int))) s14 s15 s16 s17 s18)
      = .nx (EA (.lst (ns.map .int)) (.int (at0 : Int)) o Z T LL w s7 s8' W9 (PB ++ [p]) (PL ++ [q]) e' (.val (.int (k : Int))) s14' s15' s16' s17' s18) ∧ S8 o Z T s8' ∧ p.length = L.length ∧ q.length = L.length ∧ (∀ x ∈ p, x < Z.getD k 0) ∧ (∀ x ∈ q, x < Z.getD k 0) ∧ (e' = 0 → e = 0 ∧ ∀ i l, L[i]? = some l → p.getD i 0 ∈ bestN l T Z k) := by
  have hk : k < LL.length := (List.getElem?_eq_some_iff.mp hL).1
  have hkZ : k < Z.length := by rw [K.zl]; exact hk
  have hLm := List.mem_of_getElem? hL
  have hL6 := (K.G.r1 L hLm).2.1
  have hz := getD_some (d := 0) hkZ
  have hz0 := K.sz.pos _ (List.mem_of_getElem? hz)
  have p4 := K.G.p4
  obtain ⟨R, hR1, hR2, hR3⟩ := rowN ns (at0 + k) 5040 (2 * L.length) (by omega) (by omega) (by omega)
  let S : D := .lst (ns.map .int)
  let AT : D := .int (at0 : Int)
  have st1 : sAsg 14 (eCall phi_law_row (aCons (eVar 0) (aCons (eBin dAdd (eView 1) (eView 13)) (aCons (eBin dMul (eC (.int 2)) (eU dLen (eBin dIx (eView 4) (eView 13)))) (aCons (eC (.int 5040)) (aNil)))))) (EA S AT o Z T LL w s7 s8 W9 PB PL e (.val (.int (k : Int))) s14 s15 s16 s17 s18) = .nx (EA S AT o Z T LL w s7 s8 W9 PB PL e (.val (.int (k : Int))) (.val (.lst (nats R))) s15 s16 s17 s18) := by
    have h1 : eBin dMul (eC (.int 2)) (eU dLen (eBin dIx (eView 4) (eView 13))) (EA S AT o Z T LL w s7 s8 W9 PB PL e (.val (.int (k : Int))) s14 s15 s16 s17 s18) = .ok (.int ((2 * L.length : Nat) : Int)) := by
      refine (bin_ok (x := .int 2) (y := .int (L.length : Int)) rfl (lik_len hL rfl rfl)).trans ((mul_ok (by decide)).trans ?_)
      rw [Int.natCast_mul]; rfl
    have ha : (aCons (eVar 0) (aCons (eBin dAdd (eView 1) (eView 13)) (aCons (eBin dMul (eC (.int 2)) (eU dLen (eBin dIx (eView 4) (eView 13)))) (aCons (eC (.int 5040)) (aNil))))) (EA S AT o Z T LL w s7 s8 W9 PB PL e (.val (.int (k : Int))) s14 s15 s16 s17 s18) = .ok [S, .int ((at0 + k : Nat) : Int), .int ((2 * L.length : Nat) : Int), .int ((5040 : Nat) : Int)] := acons_ok rfl (acons_ok rfl (acons_ok h1 (acons_ok rfl rfl)))
    exact (asg_ok ((call_ok (φ := phi_law_row) ha).trans hR1)).trans rfl
  -- the likings, one by one
  obtain ⟨eF, e1, s8', s16', s17', pk, e', rfl, h8', hpl, hplt, hbest⟩ := forL_inv (ga := gaName 16) (body := lb1_law_asked) (ds := rangeD 0 L.length) (fun j en => ∃ s8' s16' s17' pk e', en = EA S AT o Z T LL w s7 s8' W9 PB PL e' (.val (.int (k : Int))) (.val (.lst (nats R))) (.own (.lst (nats pk))) s16' s17' s18 ∧ S8 o Z T s8' ∧ pk.length = j ∧ (∀ x ∈ pk, x < Z.getD k 0) ∧ (e' = 0 → e = 0 ∧ ∀ i l, i < j → L[i]? = some l → pk.getD i 0 ∈ bestN l T Z k))
    (fun j d env hi ⟨s8', s16', s17', pk, e', he, q1, q2, q3, q4⟩ => by
      subst he
      have hj : j < L.length := by have := (List.getElem?_eq_some_iff.mp hi).1; rw [rangeD_length] at this; exact this
      rw [rangeD_get 0 _ j hj, Int.zero_add] at hi
      cases hi
      have hl : L[j]? = some L[j] := List.getElem?_eq_getElem hj
      obtain ⟨x, e2, t8, t17, k1, k2, k3, k4⟩ := asked1_ok (S := S) (AT := AT) (W9 := W9) (w := w) (e := e') (PB := PB) (PL := PL) (s7 := s7) (s17 := s17') (s18 := s18) K hL hl hR2 (pk := pk) (by omega) q1
      refine ⟨_, _, rfl, k1, t8, _, t17, pk ++ [x], e2, rfl, k2, by rw [List.length_append, q2]; rfl, fun y hy => ?_, fun h0 => ?_⟩
      · rcases List.mem_append.mp hy with hy | hy
        · exact q3 y hy
        · rw [List.mem_singleton.mp hy]; exact k3
      · rcases k4 with ⟨k4, k5⟩ | k4
        · obtain ⟨r1, r2⟩ := q4 (by omega)
          refine ⟨r1, fun i l hij hil => ?_⟩
          by_cases hlt : i < j
          · rw [List.getD_eq_getElem?_getD, List.getElem?_append_left (by omega), ← List.getD_eq_getElem?_getD]
            exact r2 i l hlt hil
          · have : i = j := by omega
            subst this
            rw [hl] at hil
            cases hil
            rw [List.getD_eq_getElem?_getD, List.getElem?_append_right (by omega), q2, Nat.sub_self]
            exact k5
        · omega) (env := EA S AT o Z T LL w s7 s8 W9 PB PL e (.val (.int (k : Int))) (.val (.lst (nats R))) (.own (.lst (nats []))) s16 s17 s18) ⟨s8, s16, s17, [], e, rfl, h8, rfl, fun x hx => (by cases hx), fun h0 => ⟨h0, fun i l h => by omega⟩⟩
  rw [rangeD_length] at hpl hbest
  let Q : List Nat := (List.range L.length).map fun j => R.getD (2 * j + 1) 0 % Z.getD k 0
  refine ⟨pk, Q, e', s8', .val (.lst (nats R)), .val (.lst (nats pk)), s16', s17', ?_, h8', hpl, by show ((List.range L.length).map _).length = _; rw [List.length_map, List.length_range], hplt, fun x hx => ?_, fun h0 => ?_⟩
  · unfold lb2_law_asked
    refine seq_go st1 (seq_go (e := EA S AT o Z T LL w s7 s8 W9 PB PL e (.val (.int (k : Int))) (.val (.lst (nats R))) (.own (.lst (nats []))) s16 s17 s18) rfl (seq_go ((for_ok (itR1_ok (lik_len hL rfl rfl) (by omega))).trans e1) ?_))
    have st4 : sFrz 15 (sApp 10 (eVar 15)) (EA S AT o Z T LL w s7 s8' W9 PB PL e' (.val (.int (k : Int))) (.val (.lst (nats R))) (.own (.lst (nats pk))) s16' s17' s18) = .nx (EA S AT o Z T LL w s7 s8' W9 (PB ++ [pk]) PL e' (.val (.int (k : Int))) (.val (.lst (nats R))) (.val (.lst (nats pk))) s16' s17' s18) := by
      show sApp 10 (eVar 15) (EA S AT o Z T LL w s7 s8' W9 PB PL e' (.val (.int (k : Int))) (.val (.lst (nats R))) (.val (.lst (nats pk))) s16' s17' s18) = _
      refine (app_ok (ds := lsts PB) (d := .lst (nats pk)) rfl rfl (by unfold lsts; rw [List.length_map]; omega)).trans ?_
      show Out.nx (EA S AT o Z T LL w s7 s8' W9 PB PL e' _ _ _ _ _ _ |>.set 10 _) = _
      unfold lsts
      rw [show (PB.map fun r => D.lst (nats r)) ++ [D.lst (nats pk)] = (PB ++ [pk]).map fun r => D.lst (nats r) by rw [List.map_append]; rfl]
      rfl
    refine seq_go st4 ?_
    let E4 : Envt := EA S AT o Z T LL w s7 s8' W9 (PB ++ [pk]) PL e' (.val (.int (k : Int))) (.val (.lst (nats R))) (.val (.lst (nats pk))) s16' s17' s18
    have hlc := lcL_ok (ga := gaName 16) (t := tfTrue) (fe := eBin dMod (eU dInt (eBin dIx (eView 14) (eBin dAdd (eBin dMul (eC (.int 2)) (eView 16)) (eC (.int 1))))) (eBin dIx (eView 2) (eView 13))) (env := wipeE E4 [16]) (fun _ => true) (fun d => match d with
      | .int j => .int ((R.getD (2 * j.toNat + 1) 0 % Z.getD k 0 : Nat) : Int)
      | _ => .non) (rangeD 0 L.length) fun d hd => by
        obtain ⟨j, hj, rfl⟩ := mem_rangeD hd
        rw [Int.zero_add]
        have hRj : R[2 * j + 1]? = some (R.getD (2 * j + 1) 0) := getD_some (by omega)
        refine ⟨_, rfl, rfl, fun _ => ?_⟩
        let E5 : Envt := (wipeE E4 [16]).set 16 (.val (.int (j : Int)))
        have h1 : eBin dAdd (eBin dMul (eC (.int 2)) (eView 16)) (eC (.int 1)) E5 = .ok (.int ((2 * j + 1 : Nat) : Int)) := by
          refine (bin_ok (x := .int (2 * (j : Int))) (y := .int 1) ((bin_ok (x := .int 2) (y := .int (j : Int)) rfl rfl).trans (mul_ok (by decide))) rfl).trans ?_
          show Res.ok (D.int (2 * (j : Int) + 1)) = _
          rw [Int.natCast_add, Int.natCast_mul]; rfl
        have h2 : eU dInt (eBin dIx (eView 14) (eBin dAdd (eBin dMul (eC (.int 2)) (eView 16)) (eC (.int 1)))) E5 = .ok (.int (R.getD (2 * j + 1) 0 : Nat)) := (u_ok ((bin_ok (x := .lst (nats R)) rfl h1).trans (ixL (nats_get hRj)))).trans rfl
        exact (bin_ok h2 ((bin_ok (x := .tup (nats Z)) (y := .int (k : Int)) rfl rfl).trans (ixT (nats_get hz)))).trans (mod_ok hz0)
    have hfin : (rangeD 0 L.length).map (fun d => match d with
      | .int j => D.int ((R.getD (2 * j.toNat + 1) 0 % Z.getD k 0 : Nat) : Int)
      | _ => .non) = nats Q := by
      rw [rangeD0, List.map_map]
      show _ = nats ((List.range L.length).map _)
      unfold nats
      rw [List.map_map]
      rfl
    rw [filt_true, hfin] at hlc
    have hoc : oLc [16] (itR1 (eU dLen (eBin dIx (eView 4) (eView 13)))) (gaName 16) (tfTrue) (eBin dMod (eU dInt (eBin dIx (eView 14) (eBin dAdd (eBin dMul (eC (.int 2)) (eView 16)) (eC (.int 1))))) (eBin dIx (eView 2) (eView 13))) E4 = .ok (.lst (nats Q)) := oLc_ok (itR1_ok (lik_len hL rfl rfl) (by omega)) hlc (by rw [nats_length]; show ((List.range L.length).map _).length < 1000; rw [List.length_map, List.length_range]; omega)
    refine (app_ok (ds := lsts PL) (d := .lst (nats Q)) rfl (eO_ok hoc) (by unfold lsts; rw [List.length_map]; omega)).trans ?_
    show Out.nx (E4.set 11 _) = _
    unfold lsts
    rw [show (PL.map fun r => D.lst (nats r)) ++ [D.lst (nats Q)] = (PL ++ [Q]).map fun r => D.lst (nats r) by rw [List.map_append]; rfl]
    rfl
  · obtain ⟨j, _, rfl⟩ := List.mem_map.mp hx
    exact Nat.mod_lt _ hz0
  · obtain ⟨r1, r2⟩ := hbest h0
    exact ⟨r1, fun i l hil => r2 i l (List.getElem?_eq_some_iff.mp hil).1 hil⟩
end
end Law
end
section
set_option maxRecDepth 100000
set_option maxHeartbeats 4000000
namespace Mi
open PySem PySem.Spec L2
theorem mk_ok {c : Nat} {φ : List D → Res (List (Str × D))} {af : AF} {env : Envt} {ds : List D} {fs : List (Str × D)} (h : af env = .ok ds) (k : φ ds = .ok fs) : oMake c φ af env = .ok (.ins c fs) := by
  unfold oMake
  rw [h]
  show (φ ds).bind _ = _
  rw [k]
  rfl
end Mi
namespace Law
open PySem PySem.Spec L2 Mi Rx
theorem firstS_enc {r : Nat → Option D} {Q : D → Prop} (h : ∀ i d, r i = some d → Q d) : ∀ (n lo : Nat) d, firstS r lo n = some d → Q d
  | 0, _, _, e => by cases e
  | n + 1, lo, d, e => by
    unfold firstS at e
    cases q : r lo with
    | some x => rw [q] at e; cases e; exact h lo _ q
    | none => rw [q] at e; exact firstS_enc h n (lo + 1) d e
theorem gainF_enc {zs : List Nat} {W : List (List (List Nat))} {c : List Nat} (d : D) (h : gainF zs W c = some d) : ∃ n k s, d = enc n k s := by
  refine firstS_enc (Q := fun d => ∃ n k s, d = enc n k s) (fun n d h => ?_) _ _ d h
  refine firstS_enc (Q := fun d => ∃ n k s, d = enc n k s) (fun k d h => ?_) _ _ d h
  refine firstS_enc (Q := fun d => ∃ n k s, d = enc n k s) (fun s d h => ?_) _ _ d h
  unfold gain3 at h
  split at h
  · cases h; exact ⟨n, k, s, rfl⟩
  · cases h
def itm (d : D) : List D := d.items.getD []
section
variable {o : Nat} {Z T : List Nat} {LL : List (List (List Nat))} {S AT W9 : D} {w e : Nat} {s7 s8 s9 s10 s11 s12 s13 s14 s15 s16 s17 s18 : Mi.Slot}
abbrev EQ (S AT : D) (o : Nat) (Z T : List Nat) (LL : List (List (List Nat))) (w : Nat) (s7 s8 s9 s10 s11 s12 s13 s14 s15 s16 s17 s18 : Mi.Slot) : Envt :=
  [.val S, .val AT, .val (.tup (nats Z)), .val (.tup (nats T)), .val (LKD LL), .val (.int (o : Int)), .val (.int (w : Int)), s7, s8, s9, s10, s11, s12, s13, s14, s15, s16, s17, s18, .no, .no]
theorem hdd_ok (G : GoodL o LL) (S AT : D) (Z T : List Nat) (w : Nat) (s7 s8 s9 s10 s11 s12 s13 s14 s15 s16 s17 s18 : Mi.Slot) : eO (oLc [19] (itSeq (eVar 4)) (gaName 19) (tfTrue) (eO (oLc [20] (itSeq (eVar 19)) (gaName 20) (tfTrue) (eO (oU dList (eView 20)))))) (EQ S AT o Z T LL w s7 s8 s9 s10 s11 s12 s13 s14 s15 s16 s17 s18) = .ok (HDD LL) := by
  have p4 := G.p4
  have h1 := lcL_ok (ga := gaName 19) (t := tfTrue) (fe := eO (oLc [20] (itSeq (eVar 19)) (gaName 20) (tfTrue) (eO (oU dList (eView 20))))) (env := wipeE (EQ S AT o Z T LL w s7 s8 s9 s10 s11 s12 s13 s14 s15 s16 s17 s18) [19]) (fun _ => true) (fun d => .lst ((itm d).map fun x => .lst (itm x))) (LL.map fun L => D.tup (tups L)) fun d hd => by
    obtain ⟨L, hL, rfl⟩ := List.mem_map.mp hd
    obtain ⟨k1, k2, k3, k4⟩ := G.r1 L hL
    refine ⟨EQ S AT o Z T LL w s7 s8 s9 s10 s11 s12 s13 s14 s15 s16 s17 s18 |>.set 19 (.val (.tup (tups L))), rfl, rfl, fun _ => ?_⟩
    have h2 := lcL_ok (ga := gaName 20) (t := tfTrue) (fe := eO (oU dList (eView 20))) (env := wipeE ((EQ S AT o Z T LL w s7 s8 s9 s10 s11 s12 s13 s14 s15 s16 s17 s18).set 19 (.val (.tup (tups L)))) [20]) (fun _ => true) (fun x => .lst (itm x)) (tups L) fun x hx => by
      obtain ⟨l, hl, rfl⟩ := List.mem_map.mp hx
      exact ⟨_, rfl, rfl, fun _ => rfl⟩
    rw [filt_true] at h2
    exact eO_ok (oLc_ok (ds := tups L) rfl h2 (by rw [List.length_map]; unfold tups; rw [List.length_map]; omega))
  rw [filt_true] at h1
  have h3 : eO (oLc [19] (itSeq (eVar 4)) (gaName 19) (tfTrue) (eO (oLc [20] (itSeq (eVar 19)) (gaName 20) (tfTrue) (eO (oU dList (eView 20)))))) (EQ S AT o Z T LL w s7 s8 s9 s10 s11 s12 s13 s14 s15 s16 s17 s18) = .ok (.lst ((LL.map fun L => D.tup (tups L)).map fun d => .lst ((itm d).map fun x => .lst (itm x)))) := eO_ok (oLc_ok (ds := LL.map fun L => D.tup (tups L)) rfl h1 (by rw [List.length_map, List.length_map]; omega))
  refine h3.trans ?_
  show _ = Res.ok (D.lst (LL.map fun L => .lst (lsts L)))
  rw [List.map_map]
  have : ((fun d : D => D.lst ((itm d).map fun x => .lst (itm x))) ∘ fun L : List (List Nat) => D.tup (tups L)) = fun L => D.lst (lsts L) := by
    funext L
    show D.lst ((tups L).map fun x => .lst (itm x)) = _
    unfold tups lsts
    rw [List.map_map]
    rfl
  rw [this]
theorem ask_open (K : AFit o Z T LL) : (sIf (tfE (eBin dEq (eBin dMod (eU dInt (eView 6)) (eC (.int 3))) (eC (.int 0)))) (sSeq (sOwn 7 (oMake 8 phi_Domain_init (aCons (eVar 5) (aCons (eO (oLc [19] (itSeq (eVar 4)) (gaName 19) (tfTrue) (eO (oLc [20] (itSeq (eVar 19)) (gaName 20) (tfTrue) (eO (oU dList (eView 20))))))) (aNil)))))
  (sOwn 8 (oMake 7 phi_Game_init (aCons (eO (oU dList (eView 2))) (aCons (eVar 5) (aCons (eO (oU dList (eView 3))) (aNil))))))) (sSeq (sOwn 7 (oMake 8 phi_Domain_init (aCons (eVar 5) (aCons (eVar 4) (aNil)))))
  (sOwn 8 (oMake 7 phi_Game_init (aCons (eVar 2) (aCons (eVar 5) (aCons (eVar 3) (aNil)))))))) (EQ S AT o Z T LL w .no .no .no .no .no .no .no .no .no .no .no .no) = .nx (EQ S AT o Z T LL w (.own (.ins 8 (domX o (LKD LL) (LL.map List.length) (worldsN LL)))) (.own (.ins 7 (gameX o Z T))) .no .no .no .no .no .no .no .no .no .no) := by
  let E0 : Envt := EQ S AT o Z T LL w .no .no .no .no .no .no .no .no .no .no .no .no
  let E1 : Envt := EQ S AT o Z T LL w (.own (.ins 8 (domX o (LKD LL) (LL.map List.length) (worldsN LL)))) .no .no .no .no .no .no .no .no .no .no .no
  have G := K.G
  have zl4 : Z.length ≤ 4 := by rw [K.zl]; exact G.p4
  have zl1 : 1 ≤ Z.length := by rw [K.zl]; exact G.p1
  have ht : tfE (eBin dEq (eBin dMod (eU dInt (eView 6)) (eC (.int 3))) (eC (.int 0))) E0 = .ok (w % 3 == 0) := by
    have hm : eBin dMod (eU dInt (eView 6)) (eC (.int 3)) E0 = .ok (.int ((w % 3 : Nat) : Int)) := (bin_ok (x := .int (w : Int)) (y := .int ((3 : Nat) : Int)) (show eU dInt (eView 6) E0 = .ok (.int (w : Int)) from rfl) rfl).trans (mod_ok (by omega))
    exact tfE_bl ((bin_ok (y := .int 0) hm rfl).trans eq_zero)
  cases hb : (w % 3 == 0) with
  | true =>
    rw [hb] at ht
    refine (if_t ht).trans ?_
    have ha : (aCons (eVar 5) (aCons (eO (oLc [19] (itSeq (eVar 4)) (gaName 19) (tfTrue) (eO (oLc [20] (itSeq (eVar 19)) (gaName 20) (tfTrue) (eO (oU dList (eView 20))))))) (aNil))) E0 = .ok [.int (o : Int), HDD LL] := acons_ok rfl (acons_ok (hdd_ok G S AT Z T w .no .no .no .no .no .no .no .no .no .no .no .no) rfl)
    have hb2 : (aCons (eO (oU dList (eView 2))) (aCons (eVar 5) (aCons (eO (oU dList (eView 3))) (aNil)))) E1 = .ok [.lst (nats Z), .int (o : Int), .lst (nats T)] := acons_ok rfl (acons_ok rfl (acons_ok rfl rfl))
    exact seq_go (e := E1) ((own_ok (mk_ok ha (domain_ok G (dom_l LL))) rfl).trans rfl) ((own_ok (mk_ok hb2 (game_ok (.inl rfl) (.inl rfl) K.sz zl1 zl4 K.zb G.o1 G.o8 K.tl K.tv)) rfl).trans rfl)
  | false =>
    rw [hb] at ht
    refine (if_f ht).trans ?_
    have ha : (aCons (eVar 5) (aCons (eVar 4) (aNil))) E0 = .ok [.int (o : Int), LKD LL] := acons_ok rfl (acons_ok rfl rfl)
    have hb2 : (aCons (eVar 2) (aCons (eVar 5) (aCons (eVar 3) (aNil)))) E1 = .ok [.tup (nats Z), .int (o : Int), .tup (nats T)] := acons_ok rfl (acons_ok rfl (acons_ok rfl rfl))
    exact seq_go (e := E1) ((own_ok (mk_ok ha (domain_ok G (dom_t LL))) rfl).trans rfl) ((own_ok (mk_ok hb2 (game_ok (.inr rfl) (.inr rfl) K.sz zl1 zl4 K.zb G.o1 G.o8 K.tl K.tv)) rfl).trans rfl)
theorem PicksTo.fit (K : AFit o Z T LL) {PK : List (List Nat)} (h : PicksTo (LL.map List.length) Z LL.length PK) : PFit (LL.map List.length) Z PK := ⟨by rw [h.1, List.length_map], by rw [K.zl, List.length_map], h.2⟩
theorem ask_loop {ns : List Int} {at0 : Nat} (K : AFit o Z T LL) (h8 : S8 o Z T s8) : ∃ PB PL e' s8' s13' s14' s15' s16' s17' s18', forL (gaName 13) lb2_law_asked (rangeD 0 LL.length) (EA (.lst (ns.map .int)) (.int (at0 : Int)) o Z T LL w s7 s8 W9 [] [] 0 .no .no .no .no .no .no)
    = .nx (EA (.lst (ns.map .int)) (.int (at0 : Int)) o Z T LL w s7 s8' W9 PB PL e' s13' s14' s15' s16' s17' s18') ∧ PFit (LL.map List.length) Z PB ∧ PFit (LL.map List.length) Z PL ∧ (e' = 0 → BestTo T Z LL PB) := by
  have p4 := K.G.p4
  obtain ⟨E, e1, PB, PL, e', s8', s13', s14', s15', s16', s17', s18', rfl, _, q1, q2, q3⟩ := forL_inv (ga := gaName 13) (body := lb2_law_asked) (ds := rangeD 0 LL.length) (fun i E => ∃ PB PL e' s8' s13' s14' s15' s16' s17' s18', E = EA (.lst (ns.map .int)) (.int (at0 : Int)) o Z T LL w s7 s8' W9 PB PL e' s13' s14' s15' s16' s17' s18' ∧ S8 o Z T s8' ∧ PicksTo (LL.map List.length) Z i PB ∧ PicksTo (LL.map List.length) Z i PL ∧ (e' = 0 → BestTo T Z LL PB))
    (fun i d E hi ⟨PB, PL, e', s8', s13', s14', s15', s16', s17', s18', hE, h8, q1, q2, q3⟩ => by
      subst hE
      have hi2 : i < LL.length := by have := (List.getElem?_eq_some_iff.mp hi).1; rw [rangeD_length] at this; exact this
      rw [rangeD_get 0 _ i hi2, Int.zero_add] at hi
      cases hi
      have hL : LL[i]? = some LL[i] := List.getElem?_eq_getElem hi2
      obtain ⟨p, q, f', t8, t14, t15, t16, t17, k0, k1, k2, k3, k4, k5, k6⟩ := asked2_ok (ns := ns) (at0 := at0) (w := w) (W9 := W9) (s7 := s7) (e := e') (s14 := s14') (s15 := s15') (s16 := s16') (s17 := s17') (s18 := s18') K hL h8 (PB := PB) (PL := PL) (by rw [q1.1]; omega) (by rw [q2.1]; omega)
      refine ⟨EA (.lst (ns.map .int)) (.int (at0 : Int)) o Z T LL w s7 s8' W9 PB PL e' (.val (.int (i : Int))) s14' s15' s16' s17' s18', _, rfl, k0, PB ++ [p], PL ++ [q], f', t8, .val (.int (i : Int)), t14, t15, t16, t17, s18', rfl, k1, picks_snoc q1 fun z y hz hy => ?_, picks_snoc q2 fun z y hz hy => ?_, fun h0 => ?_⟩
      · rw [List.getElem?_map, hL] at hz
        cases hz
        rw [List.getD_eq_getElem?_getD, hy] at k4
        exact ⟨k2, k4⟩
      · rw [List.getElem?_map, hL] at hz
        cases hz
        rw [List.getD_eq_getElem?_getD, hy] at k5
        exact ⟨k3, k5⟩
      · obtain ⟨r1, r2⟩ := k6 h0
        refine best_snoc q1.1 (q3 r1) fun i L l hL2 hl => ?_
        rw [hL] at hL2
        cases hL2
        exact r2 i l hl) (env := EA (.lst (ns.map .int)) (.int (at0 : Int)) o Z T LL w s7 s8 W9 [] [] 0 .no .no .no .no .no .no) ⟨[], [], 0, s8, .no, .no, .no, .no, .no, .no, rfl, h8, ⟨rfl, fun k p z y h => by cases h⟩, ⟨rfl, fun k p z y h => by cases h⟩, fun _ k i p L l h => by cases h⟩
  rw [rangeD_length] at q1 q2
  exact ⟨PB, PL, e', s8', s13', s14', s15', s16', s17', s18', e1, PicksTo.fit K q1, PicksTo.fit K q2, q3⟩
theorem asked_ok (ns : List Int) (at0 : Nat) (K : AFit o Z T LL) : phi_law_asked [.lst (ns.map .int), .int (at0 : Int), .tup (nats Z), .tup (nats T), LKD LL, .int (o : Int), .int (w : Int)] = .ok (.bl true) := by
  have G := K.G
  have p4 := G.p4
  let S : D := .lst (ns.map .int)
  let AT : D := .int (at0 : Int)
  let zs := LL.map List.length
  let DX : List (Str × D) := domX o (LKD LL) (LL.map List.length) (worldsN LL)
  let W9 : D := .lst ((worldsN LL).map wD)
  let V7 : Mi.Slot := .val (.ins 8 DX)
  let V8 : Mi.Slot := .own (.ins 7 (gameX o Z T))
  have zp : ∀ z ∈ LL.map List.length, 0 < z := G.pos
  obtain ⟨PB, PL, e', s8, s13, s14, s15, s16, s17, s18, l1, f1, f2, l2⟩ := ask_loop (w := w) (ns := ns) (at0 := at0) (W9 := W9) (s7 := .own (.ins 8 DX)) (s8 := V8) K (.inl rfl)
  let c1 := givenN zs Z T PB
  let c2 := givenN zs Z T PL
  have c1l : c1.length = prodL (LL.map List.length) := given_len
  have c2l : c2.length = prodL (LL.map List.length) := given_len
  have F1 : Fit o (LL.map List.length) (worldsN LL) c1 := G.fit c1l (given_lt zp K.tl K.tv f1)
  have F2 : Fit o (LL.map List.length) (worldsN LL) c2 := G.fit c2l (given_lt zp K.tl K.tv f2)
  have g1 := given_ok G (ZD := .tup (nats Z)) (TD := .tup (nats T)) (PD := .lst (lsts PB)) (.inr rfl) (.inr rfl) K.sz K.tl (.inl rfl) f1
  have g2 := given_ok G (ZD := .tup (nats Z)) (TD := .tup (nats T)) (PD := .lst (lsts PL)) (.inr rfl) (.inr rfl) K.sz K.tl (.inl rfl) f2
  have hpos : 0 < c2.length := by rw [c2l]; exact prodL_pos zp
  show (ir_law_asked (EQ S AT o Z T LL w .no .no .no .no .no .no .no .no .no .no .no .no)).res = _
  unfold ir_law_asked
  refine seq_res (ask_open K) ?_
  refine seq_res (e := EQ S AT o Z T LL w (.own (.ins 8 DX)) V8 (.val W9) .no .no .no .no .no .no .no .no .no) ?_ ?_
  · have ha : (aCons (eVar 4) (aNil)) (EQ S AT o Z T LL w (.own (.ins 8 DX)) V8 .no .no .no .no .no .no .no .no .no .no) = .ok [LKD LL] := acons_ok rfl rfl
    exact (asg_ok ((call_ok (φ := phi_law_domain_worlds) ha).trans (domain_worlds_ok G))).trans rfl
  refine seq_res (e := EQ S AT o Z T LL w (.own (.ins 8 DX)) V8 (.val W9) (.own (.lst [])) .no .no .no .no .no .no .no .no) rfl ?_
  refine seq_res (e := EQ S AT o Z T LL w (.own (.ins 8 DX)) V8 (.val W9) (.own (.lst [])) (.own (.lst [])) .no .no .no .no .no .no .no) rfl ?_
  refine seq_res (e := EA S AT o Z T LL w (.own (.ins 8 DX)) V8 W9 [] [] 0 .no .no .no .no .no .no) rfl ?_
  have hlk : eU dLen (eView 4) (EA S AT o Z T LL w (.own (.ins 8 DX)) V8 W9 [] [] 0 .no .no .no .no .no .no) = .ok (.int (LL.length : Int)) := (u_ok (x := LKD LL) rfl).trans (by show Res.ok (D.int ((LL.map _).length : Int)) = _; rw [List.length_map])
  refine seq_res ((for_ok (itR1_ok hlk (by omega))).trans l1) ?_
  let B10 : Mi.Slot := .val (.lst (lsts PB))
  let O11 : Mi.Slot := .own (.lst (lsts PL))
  let B11 : Mi.Slot := .val (.lst (lsts PL))
  let E12 : Mi.Slot := .val (.int (e' : Int))
  refine seq_res (e := EQ S AT o Z T LL w (.own (.ins 8 DX)) s8 (.val W9) B10 O11 E12 s13 s14 s15 s16 s17 (.val (.lst (nats c1)))) ?_ ?_
  · have ha : (aCons (eVar 2) (aCons (eVar 3) (aCons (eVar 4) (aCons (eVar 10) (aNil))))) (EQ S AT o Z T LL w (.own (.ins 8 DX)) s8 (.val W9) B10 O11 E12 s13 s14 s15 s16 s17 s18) = .ok [.tup (nats Z), .tup (nats T), LKD LL, .lst (lsts PB)] := acons_ok rfl (acons_ok rfl (acons_ok rfl (acons_ok rfl rfl)))
    show sAsg 18 _ (EQ S AT o Z T LL w (.own (.ins 8 DX)) s8 (.val W9) B10 O11 E12 s13 s14 s15 s16 s17 s18) = _
    exact (asg_ok ((call_ok (φ := phi_law_given) ha).trans g1)).trans rfl
  let E1 : Envt := EQ S AT o Z T LL w V7 s8 (.val W9) B10 O11 E12 s13 s14 s15 s16 s17 (.val (.lst (nats c1)))
  have fg1 : eCall phi_first_gain (aCons (eVar 7) (aCons (eU dTuple (eView 18)) (aNil))) E1 = .ok (oD (gainF zs (worldsN LL) c1)) := by
    have ha : (aCons (eVar 7) (aCons (eU dTuple (eView 18)) (aNil))) E1 = .ok [.ins 8 DX, .tup (nats c1)] := acons_ok rfl (acons_ok rfl rfl)
    exact (call_ok (φ := phi_first_gain) ha).trans (first_gain_ok F1 (.inr rfl))
  refine seq_res (e := E1) ?_ ?_
  · show (sIf _ (sRet (eC (.bl false))) sNil) E1 = _
    refine (if_f ((tfAnd_bl (a := e' == 0) (b := false) (tfE_bl ((bin_ok (x := .int (e' : Int)) (y := .int 0) rfl rfl).trans eq_zero)) fun h0 => tfE_bl ?_).trans (by rw [Bool.and_false]))).trans rfl
    have hn := no_gain G K.sz f1 (l2 (eq_of_beq h0))
    refine (bin_ok fg1 (y := .non) rfl).trans ?_
    show dIsNot (oD (gainF (LL.map List.length) (worldsN LL) (givenN (LL.map List.length) Z T PB))) .non = _
    rw [hn]
    rfl
  have lg : ∀ {c : List Nat}, Fit o (LL.map List.length) (worldsN LL) c → ∀ {E : Envt}, (aCons (eVar 4) (aCons (eVar 9) (aCons (eVar 18) (aNil)))) E = .ok [LKD LL, W9, .lst (nats c)] → eCall phi_law_gain (aCons (eVar 4) (aCons (eVar 9) (aCons (eVar 18) (aNil)))) E = .ok (oD (gainF zs (worldsN LL) c)) := fun F E h => (call_ok (φ := phi_law_gain) h).trans (law_gain_ok F (.inl rfl) (.inl rfl) lkd_sized)
  refine seq_res (e := E1) ?_ ?_
  · show (sIf _ (sRet (eC (.bl false))) sNil) E1 = _
    refine (if_f ((tfAnd_bl (a := decide (0 < e')) (b := false) (tfE_bl ((bin_ok (x := .int (e' : Int)) (y := .int ((0 : Nat) : Int)) rfl rfl).trans gt_ok)) fun h0 => tfNot_bl (b := true) (tfE_bl ?_)).trans (by rw [Bool.and_false]))).trans rfl
    have hc : (aCons (eCall phi_first_gain (aCons (eVar 7) (aCons (eU dTuple (eView 18)) (aNil)))) (aCons (eCall phi_law_gain (aCons (eVar 4) (aCons (eVar 9) (aCons (eVar 18) (aNil))))) (aNil))) E1 = .ok [oD (gainF zs (worldsN LL) c1), oD (gainF zs (worldsN LL) c1)] := acons_ok fg1 (acons_ok (lg F1 (acons_ok rfl (acons_ok rfl (acons_ok rfl rfl)))) rfl)
    exact (call_ok (φ := phi_law_same 6) hc).trans (same_gain _ gainF_enc)
  let E2 : Envt := EQ S AT o Z T LL w V7 s8 (.val W9) B10 B11 E12 s13 s14 s15 s16 s17 (.val (.lst (nats c2)))
  refine seq_res (e := E2) ?_ ?_
  · have ha : (aCons (eVar 2) (aCons (eVar 3) (aCons (eVar 4) (aCons (eVar 11) (aNil))))) (EQ S AT o Z T LL w V7 s8 (.val W9) B10 B11 E12 s13 s14 s15 s16 s17 (.val (.lst (nats c1)))) = .ok [.tup (nats Z), .tup (nats T), LKD LL, .lst (lsts PL)] := acons_ok rfl (acons_ok rfl (acons_ok rfl (acons_ok rfl rfl)))
    show sAsg 18 _ (EQ S AT o Z T LL w V7 s8 (.val W9) B10 B11 E12 s13 s14 s15 s16 s17 (.val (.lst (nats c1)))) = _
    exact (asg_ok ((call_ok (φ := phi_law_given) ha).trans g2)).trans rfl
  refine seq_res (e := E2) ?_ ?_
  · show (sIf _ (sRet (eC (.bl false))) sNil) E2 = _
    refine (if_f (tfNot_bl (b := true) (tfE_bl ?_))).trans rfl
    have hb : (aCons (eVar 7) (aCons (eO (oU dList (eView 18))) (aNil))) E2 = .ok [.ins 8 DX, .lst (nats c2)] := acons_ok rfl (acons_ok rfl rfl)
    have hc : (aCons (eCall phi_first_gain (aCons (eVar 7) (aCons (eO (oU dList (eView 18))) (aNil)))) (aCons (eCall phi_law_gain (aCons (eVar 4) (aCons (eVar 9) (aCons (eVar 18) (aNil))))) (aNil))) E2 = .ok [oD (gainF zs (worldsN LL) c2), oD (gainF zs (worldsN LL) c2)] := acons_ok ((call_ok (φ := phi_first_gain) hb).trans (first_gain_ok F2 (.inl rfl))) (acons_ok (lg F2 (acons_ok rfl (acons_ok rfl (acons_ok rfl rfl)))) rfl)
    exact (call_ok (φ := phi_law_same 6) hc).trans (same_gain _ gainF_enc)
  show (sRet _ E2).res = _
  have hl18 : eU dLen (eView 18) E2 = .ok (.int (c2.length : Int)) := (u_ok (x := .lst (nats c2)) rfl).trans (by show Res.ok (D.int ((nats c2).length : Int)) = _; rw [nats_length])
  have hm : eBin dMod (eU dInt (eView 6)) (eU dLen (eView 18)) E2 = .ok (.int ((w % c2.length : Nat) : Int)) := (bin_ok (x := .int (w : Int)) (show eU dInt (eView 6) E2 = .ok (.int (w : Int)) from rfl) hl18).trans (mod_ok hpos)
  have ha : (aCons (eVar 7) (aCons (eVar 18) (aCons (eBin dMod (eU dInt (eView 6)) (eU dLen (eView 18))) (aCons (eVar 5) (aNil))))) E2 = .ok [.ins 8 DX, .lst (nats c2), .int ((w % c2.length : Nat) : Int), .int (o : Int)] := acons_ok rfl (acons_ok rfl (acons_ok hm (acons_ok rfl rfl)))
  rw [ret_ok ((call_ok (φ := phi_law_wrong) ha).trans (wrong_ok F2 (Nat.mod_lt _ hpos)))]
  rfl
end
end Law
end
section
set_option maxRecDepth 100000
set_option maxHeartbeats 4000000
namespace Mi
open PySem PySem.Spec L2
theorem nsome_ok {f : EF} {env : Envt} {n : Int} (h : f env = .ok (.int n)) : nSome f env = .ok (some n) := by unfold nSome; rw [h]; rfl
theorem slice_ok {f : EF} {lo hi : NF} {env : Envt} {d : D} {i j : Option Int} {r : Res D} (h : f env = .ok d) (h1 : lo env = .ok i) (h2 : hi env = .ok j) (k : dSlice d i j = r) : eSlice f lo hi env = r := by
  unfold eSlice
  rw [h]
  show (lo env).bind _ = _
  rw [h1]
  show (hi env).bind _ = _
  rw [h2]
  exact k
end Mi
namespace Law
open PySem PySem.Spec L2 Mi Rx
theorem eqvAll_nats : ∀ a b : List Nat, PyData.eqvAll (D.toPs (nats a)) (D.toPs (nats b)) = (a == b)
  | [], [] => rfl
  | x :: a, [] => rfl
  | [], y :: b => rfl
  | x :: a, y :: b => by
    show (PyData.eqv (.int (x : Int)) (.int (y : Int)) && PyData.eqvAll (D.toPs (nats a)) (D.toPs (nats b))) = _
    rw [eqv_int, eqvAll_nats a b]
    rfl
theorem canLay_tups : ∀ A : List (List Nat), PyData.canLayAll0 (D.toPs (tups A)) = true
  | [] => rfl
  | l :: A => by
    show (PyData.canLayAll0 (D.toPs (nats l)) && PyData.canLayAll0 (D.toPs (tups A))) = true
    rw [canLay_tups A, toPs_nats, canLay_ints]; rfl
theorem depth_tups : ∀ A : List (List Nat), PyData.depthAll (D.toPs (tups A)) ≤ 1
  | [] => Nat.zero_le _
  | l :: A => by
    show max (PyData.depthAll (D.toPs (nats l)) + 1) (PyData.depthAll (D.toPs (tups A))) ≤ 1
    have := depth_tups A
    rw [toPs_nats, depth_ints]
    omega
theorem shaped_tups (A : List (List Nat)) : D.shaped (.lst (tups A)) = true := by
  show SeqAt.shaped (PyData.list (D.toPs (tups A))) = true
  unfold SeqAt.shaped
  rw [Bool.and_eq_true, decide_eq_true_eq]
  refine ⟨canLay_tups A, ?_⟩
  show PyData.depthAll (D.toPs (tups A)) + 1 ≤ 64
  have := depth_tups A
  omega
theorem notin_ok (l : List Nat) (A : List (List Nat)) : dNotIn (.tup (nats l)) (.lst (tups A)) = .ok (.bl (!A.contains l)) := by
  unfold dNotIn dInB
  show (if _ then _ else _ : Res Bool).bind _ = _
  rw [if_pos ⟨shaped_seq (.inr rfl), shaped_tups A⟩]
  show Res.ok (D.bl (!((tups A).any fun z => PyData.eqv z.toP (D.toP (.tup (nats l)))))) = _
  congr 3
  induction A with
  | nil => rfl
  | cons a A ih =>
    show (PyData.eqvAll (D.toPs (nats a)) (D.toPs (nats l)) || (tups A).any fun z => PyData.eqv z.toP (D.toP (.tup (nats l)))) = _
    rw [ih, eqvAll_nats, List.contains_cons]
    congr 1
    exact Bool.beq_comm
/-- one person's likings -/
def RowOk (o m : Nat) (L : List (List Nat)) : Prop := 1 ≤ L.length ∧ L.length ≤ m ∧ L.Nodup ∧ ∀ l ∈ L, Lik o l
section
variable {o i k m : Nat} {S AT P : D} {R : List Nat} {A : List (List Nat)} {s4 s5 s6 s7 s8 s9 s10 : Mi.Slot}
abbrev EL (S AT P : D) (o : Nat) (s4 s5 : Mi.Slot) (R : List Nat) (A : List (List Nat)) (s8 s9 s10 : Mi.Slot) : Envt :=
  [.val S, .val AT, .val P, .val (.int (o : Int)), s4, s5, .val (.lst (nats R)), .own (.lst (tups A)), s8, s9, s10, .no]
theorem lk1_ok (o1 : 1 ≤ o) (o64 : o < 64) (hi : i * o + o ≤ R.length) (hA : A.length < 100) (hi2 : i < 1000) : ∃ l s9' s10', lb1_law_likings (EL S AT P o s4 s5 R A (.val (.int (i : Int))) s9 s10) = .nx (EL S AT P o s4 s5 R (if A.contains l = true then A else A ++ [l]) (.val (.int (i : Int))) s9' s10') ∧ Lik o l := by
  let pt := (R.drop (i * o)).take o
  let q := pt.map (· % o)
  have ptl : pt.length = o := by show ((R.drop (i * o)).take o).length = o; rw [List.length_take, List.length_drop]; omega
  have ql : q.length = o := by rw [List.length_map, ptl]
  have hl : Lik o (den q) := ⟨by rw [den_length, ql], den_den q⟩
  let E0 : Envt := EL S AT P o s4 s5 R A (.val (.int (i : Int))) s9 s10
  let E1 : Envt := EL S AT P o s4 s5 R A (.val (.int (i : Int))) (.val (.lst (nats pt))) s10
  let E2 : Envt := EL S AT P o s4 s5 R A (.val (.int (i : Int))) (.val (.lst (nats pt))) (.val (.tup (nats (den q))))
  have hm : eBin dMul (eView 8) (eView 3) E0 = .ok (.int ((i * o : Nat) : Int)) := (bin_ok (x := .int (i : Int)) (y := .int (o : Int)) rfl rfl).trans ((mul_ok (by omega)).trans (by rw [Int.natCast_mul]))
  have hm2 : eBin dAdd (eBin dMul (eView 8) (eView 3)) (eView 3) E0 = .ok (.int ((i * o + o : Nat) : Int)) := (bin_ok (y := .int (o : Int)) hm rfl).trans (by rw [Int.natCast_add]; rfl)
  have st1 : sAsg 9 (eSlice (eView 6) (nSome (eBin dMul (eView 8) (eView 3))) (nSome (eBin dAdd (eBin dMul (eView 8) (eView 3)) (eView 3)))) E0 = .nx E1 := by
    refine (asg_ok (d := .lst (nats pt)) (slice_ok (d := .lst (nats R)) rfl (nsome_ok hm) (nsome_ok hm2) ?_)).trans rfl
    show Res.ok (D.lst (cutD (nats R) (some ((i * o : Nat) : Int)) (some ((i * o + o : Nat) : Int)))) = _
    rw [cut_nat (by omega) (by rw [nats_length]; exact hi), nats_drop, nats_take, Nat.add_sub_cancel_left]
  have hlc : oLc [11] (itSeq (eVar 9)) (gaName 11) (tfTrue) (eBin dMod (eU dInt (eView 11)) (eView 3)) E1 = .ok (.lst (nats q)) := by
    have := lcL_ok (ga := gaName 11) (t := tfTrue) (fe := eBin dMod (eU dInt (eView 11)) (eView 3)) (env := wipeE E1 [11]) (fun _ => true) (fun d => match d with
      | .int n => .int ((n.toNat % o : Nat) : Int)
      | _ => .non) (nats pt) fun d hd => by
      obtain ⟨n, hn, rfl⟩ := List.mem_map.mp hd
      refine ⟨(wipeE E1 [11]).set 11 (.val (.int (n : Int))), rfl, rfl, fun _ => ?_⟩
      exact (bin_ok (x := .int (n : Int)) (y := .int (o : Int)) rfl rfl).trans (mod_ok (by omega))
    rw [filt_true] at this
    have hf : (nats pt).map (fun d => match d with
      | .int n => D.int ((n.toNat % o : Nat) : Int)
      | _ => .non) = nats q := by
      show (pt.map _).map _ = (pt.map (· % o)).map _
      rw [List.map_map, List.map_map]
      rfl
    rw [hf] at this
    exact oLc_ok (ds := nats pt) rfl this (by rw [nats_length, ql]; omega)
  have st2 : sAsg 10 (eCall phi_law_dense (aCons (eO (oLc [11] (itSeq (eVar 9)) (gaName 11) (tfTrue) (eBin dMod (eU dInt (eView 11)) (eView 3)))) (aNil))) E1 = .nx E2 := by
    have ha : (aCons (eO (oLc [11] (itSeq (eVar 9)) (gaName 11) (tfTrue) (eBin dMod (eU dInt (eView 11)) (eView 3)))) (aNil)) E1 = .ok [.lst (nats q)] := acons_ok (eO_ok hlc) rfl
    exact (asg_ok ((call_ok (φ := phi_law_dense) ha).trans (dense_ok (.inl rfl) (by rw [ql]; exact o64)))).trans rfl
  refine ⟨den q, .val (.lst (nats pt)), .val (.tup (nats (den q))), ?_, hl⟩
  unfold lb1_law_likings
  refine seq_go st1 (seq_go st2 ?_)
  have hn : eBin dNotIn (eView 10) (eView 7) E2 = .ok (.bl (!A.contains (den q))) := (bin_ok (x := .tup (nats (den q))) (y := .lst (tups A)) rfl rfl).trans (notin_ok _ _)
  cases hc : A.contains (den q) with
  | true =>
    rw [hc] at hn
    rw [if_pos rfl]
    exact (if_f (tfE_bl hn)).trans rfl
  | false =>
    rw [hc] at hn
    rw [if_neg Bool.false_ne_true]
    refine (if_t (tfE_bl hn)).trans ?_
    refine (app_ok (ds := tups A) (d := .tup (nats (den q))) rfl rfl (by unfold tups; rw [List.length_map]; omega)).trans ?_
    unfold tups
    show Out.nx (E2.set 7 (.own (.lst (A.map _ ++ [.tup (nats (den q))])))) = _
    rw [show (A.map fun r => D.tup (nats r)) ++ [D.tup (nats (den q))] = (A ++ [den q]).map fun r => D.tup (nats r) by rw [List.map_append]; rfl]
    rfl
theorem lk_loop (o1 : 1 ≤ o) (o64 : o < 64) (hR : m * o ≤ R.length) (m1 : 1 ≤ m) (m100 : m < 100) : ∃ A s8' s9' s10', forL (gaName 8) lb1_law_likings (rangeD 0 m) (EL S AT P o s4 s5 R [] s8 s9 s10) = .nx (EL S AT P o s4 s5 R A s8' s9' s10') ∧ RowOk o m A := by
  obtain ⟨E, e1, A, s8', s9', s10', rfl, a1, a2, a3, a4⟩ := forL_inv (ga := gaName 8) (body := lb1_law_likings) (ds := rangeD 0 m) (fun i E => ∃ A s8' s9' s10', E = EL S AT P o s4 s5 R A s8' s9' s10' ∧ (1 ≤ i → 1 ≤ A.length) ∧ A.length ≤ i ∧ A.Nodup ∧ ∀ l ∈ A, Lik o l)
    (fun i d E hi ⟨A, s8', s9', s10', hE, a1, a2, a3, a4⟩ => by
      subst hE
      have hi2 : i < m := by have := (List.getElem?_eq_some_iff.mp hi).1; rw [rangeD_length] at this; exact this
      rw [rangeD_get 0 _ i hi2, Int.zero_add] at hi
      cases hi
      have hh : i * o + o ≤ R.length := by
        have := Nat.mul_le_mul_right o (show i + 1 ≤ m by omega)
        rw [Nat.succ_mul] at this
        omega
      obtain ⟨l, t9, t10, k1, k2⟩ := lk1_ok (S := S) (AT := AT) (P := P) (s4 := s4) (s5 := s5) (s9 := s9') (s10 := s10') (A := A) o1 o64 hh (by omega) (by omega)
      refine ⟨EL S AT P o s4 s5 R A (.val (.int (i : Int))) s9' s10', _, rfl, k1, _, _, _, _, rfl, ?_⟩
      by_cases hc : A.contains l = true
      · rw [if_pos hc]
        have : 0 < A.length := List.length_pos_iff.mpr fun h => by rw [h] at hc; cases hc
        exact ⟨fun _ => this, by omega, a3, a4⟩
      · rw [if_neg hc]
        have hl : l ∉ A := fun h => hc (List.contains_iff_mem.mpr h)
        refine ⟨fun _ => by rw [List.length_append]; exact Nat.le_add_left _ _, by rw [List.length_append]; exact Nat.add_le_add_right a2 1, ?_, fun x hx => ?_⟩
        · rw [List.nodup_append]
          refine ⟨a3, List.nodup_cons.mpr ⟨List.not_mem_nil, List.nodup_nil⟩, fun x hx y hy => ?_⟩
          rw [List.mem_singleton.mp hy]
          exact fun e => hl (e ▸ hx)
        · rcases List.mem_append.mp hx with hx | hx
          · exact a4 x hx
          · rw [List.mem_singleton.mp hx]; exact k2) (env := EL S AT P o s4 s5 R [] s8 s9 s10) ⟨[], s8, s9, s10, rfl, fun h => by omega, Nat.le_refl _, List.nodup_nil, fun l hl => by cases hl⟩
  rw [rangeD_length] at a1 a2
  exact ⟨A, s8', s9', s10', e1, a1 m1, a2, a3, a4⟩
def tT (LL : List (List (List Nat))) : List D := LL.map fun L => .tup (tups L)
abbrev EM (S : D) (at0 : Nat) (P : D) (o : Nat) (LL : List (List (List Nat))) (s5 s6 s7 s8 s9 s10 : Mi.Slot) : Envt :=
  [.val S, .val (.int (at0 : Int)), .val P, .val (.int (o : Int)), .own (.lst (tT LL)), s5, s6, s7, s8, s9, s10, .no]
theorem lk_app {s5 : Mi.Slot} {LL : List (List (List Nat))} {at0 : Nat} (h : LL.length < 100) : sApp 4 (eU dTuple (eView 7)) (EL S (.int (at0 : Int)) P o (.own (.lst (tT LL))) s5 R A s8 s9 s10) = .nx (EM S at0 P o (LL ++ [A]) s5 (.val (.lst (nats R))) (.own (.lst (tups A))) s8 s9 s10) := by
  refine (app_ok (ds := tT LL) (d := .tup (tups A)) rfl rfl (by unfold tT; rw [List.length_map]; omega)).trans ?_
  have : tT LL ++ [.tup (tups A)] = tT (LL ++ [A]) := by unfold tT; rw [List.map_append]; rfl
  rw [this]
  rfl
theorem row_call (ns : List Int) {a n : Nat} (hn : n < 1000) {f g h : EF} {E : Envt} (h0 : f E = .ok (.lst (ns.map .int))) (h1 : g E = .ok (.int (a : Int))) (h2 : h E = .ok (.int (n : Int))) : ∃ R : List Nat, eCall phi_law_row (aCons f (aCons g (aCons h (aCons (eC (.int 5040)) (aNil))))) E = .ok (.lst (nats R)) ∧ R.length = n ∧ ∀ x ∈ R, x < 5040 := by
  obtain ⟨R, k1, k2, k3⟩ := rowN ns a 5040 n (by decide) (by decide) hn
  have ha : (aCons f (aCons g (aCons h (aCons (eC (.int 5040)) (aNil))))) E = .ok [.lst (ns.map .int), .int (a : Int), .int (n : Int), .int ((5040 : Nat) : Int)] := acons_ok h0 (acons_ok h1 (acons_ok h2 (acons_ok rfl rfl)))
  exact ⟨R, (call_ok (φ := phi_law_row) ha).trans k1, k2, k3⟩
theorem lk2_ok {ns : List Int} {at0 : Nat} {LL : List (List (List Nat))} (o1 : 1 ≤ o) (o64 : o < 64) (hL : LL.length < 100) : ∃ A s6' s7' s8' s9' s10', lb2_law_likings (EM (.lst (ns.map .int)) at0 P o LL (.val (.int (k : Int))) s6 s7 s8 s9 s10) = .nx (EM (.lst (ns.map .int)) at0 P o (LL ++ [A]) (.val (.int (k : Int))) s6' s7' s8' s9' s10') ∧ RowOk o 3 A := by
  let S : D := .lst (ns.map .int)
  let E0 : Envt := EM S at0 P o LL (.val (.int (k : Int))) s6 s7 s8 s9 s10
  have hn : eBin dAdd (eBin dMul (eC (.int 3)) (eView 3)) (eC (.int 1)) E0 = .ok (.int ((3 * o + 1 : Nat) : Int)) := by
    refine (bin_ok (x := .int (3 * (o : Int))) (y := .int 1) ((bin_ok (x := .int 3) (y := .int (o : Int)) rfl rfl).trans (mul_ok (by decide))) rfl).trans ?_
    rw [Int.natCast_add, Int.natCast_mul]
    rfl
  obtain ⟨R, r1, r2, r3⟩ := row_call ns (a := at0 + k) (n := 3 * o + 1) (by omega) (f := eVar 0) (g := eBin dAdd (eView 1) (eView 5)) (E := E0) rfl (by rw [Int.natCast_add]; rfl) hn
  have hx : R[3 * o]? = some (R.getD (3 * o) 0) := getD_some (by omega)
  let c := R.getD (3 * o) 0 % 3
  have hc : c < 3 := Nat.mod_lt _ (by decide)
  let E1 : Envt := EL S (.int (at0 : Int)) P o (.own (.lst (tT LL))) (.val (.int (k : Int))) R [] s8 s9 s10
  have hcnt : eBin dAdd (eC (.int 1)) (eBin dMod (eU dInt (eBin dIx (eView 6) (eBin dMul (eC (.int 3)) (eView 3)))) (eC (.int 3))) E1 = .ok (.int ((1 + c : Nat) : Int)) := by
    have h3 : eBin dMul (eC (.int 3)) (eView 3) E1 = .ok (.int ((3 * o : Nat) : Int)) := (bin_ok (x := .int 3) (y := .int (o : Int)) rfl rfl).trans ((mul_ok (by decide)).trans (by rw [Int.natCast_mul]; rfl))
    have h4 : eU dInt (eBin dIx (eView 6) (eBin dMul (eC (.int 3)) (eView 3))) E1 = .ok (.int (R.getD (3 * o) 0 : Nat)) := (u_ok ((bin_ok (x := .lst (nats R)) rfl h3).trans (ixL (nats_get hx)))).trans rfl
    refine (bin_ok (x := .int 1) rfl ((bin_ok (y := .int ((3 : Nat) : Int)) h4 rfl).trans (mod_ok (by decide)))).trans ?_
    rw [Int.natCast_add]
    rfl
  obtain ⟨A, t8, t9, t10, k1, k2⟩ := lk_loop (m := 1 + c) (S := S) (AT := .int (at0 : Int)) (P := P) (s4 := .own (.lst (tT LL))) (s5 := .val (.int (k : Int))) (R := R) (s8 := s8) (s9 := s9) (s10 := s10) o1 o64 (by
    have := Nat.mul_le_mul_right o (show 1 + c ≤ 3 by omega)
    omega) (by omega) (by omega)
  refine ⟨A, .val (.lst (nats R)), .own (.lst (tups A)), t8, t9, t10, ?_, k2.1, by have := k2.2.1; omega, k2.2.2⟩
  unfold lb2_law_likings
  refine seq_go (e := EM S at0 P o LL (.val (.int (k : Int))) (.val (.lst (nats R))) s7 s8 s9 s10) ((asg_ok r1).trans rfl) (seq_go (e := E1) rfl (seq_go ((for_ok (itR1_ok hcnt (by omega))).trans k1) ?_))
  exact lk_app hL
theorem mk2_ok {ns : List Int} {at0 : Nat} {LL : List (List (List Nat))} (o1 : 1 ≤ o) (o64 : o < 64) (hL : LL.length < 100) (hk : k < 2) : ∃ A s6' s7' s8' s9' s10', lb2_law_many_likings (EM (.lst (ns.map .int)) at0 (.tup (nats [6, 6])) o LL (.val (.int (k : Int))) s6 s7 s8 s9 s10) = .nx (EM (.lst (ns.map .int)) at0 (.tup (nats [6, 6])) o (LL ++ [A]) (.val (.int (k : Int))) s6' s7' s8' s9' s10') ∧ RowOk o 6 A := by
  let S : D := .lst (ns.map .int)
  let P : D := .tup (nats [6, 6])
  let E0 : Envt := EM S at0 P o LL (.val (.int (k : Int))) s6 s7 s8 s9 s10
  have h66 : ∀ {s6 s7 s8 s9 s10 : Mi.Slot}, eBin dIx (eView 2) (eView 5) (EM S at0 P o LL (.val (.int (k : Int))) s6 s7 s8 s9 s10) = .ok (.int ((6 : Nat) : Int)) := fun {_ _ _ _ _} => by
    refine (bin_ok (x := P) (y := .int (k : Int)) rfl rfl).trans (ixT (nats_get ?_))
    match k, hk with
    | 0, _ => rfl
    | 1, _ => rfl
  have hn : eBin dMul (eBin dIx (eView 2) (eView 5)) (eView 3) E0 = .ok (.int ((6 * o : Nat) : Int)) := by
    refine (bin_ok (y := .int (o : Int)) h66 rfl).trans ((mul_ok (by decide)).trans ?_)
    rw [Int.natCast_mul]
  obtain ⟨R, r1, r2, r3⟩ := row_call ns (a := at0 + k) (n := 6 * o) (by omega) (f := eVar 0) (g := eBin dAdd (eView 1) (eView 5)) (E := E0) rfl (by rw [Int.natCast_add]; rfl) hn
  let E1 : Envt := EL S (.int (at0 : Int)) P o (.own (.lst (tT LL))) (.val (.int (k : Int))) R [] s8 s9 s10
  obtain ⟨A, t8, t9, t10, k1, k2⟩ := lk_loop (m := 6) (S := S) (AT := .int (at0 : Int)) (P := P) (s4 := .own (.lst (tT LL))) (s5 := .val (.int (k : Int))) (R := R) (s8 := s8) (s9 := s9) (s10 := s10) o1 o64 (by omega) (by omega) (by omega)
  refine ⟨A, .val (.lst (nats R)), .own (.lst (tups A)), t8, t9, t10, ?_, k2⟩
  unfold lb2_law_many_likings
  refine seq_go (e := EM S at0 P o LL (.val (.int (k : Int))) (.val (.lst (nats R))) s7 s8 s9 s10) ((asg_ok r1).trans rfl) (seq_go (e := E1) rfl (seq_go ((for_ok (itR1_ok (h66 (s6 := .val (.lst (nats R))) (s7 := .own (.lst []))) (by omega))).trans k1) ?_))
  exact lk_app hL
theorem lk_outer {body : SF} {ns : List Int} {at0 n : Nat} (hn : n < 100) (hb : ∀ (k : Nat) (LL : List (List (List Nat))) (s6 s7 s8 s9 s10 : Mi.Slot), k < n → LL.length < 100 → ∃ A s6' s7' s8' s9' s10', body (EM (.lst (ns.map .int)) at0 P o LL (.val (.int (k : Int))) s6 s7 s8 s9 s10) = .nx (EM (.lst (ns.map .int)) at0 P o (LL ++ [A]) (.val (.int (k : Int))) s6' s7' s8' s9' s10') ∧ RowOk o m A) :
    ∃ LL s5' s6' s7' s8' s9' s10', forL (gaName 5) body (rangeD 0 n) (EM (.lst (ns.map .int)) at0 P o [] .no .no .no .no .no .no) = .nx (EM (.lst (ns.map .int)) at0 P o LL s5' s6' s7' s8' s9' s10') ∧ LL.length = n ∧ ∀ L ∈ LL, RowOk o m L := by
  obtain ⟨E, e1, LL, s5', s6', s7', s8', s9', s10', rfl, a1, a2⟩ := forL_inv (ga := gaName 5) (body := body) (ds := rangeD 0 n) (fun i E => ∃ LL s5' s6' s7' s8' s9' s10', E = EM (.lst (ns.map .int)) at0 P o LL s5' s6' s7' s8' s9' s10' ∧ LL.length = i ∧ ∀ L ∈ LL, RowOk o m L)
    (fun i d E hi ⟨LL, s5', s6', s7', s8', s9', s10', hE, a1, a2⟩ => by
      subst hE
      have hi2 : i < n := by have := (List.getElem?_eq_some_iff.mp hi).1; rw [rangeD_length] at this; exact this
      rw [rangeD_get 0 _ i hi2, Int.zero_add] at hi
      cases hi
      obtain ⟨A, t6, t7, t8, t9, t10, k1, k2⟩ := hb i LL s6' s7' s8' s9' s10' hi2 (by omega)
      refine ⟨EM (.lst (ns.map .int)) at0 P o LL (.val (.int (i : Int))) s6' s7' s8' s9' s10', _, rfl, k1, LL ++ [A], _, t6, t7, t8, t9, t10, rfl, by rw [List.length_append, a1]; rfl, fun L hL => ?_⟩
      rcases List.mem_append.mp hL with hL | hL
      · exact a2 L hL
      · rw [List.mem_singleton.mp hL]; exact k2) (env := EM (.lst (ns.map .int)) at0 P o [] .no .no .no .no .no .no) ⟨[], .no, .no, .no, .no, .no, .no, rfl, rfl, fun L hL => by cases hL⟩
  rw [rangeD_length] at a1
  exact ⟨LL, s5', s6', s7', s8', s9', s10', e1, a1, a2⟩
theorem likings_ok (ns : List Int) (at0 n : Nat) (o1 : 1 ≤ o) (o64 : o < 64) (hn : n < 100) : ∃ LL, phi_law_likings [.lst (ns.map .int), .int (at0 : Int), .int (n : Int), .int (o : Int)] = .ok (LKD LL) ∧ LL.length = n ∧ ∀ L ∈ LL, RowOk o 3 L := by
  obtain ⟨LL, s5, s6, s7, s8, s9, s10, e1, a1, a2⟩ := lk_outer (P := .int (n : Int)) (o := o) (m := 3) (body := lb2_law_likings) (ns := ns) (at0 := at0) hn fun k LL s6 s7 s8 s9 s10 _ hL => lk2_ok o1 o64 hL
  refine ⟨LL, ?_, a1, a2⟩
  show (ir_law_likings [.val (.lst (ns.map .int)), .val (.int (at0 : Int)), .val (.int (n : Int)), .val (.int (o : Int)), .no, .no, .no, .no, .no, .no, .no, .no]).res = _
  unfold ir_law_likings
  refine seq_res (e := EM (.lst (ns.map .int)) at0 (.int (n : Int)) o [] .no .no .no .no .no .no) rfl (seq_res ((for_ok (itR1_ok (n := n) rfl (by omega))).trans e1) rfl)
theorem many_ok (ns : List Int) (at0 : Nat) (o1 : 1 ≤ o) (o64 : o < 64) : ∃ LL, phi_law_many_likings [.lst (ns.map .int), .int (at0 : Int), .tup (nats [6, 6]), .int (o : Int)] = .ok (LKD LL) ∧ LL.length = 2 ∧ ∀ L ∈ LL, RowOk o 6 L := by
  obtain ⟨LL, s5, s6, s7, s8, s9, s10, e1, a1, a2⟩ := lk_outer (P := .tup (nats [6, 6])) (o := o) (m := 6) (n := 2) (body := lb2_law_many_likings) (ns := ns) (at0 := at0) (by omega) fun k LL s6 s7 s8 s9 s10 hk hL => mk2_ok o1 o64 hL hk
  refine ⟨LL, ?_, a1, a2⟩
  show (ir_law_many_likings [.val (.lst (ns.map .int)), .val (.int (at0 : Int)), .val (.tup (nats [6, 6])), .val (.int (o : Int)), .no, .no, .no, .no, .no, .no, .no, .no]).res = _
  unfold ir_law_many_likings
  refine seq_res (e := EM (.lst (ns.map .int)) at0 (.tup (nats [6, 6])) o [] .no .no .no .no .no .no) rfl (seq_res ((for_ok (itR1_ok (n := 2) rfl (by omega))).trans e1) rfl)
end
end Law
end
section
set_option maxRecDepth 100000
set_option maxHeartbeats 4000000
namespace Mi
open PySem PySem.Spec L2
theorem seqIx_nat {i n : Nat} (h : i < n) : PySem.seqIndex? (i : Int) n = some i := by
  unfold PySem.seqIndex?
  have h1 : ¬ ((i : Int) < 0) := by omega
  dsimp only
  rw [if_neg h1]
  have h2 : (decide (0 ≤ (i : Int)) && decide ((i : Int) < (n : Int))) = true := by
    rw [decide_eq_true (Int.natCast_nonneg i), decide_eq_true (Int.ofNat_lt.mpr h)]; rfl
  rw [h2]
  rfl
theorem apop_ok {i j : Nat} {f : EF} {env : Envt} {ds ys : List D} {k : Nat} {y : D} (h : env[i]? = some (.own (.lst ds))) (h2 : env[j]? = some (.own (.lst ys))) (hij : i ≠ j) (hf : f env = .ok (.int (k : Int))) (hd : ds.length < 1000) (hk : k < ys.length) (hk2 : k < 1000) (hy : ys[k]? = some y) :
    sAppPop i j f env = .nx ((env.set j (.own (.lst (ys.eraseIdx k)))).set i (.own (.lst (ds ++ [y])))) := by
  unfold sAppPop
  rw [h, h2]
  dsimp only
  rw [if_neg hij, hf]
  dsimp only
  rw [if_pos ⟨by rw [sizeLine_eq]; omega, by rw [Int.natAbs_natCast]; omega⟩, seqIx_nat hk]
  dsimp only
  rw [hy]
end Mi
namespace Law
open PySem PySem.Spec L2 Mi Rx
theorem nats_erase : ∀ (l : List Nat) (k : Nat), (nats l).eraseIdx k = nats (l.eraseIdx k)
  | [], _ => rfl
  | x :: l, 0 => rfl
  | x :: l, k + 1 => by
    show D.int (x : Int) :: (nats l).eraseIdx k = _
    rw [nats_erase l k]
    rfl
def rg1 (n : Int) : Res Mu := if 0 ≤ n ∧ n < 1000000 then .ok (.lst (rangeD 0 n.toNat)) else .stuck
theorem rg_u (f : EF) (env : Envt) : oRg f env = ((f env).bind fun d => match d with
  | .int n => rg1 n
  | _ => .stuck) := rfl
theorem rg_as (r : Int → Res Mu) (x : Res D) (j : Int) (h : x = .ok (.int j)) : (x.bind fun d => match d with
  | .int j => r j
  | _ => .stuck) = r j := by rw [h]; rfl
theorem lt6 {n : Nat} (h : n < 1000000) : (n : Int) < (1000000 : Int) := Int.ofNat_lt.mpr h
theorem rg1_ok {n : Nat} (h : n < 1000000) : rg1 (n : Int) = .ok (.lst (rangeD 0 n)) := by
  unfold rg1
  rw [if_pos ⟨Int.natCast_nonneg n, lt6 h⟩, Int.toNat_natCast]
theorem rg_ok {f : EF} {env : Envt} {n : Nat} (h : f env = .ok (.int (n : Int))) (hn : n < 1000000) : oRg f env = .ok (.lst (nats (List.range n))) :=
  (rg_u f env).trans ((rg_as rg1 (f env) n h).trans ((rg1_ok hn).trans (congrArg (fun l => Res.ok (Mu.lst l)) (rangeD0 n))))
theorem nats_snoc (l : List Nat) (x : Nat) : nats l ++ [.int (x : Int)] = nats (l ++ [x]) := by unfold nats; rw [List.map_append]; rfl
theorem range_nats (n : Nat) : rangeD 0 n = nats (List.range n) := rangeD0 n
section
variable {o n k : Nat} {S AT : D} {B : List Nat}
theorem or1_ok {S AT N : D} {Lf Od : List Nat} {x : Nat} (hL : 0 < Lf.length) (hL2 : Lf.length < 1000) (hO : Od.length < 1000) : ∃ y, y ∈ Lf ∧ lb1_law_order [.val S, .val AT, .val N, .own (.lst (nats Lf)), .own (.lst (nats Od)), .val (.int (x : Int))] = .nx [.val S, .val AT, .val N, .own (.lst (nats (Lf.eraseIdx (x % Lf.length)))), .own (.lst (nats (Od ++ [y]))), .val (.int (x : Int))] := by
  have hm : x % Lf.length < Lf.length := Nat.mod_lt _ hL
  have hy : Lf[x % Lf.length]? = some (Lf.getD (x % Lf.length) 0) := getD_some hm
  refine ⟨_, List.mem_of_getElem? hy, ?_⟩
  let E : Envt := [.val S, .val AT, .val N, .own (.lst (nats Lf)), .own (.lst (nats Od)), .val (.int (x : Int))]
  have hl : eU dLen (eView 3) E = .ok (.int (Lf.length : Int)) := (u_ok (x := .lst (nats Lf)) rfl).trans (by show Res.ok (D.int ((nats Lf).length : Int)) = _; rw [nats_length])
  have hf : eBin dMod (eU dInt (eView 5)) (eU dLen (eView 3)) E = .ok (.int ((x % Lf.length : Nat) : Int)) := (bin_ok (x := .int (x : Int)) rfl hl).trans (mod_ok hL)
  unfold lb1_law_order
  refine (apop_ok (ds := nats Od) (ys := nats Lf) (env := E) rfl rfl (by decide) hf (by rw [nats_length]; exact hO) (by rw [nats_length]; exact hm) (by omega) (nats_get hy)).trans ?_
  rw [nats_erase, nats_snoc]
  rfl
theorem order_ok (ns : List Int) (at0 : Nat) (hn : n < 1000) : ∃ P, phi_law_order [.lst (ns.map .int), .int (at0 : Int), .int (n : Int)] = .ok (.lst (nats P)) ∧ P.length = n ∧ ∀ x ∈ P, x < n := by
  let S : D := .lst (ns.map .int)
  let E2 : Envt := [.val S, .val (.int (at0 : Int)), .val (.int (n : Int)), .own (.lst (nats (List.range n))), .own (.lst (nats [])), .no]
  obtain ⟨R, r1, r2, r3⟩ := row_call ns (a := at0) (n := n) hn (f := eVar 0) (g := eVar 1) (h := eVar 2) (E := E2) rfl rfl rfl
  obtain ⟨E, e1, Lf, Od, s5, rfl, q1, q2, q3, q4⟩ := forL_inv (ga := gaName 5) (body := lb1_law_order) (ds := nats R) (fun i E => ∃ Lf Od s5, E = [.val S, .val (.int (at0 : Int)), .val (.int (n : Int)), .own (.lst (nats Lf)), .own (.lst (nats Od)), s5] ∧ Lf.length = n - i ∧ Od.length = i ∧ (∀ x ∈ Lf, x < n) ∧ ∀ x ∈ Od, x < n)
    (fun i d E hi ⟨Lf, Od, s5, hE, q1, q2, q3, q4⟩ => by
      subst hE
      have hi2 : i < R.length := by have := (List.getElem?_eq_some_iff.mp hi).1; rw [nats_length] at this; exact this
      have hx : R[i]? = some (R.getD i 0) := getD_some hi2
      rw [nats_get hx] at hi
      cases hi
      obtain ⟨y, hy, k1⟩ := or1_ok (S := S) (AT := .int (at0 : Int)) (N := .int (n : Int)) (Lf := Lf) (Od := Od) (x := R.getD i 0) (by omega) (by omega) (by omega)
      refine ⟨_, _, rfl, k1, _, _, _, rfl, ?_, by rw [List.length_append, q2]; rfl, fun x hx => q3 x (List.mem_of_mem_eraseIdx hx), fun x hx => ?_⟩
      · rw [List.length_eraseIdx_of_lt (Nat.mod_lt _ (by omega)), q1]; omega
      · rcases List.mem_append.mp hx with hx | hx
        · exact q4 x hx
        · rw [List.mem_singleton.mp hx]; exact q3 y hy) (env := E2) ⟨List.range n, [], .no, rfl, by rw [List.length_range]; rfl, rfl, fun x hx => List.mem_range.mp hx, fun x hx => by cases hx⟩
  rw [nats_length, r2] at q2
  refine ⟨Od, ?_, q2, q4⟩
  show (ir_law_order [.val S, .val (.int (at0 : Int)), .val (.int (n : Int)), .no, .no, .no]).res = _
  unfold ir_law_order
  refine seq_res (e := [.val S, .val (.int (at0 : Int)), .val (.int (n : Int)), .own (.lst (nats (List.range n))), .no, .no]) ?_ ?_
  · refine (own_ok (m := .lst (nats (List.range n))) (rg_ok rfl (by omega)) rfl).trans rfl
  refine seq_res (e := E2) rfl (seq_res ((for_ok ?_).trans e1) rfl)
  unfold itSeq
  rw [r1]
  rfl
theorem order_call (ns : List Int) {a n : Nat} (hn : n < 1000) {f g h : EF} {E : Envt} (h0 : f E = .ok (.lst (ns.map .int))) (h1 : g E = .ok (.int (a : Int))) (h2 : h E = .ok (.int (n : Int))) : ∃ P : List Nat, eCall phi_law_order (aCons f (aCons g (aCons h (aNil)))) E = .ok (.lst (nats P)) ∧ P.length = n ∧ ∀ x ∈ P, x < n := by
  obtain ⟨R, k1, k2, k3⟩ := order_ok ns a hn
  have ha : (aCons f (aCons g (aCons h (aNil)))) E = .ok [.lst (ns.map .int), .int (a : Int), .int (n : Int)] := acons_ok h0 (acons_ok h1 (acons_ok h2 rfl))
  exact ⟨R, (call_ok (φ := phi_law_order) ha).trans k1, k2, k3⟩
theorem said_ok (ns : List Int) (at0 : Nat) (h1 : 1 ≤ n) (hn : n < 100) : ∃ P, phi_law_said [.lst (ns.map .int), .int (at0 : Int), .int (n : Int)] = .ok (.lst (nats P)) ∧ n ≤ P.length ∧ P.length ≤ n + 1 ∧ ∀ x ∈ P, x < n := by
  let S : D := .lst (ns.map .int)
  obtain ⟨R, r1, r2, r3⟩ := row_call ns (a := at0) (n := 2) (by omega) (f := eVar 0) (g := eVar 1) (h := eC (.int 2)) (E := [.val S, .val (.int (at0 : Int)), .val (.int (n : Int)), .no, .no, .no]) rfl rfl rfl
  have x0 : R[0]? = some (R.getD 0 0) := getD_some (by omega)
  have x1 : R[1]? = some (R.getD 1 0) := getD_some (by omega)
  let ES : List Nat → Envt := fun B => [.val S, .val (.int (at0 : Int)), .val (.int (n : Int)), .val (.lst (nats R)), .own (.lst (nats B)), .no]
  have hmid : ∃ B, (sIf (tfE (eBin dEq (eBin dMod (eU dInt (eBin dIx (eView 3) (eC (.int 0)))) (eC (.int 2))) (eC (.int 1)))) (sApp 4 (eBin dMod (eU dInt (eBin dIx (eView 3) (eC (.int 1)))) (eView 2))) (sNil)) (ES (List.range n)) = .nx (ES B) ∧ n ≤ B.length ∧ B.length ≤ n + 1 ∧ ∀ x ∈ B, x < n := by
    have hd : eBin dMod (eU dInt (eBin dIx (eView 3) (eC (.int 0)))) (eC (.int 2)) (ES (List.range n)) = .ok (.int ((R.getD 0 0 % 2 : Nat) : Int)) := by
      have h4 : eU dInt (eBin dIx (eView 3) (eC (.int 0))) (ES (List.range n)) = .ok (.int (R.getD 0 0 : Nat)) := (u_ok ((bin_ok (x := .lst (nats R)) (y := .int ((0 : Nat) : Int)) rfl rfl).trans (ixL (nats_get x0)))).trans rfl
      exact (bin_ok (y := .int ((2 : Nat) : Int)) h4 rfl).trans (mod_ok (by decide))
    have ht := tfE_bl ((bin_ok (k := dEq) (g := eC (.int 1)) (y := .int ((1 : Nat) : Int)) hd rfl).trans eq_nat)
    cases hb : (R.getD 0 0 % 2 == 1) with
    | false =>
      rw [hb] at ht
      exact ⟨List.range n, (if_f ht).trans rfl, by rw [List.length_range]; exact Nat.le_refl _, by rw [List.length_range]; omega, fun x hx => List.mem_range.mp hx⟩
    | true =>
      rw [hb] at ht
      refine ⟨List.range n ++ [R.getD 1 0 % n], (if_t ht).trans ?_, by rw [List.length_append, List.length_range]; omega, by rw [List.length_append, List.length_range]; exact Nat.le_refl _, fun x hx => ?_⟩
      · have h4 : eU dInt (eBin dIx (eView 3) (eC (.int 1))) (ES (List.range n)) = .ok (.int (R.getD 1 0 : Nat)) := (u_ok ((bin_ok (x := .lst (nats R)) (y := .int ((1 : Nat) : Int)) rfl rfl).trans (ixL (nats_get x1)))).trans rfl
        have h5 : eBin dMod (eU dInt (eBin dIx (eView 3) (eC (.int 1)))) (eView 2) (ES (List.range n)) = .ok (.int ((R.getD 1 0 % n : Nat) : Int)) := (bin_ok (y := .int (n : Int)) h4 rfl).trans (mod_ok h1)
        refine (app_ok (ds := nats (List.range n)) rfl h5 (by rw [nats_length, List.length_range]; omega)).trans ?_
        rw [nats_snoc]
        rfl
      · rcases List.mem_append.mp hx with hx | hx
        · exact List.mem_range.mp hx
        · rw [List.mem_singleton.mp hx]; exact Nat.mod_lt _ h1
  obtain ⟨B, b1, b2, b3, b4⟩ := hmid
  have hlen : eU dLen (eView 4) (ES B) = .ok (.int (B.length : Int)) := (u_ok (x := .lst (nats B)) rfl).trans (by show Res.ok (D.int ((nats B).length : Int)) = _; rw [nats_length])
  obtain ⟨O, o1, o2, o3⟩ := order_call ns (a := at0 + 4) (n := B.length) (by omega) (f := eVar 0) (g := eBin dAdd (eView 1) (eC (.int 4))) (h := eU dLen (eView 4)) (E := ES B) rfl (by rw [Int.natCast_add]; rfl) hlen
  let Q := O.map fun i => B.getD i 0
  have hq : oLc [5] (itSeq (eCall phi_law_order (aCons (eVar 0) (aCons (eBin dAdd (eView 1) (eC (.int 4))) (aCons (eU dLen (eView 4)) (aNil)))))) (gaName 5) (tfTrue) (eBin dIx (eView 4) (eView 5)) (ES B) = .ok (.lst (nats Q)) := by
    have := lcL_ok (ga := gaName 5) (t := tfTrue) (fe := eBin dIx (eView 4) (eView 5)) (env := wipeE (ES B) [5]) (fun _ => true) (fun d => match d with
      | .int i => .int (B.getD i.toNat 0 : Nat)
      | _ => .non) (nats O) fun d hd => by
      obtain ⟨i, hi, rfl⟩ := List.mem_map.mp hd
      refine ⟨(wipeE (ES B) [5]).set 5 (.val (.int (i : Int))), rfl, rfl, fun _ => ?_⟩
      exact (bin_ok (x := .lst (nats B)) (y := .int (i : Int)) rfl rfl).trans (ixL (nats_get (getD_some (o3 i hi))))
    rw [filt_true] at this
    have hf : (nats O).map (fun d => match d with
      | .int i => D.int (B.getD i.toNat 0 : Nat)
      | _ => .non) = nats Q := by
      show (O.map _).map _ = (O.map fun i => B.getD i 0).map _
      rw [List.map_map, List.map_map]
      rfl
    rw [hf] at this
    refine oLc_ok (ds := nats O) (by unfold itSeq; rw [o1]; rfl) this (by rw [nats_length]; show (O.map _).length < 1000; rw [List.length_map, o2]; omega)
  refine ⟨Q, ?_, by rw [List.length_map, o2]; exact b2, by rw [List.length_map, o2]; exact b3, fun x hx => ?_⟩
  · show (ir_law_said [.val S, .val (.int (at0 : Int)), .val (.int (n : Int)), .no, .no, .no]).res = _
    unfold ir_law_said
    refine seq_res (e := [.val S, .val (.int (at0 : Int)), .val (.int (n : Int)), .val (.lst (nats R)), .no, .no]) ((asg_ok r1).trans rfl) ?_
    refine seq_res (e := ES (List.range n)) ?_ ?_
    · refine (own_ok (m := .lst (nats (List.range n))) (rg_ok rfl (by omega)) rfl).trans rfl
    refine seq_res b1 ?_
    rw [ret_ok (eO_ok hq)]
    rfl
  · obtain ⟨i, hi, rfl⟩ := List.mem_map.mp hx
    exact b4 _ (List.mem_of_getElem? (getD_some (o3 i hi)))
/-! ### the serial choice -/
abbrev ER (WD MD OD : D) (C : List Nat) (w : List (List Nat)) (B : List Nat) (s6 s7 : Mi.Slot) : Envt := [.val WD, .val MD, .val OD, .own (.lst (nats C)), .val (wD w), .own (.lst (nats B)), s6, s7, .no]
theorem se1_ok {WD MD OD : D} {C : List Nat} {w : List (List Nat)} {s7 : Mi.Slot} {l : List Nat} (hl : w[k]? = some l) (hlo : l.length = o) (hB : B ≠ []) (hB2 : B.length < 100) (hb : ∀ x ∈ B, x < o) :
    ∃ B' s7', lb1_law_serial (ER WD MD OD C w B (.val (.int (k : Int))) s7) = .nx (ER WD MD OD C w B' (.val (.int (k : Int))) s7') ∧ B' ≠ [] ∧ B'.length < 100 ∧ ∀ x ∈ B', x < o := by
  let L := B.map fun x => l.getD x 0
  have hL : L ≠ [] := fun h => hB (List.map_eq_nil_iff.mp h)
  obtain ⟨mx, m1, m2, m3⟩ := max_ok hL
  let E0 : Envt := [.val WD, .val MD, .val OD, .own (.lst (nats C)), .val (wD w), .val (.lst (nats B)), .val (.int (k : Int)), s7, .no]
  let E1 : Envt := [.val WD, .val MD, .val OD, .own (.lst (nats C)), .val (wD w), .val (.lst (nats B)), .val (.int (k : Int)), .val (.int (mx : Int)), .no]
  have hwk : (w.map fun l => D.tup (nats l))[k]? = some (.tup (nats l)) := by rw [List.getElem?_map, hl]; rfl
  have hat : ∀ (E : Envt) (x : Nat), x ∈ B → E[4]? = some (.val (wD w)) → E[6]? = some (.val (.int (k : Int))) → E[8]? = some (.val (.int (x : Int))) → eBin dIx (eBin dIx (eView 4) (eView 6)) (eView 8) E = .ok (.int (l.getD x 0 : Nat)) := fun E x hx h4 h6 h8 => by
    refine (bin_ok (x := .tup (nats l)) (y := .int (x : Int)) ((bin_ok (x := wD w) (y := .int (k : Int)) (by unfold eView; rw [h4]) (by unfold eView; rw [h6])).trans (ixT hwk)) (by unfold eView; rw [h8])).trans (ixT (nats_get (getD_some ?_)))
    rw [hlo]; exact hb x hx
  have hlc : oLc [8] (itSeq (eVar 5)) (gaName 8) (tfTrue) (eBin dIx (eBin dIx (eView 4) (eView 6)) (eView 8)) E0 = .ok (.lst (nats L)) := by
    have := lcL_ok (ga := gaName 8) (t := tfTrue) (fe := eBin dIx (eBin dIx (eView 4) (eView 6)) (eView 8)) (env := wipeE E0 [8]) (fun _ => true) (fun d => match d with
      | .int i => .int (l.getD i.toNat 0 : Nat)
      | _ => .non) (nats B) fun d hd => by
      obtain ⟨x, hx, rfl⟩ := List.mem_map.mp hd
      exact ⟨(wipeE E0 [8]).set 8 (.val (.int (x : Int))), rfl, rfl, fun _ => hat _ x hx rfl rfl rfl⟩
    rw [filt_true] at this
    have hf : (nats B).map (fun d => match d with
      | .int i => D.int (l.getD i.toNat 0 : Nat)
      | _ => .non) = nats L := by
      show (B.map _).map _ = (B.map fun x => l.getD x 0).map _
      rw [List.map_map, List.map_map]
      rfl
    rw [hf] at this
    exact oLc_ok (ds := nats B) rfl this (by rw [nats_length]; show (B.map _).length < 1000; rw [List.length_map]; omega)
  let B' := B.filter fun x => l.getD x 0 == mx
  have hlc2 : oLc [8] (itSeq (eVar 5)) (gaName 8) (tfE (eBin dEq (eBin dIx (eBin dIx (eView 4) (eView 6)) (eView 8)) (eView 7))) (eVar 8) E1 = .ok (.lst (nats B')) := by
    have := lcL_ok (ga := gaName 8) (t := tfE (eBin dEq (eBin dIx (eBin dIx (eView 4) (eView 6)) (eView 8)) (eView 7))) (fe := eVar 8) (env := wipeE E1 [8]) (fun d => match d with
      | .int i => l.getD i.toNat 0 == mx
      | _ => true) (fun d => d) (nats B) fun d hd => by
      obtain ⟨x, hx, rfl⟩ := List.mem_map.mp hd
      refine ⟨(wipeE E1 [8]).set 8 (.val (.int (x : Int))), rfl, tfE_bl ((bin_ok (y := .int (mx : Int)) (hat _ x hx rfl rfl rfl) rfl).trans eq_nat), fun _ => rfl⟩
    have hf : ((nats B).filter fun d => match d with
      | .int i => l.getD i.toNat 0 == mx
      | _ => true).map (fun d => d) = nats B' := by
      rw [List.map_id']
      show (B.map _).filter _ = (B.filter _).map _
      rw [List.filter_map]
      rfl
    rw [hf] at this
    have hle := List.length_filter_le (fun x => l.getD x 0 == mx) B
    exact oLc_ok (ds := nats B) rfl this (by rw [nats_length]; show (B.filter _).length < 1000; omega)
  refine ⟨B', .val (.int (mx : Int)), ?_, ?_, Nat.lt_of_le_of_lt (List.length_filter_le _ _) hB2, fun x hx => hb x (List.mem_filter.mp hx).1⟩
  · unfold lb1_law_serial
    refine seq_go (e := E1) ?_ ?_
    · show sAsg 7 _ E0 = _
      exact (asg_ok (d := .int (mx : Int)) ((u_ok (eO_ok hlc)).trans m1)).trans rfl
    · show sOwn 5 _ E1 = _
      exact (own_ok (m := .lst (nats B')) hlc2 rfl).trans rfl
  · obtain ⟨x, hx, e⟩ := List.mem_map.mp m2
    have : x ∈ B' := List.mem_filter.mpr ⟨hx, by rw [e]; exact beq_self_eq_true _⟩
    exact fun h => by rw [h] at this; cases this
theorem se2_ok {WD : D} {C M O : List Nat} {w : List (List Nat)} {s5 s6 s7 : Mi.Slot} (hw : ∀ l ∈ w, l.length = o) (hO : ∀ k ∈ O, k < w.length) (hM : M ≠ []) (hM2 : M.length < 100) (hm : ∀ x ∈ M, x < o) (hC : C.length < 1000) :
    ∃ x B' s6' s7', lb2_law_serial [.val WD, .val (.lst (nats M)), .val (.lst (nats O)), .own (.lst (nats C)), .val (wD w), s5, s6, s7, .no] = .nx (ER WD (.lst (nats M)) (.lst (nats O)) (C ++ [x]) w B' s6' s7') ∧ x < o := by
  obtain ⟨E, e1, B, s6', s7', rfl, b1, b2, b3⟩ := forL_inv (ga := gaName 6) (body := lb1_law_serial) (ds := nats O) (fun i E => ∃ B s6' s7', E = ER WD (.lst (nats M)) (.lst (nats O)) C w B s6' s7' ∧ B ≠ [] ∧ B.length < 100 ∧ ∀ x ∈ B, x < o)
    (fun i d E hi ⟨B, s6', s7', hE, b1, b2, b3⟩ => by
      subst hE
      have hi2 : i < O.length := by have := (List.getElem?_eq_some_iff.mp hi).1; rw [nats_length] at this; exact this
      have hx : O[i]? = some (O.getD i 0) := getD_some hi2
      rw [nats_get hx] at hi
      cases hi
      have hk := hO _ (List.mem_of_getElem? hx)
      have hl : w[O.getD i 0]? = some (w[O.getD i 0]) := List.getElem?_eq_getElem hk
      obtain ⟨B', t7, k1, k2, k3, k4⟩ := se1_ok (WD := WD) (MD := .lst (nats M)) (OD := .lst (nats O)) (C := C) (s7 := s7') hl (hw _ (List.mem_of_getElem? hl)) b1 b2 b3
      exact ⟨ER WD (.lst (nats M)) (.lst (nats O)) C w B (.val (.int ((O.getD i 0 : Nat) : Int))) s7', _, rfl, k1, B', _, t7, rfl, k2, k3, k4⟩) (env := ER WD (.lst (nats M)) (.lst (nats O)) C w M s6 s7) ⟨M, s6, s7, rfl, hM, hM2, hm⟩
  have hB0 : B[0]? = some (B.getD 0 0) := getD_some (List.length_pos_iff.mpr b1)
  refine ⟨B.getD 0 0, B, s6', s7', ?_, b3 _ (List.mem_of_getElem? hB0)⟩
  unfold lb2_law_serial
  refine seq_go (e := ER WD (.lst (nats M)) (.lst (nats O)) C w M s6 s7) rfl (seq_go ((for_ok rfl).trans e1) ?_)
  refine (app_ok (ds := nats C) (d := .int ((B.getD 0 0 : Nat) : Int)) rfl ((bin_ok (x := .lst (nats B)) (y := .int ((0 : Nat) : Int)) rfl rfl).trans (ixL (nats_get hB0))) (by rw [nats_length]; omega)).trans ?_
  rw [nats_snoc]
  rfl
theorem serial_ok {M O : List Nat} {W : List (List (List Nat))} {p : Nat} (hW : ∀ w ∈ W, w.length = p ∧ ∀ l ∈ w, l.length = o) (hO : ∀ k ∈ O, k < p) (hM : M ≠ []) (hM2 : M.length < 100) (hm : ∀ x ∈ M, x < o) (hC : W.length < 1000) :
    ∃ C, phi_law_serial [.lst (W.map wD), .lst (nats M), .lst (nats O)] = .ok (.lst (nats C)) ∧ C.length = W.length ∧ ∀ x ∈ C, x < o := by
  let WD : D := .lst (W.map wD)
  obtain ⟨E, e1, C, s4, s5, s6, s7, rfl, c1, c2⟩ := forL_inv (ga := gaName 4) (body := lb2_law_serial) (ds := W.map wD) (fun i E => ∃ C s4 s5 s6 s7, E = [.val WD, .val (.lst (nats M)), .val (.lst (nats O)), .own (.lst (nats C)), s4, s5, s6, s7, .no] ∧ C.length = i ∧ ∀ x ∈ C, x < o)
    (fun i d E hi ⟨C, s4, s5, s6, s7, hE, c1, c2⟩ => by
      subst hE
      rw [List.getElem?_map] at hi
      cases hw : W[i]? with
      | none => rw [hw] at hi; cases hi
      | some w =>
        rw [hw] at hi
        cases hi
        have hi2 := (List.getElem?_eq_some_iff.mp hw).1
        obtain ⟨w1, w2⟩ := hW w (List.mem_of_getElem? hw)
        obtain ⟨x, B', t6, t7, k1, k2⟩ := se2_ok (WD := WD) (C := C) (M := M) (O := O) (w := w) (s5 := s5) (s6 := s6) (s7 := s7) w2 (fun k hk => by rw [w1]; exact hO k hk) hM hM2 hm (by omega)
        refine ⟨[.val WD, .val (.lst (nats M)), .val (.lst (nats O)), .own (.lst (nats C)), .val (wD w), s5, s6, s7, .no], _, rfl, k1, C ++ [x], _, _, _, _, rfl, by rw [List.length_append, c1]; rfl, fun y hy => ?_⟩
        rcases List.mem_append.mp hy with hy | hy
        · exact c2 y hy
        · rw [List.mem_singleton.mp hy]; exact k2) (env := [.val WD, .val (.lst (nats M)), .val (.lst (nats O)), .own (.lst (nats [])), .no, .no, .no, .no, .no]) ⟨[], .no, .no, .no, .no, rfl, rfl, fun x hx => by cases hx⟩
  rw [List.length_map] at c1
  refine ⟨C, ?_, c1, c2⟩
  show (ir_law_serial [.val WD, .val (.lst (nats M)), .val (.lst (nats O)), .no, .no, .no, .no, .no, .no]).res = _
  unfold ir_law_serial
  exact seq_res (e := [.val WD, .val (.lst (nats M)), .val (.lst (nats O)), .own (.lst (nats [])), .no, .no, .no, .no, .no]) rfl (seq_res ((for_ok rfl).trans e1) rfl)
end
end Law
end
section
set_option maxRecDepth 100000
set_option maxHeartbeats 4000000
namespace Law
open PySem PySem.Spec L2 Mi Rx
theorem prod_le {m : Nat} : ∀ {zs : List Nat}, (∀ z ∈ zs, z ≤ m) → prodL zs ≤ m ^ zs.length
  | [], _ => Nat.le_refl _
  | z :: zs, h => by
    show z * prodL zs ≤ m ^ (zs.length + 1)
    rw [Nat.pow_succ, Nat.mul_comm (m ^ zs.length)]
    exact Nat.mul_le_mul (h z List.mem_cons_self) (prod_le fun y hy => h y (List.mem_cons_of_mem _ hy))
theorem good_of {o m : Nat} {LL : List (List (List Nat))} (o1 : 1 ≤ o) (o8 : o ≤ 8) (p1 : 1 ≤ LL.length) (p4 : LL.length ≤ 4) (m6 : m ≤ 6) (h : ∀ L ∈ LL, RowOk o m L) (hw : m ^ LL.length ≤ 36) : GoodL o LL :=
  ⟨o1, o8, p1, p4, fun L hL => ⟨(h L hL).1, Nat.le_trans (h L hL).2.1 m6, (h L hL).2.2⟩, Nat.le_trans (by
    have := prod_le (m := m) (zs := LL.map List.length) fun z hz => by
      obtain ⟨L, hL, rfl⟩ := List.mem_map.mp hz
      exact (h L hL).2.1
    rw [List.length_map] at this
    exact this) hw⟩
section
variable {o n : Nat} {ns : List Int}
abbrev ET (S : D) (s1 s2 s3 s4 s5 s6 s7 s8 s9 s10 s11 s12 s13 s14 s15 : Mi.Slot) : Envt := [.val S, s1, s2, s3, s4, s5, s6, s7, s8, s9, s10, s11, s12, s13, s14, s15, .no, .no, .no]
def iN (n : Nat) : Mi.Slot := .val (.int (n : Int))
/-- the sizes and the likings of a script -/
theorem pick_i {R : List Nat} {E : Envt} {i : Nat} (h1 : E[1]? = some (.val (.lst (nats R)))) (hi : i < R.length) {f : EF} (hf : f E = .ok (.int (i : Int))) : eU dInt (eBin dIx (eView 1) f) E = .ok (.int (R.getD i 0 : Nat)) :=
  (u_ok ((bin_ok (x := .lst (nats R)) (y := .int (i : Int)) (by unfold eView; rw [h1]) hf).trans (ixL (nats_get (getD_some hi))))).trans rfl
theorem draw_ok {R : List Nat} {E : Envt} {i c m : Nat} (h1 : E[1]? = some (.val (.lst (nats R)))) (hi : i < R.length) (hm : 0 < m) {f g : EF} (hf : f E = .ok (.int (i : Int))) (hg : g E = .ok (.int (m : Int))) : eBin dAdd (eC (.int (c : Int))) (eBin dMod (eU dInt (eBin dIx (eView 1) f)) g) E = .ok (.int ((c + R.getD i 0 % m : Nat) : Int)) := by
  refine (bin_ok (x := .int (c : Int)) rfl ((bin_ok (y := .int (m : Int)) (pick_i h1 hi hf) hg).trans (mod_ok hm))).trans ?_
  rw [Int.natCast_add]
  rfl
theorem law_open (ns : List Int) (rest : SF) : ∃ R n o LL, R.length = 8 ∧ LL.length = n ∧ GoodL o LL ∧ (sSeq (sAsg 1 (eCall phi_law_row (aCons (eVar 0) (aCons (eC (.int 0)) (aCons (eC (.int 8)) (aCons (eC (.int 5040)) (aNil)))))))
  (sSeq (sAsg 2 (eBin dAdd (eC (.int 1)) (eBin dMod (eU dInt (eBin dIx (eView 1) (eC (.int 0)))) (eC (.int 4)))))
  (sSeq (sAsg 3 (eBin dAdd (eC (.int 2)) (eBin dMod (eU dInt (eBin dIx (eView 1) (eC (.int 1)))) (eC (.int 3)))))
  (sSeq (sAsg 4 (eCall phi_law_likings (aCons (eVar 0) (aCons (eC (.int 1)) (aCons (eVar 2) (aCons (eVar 3) (aNil)))))))
  (sSeq (sIf (tfE (eBin dEq (eBin dMod (eU dInt (eBin dIx (eView 1) (eC (.int 5)))) (eC (.int 16))) (eC (.int 5)))) (sSeq (sAsg 2 (eC (.int 2)))
  (sSeq (sAsg 3 (eBin dAdd (eC (.int 1)) (eBin dMod (eU dInt (eBin dIx (eView 1) (eC (.int 1)))) (eC (.int 8)))))
  (sAsg 4 (eCall phi_law_many_likings (aCons (eVar 0) (aCons (eC (.int 1)) (aCons (eTup (aCons (eC (.int 6)) (aCons (eC (.int 6)) (aNil)))) (aCons (eVar 3) (aNil))))))))) (sNil))
  (sSeq (sIf (tfE (eBin dEq (eView 2) (eC (.int 4)))) (sAsg 4 (eU dTuple (eO (oLc [16] (itSeq (eVar 4)) (gaName 16) (tfTrue) (eSlice (eView 16) (nNone) (nSome (eC (.int 2)))))))) (sNil)) rest))))))
   (ET (.lst (ns.map .int)) .no .no .no .no .no .no .no .no .no .no .no .no .no .no .no) = rest (ET (.lst (ns.map .int)) (.val (.lst (nats R))) (iN n) (iN o) (.val (LKD LL)) .no .no .no .no .no .no .no .no .no .no .no) := by
  let S : D := .lst (ns.map .int)
  let N : Mi.Slot := .no
  obtain ⟨R, r1, r2, r3⟩ := row_call ns (a := 0) (n := 8) (by omega) (f := eVar 0) (g := eC (.int 0)) (h := eC (.int 8)) (E := ET S N N N N N N N N N N N N N N N) rfl rfl rfl
  let V1 : Mi.Slot := .val (.lst (nats R))
  let n0 := 1 + R.getD 0 0 % 4
  let o0 := 2 + R.getD 1 0 % 3
  have hn0 : n0 ≤ 4 := by have := Nat.mod_lt (R.getD 0 0) (show 0 < 4 by decide); omega
  have ho0 : o0 ≤ 4 := by have := Nat.mod_lt (R.getD 1 0) (show 0 < 3 by decide); omega
  obtain ⟨L0, l1, l2, l3⟩ := likings_ok ns 1 n0 (o := o0) (by omega) (by omega) (by omega)
  let E1 : Envt := ET S V1 N N N N N N N N N N N N N N
  let E2 : Envt := ET S V1 (iN n0) N N N N N N N N N N N N N
  let E3 : Envt := ET S V1 (iN n0) (iN o0) N N N N N N N N N N N N
  let E4 : Envt := ET S V1 (iN n0) (iN o0) (.val (LKD L0)) N N N N N N N N N N N
  have st1 : sAsg 1 (eCall phi_law_row (aCons (eVar 0) (aCons (eC (.int 0)) (aCons (eC (.int 8)) (aCons (eC (.int 5040)) (aNil)))))) (ET S N N N N N N N N N N N N N N N) = .nx E1 := (asg_ok r1).trans rfl
  have st2 : sAsg 2 (eBin dAdd (eC (.int 1)) (eBin dMod (eU dInt (eBin dIx (eView 1) (eC (.int 0)))) (eC (.int 4)))) E1 = .nx E2 := (asg_ok (draw_ok (R := R) (i := 0) (c := 1) (m := 4) rfl (by omega) (by decide) rfl rfl)).trans rfl
  have st3 : sAsg 3 (eBin dAdd (eC (.int 2)) (eBin dMod (eU dInt (eBin dIx (eView 1) (eC (.int 1)))) (eC (.int 3)))) E2 = .nx E3 := (asg_ok (draw_ok (R := R) (i := 1) (c := 2) (m := 3) rfl (by omega) (by decide) rfl rfl)).trans rfl
  have st4 : sAsg 4 (eCall phi_law_likings (aCons (eVar 0) (aCons (eC (.int 1)) (aCons (eVar 2) (aCons (eVar 3) (aNil)))))) E3 = .nx E4 := by
    have ha : (aCons (eVar 0) (aCons (eC (.int 1)) (aCons (eVar 2) (aCons (eVar 3) (aNil))))) E3 = .ok [S, .int ((1 : Nat) : Int), .int (n0 : Int), .int (o0 : Int)] := acons_ok rfl (acons_ok rfl (acons_ok rfl (acons_ok rfl rfl)))
    exact (asg_ok ((call_ok (φ := phi_law_likings) ha).trans l1)).trans rfl
  have ht : tfE (eBin dEq (eBin dMod (eU dInt (eBin dIx (eView 1) (eC (.int 5)))) (eC (.int 16))) (eC (.int 5))) E4 = .ok (R.getD 5 0 % 16 == 5) := by
    have h4 : eU dInt (eBin dIx (eView 1) (eC (.int 5))) E4 = .ok (.int (R.getD 5 0 : Nat)) := pick_i (R := R) (i := 5) rfl (by omega) rfl
    exact tfE_bl ((bin_ok (k := dEq) (g := eC (.int 5)) (y := .int ((5 : Nat) : Int)) ((bin_ok (y := .int ((16 : Nat) : Int)) h4 rfl).trans (mod_ok (by decide))) rfl).trans eq_nat)
  have t4 : ∀ (n o : Nat) (LL : List (List (List Nat))), tfE (eBin dEq (eView 2) (eC (.int 4))) (ET S V1 (iN n) (iN o) (.val (LKD LL)) N N N N N N N N N N N) = .ok (n == 4) := fun n o LL => tfE_bl ((bin_ok (k := dEq) (g := eC (.int 4)) (x := .int (n : Int)) (y := .int ((4 : Nat) : Int)) rfl rfl).trans eq_nat)
  cases hb : (R.getD 5 0 % 16 == 5) with
  | true =>
    rw [hb] at ht
    let o1 := 1 + R.getD 1 0 % 8
    have ho1 : o1 ≤ 8 := by have := Nat.mod_lt (R.getD 1 0) (show 0 < 8 by decide); omega
    obtain ⟨L1, m1, m2, m3⟩ := many_ok ns 1 (o := o1) (by omega) (by omega)
    refine ⟨R, 2, o1, L1, r2, m2, good_of (m := 6) (by omega) ho1 (by omega) (by omega) (Nat.le_refl _) m3 (by rw [m2]; decide), ?_⟩
    let E5 : Envt := ET S V1 (iN 2) (iN o1) (.val (LKD L1)) N N N N N N N N N N N
    refine seq_go st1 (seq_go st2 (seq_go st3 (seq_go st4 (seq_go (e := E5) ((if_t ht).trans ?_) (seq_go (e := E5) ((if_f (t4 2 o1 L1)).trans rfl) rfl)))))
    refine seq_go (e := ET S V1 (iN 2) (iN o0) (.val (LKD L0)) N N N N N N N N N N N) rfl ?_
    refine seq_go (e := ET S V1 (iN 2) (iN o1) (.val (LKD L0)) N N N N N N N N N N N) ((asg_ok (draw_ok (R := R) (i := 1) (c := 1) (m := 8) rfl (by omega) (by decide) rfl rfl)).trans rfl) ?_
    have ha : (aCons (eVar 0) (aCons (eC (.int 1)) (aCons (eTup (aCons (eC (.int 6)) (aCons (eC (.int 6)) (aNil)))) (aCons (eVar 3) (aNil))))) (ET S V1 (iN 2) (iN o1) (.val (LKD L0)) N N N N N N N N N N N) = .ok [S, .int ((1 : Nat) : Int), .tup (nats [6, 6]), .int (o1 : Int)] := acons_ok rfl (acons_ok rfl (acons_ok (tup_ok (ds := nats [6, 6]) rfl (by decide)) (acons_ok rfl rfl)))
    exact (asg_ok ((call_ok (φ := phi_law_many_likings) ha).trans m1)).trans rfl
  | false =>
    rw [hb] at ht
    cases h4 : (n0 == 4) with
    | false =>
      have hn : n0 ≠ 4 := fun e => by rw [e] at h4; cases h4
      refine ⟨R, n0, o0, L0, r2, l2, good_of (m := 3) (by omega) (by omega) (by omega) (by omega) (by omega) l3 ?_, ?_⟩
      · rw [l2]
        have : n0 = 1 ∨ n0 = 2 ∨ n0 = 3 := by omega
        rcases this with e | e | e <;> rw [e] <;> decide
      · refine seq_go st1 (seq_go st2 (seq_go st3 (seq_go st4 (seq_go (e := E4) ((if_f ht).trans rfl) (seq_go (e := E4) ((if_f ((t4 n0 o0 L0).trans (by rw [h4]))).trans rfl) rfl)))))
    | true =>
      have hn : n0 = 4 := eq_of_beq h4
      let L1 := L0.map fun L => L.take 2
      have k1 : L1.length = n0 := by rw [List.length_map, l2]
      refine ⟨R, n0, o0, L1, r2, k1, good_of (m := 2) (by omega) (by omega) (by omega) (by omega) (by omega) (fun L hL => ?_) (by rw [k1, hn]; decide), ?_⟩
      · obtain ⟨L', hL', rfl⟩ := List.mem_map.mp hL
        obtain ⟨q1, q2, q3, q4⟩ := l3 L' hL'
        refine ⟨by rw [List.length_take]; omega, by rw [List.length_take]; omega, q3.sublist (List.take_sublist 2 L'), fun l hl => q4 l (List.mem_of_mem_take hl)⟩
      · refine seq_go st1 (seq_go st2 (seq_go st3 (seq_go st4 (seq_go (e := E4) ((if_f ht).trans rfl) (seq_go (e := ET S V1 (iN n0) (iN o0) (.val (LKD L1)) N N N N N N N N N N N) ((if_t ((t4 n0 o0 L0).trans (by rw [h4]))).trans ?_) rfl)))))
        have hlc := lcL_ok (ga := gaName 16) (t := tfTrue) (fe := eSlice (eView 16) (nNone) (nSome (eC (.int 2)))) (env := wipeE E4 [16]) (fun _ => true) (fun d => .tup ((itm d).take 2)) (L0.map fun L => D.tup (tups L)) fun d hd => by
          obtain ⟨L, hL, rfl⟩ := List.mem_map.mp hd
          refine ⟨(wipeE E4 [16]).set 16 (.val (.tup (tups L))), rfl, rfl, fun _ => ?_⟩
          refine slice_ok (d := .tup (tups L)) (i := none) (j := some ((2 : Nat) : Int)) rfl rfl (nsome_ok rfl) ?_
          show Res.ok (D.tup (cutD (tups L) none (some ((2 : Nat) : Int)))) = _
          rw [cut_upto]
          rfl
        rw [filt_true] at hlc
        have hf : (L0.map fun L => D.tup (tups L)).map (fun d => D.tup ((itm d).take 2)) = L1.map fun L => D.tup (tups L) := by
          show _ = (L0.map fun L => L.take 2).map _
          rw [List.map_map, List.map_map]
          apply List.map_congr_left
          intro L _
          show D.tup ((tups L).take 2) = D.tup (tups (L.take 2))
          unfold tups
          rw [List.map_take]
        rw [hf] at hlc
        have ho : oLc [16] (itSeq (eVar 4)) (gaName 16) (tfTrue) (eSlice (eView 16) (nNone) (nSome (eC (.int 2)))) E4 = .ok (.lst (L1.map fun L => D.tup (tups L))) := oLc_ok (ds := L0.map fun L => D.tup (tups L)) rfl hlc (by rw [List.length_map, k1]; omega)
        exact (asg_ok (d := LKD L1) ((u_ok (eO_ok ho)).trans rfl)).trans rfl
/-- a drawn game -/
theorem game_fn_ok (ns : List Int) (at0 : Nat) (n4 : n ≤ 4) (o1 : 1 ≤ o) : ∃ Z T, phi_law_game [.lst (ns.map .int), .int (at0 : Int), .int (n : Int), .int (o : Int)] = .ok (.tup [.tup (nats Z), .tup (nats T)]) ∧ Z.length = n ∧ (∀ z ∈ Z, 1 ≤ z ∧ z ≤ 3) ∧ T.length = prodL Z ∧ ∀ x ∈ T, x < o := by
  let S : D := .lst (ns.map .int)
  let N : Mi.Slot := .no
  let E0 : Envt := [.val S, iN at0, iN n, iN o, N, N, N, N]
  obtain ⟨R, r1, r2, r3⟩ := row_call ns (a := at0) (n := n) (by omega) (f := eVar 0) (g := eVar 1) (h := eVar 2) (E := E0) rfl rfl rfl
  let Z := R.map fun x => 1 + x % 3
  have hZ : ∀ z ∈ Z, 1 ≤ z ∧ z ≤ 3 := fun z hz => by
    obtain ⟨x, _, rfl⟩ := List.mem_map.mp hz
    have := Nat.mod_lt x (show 0 < 3 by decide)
    exact ⟨by omega, by omega⟩
  have Zl : Z.length = n := by rw [List.length_map, r2]
  have hp : prodL Z ≤ 81 := by
    refine Nat.le_trans (prod_le (m := 3) fun z hz => (hZ z hz).2) ?_
    rw [Zl]
    exact Nat.le_trans (Nat.pow_le_pow_right (by decide) n4) (by decide)
  have h1 : oLc [6] (itSeq (eCall phi_law_row (aCons (eVar 0) (aCons (eVar 1) (aCons (eVar 2) (aCons (eC (.int 5040)) (aNil))))))) (gaName 6) (tfTrue) (eBin dAdd (eC (.int 1)) (eBin dMod (eU dInt (eView 6)) (eC (.int 3)))) E0 = .ok (.lst (nats Z)) := by
    have := lcL_ok (ga := gaName 6) (t := tfTrue) (fe := eBin dAdd (eC (.int 1)) (eBin dMod (eU dInt (eView 6)) (eC (.int 3)))) (env := wipeE E0 [6]) (fun _ => true) (fun d => match d with
      | .int i => .int ((1 + i.toNat % 3 : Nat) : Int)
      | _ => .non) (nats R) fun d hd => by
      obtain ⟨x, hx, rfl⟩ := List.mem_map.mp hd
      refine ⟨(wipeE E0 [6]).set 6 (.val (.int (x : Int))), rfl, rfl, fun _ => ?_⟩
      refine (bin_ok (x := .int ((1 : Nat) : Int)) rfl ((bin_ok (x := .int (x : Int)) (y := .int ((3 : Nat) : Int)) rfl rfl).trans (mod_ok (by decide)))).trans ?_
      show Res.ok (D.int (((1 : Nat) : Int) + ((x % 3 : Nat) : Int))) = Res.ok (D.int ((1 + x % 3 : Nat) : Int))
      rw [Int.natCast_add]
    rw [filt_true] at this
    have hf : (nats R).map (fun d => match d with
      | .int i => D.int ((1 + i.toNat % 3 : Nat) : Int)
      | _ => .non) = nats Z := by
      show (R.map _).map _ = (R.map fun x => 1 + x % 3).map _
      rw [List.map_map, List.map_map]
      rfl
    rw [hf] at this
    exact oLc_ok (ds := nats R) (by unfold itSeq; rw [r1]; rfl) this (by rw [nats_length, Zl]; omega)
  let E1 : Envt := [.val S, iN at0, iN n, iN o, .val (.tup (nats Z)), N, N, N]
  let E2 : Envt := [.val S, iN at0, iN n, iN o, .val (.tup (nats Z)), iN (prodL Z), N, N]
  have hpl : eCall phi_law_plays (aCons (eVar 4) (aNil)) E1 = .ok (.lst (tups (rows Z))) := by
    have ha : (aCons (eVar 4) (aNil)) E1 = .ok [.tup (nats Z)] := acons_ok rfl rfl
    exact (call_ok (φ := phi_law_plays) ha).trans (plays_ok (.inr rfl) (fun z hz => (hZ z hz).1) (by omega) (by omega))
  have hcn : eU dLen (eCall phi_law_plays (aCons (eVar 4) (aNil))) E1 = .ok (.int (prodL Z : Int)) := (u_ok hpl).trans (by
    show Res.ok (D.int ((tups (rows Z)).length : Int)) = _
    unfold tups
    rw [List.length_map, rows_length])
  obtain ⟨Q, q1, q2, q3⟩ := row_call ns (a := at0 + 1) (n := prodL Z) (by omega) (f := eVar 0) (g := eBin dAdd (eView 1) (eC (.int 1))) (h := eVar 5) (E := E2) rfl (by rw [Int.natCast_add]; rfl) rfl
  let T := Q.map fun x => x % o
  have h2 : oLc [7] (itSeq (eCall phi_law_row (aCons (eVar 0) (aCons (eBin dAdd (eView 1) (eC (.int 1))) (aCons (eVar 5) (aCons (eC (.int 5040)) (aNil))))))) (gaName 7) (tfTrue) (eBin dMod (eU dInt (eView 7)) (eView 3)) E2 = .ok (.lst (nats T)) := by
    have := lcL_ok (ga := gaName 7) (t := tfTrue) (fe := eBin dMod (eU dInt (eView 7)) (eView 3)) (env := wipeE E2 [7]) (fun _ => true) (fun d => match d with
      | .int i => .int ((i.toNat % o : Nat) : Int)
      | _ => .non) (nats Q) fun d hd => by
      obtain ⟨x, hx, rfl⟩ := List.mem_map.mp hd
      refine ⟨(wipeE E2 [7]).set 7 (.val (.int (x : Int))), rfl, rfl, fun _ => ?_⟩
      exact (bin_ok (x := .int (x : Int)) (y := .int (o : Int)) rfl rfl).trans (mod_ok o1)
    rw [filt_true] at this
    have hf : (nats Q).map (fun d => match d with
      | .int i => D.int ((i.toNat % o : Nat) : Int)
      | _ => .non) = nats T := by
      show (Q.map _).map _ = (Q.map fun x => x % o).map _
      rw [List.map_map, List.map_map]
      rfl
    rw [hf] at this
    exact oLc_ok (ds := nats Q) (by unfold itSeq; rw [q1]; rfl) this (by rw [nats_length, List.length_map, q2]; omega)
  refine ⟨Z, T, ?_, Zl, hZ, by rw [List.length_map, q2], fun x hx => ?_⟩
  · show (ir_law_game E0).res = _
    unfold ir_law_game
    refine seq_res (e := E1) ((asg_ok (d := .tup (nats Z)) ((u_ok (eO_ok h1)).trans rfl)).trans rfl) (seq_res (e := E2) ((asg_ok hcn).trans rfl) ?_)
    rw [ret_ok (tup_ok (ds := [.tup (nats Z), .tup (nats T)]) (acons_ok rfl (acons_ok ((u_ok (eO_ok h2)).trans rfl) rfl)) (show 2 < 1000 by omega))]
    rfl
  · obtain ⟨y, _, rfl⟩ := List.mem_map.mp hx
    exact Nat.mod_lt _ o1
end
end Law
end
section
set_option maxRecDepth 100000
set_option maxHeartbeats 4000000
namespace Law
open PySem PySem.Spec L2 Mi Rx
section
variable {o n : Nat} {R : List Nat} {LL : List (List (List Nat))}
/-- members, order and the serial choice -/
theorem law_choice (ns : List Int) (rest : SF) (G : GoodL o LL) (hn : LL.length = n) (hR : R.length = 8) : ∃ s6 s8 M C, C.length = prodL (LL.map List.length) ∧ (∀ x ∈ C, x < o) ∧ (sSeq (sAsg 5 (eCall phi_law_domain_worlds (aCons (eVar 4) (aNil))))
  (sSeq (sAsg 6 (eCall phi_law_row (aCons (eVar 0) (aCons (eC (.int 5)) (aCons (eBin dAdd (eView 3) (eC (.int 1))) (aCons (eC (.int 5040)) (aNil)))))))
  (sSeq (sOwn 7 (oLc [17] (itR1 (eView 3)) (gaName 17) (tfE (eBin dGt (eBin dMod (eU dInt (eBin dIx (eView 6) (eView 17))) (eC (.int 3))) (eC (.int 0)))) (eVar 17)))
  (sSeq (sIf (tfE (eBin dEq (eU dLen (eView 7)) (eC (.int 0)))) (sOwn 7 (oLst (aCons (eBin dMod (eU dInt (eBin dIx (eView 6) (eView 3))) (eView 3)) (aNil)))) (sNil))
  (sSeq (sAsg 8 (eSlice (eCall phi_law_order (aCons (eVar 0) (aCons (eC (.int 6)) (aCons (eVar 2) (aNil))))) (nNone) (nSome (eBin dAdd (eC (.int 1)) (eBin dMod (eU dInt (eBin dIx (eView 1) (eC (.int 2)))) (eView 2))))))
  (sSeq (sFrz 7 (sAsg 9 (eCall phi_law_serial (aCons (eVar 5) (aCons (eVar 7) (aCons (eVar 8) (aNil))))))) rest)))))) (ET (.lst (ns.map .int)) (.val (.lst (nats R))) (iN n) (iN o) (.val (LKD LL)) .no .no .no .no .no .no .no .no .no .no .no)
   = rest (ET (.lst (ns.map .int)) (.val (.lst (nats R))) (iN n) (iN o) (.val (LKD LL)) (.val (.lst ((worldsN LL).map wD))) s6 (.val (.lst (nats M))) s8 (.val (.lst (nats C))) .no .no .no .no .no .no) := by
  let S : D := .lst (ns.map .int)
  let N : Mi.Slot := .no
  let V1 : Mi.Slot := .val (.lst (nats R))
  let V4 : Mi.Slot := .val (LKD LL)
  let V5 : Mi.Slot := .val (.lst ((worldsN LL).map wD))
  have o1 := G.o1
  have o8 := G.o8
  have p1 := G.p1
  have p4 := G.p4
  let E0 : Envt := ET S V1 (iN n) (iN o) V4 N N N N N N N N N N N
  let E1 : Envt := ET S V1 (iN n) (iN o) V4 V5 N N N N N N N N N N
  have st1 : sAsg 5 (eCall phi_law_domain_worlds (aCons (eVar 4) (aNil))) E0 = .nx E1 := by
    have ha : (aCons (eVar 4) (aNil)) E0 = .ok [LKD LL] := acons_ok rfl rfl
    exact (asg_ok ((call_ok (φ := phi_law_domain_worlds) ha).trans (domain_worlds_ok G))).trans rfl
  obtain ⟨Q, q1, q2, q3⟩ := row_call ns (a := 5) (n := o + 1) (by omega) (f := eVar 0) (g := eC (.int 5)) (h := eBin dAdd (eView 3) (eC (.int 1))) (E := E1) rfl rfl (by rw [Int.natCast_add]; rfl)
  let V6 : Mi.Slot := .val (.lst (nats Q))
  let E2 : Envt := ET S V1 (iN n) (iN o) V4 V5 V6 N N N N N N N N N
  have st2 : sAsg 6 (eCall phi_law_row (aCons (eVar 0) (aCons (eC (.int 5)) (aCons (eBin dAdd (eView 3) (eC (.int 1))) (aCons (eC (.int 5040)) (aNil)))))) E1 = .nx E2 := (asg_ok q1).trans rfl
  let M0 := (List.range o).filter fun i => decide (0 < Q.getD i 0 % 3)
  have hM0 : ∀ x ∈ M0, x < o := fun x hx => List.mem_range.mp (List.mem_filter.mp hx).1
  have hM0l : M0.length ≤ o := by
    have := List.length_filter_le (fun i => decide (0 < Q.getD i 0 % 3)) (List.range o)
    rw [List.length_range] at this
    exact this
  let E3 : List Nat → Envt := fun M => ET S V1 (iN n) (iN o) V4 V5 V6 (.own (.lst (nats M))) N N N N N N N N
  have st3 : sOwn 7 (oLc [17] (itR1 (eView 3)) (gaName 17) (tfE (eBin dGt (eBin dMod (eU dInt (eBin dIx (eView 6) (eView 17))) (eC (.int 3))) (eC (.int 0)))) (eVar 17)) E2 = .nx (E3 M0) := by
    have := lcL_ok (ga := gaName 17) (t := tfE (eBin dGt (eBin dMod (eU dInt (eBin dIx (eView 6) (eView 17))) (eC (.int 3))) (eC (.int 0)))) (fe := eVar 17) (env := wipeE E2 [17]) (fun d => match d with
      | .int i => decide (0 < Q.getD i.toNat 0 % 3)
      | _ => true) (fun d => d) (nats (List.range o)) fun d hd => by
      obtain ⟨x, hx, rfl⟩ := List.mem_map.mp hd
      have hx := List.mem_range.mp hx
      refine ⟨(wipeE E2 [17]).set 17 (.val (.int (x : Int))), rfl, tfE_bl ?_, fun _ => rfl⟩
      have h4 : eU dInt (eBin dIx (eView 6) (eView 17)) ((wipeE E2 [17]).set 17 (.val (.int (x : Int)))) = .ok (.int (Q.getD x 0 : Nat)) := (u_ok ((bin_ok (x := .lst (nats Q)) (y := .int (x : Int)) rfl rfl).trans (ixL (nats_get (getD_some (by omega)))))).trans rfl
      exact (bin_ok (y := .int ((0 : Nat) : Int)) ((bin_ok (y := .int ((3 : Nat) : Int)) h4 rfl).trans (mod_ok (by decide))) rfl).trans gt_ok
    have hf : ((nats (List.range o)).filter fun d => match d with
      | .int i => decide (0 < Q.getD i.toNat 0 % 3)
      | _ => true).map (fun d => d) = nats M0 := by
      rw [List.map_id']
      show ((List.range o).map _).filter _ = ((List.range o).filter _).map _
      rw [List.filter_map]
      rfl
    rw [hf] at this
    exact (own_ok (m := .lst (nats M0)) (oLc_ok (ds := nats (List.range o)) ((itR1_ok (n := o) rfl (by omega)).trans (by rw [range_nats])) this (by rw [nats_length]; omega)) rfl).trans rfl
  have st4 : ∃ M, (sIf (tfE (eBin dEq (eU dLen (eView 7)) (eC (.int 0)))) (sOwn 7 (oLst (aCons (eBin dMod (eU dInt (eBin dIx (eView 6) (eView 3))) (eView 3)) (aNil)))) (sNil)) (E3 M0) = .nx (E3 M) ∧ M ≠ [] ∧ M.length < 100 ∧ ∀ x ∈ M, x < o := by
    have ht : tfE (eBin dEq (eU dLen (eView 7)) (eC (.int 0))) (E3 M0) = .ok (M0.length == 0) := tfE_bl ((bin_ok (x := .int (M0.length : Int)) (y := .int 0) ((u_ok (x := .lst (nats M0)) rfl).trans (by show Res.ok (D.int ((nats M0).length : Int)) = _; rw [nats_length])) rfl).trans eq_zero)
    cases hb : (M0.length == 0) with
    | true =>
      rw [hb] at ht
      refine ⟨[Q.getD o 0 % o], (if_t ht).trans ?_, by simp, by show 1 < 100; omega, fun x hx => by rw [List.mem_singleton.mp hx]; exact Nat.mod_lt _ o1⟩
      have h4 : eU dInt (eBin dIx (eView 6) (eView 3)) (E3 M0) = .ok (.int (Q.getD o 0 : Nat)) := (u_ok ((bin_ok (x := .lst (nats Q)) (y := .int (o : Int)) rfl rfl).trans (ixL (nats_get (getD_some (by omega)))))).trans rfl
      have h5 : eBin dMod (eU dInt (eBin dIx (eView 6) (eView 3))) (eView 3) (E3 M0) = .ok (.int ((Q.getD o 0 % o : Nat) : Int)) := (bin_ok (y := .int (o : Int)) h4 rfl).trans (mod_ok o1)
      have h6 : oLst (aCons (eBin dMod (eU dInt (eBin dIx (eView 6) (eView 3))) (eView 3)) (aNil)) (E3 M0) = .ok (.lst (nats [Q.getD o 0 % o])) := by
        have ha : (aCons (eBin dMod (eU dInt (eBin dIx (eView 6) (eView 3))) (eView 3)) (aNil)) (E3 M0) = .ok [.int ((Q.getD o 0 % o : Nat) : Int)] := acons_ok h5 rfl
        unfold oLst
        rw [ha]
        rfl
      exact (own_ok h6 rfl).trans rfl
    | false =>
      rw [hb] at ht
      have hne : M0 ≠ [] := fun h => by rw [h] at hb; cases hb
      exact ⟨M0, (if_f ht).trans rfl, hne, by omega, hM0⟩
  obtain ⟨M, m1, m2, m3, m4⟩ := st4
  obtain ⟨P, k1, k2, k3⟩ := order_call ns (a := 6) (n := n) (by omega) (f := eVar 0) (g := eC (.int 6)) (h := eVar 2) (E := E3 M) rfl rfl rfl
  let c := 1 + R.getD 2 0 % n
  let O := P.take c
  have st5 : sAsg 8 (eSlice (eCall phi_law_order (aCons (eVar 0) (aCons (eC (.int 6)) (aCons (eVar 2) (aNil))))) (nNone) (nSome (eBin dAdd (eC (.int 1)) (eBin dMod (eU dInt (eBin dIx (eView 1) (eC (.int 2)))) (eView 2))))) (E3 M) = .nx (ET S V1 (iN n) (iN o) V4 V5 V6 (.own (.lst (nats M))) (.val (.lst (nats O))) N N N N N N N) := by
    refine (asg_ok (d := .lst (nats O)) (slice_ok (i := none) (j := some (c : Int)) k1 rfl (nsome_ok (draw_ok (R := R) (i := 2) (c := 1) (m := n) rfl (by omega) (by omega) rfl rfl)) ?_)).trans rfl
    show Res.ok (D.lst (cutD (nats P) none (some (c : Int)))) = _
    rw [cut_upto, nats_take]
  have hW : ∀ w ∈ worldsN LL, w.length = LL.length ∧ ∀ l ∈ w, l.length = o := fun w hw => by
    have F := G.fit (c := List.replicate (prodL (LL.map List.length)) 0) (List.length_replicate) (fun x hx => by rw [List.eq_of_mem_replicate hx]; exact o1)
    obtain ⟨i, hi⟩ := List.getElem?_of_mem hw
    have hil : i < prodL (LL.map List.length) := by rw [← worldsN_length LL]; exact (List.getElem?_eq_some_iff.mp hi).1
    obtain ⟨f1, f2, f3⟩ := F.w hil
    rw [hi] at f1
    cases f1
    exact ⟨by rw [f2, List.length_map], f3⟩
  have hw36 := G.w
  obtain ⟨C, c1, c2, c3⟩ := serial_ok (o := o) (M := M) (O := O) (W := worldsN LL) (p := LL.length) hW (fun k hk => by rw [hn]; exact k3 k (List.mem_of_mem_take hk)) m2 m3 m4 (by rw [worldsN_length]; omega)
  refine ⟨V6, .val (.lst (nats O)), M, C, by rw [c2, worldsN_length], c3, ?_⟩
  refine seq_go st1 (seq_go st2 (seq_go st3 (seq_go m1 (seq_go st5 (seq_go (e := ET S V1 (iN n) (iN o) V4 V5 V6 (.val (.lst (nats M))) (.val (.lst (nats O))) (.val (.lst (nats C))) N N N N N N) ?_ rfl)))))
  have ha : (aCons (eVar 5) (aCons (eVar 7) (aCons (eVar 8) (aNil)))) (ET S V1 (iN n) (iN o) V4 V5 V6 (.val (.lst (nats M))) (.val (.lst (nats O))) N N N N N N N) = .ok [.lst ((worldsN LL).map wD), .lst (nats M), .lst (nats O)] := acons_ok rfl (acons_ok rfl (acons_ok rfl rfl))
  show sAsg 9 _ (ET S V1 (iN n) (iN o) V4 V5 V6 (.val (.lst (nats M))) (.val (.lst (nats O))) N N N N N N N) = _
  exact (asg_ok ((call_ok (φ := phi_law_serial) ha).trans c1)).trans rfl
end
end Law
end
section
set_option maxRecDepth 100000
set_option maxHeartbeats 4000000
namespace Law
open PySem PySem.Spec L2 Mi Rx
section
variable {o n : Nat} {R : List Nat} {LL : List (List (List Nat))} {SD : List (List Nat)}
/-- what each one may say -/
structure SaidOk (LL : List (List (List Nat))) (SD : List (List Nat)) : Prop where
  l : SD.length = LL.length
  h : ∀ (k : Nat) (p : List Nat) (L : List (List Nat)), SD[k]? = some p → LL[k]? = some L → L.length ≤ p.length ∧ p.length ≤ L.length + 1 ∧ ∀ x ∈ p, x < L.length
theorem SaidOk.fit (K : SaidOk LL SD) : PFit (SD.map List.length) (LL.map List.length) SD := ⟨by rw [List.length_map], by rw [List.length_map, List.length_map, K.l], fun k p z y a b c => by
  rw [List.getElem?_map, a] at b
  cases b
  rw [List.getElem?_map] at c
  cases hL : LL[k]? with
  | none => rw [hL] at c; cases c
  | some L =>
    rw [hL] at c
    cases c
    exact ⟨rfl, (K.h k p L a hL).2.2⟩⟩
theorem SaidOk.z7 (K : SaidOk LL SD) (G : GoodL o LL) : ∀ z ∈ SD.map List.length, 1 ≤ z ∧ z ≤ 7 := fun z hz => by
  obtain ⟨p, hp, rfl⟩ := List.mem_map.mp hz
  obtain ⟨k, hk⟩ := List.getElem?_of_mem hp
  have hkl := (List.getElem?_eq_some_iff.mp hk).1
  have hL : LL[k]? = some (LL[k]'(by rw [← K.l]; exact hkl)) := List.getElem?_eq_getElem _
  obtain ⟨a, b, c⟩ := K.h k p _ hk hL
  have := G.r1 _ (List.mem_of_getElem? hL)
  exact ⟨by omega, by omega⟩
theorem prod47 {Z : List Nat} (h : ∀ z ∈ Z, 1 ≤ z ∧ z ≤ 7) (hl : Z.length ≤ 4) : prodL Z ≤ 4096 := by
  refine Nat.le_trans (prod_le (m := 7) fun z hz => (h z hz).2) ?_
  exact Nat.le_trans (Nat.pow_le_pow_right (by decide) hl) (by decide)
theorem afit_of {Z T : List Nat} (G : GoodL o LL) (h : ∀ z ∈ Z, 1 ≤ z ∧ z ≤ 7) (hl : Z.length = LL.length) (hT : T.length = prodL Z) (ht : ∀ x ∈ T, x < o) : AFit o Z T LL := by
  have p4 := G.p4
  have hp := prod47 h (by omega)
  exact ⟨G, ⟨fun z hz => (h z hz).1, by omega, by omega⟩, hl, hp, fun z hz => by have := (h z hz).2; omega, hT, ht⟩
theorem sized_lsts (SD : List (List Nat)) : Sized (.lst (lsts SD)) (SD.map List.length) := ⟨lsts SD, .inl rfl, by unfold lsts; rw [List.length_map, List.length_map], fun i x hx => by
  unfold lsts at hx
  rw [List.getElem?_map] at hx
  cases hp : SD[i]? with
  | none => rw [hp] at hx; cases hx
  | some p =>
    rw [hp] at hx
    cases hx
    have : (SD.map List.length).getD i 0 = p.length := by rw [List.getD_eq_getElem?_getD, List.getElem?_map, hp]; rfl
    rw [this]
    show Res.ok (D.int ((nats p).length : Int)) = _
    rw [nats_length]⟩
abbrev EU (S : D) (R : List Nat) (n o : Nat) (LL : List (List (List Nat))) (s5 s6 s7 s8 : Mi.Slot) (C : List Nat) (SD : List (List Nat)) (T : List Nat) (s13 s14 : Mi.Slot) : Envt :=
  ET S (.val (.lst (nats R))) (iN n) (iN o) (.val (LKD LL)) s5 s6 s7 s8 (.val (.lst (nats C))) (.val (.lst (lsts SD))) (.val (.tup (nats (SD.map List.length)))) (.own (.lst (nats T))) s13 s14 .no
theorem pickN_range {SD : List (List Nat)} {r : List Nat} (h : r.length = SD.length) : (List.range SD.length).map (fun k => (SD.getD k []).getD (r.getD k 0) 0) = pickN SD r := by
  apply List.ext_getElem?
  intro k
  by_cases hk : k < SD.length
  · rw [List.getElem?_map, List.getElem?_range hk, pickN_get (p := SD.getD k []) (i := r.getD k 0) (getD_some hk) (getD_some (by omega))]
    rfl
  · rw [List.getElem?_eq_none (by rw [List.length_map, List.length_range]; omega), List.getElem?_eq_none (by unfold pickN; rw [List.length_zipWith]; omega)]
theorem told_ok {S : D} {s5 s6 s7 s8 s14 : Mi.Slot} {C T r : List Nat} (G : GoodL o LL) (K : SaidOk LL SD) (hn : LL.length = n) (hC : C.length = prodL (LL.map List.length)) (hr : Ply (SD.map List.length) r) (hT : T.length < 5000) :
    ∃ s14', lb1_law (EU S R n o LL s5 s6 s7 s8 C SD T (.val (.tup (nats r))) s14) = .nx (EU S R n o LL s5 s6 s7 s8 C SD (T ++ [C.getD (num (LL.map List.length) (pickN SD r) 0) 0]) (.val (.tup (nats r))) s14') := by
  have p4 := G.p4
  have hrl : r.length = SD.length := by rw [hr.length, List.length_map]
  have hSl : SD.length = n := by rw [K.l, hn]
  have hply := ply_pick K.fit hr
  have hnum := num_lt _ _ hply
  let E0 : Envt := EU S R n o LL s5 s6 s7 s8 C SD T (.val (.tup (nats r))) s14
  let E1 : Envt := EU S R n o LL s5 s6 s7 s8 C SD T (.val (.tup (nats r))) (.val (.tup (nats (pickN SD r))))
  have h1 : oLc [18] (itR1 (eView 2)) (gaName 18) (tfTrue) (eBin dIx (eBin dIx (eView 10) (eView 18)) (eBin dIx (eView 13) (eView 18))) E0 = .ok (.lst (nats (pickN SD r))) := by
    have := lcL_ok (ga := gaName 18) (t := tfTrue) (fe := eBin dIx (eBin dIx (eView 10) (eView 18)) (eBin dIx (eView 13) (eView 18))) (env := wipeE E0 [18]) (fun _ => true) (fun d => match d with
      | .int i => .int ((SD.getD i.toNat []).getD (r.getD i.toNat 0) 0 : Nat)
      | _ => .non) (rangeD 0 n) fun d hd => by
      obtain ⟨k, hk, rfl⟩ := mem_rangeD hd
      rw [Int.zero_add]
      have hk2 : k < SD.length := by omega
      have e1 : SD[k]? = some (SD.getD k []) := getD_some hk2
      have e2 : r[k]? = some (r.getD k 0) := getD_some (by omega)
      have hz : (SD.map List.length)[k]? = some (SD.getD k []).length := by rw [List.getElem?_map, e1]; rfl
      obtain ⟨d', d1, d2⟩ := ply_get hr hz
      rw [e2] at d1
      cases d1
      have e3 : (SD.getD k [])[r.getD k 0]? = some ((SD.getD k []).getD (r.getD k 0) 0) := getD_some d2
      refine ⟨(wipeE E0 [18]).set 18 (.val (.int (k : Int))), rfl, rfl, fun _ => ?_⟩
      have f1 : eBin dIx (eView 10) (eView 18) ((wipeE E0 [18]).set 18 (.val (.int (k : Int)))) = .ok (.lst (nats (SD.getD k []))) := (bin_ok (x := .lst (lsts SD)) (y := .int (k : Int)) rfl rfl).trans (ixL (by unfold lsts; rw [List.getElem?_map, e1]; rfl))
      have f2 : eBin dIx (eView 13) (eView 18) ((wipeE E0 [18]).set 18 (.val (.int (k : Int)))) = .ok (.int (r.getD k 0 : Nat)) := (bin_ok (x := .tup (nats r)) (y := .int (k : Int)) rfl rfl).trans (ixT (nats_get e2))
      exact (bin_ok f1 f2).trans (ixL (nats_get e3))
    rw [filt_true] at this
    have hf : (rangeD 0 n).map (fun d => match d with
      | .int i => D.int ((SD.getD i.toNat []).getD (r.getD i.toNat 0) 0 : Nat)
      | _ => .non) = nats (pickN SD r) := by
      rw [← pickN_range hrl, hSl, range_nats]
      show ((List.range n).map _).map _ = ((List.range n).map _).map _
      rw [List.map_map, List.map_map]
      rfl
    rw [hf] at this
    exact oLc_ok (ds := rangeD 0 n) (itR1_ok (n := n) rfl (by omega)) this (by rw [nats_length, hply.length, List.length_map]; omega)
  have st1 : sAsg 14 (eU dTuple (eO (oLc [18] (itR1 (eView 2)) (gaName 18) (tfTrue) (eBin dIx (eBin dIx (eView 10) (eView 18)) (eBin dIx (eView 13) (eView 18)))))) E0 = .nx E1 := (asg_ok (d := .tup (nats (pickN SD r))) ((u_ok (eO_ok h1)).trans rfl)).trans rfl
  have h2 : oLc [17] (itSeq (eVar 4)) (gaName 17) (tfTrue) (eU dLen (eView 17)) E1 = .ok (.lst (nats (LL.map List.length))) := sizes_ok lkd_sized (by rw [List.length_map]; omega) (fun xs h => h.it rfl) (show 17 < 19 by omega) (fun d => rfl)
  have ha : (aCons (eO (oLc [17] (itSeq (eVar 4)) (gaName 17) (tfTrue) (eU dLen (eView 17)))) (aCons (eVar 14) (aNil))) E1 = .ok [.lst (nats (LL.map List.length)), .tup (nats (pickN SD r))] := acons_ok (eO_ok h2) (acons_ok rfl rfl)
  have h3 := (call_ok (φ := phi_law_number) ha).trans (number_ok (.inl rfl) (.inr rfl) hply.length (fun z hz => by
    obtain ⟨L, hL, rfl⟩ := List.mem_map.mp hz
    have := (G.r1 L hL).2.1
    omega) (by rw [List.length_map]; omega))
  refine ⟨.val (.tup (nats (pickN SD r))), ?_⟩
  unfold lb1_law
  refine seq_go st1 ?_
  refine (app_ok (ds := nats T) rfl ((bin_ok (x := .lst (nats C)) rfl h3).trans (ixL (nats_get (getD_some (d := 0) (by omega))))) (by rw [nats_length]; omega)).trans ?_
  rw [nats_snoc]
  rfl
theorem law_end (ns : List Int) (G : GoodL o LL) (hn : LL.length = n) (hR : R.length = 8) {s5 s6 s7 s8 : Mi.Slot} {C : List Nat} (hC : C.length = prodL (LL.map List.length)) (hc : ∀ x ∈ C, x < o) : ((sSeq (sOwn 10 (oLc [18] (itR1 (eView 2)) (gaName 18) (tfTrue) (eCall phi_law_said (aCons (eVar 0) (aCons (eBin dAdd (eC (.int 8)) (eView 18)) (aCons (eU dLen (eBin dIx (eView 4) (eView 18))) (aNil)))))))
  (sSeq (sFrz 10 (sAsg 11 (eU dTuple (eO (oLc [17] (itSeq (eVar 10)) (gaName 17) (tfTrue) (eU dLen (eView 17)))))))
  (sSeq (sOwn 12 (oLst (aNil)))
  (sSeq (sFor (gaName 13) (itSeq (eCall phi_law_plays (aCons (eVar 11) (aNil)))) (lb1_law))
  (sSeq (sIf (tfNot (tfE (eCall phi_law_asked (aCons (eVar 0) (aCons (eC (.int 20)) (aCons (eVar 11) (aCons (eU dTuple (eView 12)) (aCons (eVar 4) (aCons (eVar 3) (aCons (eBin dIx (eView 1) (eC (.int 3))) (aNil))))))))))) (sRet (eC (.bl false))) (sNil))
  (sSeq (sAsg 15 (eCall phi_law_game (aCons (eVar 0) (aCons (eC (.int 30)) (aCons (eVar 2) (aCons (eVar 3) (aNil)))))))
  (sRet (eCall phi_law_asked (aCons (eVar 0) (aCons (eC (.int 40)) (aCons (eBin dIx (eView 15) (eC (.int 0))) (aCons (eBin dIx (eView 15) (eC (.int 1))) (aCons (eVar 4) (aCons (eVar 3) (aCons (eBin dIx (eView 1) (eC (.int 4))) (aNil)))))))))))))))) (ET (.lst (ns.map .int)) (.val (.lst (nats R))) (iN n) (iN o) (.val (LKD LL)) s5 s6 s7 s8 (.val (.lst (nats C))) .no .no .no .no .no .no)).res = .ok (.bl true) := by
  let S : D := .lst (ns.map .int)
  let N : Mi.Slot := .no
  let V1 : Mi.Slot := .val (.lst (nats R))
  let V4 : Mi.Slot := .val (LKD LL)
  let V9 : Mi.Slot := .val (.lst (nats C))
  have p4 := G.p4
  have p1 := G.p1
  have hs : ∀ k : Nat, ∃ P : List Nat, k < n → phi_law_said [S, .int ((8 + k : Nat) : Int), .int ((LL.getD k []).length : Int)] = .ok (.lst (nats P)) ∧ (LL.getD k []).length ≤ P.length ∧ P.length ≤ (LL.getD k []).length + 1 ∧ ∀ x ∈ P, x < (LL.getD k []).length := fun k => by
    by_cases h : k < n
    · have hL : LL[k]? = some (LL.getD k []) := getD_some (by omega)
      obtain ⟨r1, r2, _⟩ := G.r1 _ (List.mem_of_getElem? hL)
      obtain ⟨P, a⟩ := said_ok ns (8 + k) r1 (by omega)
      exact ⟨P, fun _ => a⟩
    · exact ⟨[], fun h' => absurd h' h⟩
  let f : Nat → List Nat := fun k => (hs k).choose
  have hf := fun k => (hs k).choose_spec
  let SD := (List.range n).map f
  have hSDg : ∀ k, k < n → SD[k]? = some (f k) := fun k hk => by show ((List.range n).map f)[k]? = _; rw [List.getElem?_map, List.getElem?_range hk]; rfl
  have K : SaidOk LL SD := ⟨by rw [List.length_map, List.length_range, hn], fun k p L a b => by
    have hk : k < n := by rw [← hn]; exact (List.getElem?_eq_some_iff.mp b).1
    rw [hSDg k hk] at a
    cases a
    have hg : LL.getD k [] = L := by rw [List.getD_eq_getElem?_getD, b]; rfl
    subst hg
    exact (hf k hk).2⟩
  let E0 : Envt := ET S V1 (iN n) (iN o) V4 s5 s6 s7 s8 V9 N N N N N N
  let E1 : Envt := ET S V1 (iN n) (iN o) V4 s5 s6 s7 s8 V9 (.own (.lst (lsts SD))) N N N N N
  have st1 : sOwn 10 (oLc [18] (itR1 (eView 2)) (gaName 18) (tfTrue) (eCall phi_law_said (aCons (eVar 0) (aCons (eBin dAdd (eC (.int 8)) (eView 18)) (aCons (eU dLen (eBin dIx (eView 4) (eView 18))) (aNil)))))) E0 = .nx E1 := by
    have := lcL_ok (ga := gaName 18) (t := tfTrue) (fe := eCall phi_law_said (aCons (eVar 0) (aCons (eBin dAdd (eC (.int 8)) (eView 18)) (aCons (eU dLen (eBin dIx (eView 4) (eView 18))) (aNil))))) (env := wipeE E0 [18]) (fun _ => true) (fun d => match d with
      | .int i => .lst (nats (f i.toNat))
      | _ => .non) (rangeD 0 n) fun d hd => by
      obtain ⟨k, hk, rfl⟩ := mem_rangeD hd
      rw [Int.zero_add]
      have hL : LL[k]? = some (LL.getD k []) := getD_some (by omega)
      let E : Envt := (wipeE E0 [18]).set 18 (.val (.int (k : Int)))
      refine ⟨E, rfl, rfl, fun _ => ?_⟩
      have ha : (aCons (eVar 0) (aCons (eBin dAdd (eC (.int 8)) (eView 18)) (aCons (eU dLen (eBin dIx (eView 4) (eView 18))) (aNil)))) E = .ok [S, .int ((8 + k : Nat) : Int), .int ((LL.getD k []).length : Int)] := acons_ok rfl (acons_ok (by rw [Int.natCast_add]; rfl) (acons_ok (lik_len hL rfl rfl) rfl))
      exact (call_ok (φ := phi_law_said) ha).trans (hf k hk).1
    rw [filt_true] at this
    have hm : (rangeD 0 n).map (fun d => match d with
      | .int i => D.lst (nats (f i.toNat))
      | _ => .non) = lsts SD := by
      rw [range_nats]
      show ((List.range n).map _).map _ = ((List.range n).map f).map _
      rw [List.map_map, List.map_map]
      rfl
    rw [hm] at this
    exact (own_ok (m := .lst (lsts SD)) (oLc_ok (ds := rangeD 0 n) (itR1_ok (n := n) rfl (by omega)) this (by unfold lsts; rw [List.length_map, K.l]; omega)) rfl).trans rfl
  let Z := SD.map List.length
  have hZ := K.z7 G
  have Zl : Z.length = LL.length := by rw [List.length_map, K.l]
  have hp : prodL Z ≤ 4096 := prod47 hZ (by rw [Zl]; exact p4)
  have st2 : (sFrz 10 (sAsg 11 (eU dTuple (eO (oLc [17] (itSeq (eVar 10)) (gaName 17) (tfTrue) (eU dLen (eView 17))))))) E1 = .nx (ET S V1 (iN n) (iN o) V4 s5 s6 s7 s8 V9 (.val (.lst (lsts SD))) (.val (.tup (nats Z))) N N N N) := by
    show sAsg 11 _ (ET S V1 (iN n) (iN o) V4 s5 s6 s7 s8 V9 (.val (.lst (lsts SD))) N N N N N) = _
    have h2 : oLc [17] (itSeq (eVar 10)) (gaName 17) (tfTrue) (eU dLen (eView 17)) (ET S V1 (iN n) (iN o) V4 s5 s6 s7 s8 V9 (.val (.lst (lsts SD))) N N N N N) = .ok (.lst (nats Z)) := sizes_ok (sized_lsts SD) (by rw [Zl]; omega) (fun xs h => h.it rfl) (show 17 < 19 by omega) (fun d => rfl)
    exact (asg_ok (d := .tup (nats Z)) ((u_ok (eO_ok h2)).trans rfl)).trans rfl
  let E3 : Envt := EU S R n o LL s5 s6 s7 s8 C SD [] N N
  have hpl : eCall phi_law_plays (aCons (eVar 11) (aNil)) E3 = .ok (.lst (tups (rows Z))) := by
    have ha : (aCons (eVar 11) (aNil)) E3 = .ok [.tup (nats Z)] := acons_ok rfl rfl
    exact (call_ok (φ := phi_law_plays) ha).trans (plays_ok (.inr rfl) (fun z hz => (hZ z hz).1) (by omega) (by omega))
  let T := givenN Z (LL.map List.length) C SD
  let g : List Nat → Nat := fun r => C.getD (num (LL.map List.length) (pickN SD r) 0) 0
  obtain ⟨E4, e1, s13, s14, rfl⟩ := forL_inv (ga := gaName 13) (body := lb1_law) (ds := tups (rows Z)) (fun i E => ∃ s13 s14, E = EU S R n o LL s5 s6 s7 s8 C SD (((rows Z).take i).map g) s13 s14)
    (fun i d E hi ⟨s13, s14, hE⟩ => by
      subst hE
      have hi2 : i < (rows Z).length := by have := (List.getElem?_eq_some_iff.mp hi).1; unfold tups at this; rw [List.length_map] at this; exact this
      have hr : (rows Z)[i]? = some ((rows Z)[i]) := List.getElem?_eq_getElem hi2
      rw [tups_get hr] at hi
      cases hi
      have hply := (mem_rows (fun z hz => (hZ z hz).1)).mp (List.mem_of_getElem? hr)
      have hil : i < prodL Z := by rw [← rows_length]; exact hi2
      obtain ⟨s14', k1⟩ := told_ok (S := S) (R := R) (s5 := s5) (s6 := s6) (s7 := s7) (s8 := s8) (s14 := s14) (T := ((rows Z).take i).map g) G K hn hC hply (by rw [List.length_map, List.length_take]; omega)
      refine ⟨EU S R n o LL s5 s6 s7 s8 C SD (((rows Z).take i).map g) (.val (.tup (nats (rows Z)[i]))) s14, EU S R n o LL s5 s6 s7 s8 C SD (((rows Z).take (i + 1)).map g) (.val (.tup (nats (rows Z)[i]))) s14', rfl, k1.trans ?_, .val (.tup (nats (rows Z)[i])), s14', rfl⟩
      rw [take_succ' hr, List.map_append]
      rfl) (env := E3) ⟨N, N, rfl⟩
  have hfull : ((rows Z).take (tups (rows Z)).length).map g = T := by
    unfold tups
    rw [List.length_map, List.take_length]
    rfl
  rw [hfull] at e1
  have hTl : T.length = prodL Z := given_len
  have hTo : ∀ x ∈ T, x < o := given_lt (fun z hz => (hZ z hz).1) hC hc K.fit
  let E4 : Envt := EU S R n o LL s5 s6 s7 s8 C SD T s13 s14
  have A1 : AFit o Z T LL := afit_of G hZ Zl hTl hTo
  obtain ⟨Z2, T2, g1, g2, g3, g4, g5⟩ := game_fn_ok ns 30 (n := n) (o := o) (by omega) G.o1
  have A2 : AFit o Z2 T2 LL := afit_of G (fun z hz => ⟨(g3 z hz).1, by have := (g3 z hz).2; omega⟩) (by rw [g2, hn]) g4 g5
  have rx : ∀ (i : Nat) (E : Envt) (q : EF), i < 8 → E[1]? = some V1 → q E = .ok (.int (i : Int)) → eBin dIx (eView 1) q E = .ok (.int (R.getD i 0 : Nat)) := fun i E q hi h1 hq => (bin_ok (x := .lst (nats R)) (y := .int (i : Int)) (by unfold eView; rw [h1]) hq).trans (ixL (nats_get (getD_some (by omega))))
  refine seq_res st1 (seq_res st2 (seq_res (e := E3) rfl (seq_res ((for_ok (by unfold itSeq; rw [hpl]; rfl)).trans e1) (seq_res (e := E4) ?_ ?_))))
  · have ha : (aCons (eVar 0) (aCons (eC (.int 20)) (aCons (eVar 11) (aCons (eU dTuple (eView 12)) (aCons (eVar 4) (aCons (eVar 3) (aCons (eBin dIx (eView 1) (eC (.int 3))) (aNil)))))))) E4 = .ok [S, .int ((20 : Nat) : Int), .tup (nats Z), .tup (nats T), LKD LL, .int (o : Int), .int (R.getD 3 0 : Nat)] := acons_ok rfl (acons_ok rfl (acons_ok rfl (acons_ok rfl (acons_ok rfl (acons_ok rfl (acons_ok (rx 3 E4 _ (by omega) rfl rfl) rfl))))))
    exact (if_f (tfNot_bl (b := true) (tfE_bl ((call_ok (φ := phi_law_asked) ha).trans (asked_ok ns 20 A1))))).trans rfl
  let E5 : Envt := ET S V1 (iN n) (iN o) V4 s5 s6 s7 s8 V9 (.val (.lst (lsts SD))) (.val (.tup (nats Z))) (.own (.lst (nats T))) s13 s14 (.val (.tup [.tup (nats Z2), .tup (nats T2)]))
  refine seq_res (e := E5) ?_ ?_
  · have ha : (aCons (eVar 0) (aCons (eC (.int 30)) (aCons (eVar 2) (aCons (eVar 3) (aNil))))) E4 = .ok [S, .int ((30 : Nat) : Int), .int (n : Int), .int (o : Int)] := acons_ok rfl (acons_ok rfl (acons_ok rfl (acons_ok rfl rfl)))
    exact (asg_ok ((call_ok (φ := phi_law_game) ha).trans g1)).trans rfl
  have ha : (aCons (eVar 0) (aCons (eC (.int 40)) (aCons (eBin dIx (eView 15) (eC (.int 0))) (aCons (eBin dIx (eView 15) (eC (.int 1))) (aCons (eVar 4) (aCons (eVar 3) (aCons (eBin dIx (eView 1) (eC (.int 4))) (aNil)))))))) E5 = .ok [S, .int ((40 : Nat) : Int), .tup (nats Z2), .tup (nats T2), LKD LL, .int (o : Int), .int (R.getD 4 0 : Nat)] := acons_ok rfl (acons_ok rfl (acons_ok rfl (acons_ok rfl (acons_ok rfl (acons_ok rfl (acons_ok (rx 4 E5 _ (by omega) rfl rfl) rfl))))))
  rw [ret_ok ((call_ok (φ := phi_law_asked) ha).trans (asked_ok ns 40 A2))]
  rfl
theorem law_fact (ns : List Int) : phi_law [.lst (ns.map .int)] = .ok (.bl true) := by
  show (ir_law (ET (.lst (ns.map .int)) .no .no .no .no .no .no .no .no .no .no .no .no .no .no .no)).res = _
  unfold ir_law
  obtain ⟨R, n, o, LL, hR, hn, G, e1⟩ := law_open ns _
  refine (congrArg Out.res e1).trans ?_
  obtain ⟨s6, s8, M, C, c1, c2, e2⟩ := law_choice ns _ G hn hR
  refine (congrArg Out.res e2).trans ?_
  exact law_end ns G hn hR c1 c2
end
end Law
end
section
set_option maxRecDepth 100000
set_option maxHeartbeats 0
namespace Law
open PySem PySem.Spec PyProof.Rows L2 Mi
abbrev R : PySem.W.OpenRow := PySem.W.OpenLaw.row PySem.Challenge.rw_endsastold_k82_best_messages_give_no_gai
def names : List Str := [("_wall" : Str), ("Fault" : Str), ("BadSize" : Str), ("BadGame" : Str), ("NoPlay" : Str), ("TooMany" : Str), ("BadDomain" : Str), ("BadChoice" : Str), ("liking_of" : Str), ("is_liking" : Str), ("PEOPLE" : Str), ("OUTCOMES" : Str), ("count_plays" : Str), ("check_count" : Str), ("check_play" : Str), ("check_table" : Str), ("number_of" : Str), ("play_at" : Str), ("with_message" : Str), ("Game" : Str), ("plays" : Str), ("check_choice" : Str), ("gain_of" : Str), ("first_gain" : Str), ("best_messages" : Str), ("Domain" : Str), ("are_likings" : Str), ("_law_row" : Str), ("_law_order" : Str), ("_law_same" : Str), ("_law_dense" : Str), ("_law_plays" : Str), ("_law_number" : Str), ("_law_game" : Str), ("_law_likings" : Str), ("_law_domain_worlds" : Str), ("_law_serial" : Str), ("_law_gain" : Str), ("_law_best" : Str), ("_law_many_likings" : Str), ("_law_given" : Str), ("_law_refused" : Str), ("_law_wrong" : Str), ("_law_asked" : Str), ("_law_said" : Str)]
def fns : List He.DefD := [⟨("_wall", none), "_wall", "_wall", defArgs st_wall, defBody st_wall, defScope st_wall, [], []⟩,
  ⟨("liking_of", none), "liking_of", "liking_of", defArgs st_liking_of, defBody st_liking_of, defScope st_liking_of, [], []⟩,
  ⟨("is_liking", none), "is_liking", "is_liking", defArgs st_is_liking, defBody st_is_liking, defScope st_is_liking, [], []⟩,
  ⟨("count_plays", none), "count_plays", "count_plays", defArgs st_count_plays, defBody st_count_plays, defScope st_count_plays, [], []⟩,
  ⟨("check_count", none), "check_count", "check_count", defArgs st_check_count, defBody st_check_count, defScope st_check_count, [], []⟩,
  ⟨("check_play", none), "check_play", "check_play", defArgs st_check_play, defBody st_check_play, defScope st_check_play, [], []⟩,
  ⟨("check_table", none), "check_table", "check_table", defArgs st_check_table, defBody st_check_table, defScope st_check_table, [], []⟩,
  ⟨("number_of", none), "number_of", "number_of", defArgs st_number_of, defBody st_number_of, defScope st_number_of, [], []⟩,
  ⟨("play_at", none), "play_at", "play_at", defArgs st_play_at, defBody st_play_at, defScope st_play_at, [], []⟩,
  ⟨("with_message", none), "with_message", "with_message", defArgs st_with_message, defBody st_with_message, defScope st_with_message, [], []⟩,
  ⟨("Game", some "__init__"), "__init__", "Game.__init__", defArgs st_Game_init, defBody st_Game_init, defScope st_Game_init, [], []⟩,
  ⟨("Game", some "outcome"), "outcome", "Game.outcome", defArgs st_Game_outcome, defBody st_Game_outcome, defScope st_Game_outcome, [], []⟩,
  ⟨("plays", none), "plays", "plays", defArgs st_plays, defBody st_plays, defScope st_plays, [], []⟩,
  ⟨("check_choice", none), "check_choice", "check_choice", defArgs st_check_choice, defBody st_check_choice, defScope st_check_choice, [], []⟩,
  ⟨("gain_of", none), "gain_of", "gain_of", defArgs st_gain_of, defBody st_gain_of, defScope st_gain_of, [], []⟩,
  ⟨("first_gain", none), "first_gain", "first_gain", defArgs st_first_gain, defBody st_first_gain, defScope st_first_gain, [], []⟩,
  ⟨("best_messages", none), "best_messages", "best_messages", defArgs st_best_messages, defBody st_best_messages, defScope st_best_messages, [], []⟩,
  ⟨("are_likings", none), "are_likings", "are_likings", defArgs st_are_likings, defBody st_are_likings, defScope st_are_likings, [], []⟩,
  ⟨("Domain", some "__init__"), "__init__", "Domain.__init__", defArgs st_Domain_init, defBody st_Domain_init, defScope st_Domain_init, [], []⟩,
  ⟨("_law_row", none), "_law_row", "_law_row", defArgs st_law_row, defBody st_law_row, defScope st_law_row, [], []⟩,
  ⟨("_law_order", none), "_law_order", "_law_order", defArgs st_law_order, defBody st_law_order, defScope st_law_order, [], []⟩,
  ⟨("_law_same", none), "_law_same", "_law_same", defArgs st_law_same, defBody st_law_same, defScope st_law_same, [], []⟩,
  ⟨("_law_dense", none), "_law_dense", "_law_dense", defArgs st_law_dense, defBody st_law_dense, defScope st_law_dense, [], []⟩,
  ⟨("_law_plays", none), "_law_plays", "_law_plays", defArgs st_law_plays, defBody st_law_plays, defScope st_law_plays, [], []⟩,
  ⟨("_law_number", none), "_law_number", "_law_number", defArgs st_law_number, defBody st_law_number, defScope st_law_number, [], []⟩,
  ⟨("_law_game", none), "_law_game", "_law_game", defArgs st_law_game, defBody st_law_game, defScope st_law_game, [], []⟩,
  ⟨("_law_likings", none), "_law_likings", "_law_likings", defArgs st_law_likings, defBody st_law_likings, defScope st_law_likings, [], []⟩,
  ⟨("_law_domain_worlds", none), "_law_domain_worlds", "_law_domain_worlds", defArgs st_law_domain_worlds, defBody st_law_domain_worlds, defScope st_law_domain_worlds, [], []⟩,
  ⟨("_law_serial", none), "_law_serial", "_law_serial", defArgs st_law_serial, defBody st_law_serial, defScope st_law_serial, [], []⟩,
  ⟨("_law_gain", none), "_law_gain", "_law_gain", defArgs st_law_gain, defBody st_law_gain, defScope st_law_gain, [], []⟩,
  ⟨("_law_best", none), "_law_best", "_law_best", defArgs st_law_best, defBody st_law_best, defScope st_law_best, [], []⟩,
  ⟨("_law_many_likings", none), "_law_many_likings", "_law_many_likings", defArgs st_law_many_likings, defBody st_law_many_likings, defScope st_law_many_likings, [], []⟩,
  ⟨("_law_given", none), "_law_given", "_law_given", defArgs st_law_given, defBody st_law_given, defScope st_law_given, [], []⟩,
  ⟨("_law_refused", none), "_law_refused", "_law_refused", defArgs st_law_refused, defBody st_law_refused, defScope st_law_refused, [], []⟩,
  ⟨("_law_wrong", none), "_law_wrong", "_law_wrong", defArgs st_law_wrong, defBody st_law_wrong, defScope st_law_wrong, [], []⟩,
  ⟨("_law_asked", none), "_law_asked", "_law_asked", defArgs st_law_asked, defBody st_law_asked, defScope st_law_asked, [], []⟩,
  ⟨("_law_said", none), "_law_said", "_law_said", defArgs st_law_said, defBody st_law_said, defScope st_law_said, [], []⟩,
  ⟨("law", none), "law", "law", defArgs st_law, defBody st_law, defScope st_law, [], []⟩]
def fbs : List Fb := [.fa (.glo "_wall"), .fa (.free "sorted"), .fa (.free "set"), .fa (.free "tuple"), .fa (.glo "liking_of"), .fa (.free "len"), .fa (.glo "is_liking"), .fa (.glo "count_plays"), .fa (.free "super"), .fa (.glo "TooMany"), .fa (.glo "check_count"), .fa (.free "zip"), .fa (.glo "check_play"), .fa (.free "min"), .fa (.free "range"), .fa (.glo "BadGame"), .fa (.glo "check_table"), .fa (.glo "number_of"), .fa (.free "reversed"), .fa (.glo "play_at"), .fa (.glo "with_message"), .fa (.int "PEOPLE" 4), .fa (.glo "BadSize"), .fa (.int "OUTCOMES" 8), .fa (.glo "Game"), .rd "Game" "PLAYS" 4096, .fa (.cls "Game"), .fa (.noat "Game" "sizes"), .fa (.noat "Game" "outcomes"), .fa (.noat "Game" "table"), .fa (.mkr "Game"), .fa (.cls "Domain"), .fa (.noat "Domain" "sizes"), .fa (.meth "Game" "outcome"), .fa (.glo "plays"), .fa (.noat "Domain" "worlds"), .fa (.noat "Domain" "outcomes"), .fa (.glo "BadChoice"), .fa (.glo "check_choice"), .fa (.glo "gain_of"), .fa (.glo "first_gain"), .fa (.free "max"), .fa (.glo "best_messages"), .fa (.glo "Domain"), .rd "Domain" "LIKINGS" 6, .fa (.glo "are_likings"), .fa (.glo "BadDomain"), .rd "Domain" "WORLDS" 36, .fa (.noat "Domain" "likings"), .fa (.mkr "Domain"), .fa (.free "abs"), .fa (.free "int"), .fa (.glo "_law_row"), .fa (.free "list"), .fa (.glo "_law_order"), .fa (.free "isinstance"), .fa (.free "str"), .fa (.free "bool"), .fa (.glo "_law_same"), .fa (.glo "_law_dense"), .fa (.glo "_law_plays"), .fa (.glo "_law_number"), .fa (.glo "_law_game"), .fa (.glo "_law_likings"), .fa (.glo "_law_domain_worlds"), .fa (.glo "_law_serial"), .fa (.glo "_law_gain"), .fa (.glo "_law_best"), .fa (.glo "_law_many_likings"), .fa (.glo "_law_given"), .fa (.exm "BadChoice" "Fault" true), .ei "BadChoice", .kc "BadChoice" "BadChoice" true, .kt "BadChoice" "ValueError" true, .fa (.free "ValueError"), .xf "BadChoice", .fa (.noat "BadChoice" "world"), .fa (.glo "Fault"), .fa (.glo "_law_refused"), .fa (.glo "_law_wrong"), .fa (.glo "_law_asked"), .fa (.glo "_law_said"), .fa (.glo "law")]
abbrev sx_TooMany : Stmt := clsSt (top 6) 0
def xd_TooMany : XD := ⟨"TooMany", "limit", "self", "limit", "__init__", "TooMany.__init__", defArgs sx_TooMany, defBody sx_TooMany, defScope sx_TooMany⟩
theorem xt_TooMany : XTx PySem.Challenge.pw_endsastold_k82_best_messages_give_no_gai xd_TooMany := ⟨⟨_, rfl, rfl⟩, rfl, rfl, rfl, rfl, rfl, rfl, rfl, by decide +kernel, only_cls (by decide +kernel), by decide, rfl, fun _ _ _ _ _ _ _ us hl => match us, hl with | [_, _], _ => rfl⟩
abbrev sx_BadGame : Stmt := clsSt (top 4) 0
def xd_BadGame : XD := ⟨"BadGame", "play", "self", "play", "__init__", "BadGame.__init__", defArgs sx_BadGame, defBody sx_BadGame, defScope sx_BadGame⟩
theorem xt_BadGame : XTx PySem.Challenge.pw_endsastold_k82_best_messages_give_no_gai xd_BadGame := ⟨⟨_, rfl, rfl⟩, rfl, rfl, rfl, rfl, rfl, rfl, rfl, by decide +kernel, only_cls (by decide +kernel), by decide, rfl, fun _ _ _ _ _ _ _ us hl => match us, hl with | [_, _], _ => rfl⟩
abbrev sx_BadSize : Stmt := clsSt (top 3) 0
def xd_BadSize : XD := ⟨"BadSize", "what", "self", "what", "__init__", "BadSize.__init__", defArgs sx_BadSize, defBody sx_BadSize, defScope sx_BadSize⟩
theorem xt_BadSize : XTx PySem.Challenge.pw_endsastold_k82_best_messages_give_no_gai xd_BadSize := ⟨⟨_, rfl, rfl⟩, rfl, rfl, rfl, rfl, rfl, rfl, rfl, by decide +kernel, only_cls (by decide +kernel), by decide, rfl, fun _ _ _ _ _ _ _ us hl => match us, hl with | [_, _], _ => rfl⟩
abbrev sx_BadChoice : Stmt := clsSt (top 8) 0
def xd_BadChoice : XD := ⟨"BadChoice", "world", "self", "world", "__init__", "BadChoice.__init__", defArgs sx_BadChoice, defBody sx_BadChoice, defScope sx_BadChoice⟩
theorem xt_BadChoice : XTx PySem.Challenge.pw_endsastold_k82_best_messages_give_no_gai xd_BadChoice := ⟨⟨_, rfl, rfl⟩, rfl, rfl, rfl, rfl, rfl, rfl, rfl, by decide +kernel, only_cls (by decide +kernel), by decide, rfl, fun _ _ _ _ _ _ _ us hl => match us, hl with | [_, _], _ => rfl⟩
abbrev sx_BadDomain : Stmt := clsSt (top 7) 0
def xd_BadDomain : XD := ⟨"BadDomain", "person", "self", "person", "__init__", "BadDomain.__init__", defArgs sx_BadDomain, defBody sx_BadDomain, defScope sx_BadDomain⟩
theorem xt_BadDomain : XTx PySem.Challenge.pw_endsastold_k82_best_messages_give_no_gai xd_BadDomain := ⟨⟨_, rfl, rfl⟩, rfl, rfl, rfl, rfl, rfl, rfl, rfl, by decide +kernel, only_cls (by decide +kernel), by decide, rfl, fun _ _ _ _ _ _ _ us hl => match us, hl with | [_, _], _ => rfl⟩
def xds : List XD := [xd_TooMany, xd_BadGame, xd_BadSize, xd_BadChoice, xd_BadDomain]
def file : Str := "/claim/cut.py"
theorem hfile : PySem.Challenge.pw_endsastold_k82_best_messages_give_no_gai.main.file = file := by rfl
def GG (K : PySem.W.Frag) : Gc := ⟨K, fun c => match c with
  | 0 => He.ga K "Fault"
  | 1 => He.ga K "BadSize"
  | 2 => He.ga K "BadGame"
  | 3 => He.ga K "NoPlay"
  | 4 => He.ga K "TooMany"
  | 5 => He.ga K "BadDomain"
  | 6 => He.ga K "BadChoice"
  | 7 => He.ga K "Game"
  | 8 => He.ga K "Domain"
  | _ => 0, fun c => match c with
  | 1 => "what"
  | 2 => "play"
  | 4 => "limit"
  | 5 => "person"
  | 6 => "world"
  | _ => ""⟩
abbrev hk : PySem.W.Hook := hookM 5 file fbs fns xds
def ob (s : PySem.W.SharedT) : AlM := obsMG 5 file fbs fns xds (HandSHeadRun.getT s)
theorem ob_eq (s : PySem.W.SharedT) : ob s = hk.obs s.abs := obsMG_eq (HandSHeadRun.getT_eq s)
theorem run (w : World) : HandSHeadRun.RunEq R (PySem.W.view R.prog [51]) hk ob 6000 names w := by
  intro os
  kernel_rfl
theorem fx {w : World} {K : PySem.W.Frag} {h : Heap} {mg : Str → Option Value} {base : Heap} (KX : K.In h) (Gm : h.Ns mainGlobals mg) (c_ : SaysM file fbs fns xds K) : Fx PySem.Challenge.pw_endsastold_k82_best_messages_give_no_gai w K mg base (GG K) where
  hK := rfl
  d_wall := by
    obtain ⟨fd, FD⟩ := c_.def_ 0 rfl
    exact ⟨_, fd, (He.glo_ok KX Gm (c_.fact (f := .fa (.glo "_wall")) 0)), FD⟩
  b_sorted := He.free_ok KX Gm (c_.fact (f := .fa (.free "sorted")) 1)
  b_set := He.free_ok KX Gm (c_.fact (f := .fa (.free "set")) 2)
  b_tuple := He.free_ok KX Gm (c_.fact (f := .fa (.free "tuple")) 3)
  d_liking_of := by
    obtain ⟨fd, FD⟩ := c_.def_ 1 rfl
    exact ⟨_, fd, (He.glo_ok KX Gm (c_.fact (f := .fa (.glo "liking_of")) 4)), FD⟩
  b_len := He.free_ok KX Gm (c_.fact (f := .fa (.free "len")) 5)
  d_is_liking := by
    obtain ⟨fd, FD⟩ := c_.def_ 2 rfl
    exact ⟨_, fd, (He.glo_ok KX Gm (c_.fact (f := .fa (.glo "is_liking")) 6)), FD⟩
  d_count_plays := by
    obtain ⟨fd, FD⟩ := c_.def_ 3 rfl
    exact ⟨_, fd, (He.glo_ok KX Gm (c_.fact (f := .fa (.glo "count_plays")) 7)), FD⟩
  x_TooMany := by
    obtain ⟨cda, cc, fd, XI, bd, ox, fi, ty⟩ := c_.xin 0 hfile xt_TooMany rfl
    exact ⟨_, fd, _, PvF, (He.glo_ok KX Gm (c_.fact (f := .fa (.glo "TooMany")) 9)), ox, fi, ty, ok_xinit (k := 0) XI (He.free_ok KX Gm (c_.fact (f := .fa (.free "super")) 8)) (fun A outer s H => msg_join rfl (Or.inl rfl) (by decide)), bd, fun d F H v h r => chkF_ok h r⟩
  d_check_count := by
    obtain ⟨fd, FD⟩ := c_.def_ 4 rfl
    exact ⟨_, fd, (He.glo_ok KX Gm (c_.fact (f := .fa (.glo "check_count")) 10)), FD⟩
  b_zip := He.free_ok KX Gm (c_.fact (f := .fa (.free "zip")) 11)
  d_check_play := by
    obtain ⟨fd, FD⟩ := c_.def_ 5 rfl
    exact ⟨_, fd, (He.glo_ok KX Gm (c_.fact (f := .fa (.glo "check_play")) 12)), FD⟩
  b_min := He.free_ok KX Gm (c_.fact (f := .fa (.free "min")) 13)
  b_range := He.free_ok KX Gm (c_.fact (f := .fa (.free "range")) 14)
  x_BadGame := by
    obtain ⟨cda, cc, fd, XI, bd, ox, fi, ty⟩ := c_.xin 1 hfile xt_BadGame rfl
    exact ⟨_, fd, _, PvF, (He.glo_ok KX Gm (c_.fact (f := .fa (.glo "BadGame")) 15)), ox, fi, ty, ok_xinit (k := 0) XI (He.free_ok KX Gm (c_.fact (f := .fa (.free "super")) 8)) (fun A outer s H => msg_join rfl (Or.inl rfl) (by decide)), bd, fun d F H v h r => chkF_ok h r⟩
  d_check_table := by
    obtain ⟨fd, FD⟩ := c_.def_ 6 rfl
    exact ⟨_, fd, (He.glo_ok KX Gm (c_.fact (f := .fa (.glo "check_table")) 16)), FD⟩
  d_number_of := by
    obtain ⟨fd, FD⟩ := c_.def_ 7 rfl
    exact ⟨_, fd, (He.glo_ok KX Gm (c_.fact (f := .fa (.glo "number_of")) 17)), FD⟩
  b_reversed := He.free_ok KX Gm (c_.fact (f := .fa (.free "reversed")) 18)
  d_play_at := by
    obtain ⟨fd, FD⟩ := c_.def_ 8 rfl
    exact ⟨_, fd, (He.glo_ok KX Gm (c_.fact (f := .fa (.glo "play_at")) 19)), FD⟩
  d_with_message := by
    obtain ⟨fd, FD⟩ := c_.def_ 9 rfl
    exact ⟨_, fd, (He.glo_ok KX Gm (c_.fact (f := .fa (.glo "with_message")) 20)), FD⟩
  i_PEOPLE := He.int_ok KX Gm (c_.fact (f := .fa (.int "PEOPLE" 4)) 21)
  x_BadSize := by
    obtain ⟨cda, cc, fd, XI, bd, ox, fi, ty⟩ := c_.xin 2 hfile xt_BadSize rfl
    exact ⟨_, fd, _, PvF, (He.glo_ok KX Gm (c_.fact (f := .fa (.glo "BadSize")) 22)), ox, fi, ty, ok_xinit (k := 0) XI (He.free_ok KX Gm (c_.fact (f := .fa (.free "super")) 8)) (fun A outer s H => msg_join rfl (Or.inl rfl) (by decide)), bd, fun d F H v h r => chkF_ok h r⟩
  i_OUTCOMES := He.int_ok KX Gm (c_.fact (f := .fa (.int "OUTCOMES" 8)) 23)
  k_Game_PLAYS := ⟨_, _, (He.glo_ok KX Gm (c_.fact (f := .fa (.glo "Game")) 24)), rdB_ok (c_.fact (f := .rd "Game" "PLAYS" 4096) 25)⟩
  fs_Game_sizes := fun c hc => by
    simp only [List.mem_cons, List.not_mem_nil, or_false] at hc
    rcases hc with rfl
    · exact ⟨He.cls_ok (c_.fact (f := .fa (.cls "Game")) 26), He.noat_ok (c_.fact (f := .fa (.noat "Game" "sizes")) 27)⟩

  fs_Game_outcomes := fun c hc => by
    simp only [List.mem_cons, List.not_mem_nil, or_false] at hc
    rcases hc with rfl
    · exact ⟨He.cls_ok (c_.fact (f := .fa (.cls "Game")) 26), He.noat_ok (c_.fact (f := .fa (.noat "Game" "outcomes")) 28)⟩

  fs_Game_table := fun c hc => by
    simp only [List.mem_cons, List.not_mem_nil, or_false] at hc
    rcases hc with rfl
    · exact ⟨He.cls_ok (c_.fact (f := .fa (.cls "Game")) 26), He.noat_ok (c_.fact (f := .fa (.noat "Game" "table")) 29)⟩

  d_Game_init := by
    obtain ⟨fd, FD⟩ := c_.def_ 10 rfl
    exact ⟨_, fd, (He.glo_ok KX Gm (c_.fact (f := .fa (.glo "Game")) 24)), He.mkr_ok (c_.fact (f := .fa (.mkr "Game")) 30), FD⟩
  fl_sizes := fun c hc => by
    simp only [List.mem_cons, List.not_mem_nil, or_false] at hc
    rcases hc with rfl | rfl
    · exact ⟨He.cls_ok (c_.fact (f := .fa (.cls "Game")) 26), He.noat_ok (c_.fact (f := .fa (.noat "Game" "sizes")) 27)⟩
    · exact ⟨He.cls_ok (c_.fact (f := .fa (.cls "Domain")) 31), He.noat_ok (c_.fact (f := .fa (.noat "Domain" "sizes")) 32)⟩

  fl_table := fun c hc => by
    simp only [List.mem_cons, List.not_mem_nil, or_false] at hc
    rcases hc with rfl
    · exact ⟨He.cls_ok (c_.fact (f := .fa (.cls "Game")) 26), He.noat_ok (c_.fact (f := .fa (.noat "Game" "table")) 29)⟩

  d_Game_outcome := by
    obtain ⟨fd, FD⟩ := c_.def_ 11 rfl
    exact ⟨_, fd, He.cls_ok (c_.fact (f := .fa (.cls "Game")) 26), He.meth_ok (c_.fact (f := .fa (.meth "Game" "outcome")) 33), FD⟩
  d_plays := by
    obtain ⟨fd, FD⟩ := c_.def_ 12 rfl
    exact ⟨_, fd, (He.glo_ok KX Gm (c_.fact (f := .fa (.glo "plays")) 34)), FD⟩
  fl_worlds := fun c hc => by
    simp only [List.mem_cons, List.not_mem_nil, or_false] at hc
    rcases hc with rfl
    · exact ⟨He.cls_ok (c_.fact (f := .fa (.cls "Domain")) 31), He.noat_ok (c_.fact (f := .fa (.noat "Domain" "worlds")) 35)⟩

  fl_outcomes := fun c hc => by
    simp only [List.mem_cons, List.not_mem_nil, or_false] at hc
    rcases hc with rfl | rfl
    · exact ⟨He.cls_ok (c_.fact (f := .fa (.cls "Game")) 26), He.noat_ok (c_.fact (f := .fa (.noat "Game" "outcomes")) 28)⟩
    · exact ⟨He.cls_ok (c_.fact (f := .fa (.cls "Domain")) 31), He.noat_ok (c_.fact (f := .fa (.noat "Domain" "outcomes")) 36)⟩

  x_BadChoice := by
    obtain ⟨cda, cc, fd, XI, bd, ox, fi, ty⟩ := c_.xin 3 hfile xt_BadChoice rfl
    exact ⟨_, fd, _, PvF, (He.glo_ok KX Gm (c_.fact (f := .fa (.glo "BadChoice")) 37)), ox, fi, ty, ok_xinit (k := 0) XI (He.free_ok KX Gm (c_.fact (f := .fa (.free "super")) 8)) (fun A outer s H => msg_join rfl (Or.inl rfl) (by decide)), bd, fun d F H v h r => chkF_ok h r⟩
  d_check_choice := by
    obtain ⟨fd, FD⟩ := c_.def_ 13 rfl
    exact ⟨_, fd, (He.glo_ok KX Gm (c_.fact (f := .fa (.glo "check_choice")) 38)), FD⟩
  d_gain_of := by
    obtain ⟨fd, FD⟩ := c_.def_ 14 rfl
    exact ⟨_, fd, (He.glo_ok KX Gm (c_.fact (f := .fa (.glo "gain_of")) 39)), FD⟩
  d_first_gain := by
    obtain ⟨fd, FD⟩ := c_.def_ 15 rfl
    exact ⟨_, fd, (He.glo_ok KX Gm (c_.fact (f := .fa (.glo "first_gain")) 40)), FD⟩
  b_max := He.free_ok KX Gm (c_.fact (f := .fa (.free "max")) 41)
  d_best_messages := by
    obtain ⟨fd, FD⟩ := c_.def_ 16 rfl
    exact ⟨_, fd, (He.glo_ok KX Gm (c_.fact (f := .fa (.glo "best_messages")) 42)), FD⟩
  k_Domain_LIKINGS := ⟨_, _, (He.glo_ok KX Gm (c_.fact (f := .fa (.glo "Domain")) 43)), rdB_ok (c_.fact (f := .rd "Domain" "LIKINGS" 6) 44)⟩
  d_are_likings := by
    obtain ⟨fd, FD⟩ := c_.def_ 17 rfl
    exact ⟨_, fd, (He.glo_ok KX Gm (c_.fact (f := .fa (.glo "are_likings")) 45)), FD⟩
  x_BadDomain := by
    obtain ⟨cda, cc, fd, XI, bd, ox, fi, ty⟩ := c_.xin 4 hfile xt_BadDomain rfl
    exact ⟨_, fd, _, PvF, (He.glo_ok KX Gm (c_.fact (f := .fa (.glo "BadDomain")) 46)), ox, fi, ty, ok_xinit (k := 0) XI (He.free_ok KX Gm (c_.fact (f := .fa (.free "super")) 8)) (fun A outer s H => msg_join rfl (Or.inl rfl) (by decide)), bd, fun d F H v h r => chkF_ok h r⟩
  k_Domain_WORLDS := ⟨_, _, (He.glo_ok KX Gm (c_.fact (f := .fa (.glo "Domain")) 43)), rdB_ok (c_.fact (f := .rd "Domain" "WORLDS" 36) 47)⟩
  fs_Domain_outcomes := fun c hc => by
    simp only [List.mem_cons, List.not_mem_nil, or_false] at hc
    rcases hc with rfl
    · exact ⟨He.cls_ok (c_.fact (f := .fa (.cls "Domain")) 31), He.noat_ok (c_.fact (f := .fa (.noat "Domain" "outcomes")) 36)⟩

  fs_Domain_likings := fun c hc => by
    simp only [List.mem_cons, List.not_mem_nil, or_false] at hc
    rcases hc with rfl
    · exact ⟨He.cls_ok (c_.fact (f := .fa (.cls "Domain")) 31), He.noat_ok (c_.fact (f := .fa (.noat "Domain" "likings")) 48)⟩

  fs_Domain_sizes := fun c hc => by
    simp only [List.mem_cons, List.not_mem_nil, or_false] at hc
    rcases hc with rfl
    · exact ⟨He.cls_ok (c_.fact (f := .fa (.cls "Domain")) 31), He.noat_ok (c_.fact (f := .fa (.noat "Domain" "sizes")) 32)⟩

  fl_likings := fun c hc => by
    simp only [List.mem_cons, List.not_mem_nil, or_false] at hc
    rcases hc with rfl
    · exact ⟨He.cls_ok (c_.fact (f := .fa (.cls "Domain")) 31), He.noat_ok (c_.fact (f := .fa (.noat "Domain" "likings")) 48)⟩

  fs_Domain_worlds := fun c hc => by
    simp only [List.mem_cons, List.not_mem_nil, or_false] at hc
    rcases hc with rfl
    · exact ⟨He.cls_ok (c_.fact (f := .fa (.cls "Domain")) 31), He.noat_ok (c_.fact (f := .fa (.noat "Domain" "worlds")) 35)⟩

  d_Domain_init := by
    obtain ⟨fd, FD⟩ := c_.def_ 18 rfl
    exact ⟨_, fd, (He.glo_ok KX Gm (c_.fact (f := .fa (.glo "Domain")) 43)), He.mkr_ok (c_.fact (f := .fa (.mkr "Domain")) 49), FD⟩
  b_abs := He.free_ok KX Gm (c_.fact (f := .fa (.free "abs")) 50)
  b_int := He.free_ok KX Gm (c_.fact (f := .fa (.free "int")) 51)
  d_law_row := by
    obtain ⟨fd, FD⟩ := c_.def_ 19 rfl
    exact ⟨_, fd, (He.glo_ok KX Gm (c_.fact (f := .fa (.glo "_law_row")) 52)), FD⟩
  b_list := He.free_ok KX Gm (c_.fact (f := .fa (.free "list")) 53)
  d_law_order := by
    obtain ⟨fd, FD⟩ := c_.def_ 20 rfl
    exact ⟨_, fd, (He.glo_ok KX Gm (c_.fact (f := .fa (.glo "_law_order")) 54)), FD⟩
  b_isinstance := He.free_ok KX Gm (c_.fact (f := .fa (.free "isinstance")) 55)
  b_str := He.free_ok KX Gm (c_.fact (f := .fa (.free "str")) 56)
  b_bool := He.free_ok KX Gm (c_.fact (f := .fa (.free "bool")) 57)
  d_law_same := by
    obtain ⟨fd, FD⟩ := c_.def_ 21 rfl
    exact ⟨_, fd, (He.glo_ok KX Gm (c_.fact (f := .fa (.glo "_law_same")) 58)), FD⟩
  d_law_dense := by
    obtain ⟨fd, FD⟩ := c_.def_ 22 rfl
    exact ⟨_, fd, (He.glo_ok KX Gm (c_.fact (f := .fa (.glo "_law_dense")) 59)), FD⟩
  d_law_plays := by
    obtain ⟨fd, FD⟩ := c_.def_ 23 rfl
    exact ⟨_, fd, (He.glo_ok KX Gm (c_.fact (f := .fa (.glo "_law_plays")) 60)), FD⟩
  d_law_number := by
    obtain ⟨fd, FD⟩ := c_.def_ 24 rfl
    exact ⟨_, fd, (He.glo_ok KX Gm (c_.fact (f := .fa (.glo "_law_number")) 61)), FD⟩
  d_law_game := by
    obtain ⟨fd, FD⟩ := c_.def_ 25 rfl
    exact ⟨_, fd, (He.glo_ok KX Gm (c_.fact (f := .fa (.glo "_law_game")) 62)), FD⟩
  d_law_likings := by
    obtain ⟨fd, FD⟩ := c_.def_ 26 rfl
    exact ⟨_, fd, (He.glo_ok KX Gm (c_.fact (f := .fa (.glo "_law_likings")) 63)), FD⟩
  d_law_domain_worlds := by
    obtain ⟨fd, FD⟩ := c_.def_ 27 rfl
    exact ⟨_, fd, (He.glo_ok KX Gm (c_.fact (f := .fa (.glo "_law_domain_worlds")) 64)), FD⟩
  d_law_serial := by
    obtain ⟨fd, FD⟩ := c_.def_ 28 rfl
    exact ⟨_, fd, (He.glo_ok KX Gm (c_.fact (f := .fa (.glo "_law_serial")) 65)), FD⟩
  d_law_gain := by
    obtain ⟨fd, FD⟩ := c_.def_ 29 rfl
    exact ⟨_, fd, (He.glo_ok KX Gm (c_.fact (f := .fa (.glo "_law_gain")) 66)), FD⟩
  d_law_best := by
    obtain ⟨fd, FD⟩ := c_.def_ 30 rfl
    exact ⟨_, fd, (He.glo_ok KX Gm (c_.fact (f := .fa (.glo "_law_best")) 67)), FD⟩
  d_law_many_likings := by
    obtain ⟨fd, FD⟩ := c_.def_ 31 rfl
    exact ⟨_, fd, (He.glo_ok KX Gm (c_.fact (f := .fa (.glo "_law_many_likings")) 68)), FD⟩
  d_law_given := by
    obtain ⟨fd, FD⟩ := c_.def_ 32 rfl
    exact ⟨_, fd, (He.glo_ok KX Gm (c_.fact (f := .fa (.glo "_law_given")) 69)), FD⟩
  em_BadChoice_Fault := He.exm_ok (c_.fact (f := .fa (.exm "BadChoice" "Fault" true)) 70)
  ei_BadChoice := eiB_ok (c_.fact (f := .ei "BadChoice") 71)
  ki_BadChoice_BadChoice := of_decide_eq_true (c_.fact (f := .kc "BadChoice" "BadChoice" true) 72)
  g_BadChoice := (He.glo_ok KX Gm (c_.fact (f := .fa (.glo "BadChoice")) 37))
  ki_BadChoice_ValueError := of_decide_eq_true (c_.fact (f := .kt "BadChoice" "ValueError" true) 73)
  b_ValueError := He.free_ok KX Gm (c_.fact (f := .fa (.free "ValueError")) 74)
  xf_BadChoice := xfB_ok (c_.fact (f := .xf "BadChoice") 75)
  nf_BadChoice := He.noat_ok (c_.fact (f := .fa (.noat "BadChoice" "world")) 76)
  ef_BadChoice := rfl
  g_Fault := (He.glo_ok KX Gm (c_.fact (f := .fa (.glo "Fault")) 77))
  d_law_refused := by
    obtain ⟨fd, FD⟩ := c_.def_ 33 rfl
    exact ⟨_, fd, (He.glo_ok KX Gm (c_.fact (f := .fa (.glo "_law_refused")) 78)), FD⟩
  d_law_wrong := by
    obtain ⟨fd, FD⟩ := c_.def_ 34 rfl
    exact ⟨_, fd, (He.glo_ok KX Gm (c_.fact (f := .fa (.glo "_law_wrong")) 79)), FD⟩
  d_law_asked := by
    obtain ⟨fd, FD⟩ := c_.def_ 35 rfl
    exact ⟨_, fd, (He.glo_ok KX Gm (c_.fact (f := .fa (.glo "_law_asked")) 80)), FD⟩
  d_law_said := by
    obtain ⟨fd, FD⟩ := c_.def_ 36 rfl
    exact ⟨_, fd, (He.glo_ok KX Gm (c_.fact (f := .fa (.glo "_law_said")) 81)), FD⟩
  d_law := by
    obtain ⟨fd, FD⟩ := c_.def_ 37 rfl
    exact ⟨_, fd, (He.glo_ok KX Gm (c_.fact (f := .fa (.glo "law")) 82)), FD⟩
theorem o_law {P : Program} {w : World} {K : PySem.W.Frag} {mg : Str → Option Value} {base : Heap} {G : Gc} {f : Addr} {fd : FuncData} (x1 : Fx P w K mg base G) (F : FunD K "law" "law" (defArgs st_law) (defBody st_law) (defScope st_law) [] [] f fd) : FnOk P w K mg base (L2.CX P w) 9 f fd ["script"] (spN G phi_law) :=
  ok_def F sc_law rfl rfl rfl (by decide) x1.hK fun cdv A outer s H E M hM hW C => p_law (hM.symm ▸ x1) hW C
end Law
open PySem PySem.W PySem.Calls PyProof.Rows
/-- from the plain law to the statement -/
theorem holds_of (hlaw : ∀ ns : List Int, ns.length ≤ 63 → Law.phi_law [.lst (ns.map .int)] = .ok (.bl true)) : PySem.Challenge.rw_endsastold_k82_best_messages_give_no_gai.Holds := by
  w_on; o_law
  refine HandSHeadRun.head_any (r := OpenLaw.row PySem.Challenge.rw_endsastold_k82_best_messages_give_no_gai) (q := view (OpenLaw.row PySem.Challenge.rw_endsastold_k82_best_messages_give_no_gai).prog [51]) (H := Law.hk) (ob := Law.ob) (M := 6000) (loose := Law.names) (d := HandSHeadRun.topDef (OpenLaw.row PySem.Challenge.rw_endsastold_k82_best_messages_give_no_gai).prog 51) (kwd := []) Law.ob_eq
    (by kernel_rfl) (fun s => by kernel_rfl) Law.run (by kernel_rfl) (by kernel_rfl) (by kernel_rfl) (by rfl) (by first | assumption | decide +kernel) (by decide +kernel) ⟨rfl, rfl, rfl, rfl, rfl, by decide +kernel⟩ ?hw ?hc
  case hw => w_witness2
  case hc =>
    refine L2.walk_ofE (l := PySem.Challenge.rw_endsastold_k82_best_messages_give_no_gai) (n := 63) (k := 9) (x := "script") (CX := Mi.CXw PySem.Challenge.pw_endsastold_k82_best_messages_give_no_gai) rfl (by decide) (by kernel_rfl) ⟨rfl, by decide, by decide⟩ ?F (fun H s e s' z => Mi.cx_no z)
    intro w mg fa h Y G hmg0
    obtain ⟨K, KX, c⟩ := Y
    have hmg : mg ("law" : PySem.Str) = some (.ref fa) := by
      have e : (HandSHeadRun.topDef (OpenLaw.row PySem.Challenge.rw_endsastold_k82_best_messages_give_no_gai).prog 51).name = ("law" : PySem.Str) := by kernel_rfl
      rw [← e]
      exact hmg0
    have x1 := Law.fx (w := w) (base := {}) KX G c
    obtain ⟨f0, fd, hm, FD⟩ := x1.d_law
    have e := hmg.symm.trans hm
    cases e
    refine ⟨K, fd, Mi.spN (Law.GG K) Law.phi_law, KX, fun s u => FD.bindsA (ps := ["script"]) (fun _ _ _ _ _ _ us hl => match us, hl with | [_], _ => rfl) s [u] rfl, fun H a ns hl _ hS => Mi.sp_law hS (hlaw ns hl), fun base _ _ => Mi.fn_w (Law.o_law (Law.fx (w := w) (base := base) KX G c) FD)⟩
end
theorem PySem.Challenge.cw_endsastold_k82_best_messages_give_no_gai_holds : PySem.Challenge.rw_endsastold_k82_best_messages_give_no_gai.Holds := by
  exact holds_of fun ns _ => Law.law_fact ns
