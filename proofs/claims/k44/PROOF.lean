import PyProof.Rows.All
import HandS.ForMost
import HandS.TupAny
import HandS.Walk
import HandS.Flow
import HandS.Deep
import HandS.IsInst
import HandS.Wide
import HandS.WideMore
import PyProof.FitsBits
import KE.DataCmp
import KE.GoesNew
import HandS.Rev
import HandS.Style
import HandS.Conv
import KE.DataMinMax
import KE.SortData
import HandS.Iter
import PySem.Challenge.RW_planskept_k44_whole_rights_by_steps
section
set_option Elab.async false
set_option linter.all false
set_option maxRecDepth 100000
/-! A layer of my own over HandS: values as data trees, a def as a function on data. Part a: what stands for a tree. -/
namespace DS
open PySem PySem.Spec PyProof.Rows L2

abbrev D := PyData
def keyD : Key → D
  | .inl i => .int i
  | .inr x => .str x
mutual
/-- the value v stands for the tree d -/
inductive R (K : PySem.W.Frag) (H : Hp) : V → D → Prop
  | non : R K H .non .none
  | bl (b : Bool) : R K H (.bl b) (.bool b)
  | int (i : Int) : R K H (.int i) (.int i)
  | str (x : Str) : R K H (.str x) (.str x)
  | lst {a : Addr} {xs : List V} {ds : List D} : H a = some (.lst xs) → RA K H xs ds → R K H (.ref a) (.list ds)
  | frz {a : Addr} {xs : List V} {ds : List D} : SqL K H a xs → RA K H xs ds → R K H (.ref a) (.dict [(.none, .list ds)])
  | tup {a : Addr} {xs : List V} {ds : List D} : SqT K H a xs → RA K H xs ds → R K H (.ref a) (.tuple ds)
  | dk {a : Addr} {kvs : List (Key × V)} {es : List (D × D)} : H a = some (.dK kvs) → RK K H kvs es → R K H (.ref a) (.dict es)
  | dt {a : Addr} {kvs : List (List Key × V)} {es : List (D × D)} : H a = some (.dT kvs) → RT K H kvs es → R K H (.ref a) (.dict es)
inductive RA (K : PySem.W.Frag) (H : Hp) : List V → List D → Prop
  | nil : RA K H [] []
  | cons {v : V} {d : D} {vs : List V} {ds : List D} : R K H v d → RA K H vs ds → RA K H (v :: vs) (d :: ds)
inductive RK (K : PySem.W.Frag) (H : Hp) : List (Key × V) → List (D × D) → Prop
  | nil : RK K H [] []
  | cons {k : Key} {v : V} {d : D} {vs : List (Key × V)} {ds : List (D × D)} : R K H v d → RK K H vs ds → RK K H ((k, v) :: vs) ((keyD k, d) :: ds)
inductive RT (K : PySem.W.Frag) (H : Hp) : List (List Key × V) → List (D × D) → Prop
  | nil : RT K H [] []
  | cons {k : List Key} {v : V} {d : D} {vs : List (List Key × V)} {ds : List (D × D)} : R K H v d → RT K H vs ds → RT K H ((k, v) :: vs) ((.tuple (k.map keyD), d) :: ds)
end

section
variable {K : PySem.W.Frag} {H H' : Hp}
theorem seqL_mono {a : Addr} {xs : List V} (e : Same H H') (h : SqL K H a xs) : SqL K H' a xs := e.seq h
theorem seqT_mono {a : Addr} {xs : List V} (e : Same H H') (h : SqT K H a xs) : SqT K H' a xs := by
  rcases h with (h | ⟨o, h⟩) | h
  · exact .inl (.inl (e _ _ h))
  · exact .inl (.inr ⟨o, e _ _ h⟩)
  · exact .inr h
mutual
theorem R.mono (e : Same H H') : ∀ {v : V} {d : D}, R K H v d → R K H' v d
  | _, _, .non => .non
  | _, _, .bl b => .bl b
  | _, _, .int i => .int i
  | _, _, .str x => .str x
  | _, _, .lst h a => .lst (e _ _ h) (RA.mono e a)
  | _, _, .frz h a => .frz (e.seq h) (RA.mono e a)
  | _, _, .tup h a => .tup (seqT_mono e h) (RA.mono e a)
  | _, _, .dk h a => .dk (e _ _ h) (RK.mono e a)
  | _, _, .dt h a => .dt (e _ _ h) (RT.mono e a)
theorem RA.mono (e : Same H H') : ∀ {v : List V} {d : List D}, RA K H v d → RA K H' v d
  | _, _, .nil => .nil
  | _, _, .cons h t => .cons (R.mono e h) (RA.mono e t)
theorem RK.mono (e : Same H H') : ∀ {v : List (Key × V)} {d : List (D × D)}, RK K H v d → RK K H' v d
  | _, _, .nil => .nil
  | _, _, .cons h t => .cons (R.mono e h) (RK.mono e t)
theorem RT.mono (e : Same H H') : ∀ {v : List (List Key × V)} {d : List (D × D)}, RT K H v d → RT K H' v d
  | _, _, .nil => .nil
  | _, _, .cons h t => .cons (R.mono e h) (RT.mono e t)
end
theorem RA.length : ∀ {v : List V} {d : List D}, RA K H v d → v.length = d.length
  | _, _, .nil => rfl
  | _, _, .cons _ t => congrArg (· + 1) (RA.length t)
theorem RA.get : ∀ {v : List V} {d : List D} {i : Nat} {x : D}, RA K H v d → d[i]? = some x → ∃ y, v[i]? = some y ∧ R K H y x
  | _, _, _, _, .nil, h => by simp at h
  | _, _, 0, x, .cons h t, e => by simp at e; subst e; exact ⟨_, rfl, h⟩
  | _, _, i + 1, x, .cons h t, e => by
    obtain ⟨y, a, b⟩ := RA.get (i := i) (x := x) t (by simpa using e)
    exact ⟨y, by simpa using a, b⟩
theorem RA.getV : ∀ {v : List V} {d : List D} {i : Nat} {y : V}, RA K H v d → v[i]? = some y → ∃ x, d[i]? = some x ∧ R K H y x
  | _, _, _, _, .nil, h => by simp at h
  | _, _, 0, x, .cons h t, e => by simp at e; subst e; exact ⟨_, rfl, h⟩
  | _, _, i + 1, x, .cons h t, e => by
    obtain ⟨y, a, b⟩ := RA.getV (i := i) (y := x) t (by simpa using e)
    exact ⟨y, by simpa using a, b⟩
theorem RA.append : ∀ {v w : List V} {d e : List D}, RA K H v d → RA K H w e → RA K H (v ++ w) (d ++ e)
  | _, _, _, _, .nil, q => q
  | _, _, _, _, .cons h t, q => .cons h (RA.append t q)
theorem RA.set {y : V} {x : D} (r : R K H y x) : ∀ {v : List V} {d : List D} (i : Nat), RA K H v d → RA K H (v.set i y) (d.set i x)
  | _, _, _, .nil => .nil
  | _, _, 0, .cons h t => .cons r t
  | _, _, i + 1, .cons h t => .cons h (RA.set r i t)
theorem RA.drop : ∀ {v : List V} {d : List D} (n : Nat), RA K H v d → RA K H (v.drop n) (d.drop n)
  | _, _, 0, h => h
  | _, _, n + 1, .nil => .nil
  | _, _, n + 1, .cons _ t => RA.drop n t
theorem RA.take : ∀ {v : List V} {d : List D} (n : Nat), RA K H v d → RA K H (v.take n) (d.take n)
  | _, _, 0, h => .nil
  | _, _, n + 1, .nil => .nil
  | _, _, n + 1, .cons h t => .cons h (RA.take n t)
theorem RA.reverse : ∀ {v : List V} {d : List D}, RA K H v d → RA K H v.reverse d.reverse
  | _, _, .nil => .nil
  | _, _, .cons h t => by
    rw [List.reverse_cons, List.reverse_cons]
    exact (RA.reverse t).append (.cons h .nil)
theorem RA.rep {v : List V} {d : List D} (h : RA K H v d) : ∀ n : Nat, RA K H (List.replicate n v).flatten (List.replicate n d).flatten
  | 0 => .nil
  | n + 1 => by
    rw [List.replicate_succ, List.replicate_succ, List.flatten_cons, List.flatten_cons]
    exact h.append (h.rep n)
/-- the tree of an int, of a bool .. -/
theorem R.int' {v : V} {i : Int} (h : R K H v (.int i)) : v = .int i := by cases h; rfl
theorem R.bl' {v : V} {i : Bool} (h : R K H v (.bool i)) : v = .bl i := by cases h; rfl
theorem R.non' {v : V} (h : R K H v .none) : v = .non := by cases h; rfl
theorem R.str' {v : V} {i : Str} (h : R K H v (.str i)) : v = .str i := by cases h; rfl
theorem RA.ints : ∀ {ns : List Int} {v : List V}, RA K H v (ns.map PyData.int) → v = ns.map V.int
  | [], _, .nil => rfl
  | n :: r, _, .cons h t => by
    rw [h.int', RA.ints t]; rfl
theorem RA.bools : ∀ {ns : List Bool} {v : List V}, RA K H v (ns.map PyData.bool) → v = ns.map V.bl
  | [], _, .nil => rfl
  | n :: r, _, .cons h t => by
    rw [h.bl', RA.bools t]; rfl
theorem RA.ofInts : ∀ (ns : List Int), RA K H (ns.map V.int) (ns.map PyData.int)
  | [] => .nil
  | n :: r => .cons (.int n) (RA.ofInts r)
end

/-! ### no list, no dict within: nothing of it can change -/
mutual
def flat : D → Bool
  | .none => true
  | .bool _ => true
  | .int _ => true
  | .str _ => true
  | .tuple xs => flats xs
  | .list _ => false
  | .dict _ => false
def flats : List D → Bool
  | [] => true
  | x :: xs => flat x && flats xs
end

/-! ### the heap without some addresses -/
def hid (B : List Addr) (H : Hp) : Hp := fun a => if a ∈ B then none else H a
section
variable {B B' : List Addr} {H H' : Hp} {a : Addr} {o : HO}
theorem hid_in (h : a ∈ B) : hid B H a = none := by unfold hid; rw [if_pos h]
theorem hid_out (h : a ∉ B) : hid B H a = H a := by unfold hid; rw [if_neg h]
theorem hid_some (h : hid B H a = some o) : a ∉ B ∧ H a = some o := by
  unfold hid at h
  split at h
  · cases h
  · exact ⟨by assumption, h⟩
theorem hid_nil : hid [] H = H := by funext a; unfold hid; simp
theorem hid_congr (h : ∀ a, a ∈ B ↔ a ∈ B') : hid B H = hid B' H := by
  funext a; unfold hid
  by_cases h1 : a ∈ B
  · rw [if_pos h1, if_pos ((h a).mp h1)]
  · rw [if_neg h1, if_neg fun z => h1 ((h a).mpr z)]
theorem hid_hid : hid B (hid B' H) = hid (B ++ B') H := by
  funext a; unfold hid
  by_cases h1 : a ∈ B <;> by_cases h2 : a ∈ B' <;> simp [h1, h2]
/-- all that is not hidden behind B is not hidden behind B' -/
theorem same_hidW (e : Same H H') (h : ∀ a ∈ B', a ∈ B ∨ H a = none) : Same (hid B H) (hid B' H') := fun b o q => by
  obtain ⟨q1, q2⟩ := hid_some q
  rw [hid_out (fun z => (h b z).elim q1 fun n => by rw [n] at q2; cases q2)]
  exact e _ _ q2
theorem same_hid (e : Same H H') : Same (hid B H) (hid B H') := same_hidW e fun _ h => .inl h
theorem same_unhid : Same (hid B H) H := fun b o q => (hid_some q).2
theorem same_upd (h : H a = none) : Same H (upd H a o) := fun b x e => by
  rw [upd_ne (ne_of_none e h)]; exact e
def Trk (B : List Addr) (H : Hp) : Prop := ∀ a ∈ B, H a ≠ none
theorem Trk.mono (t : Trk B H) (e : Same H H') : Trk B H' := fun a h => by
  have := t a h
  cases q : H a with
  | none => exact absurd q this
  | some o => rw [e _ _ q]; simp
theorem Trk.new (t : Trk B H) (n : H a = none) : a ∉ B := fun h => t a h n
theorem Trk.nil : Trk [] H := fun _ h => by simp at h
end
theorem flat_all : ∀ {xs : List D}, flats xs = true → ∀ x ∈ xs, flat x = true
  | [], _, _, h => by simp at h
  | y :: ys, h, x, hx => by
    unfold flats at h
    rw [Bool.and_eq_true] at h
    rcases List.mem_cons.mp hx with e | hx
    · rw [e]; exact h.1
    · exact flat_all h.2 x hx
def mutO : HO → Bool
  | .lst _ => true
  | .dK _ => true
  | .dT _ => true
  | _ => false
/-- hidden addresses hold lists and dicts -/
def Ok (B : List Addr) (H : Hp) : Prop := ∀ a ∈ B, ∃ o, H a = some o ∧ mutO o = true
theorem Ok.nil {H : Hp} : Ok [] H := fun _ h => by simp at h
theorem Ok.mono {B : List Addr} {H H' : Hp} (k : Ok B H) (e : Same H H') : Ok B H' := fun a h => by
  obtain ⟨o, h1, h2⟩ := k a h
  exact ⟨o, e _ _ h1, h2⟩
theorem Ok.sub {B B' : List Addr} {H : Hp} (k : Ok B H) (h : ∀ a ∈ B', a ∈ B) : Ok B' H := fun a q => k a (h a q)
theorem Ok.cons {B : List Addr} {H : Hp} {a : Addr} {o : HO} (k : Ok B H) (h : H a = some o) (m : mutO o = true) : Ok (a :: B) H := fun b q => by
  rcases List.mem_cons.mp q with e | q
  · rw [e]; exact ⟨o, h, m⟩
  · exact k b q
theorem Ok.append {B B' : List Addr} {H : Hp} (k : Ok B H) (k' : Ok B' H) : Ok (B ++ B') H := fun b q => (List.mem_append.mp q).elim (k b) (k' b)
theorem Ok.trk {B : List Addr} {H : Hp} (k : Ok B H) : Trk B H := fun a h z => by
  obtain ⟨o, h1, _⟩ := k a h
  rw [z] at h1; cases h1
def NoTup (B : List Addr) (H : Hp) : Prop := ∀ a ∈ B, ∀ xs, ¬ Rd H a (.tup xs)
theorem Ok.noTup {B : List Addr} {H : Hp} (k : Ok B H) : NoTup B H := fun a h xs r => by
  obtain ⟨o, h1, h2⟩ := k a h
  rcases r with r | ⟨u, r⟩
  · rw [r] at h1; cases h1; cases h2
  · rw [r] at h1; cases h1; cases h2
theorem seqT_hid {K : PySem.W.Frag} {B : List Addr} {H : Hp} {a : Addr} {xs : List V} (n : NoTup B H) (h : SqT K H a xs) : SqT K (hid B H) a xs := by
  rcases h with h | h
  · have hn : a ∉ B := fun z => n a z xs h
    rcases h with h | ⟨o, h⟩
    · exact .inl (.inl (by rw [hid_out hn]; exact h))
    · exact .inl (.inr ⟨o, by rw [hid_out hn]; exact h⟩)
  · exact .inr h
mutual
theorem R.hidF {K : PySem.W.Frag} {B : List Addr} {H : Hp} (n : NoTup B H) : ∀ {v : V} {d : D}, R K H v d → flat d = true → R K (hid B H) v d
  | _, _, .non, _ => .non
  | _, _, .bl b, _ => .bl b
  | _, _, .int i, _ => .int i
  | _, _, .str x, _ => .str x
  | _, _, .lst h a, f => by simp [flat] at f
  | _, _, .frz h a, f => by simp [flat] at f
  | _, _, .tup h a, f => .tup (seqT_hid n h) (RA.hidF n a (by simpa [flat] using f))
  | _, _, .dk h a, f => by simp [flat] at f
  | _, _, .dt h a, f => by simp [flat] at f
theorem RA.hidF {K : PySem.W.Frag} {B : List Addr} {H : Hp} (n : NoTup B H) : ∀ {v : List V} {d : List D}, RA K H v d → flats d = true → RA K (hid B H) v d
  | _, _, .nil, _ => .nil
  | _, _, .cons h t, f => by
    unfold flats at f
    rw [Bool.and_eq_true] at f
    exact .cons (R.hidF n h f.1) (RA.hidF n t f.2)
end
end DS
end

section
set_option Elab.async false
set_option linter.all false
set_option maxRecDepth 100000
/-! Part b: what may be hidden (a list that a name owns), what an expression's reading is. -/
namespace DS
open PySem PySem.Spec PyProof.Rows L2

def isTop : D → Bool
  | .list _ => true
  | .dict ((.none, _) :: _) => false
  | .dict _ => true
  | _ => false

section
variable (K : PySem.W.Frag) (B : List Addr) (H : Hp)
/-- the tree d, of which the first m levels may be hidden -/
inductive RL : Nat → V → D → Prop
  | z {m : Nat} {v : V} {d : D} : R K (hid B H) v d → RL m v d
  | l {m : Nat} {a : Addr} {xs : List V} {ds : List D} : H a = some (.lst xs) → xs.length = ds.length → (∀ (i : Nat) (x : V) (d : D), xs[i]? = some x → ds[i]? = some d → RL m x d) → RL (m + 1) (.ref a) (.list ds)
  | dk {m : Nat} {a : Addr} {kvs : List (Key × V)} {es : List (D × D)} : H a = some (.dK kvs) → RK K (hid B H) kvs es → RL (m + 1) (.ref a) (.dict es)
  | dt {m : Nat} {a : Addr} {kvs : List (List Key × V)} {es : List (D × D)} : H a = some (.dT kvs) → RT K (hid B H) kvs es → RL (m + 1) (.ref a) (.dict es)
mutual
/-- the tree d, its first l levels at the addresses o alone -/
inductive RO : Nat → List Addr → V → D → Prop
  | z {l : Nat} {v : V} {d : D} : (l = 0 ∨ isTop d = false) → R K (hid B H) v d → RO l [] v d
  | l {l : Nat} {a : Addr} {os : List (List Addr)} {xs : List V} {ds : List D} : H a = some (.lst xs) → ROA l os xs ds → RO (l + 1) (a :: os.flatten) (.ref a) (.list ds)
  | dk {l : Nat} {a : Addr} {kvs : List (Key × V)} {es : List (D × D)} : isTop (.dict es) = true → H a = some (.dK kvs) → RK K (hid B H) kvs es → RO (l + 1) [a] (.ref a) (.dict es)
  | dt {l : Nat} {a : Addr} {kvs : List (List Key × V)} {es : List (D × D)} : isTop (.dict es) = true → H a = some (.dT kvs) → RT K (hid B H) kvs es → RO (l + 1) [a] (.ref a) (.dict es)
inductive ROA : Nat → List (List Addr) → List V → List D → Prop
  | nil {l : Nat} : ROA l [] [] []
  | cons {l : Nat} {o : List Addr} {os : List (List Addr)} {v : V} {d : D} {vs : List V} {ds : List D} : RO l o v d → ROA l os vs ds → ROA l (o :: os) (v :: vs) (d :: ds)
end
end
section
variable {K : PySem.W.Frag} {B B' : List Addr} {H H' : Hp}
theorem RL.r {v : V} {d : D} (h : RL K B H 0 v d) : R K (hid B H) v d := by
  cases h; assumption
theorem RL.up {m n : Nat} {v : V} {d : D} (h : RL K B H m v d) : m ≤ n → RL K B H n v d := by
  induction h generalizing n with
  | z r => intro _; exact .z r
  | l h1 h2 _ ih =>
    intro hn
    obtain ⟨k, rfl⟩ : ∃ k, n = k + 1 := ⟨n - 1, by omega⟩
    exact .l h1 h2 fun i x d e1 e2 => ih i x d e1 e2 (by omega)
  | dk h1 h2 =>
    intro hn
    obtain ⟨k, rfl⟩ : ∃ k, n = k + 1 := ⟨n - 1, by omega⟩
    exact .dk h1 h2
  | dt h1 h2 =>
    intro hn
    obtain ⟨k, rfl⟩ : ∃ k, n = k + 1 := ⟨n - 1, by omega⟩
    exact .dt h1 h2
theorem RL.mono (e : Same H H') (eh : Same (hid B H) (hid B' H')) {m : Nat} {v : V} {d : D} (h : RL K B H m v d) : RL K B' H' m v d := by
  induction h with
  | z r => exact .z (r.mono eh)
  | l h1 h2 _ ih => exact .l (e _ _ h1) h2 ih
  | dk h1 h2 => exact .dk (e _ _ h1) (h2.mono eh)
  | dt h1 h2 => exact .dt (e _ _ h1) (h2.mono eh)
theorem RA.of_get : ∀ {xs : List V} {ds : List D}, xs.length = ds.length → (∀ (i : Nat) (x : V) (d : D), xs[i]? = some x → ds[i]? = some d → R K H x d) → RA K H xs ds
  | [], [], _, _ => .nil
  | [], _ :: _, h, _ => by simp at h
  | _ :: _, [], h, _ => by simp at h
  | x :: xs, d :: ds, h, g => .cons (g 0 x d rfl rfl) (RA.of_get (by simpa using h) fun i y e h1 h2 => g (i + 1) y e (by simpa using h1) (by simpa using h2))
theorem RL.open {m : Nat} {v : V} {d : D} (h : RL K B H m v d) : R K H v d := by
  induction h with
  | z r => exact r.mono same_unhid
  | l h1 h2 _ ih => exact .lst h1 (RA.of_get h2 ih)
  | dk h1 h2 => exact .dk h1 (h2.mono same_unhid)
  | dt h1 h2 => exact .dt h1 (h2.mono same_unhid)
/-- a list with its items -/
theorem RL.list {m : Nat} {v : V} {ds : List D} (h : RL K B H (m + 1) v (.list ds)) : ∃ a xs, v = .ref a ∧ H a = some (.lst xs) ∧ xs.length = ds.length ∧ ∀ (i : Nat) (x : V) (d : D), xs[i]? = some x → ds[i]? = some d → RL K B H m x d := by
  cases h with
  | z r =>
    cases r with
    | lst h1 h2 =>
      refine ⟨_, _, rfl, (hid_some h1).2, h2.length, fun i x d e1 e2 => .z ?_⟩
      obtain ⟨y, e3, r⟩ := h2.get e2
      rw [e1] at e3; cases e3; exact r
  | l h1 h2 h3 => exact ⟨_, _, rfl, h1, h2, h3⟩
theorem RL.list1 {v : V} {ds : List D} (h : RL K B H 1 v (.list ds)) : ∃ a xs, v = .ref a ∧ H a = some (.lst xs) ∧ RA K (hid B H) xs ds := by
  obtain ⟨a, xs, e, h1, h2, h3⟩ := h.list
  exact ⟨a, xs, e, h1, RA.of_get h2 fun i x d e1 e2 => (h3 i x d e1 e2).r⟩
theorem RL.tup {m : Nat} {v : V} {ds : List D} (h : RL K B H m v (.tuple ds)) : ∃ a xs, v = .ref a ∧ SqT K H a xs ∧ SqT K (hid B H) a xs ∧ RA K (hid B H) xs ds := by
  cases h with
  | z r =>
    cases r with
    | tup h1 h2 => exact ⟨_, _, rfl, seqT_mono same_unhid h1, h1, h2⟩
theorem RL.int {m : Nat} {v : V} {i : Int} (h : RL K B H m v (.int i)) : v = .int i := by
  cases h with
  | z r => exact r.int'
theorem RL.bl {m : Nat} {v : V} {i : Bool} (h : RL K B H m v (.bool i)) : v = .bl i := by
  cases h with
  | z r => exact r.bl'
theorem RL.non {m : Nat} {v : V} (h : RL K B H m v .none) : v = .non := by
  cases h with
  | z r => exact r.non'
theorem RL.str {m : Nat} {v : V} {i : Str} (h : RL K B H m v (.str i)) : v = .str i := by
  cases h with
  | z r => exact r.str'
/-- an owned tree, where its own addresses are shown -/
theorem RO.toR_aux {l : Nat} {o : List Addr} {v : V} {d : D} (h : RO K B H l o v d) : (∀ a ∈ B', a ∈ B ∧ a ∉ o) → R K (hid B' H) v d := by
  refine RO.rec (K := K) (B := B) (H := H) (motive_1 := fun l o v d _ => (∀ a ∈ B', a ∈ B ∧ a ∉ o) → R K (hid B' H) v d)
    (motive_2 := fun l os vs ds _ => (∀ a ∈ B', a ∈ B ∧ a ∉ os.flatten) → RA K (hid B' H) vs ds) ?_ ?_ ?_ ?_ ?_ ?_ h
  · intro l v d _ r hb
    exact r.mono (same_hidW (Same.refl H) fun a h => .inl (hb a h).1)
  · intro l a os xs ds h1 _ ih hb
    refine .lst (a := a) (xs := xs) ?_ (ih fun b q => ⟨(hb b q).1, fun z => (hb b q).2 (List.mem_cons_of_mem _ z)⟩)
    rw [hid_out fun z => (hb _ z).2 List.mem_cons_self]; exact h1
  · intro l a kvs es _ h1 h2 hb
    refine .dk (a := a) (kvs := kvs) ?_ (h2.mono (same_hidW (Same.refl H) fun a h => .inl (hb a h).1))
    rw [hid_out fun z => (hb _ z).2 List.mem_cons_self]; exact h1
  · intro l a kvs es _ h1 h2 hb
    refine .dt (a := a) (kvs := kvs) ?_ (h2.mono (same_hidW (Same.refl H) fun a h => .inl (hb a h).1))
    rw [hid_out fun z => (hb _ z).2 List.mem_cons_self]; exact h1
  · intro l _
    exact .nil
  · intro l o os v d vs ds _ _ ih1 ih2 hb
    exact .cons (ih1 fun a q => ⟨(hb a q).1, fun z => (hb a q).2 (by rw [List.flatten_cons]; exact List.mem_append_left _ z)⟩) (ih2 fun a q => ⟨(hb a q).1, fun z => (hb a q).2 (by rw [List.flatten_cons]; exact List.mem_append_right _ z)⟩)
theorem RO.toRL_aux {l : Nat} {o : List Addr} {v : V} {d : D} (h : RO K B H l o v d) : RL K B H l v d := by
  refine RO.rec (K := K) (B := B) (H := H) (motive_1 := fun l o v d _ => RL K B H l v d)
    (motive_2 := fun l os vs ds _ => vs.length = ds.length ∧ ∀ (i : Nat) (x : V) (d : D), vs[i]? = some x → ds[i]? = some d → RL K B H l x d) ?_ ?_ ?_ ?_ ?_ ?_ h
  · intro l v d _ r
    exact .z r
  · intro l a os xs ds h1 _ ih
    exact .l h1 ih.1 ih.2
  · intro l a kvs es _ h1 h2
    exact .dk h1 h2
  · intro l a kvs es _ h1 h2
    exact .dt h1 h2
  · intro l
    exact ⟨rfl, fun i x d e1 _ => by simp at e1⟩
  · intro l o os v d vs ds _ _ ih1 ih2
    refine ⟨by simp [ih2.1], fun i x d e1 e2 => ?_⟩
    cases i with
    | zero => simp at e1 e2; subst e1; subst e2; exact ih1
    | succ i => exact ih2.2 i x d (by simpa using e1) (by simpa using e2)
theorem RO.mono_aux {l : Nat} {o : List Addr} {v : V} {d : D} (h : RO K B H l o v d) (eh : Same (hid B H) (hid B' H')) : (∀ a ∈ o, H' a = H a) → RO K B' H' l o v d := by
  refine RO.rec (K := K) (B := B) (H := H) (motive_1 := fun l o v d _ => (∀ a ∈ o, H' a = H a) → RO K B' H' l o v d)
    (motive_2 := fun l os vs ds _ => (∀ a ∈ os.flatten, H' a = H a) → ROA K B' H' l os vs ds) ?_ ?_ ?_ ?_ ?_ ?_ h
  · intro l v d hl r _
    exact .z hl (r.mono eh)
  · intro l a os xs ds h1 _ ih hb
    exact .l ((hb a List.mem_cons_self).trans h1) (ih fun b q => hb b (List.mem_cons_of_mem _ q))
  · intro l a kvs es ht h1 h2 hb
    exact .dk ht ((hb a List.mem_cons_self).trans h1) (h2.mono eh)
  · intro l a kvs es ht h1 h2 hb
    exact .dt ht ((hb a List.mem_cons_self).trans h1) (h2.mono eh)
  · intro l _
    exact .nil
  · intro l o os v d vs ds _ _ ih1 ih2 hb
    exact .cons (ih1 fun a q => hb a (by rw [List.flatten_cons]; exact List.mem_append_left _ q)) (ih2 fun a q => hb a (by rw [List.flatten_cons]; exact List.mem_append_right _ q))
/-- what an owned tree's addresses hold -/
theorem RO.mut_aux {l : Nat} {o : List Addr} {v : V} {d : D} (h : RO K B H l o v d) : Ok o H := by
  refine RO.rec (K := K) (B := B) (H := H) (motive_1 := fun l o v d _ => Ok o H)
    (motive_2 := fun l os vs ds _ => Ok os.flatten H) ?_ ?_ ?_ ?_ ?_ ?_ h
  · intro l v d hl r
    exact Ok.nil
  · intro l a os xs ds h1 _ ih
    exact ih.cons h1 rfl
  · intro l a kvs es ht h1 h2
    exact Ok.nil.cons h1 rfl
  · intro l a kvs es ht h1 h2
    exact Ok.nil.cons h1 rfl
  · intro l
    exact Ok.nil
  · intro l o os v d vs ds _ _ ih1 ih2
    rw [List.flatten_cons]; exact ih1.append ih2
theorem ROA.of_RA : ∀ {vs : List V} {ds : List D}, RA K (hid B H) vs ds → ROA K B H 0 (vs.map fun _ => []) vs ds
  | _, _, .nil => .nil
  | _, _, .cons h t => .cons (.z (.inl rfl) h) (ROA.of_RA t)
theorem flat_map_nil {α β : Type} : ∀ (l : List α), (l.map fun _ => ([] : List β)).flatten = []
  | [] => rfl
  | _ :: r => by rw [List.map_cons, List.flatten_cons, flat_map_nil r]; rfl
theorem RO.l1 {a : Addr} {xs : List V} {ds : List D} (h1 : H a = some (.lst xs)) (h2 : RA K (hid B H) xs ds) : RO K B H 1 [a] (.ref a) (.list ds) := by
  have := RO.l (l := 0) h1 (ROA.of_RA h2)
  rw [flat_map_nil] at this
  exact this
end

/-! ### modes -/
inductive Mo where
  /-- the first m levels may be hidden -/
  | br (m : Nat)
  /-- new: its first level (two levels) at new addresses -/
  | fr | fr2
def Mo.one : Mo → Bool
  | .fr2 => false
  | _ => true
def Post (K : PySem.W.Frag) (B : List Addr) (H0 H' : Hp) : Mo → V → D → Prop
  | .br m, v, d => RL K B H' m v d
  | .fr, v, d => ∃ o : List Addr, (∀ a ∈ o, H0 a = none) ∧ o.Nodup ∧ RO K (o ++ B) H' 1 o v d
  | .fr2, v, d => ∃ o : List Addr, (∀ a ∈ o, H0 a = none) ∧ o.Nodup ∧ RO K (o ++ B) H' 2 o v d
section
variable {K : PySem.W.Frag} {B B' : List Addr} {H H0 H' : Hp}
/-- a value that is nobody's own -/
theorem Post.of_flat {κ : Mo} {v : V} {d : D} (h : R K (hid B H') v d) (f : isTop d = false) : Post K B H0 H' κ v d := by
  cases κ with
  | br m => exact .z h
  | fr => exact ⟨[], by simp, List.nodup_nil, .z (.inr f) h⟩
  | fr2 => exact ⟨[], by simp, List.nodup_nil, .z (.inr f) h⟩
theorem Post.weak {m : Nat} {v : V} {d : D} (t : Trk B H0) (h : Post K B H0 H' .fr v d) : Post K B H0 H' (.br m) v d := by
  obtain ⟨o, h1, h2, h3⟩ := h
  exact .z (h3.toR_aux fun a q => ⟨List.mem_append_right _ q, fun z => t a q (h1 a z)⟩)
/-- a new list -/
theorem Post.new {κ : Mo} {p : Addr} {xs : List V} {ds : List D} (t : Trk B H0) (hn : H0 p = none) (h : H' p = some (.lst xs)) (r : RA K (hid (p :: B) H') xs ds) (hκ : κ.one = true) : Post K B H0 H' κ (.ref p) (.list ds) := by
  have f : Post K B H0 H' .fr (.ref p) (.list ds) := ⟨[p], by simpa using hn, by simp, RO.l1 h r⟩
  cases κ with
  | br m => exact f.weak t
  | fr => exact f
  | fr2 => cases hκ
end
end DS
end

section
set_option Elab.async false
set_option linter.all false
set_option maxRecDepth 100000
/-! Part c: an expression's reading as a function on trees. -/
namespace DS
open PySem PySem.Spec PyProof.Rows L2

abbrev St := List (Option V)
abbrev PEnv := List (Option D)
abbrev FE := PEnv → Option D
abbrev FA := PEnv → Option (List D)
abbrev FT := PEnv → Option Bool
abbrev Esc := List (Nat × Nat)
def EscOk (es : Esc) (L : Nat → Nat) : Prop := ∀ p ∈ es, L p.1 ≤ p.2
theorem EscOk.zero {es : Esc} : EscOk es fun _ => 0 := fun _ _ => Nat.zero_le _
theorem EscOk.left {es es' : Esc} {L : Nat → Nat} (h : EscOk (es ++ es') L) : EscOk es L := fun p q => h p (List.mem_append_left _ q)
theorem EscOk.right {es es' : Esc} {L : Nat → Nat} (h : EscOk (es ++ es') L) : EscOk es' L := fun p q => h p (List.mem_append_right _ q)
theorem EscOk.nil {L : Nat → Nat} : EscOk [] L := fun _ q => by simp at q

structure Good (K : PySem.W.Frag) (B : List Addr) (L : Nat → Nat) (σ : St) (H : Hp) (ρ : PEnv) : Prop where
  ok : Ok B H
  len : σ.length = ρ.length
  slot : ∀ (i : Nat) (d : D), ρ[i]? = some (some d) → ∃ v, σ[i]? = some (some v) ∧ RL K B H (L i) v d
section
variable {K : PySem.W.Frag} {B : List Addr} {L : Nat → Nat} {σ : St} {H H' : Hp} {ρ : PEnv}
theorem Good.mono (g : Good K B L σ H ρ) (e : Same H H') : Good K B L σ H' ρ :=
  ⟨g.ok.mono e, g.len, fun i d h => let ⟨v, h1, h2⟩ := g.slot i d h; ⟨v, h1, h2.mono e (same_hid e)⟩⟩
theorem Good.zero (g : Good K B L σ H ρ) : Good K [] (fun _ => 0) σ H ρ :=
  ⟨Ok.nil, g.len, fun i d h => let ⟨v, h1, h2⟩ := g.slot i d h; ⟨v, h1, .z (by rw [hid_nil]; exact h2.open)⟩⟩
end
/-- the reading of an expression: what it gives is the tree f ρ -/
def tD (K : PySem.W.Frag) (κ : Mo) (f : FE) (es : Esc) : TE := fun σ H Q => ∃ B L ρ d, Good K B L σ H ρ ∧ EscOk es L ∧ f ρ = some d ∧ ∀ v H', Same H H' → Post K B H H' κ v d → Q v H'
def tDA (K : PySem.W.Frag) (m : Nat) (f : FA) (es : Esc) : TA := fun σ H Q => ∃ B L ρ ds, Good K B L σ H ρ ∧ EscOk es L ∧ f ρ = some ds ∧ ∀ vs H', Same H H' → vs.length = ds.length → (∀ (i : Nat) (x : V) (d : D), vs[i]? = some x → ds[i]? = some d → RL K B H' m x d) → Q vs H'
def tT (K : PySem.W.Frag) (f : FT) : TT := fun σ H Q => ∃ B L ρ b, Good K B L σ H ρ ∧ f ρ = some b ∧ ∀ H', Same H H' → Q b H'

theorem _root_.L2.PE.imp {X : Cx} {e : Expr} {t t' : TE} (h : PE X e t) (w : ∀ σ H Q, t' σ H Q → t σ H Q) : PE X e t' := ⟨fun pins s σ H Q I q => h.run pins s σ H Q I (w σ H Q q)⟩
theorem _root_.L2.PT.imp {X : Cx} {e : Expr} {t t' : TT} (h : PT X e t) (w : ∀ σ H Q, t' σ H Q → t σ H Q) : PT X e t' := ⟨fun pins s σ H Q I q => h.run pins s σ H Q I (w σ H Q q)⟩
theorem _root_.L2.PA.imp {X : Cx} {e : List Expr} {t t' : TA} (h : PA X e t) (w : ∀ σ H Q, t' σ H Q → t σ H Q) : PA X e t' := ⟨fun pos pins s σ H Q I q => h.run pos pins s σ H Q I (w σ H Q q)⟩
theorem _root_.L2.PW.imp {X : Cx} {e : Expr} {t t' : TT} (h : PW X e t) (w : ∀ σ H Q, t' σ H Q → t σ H Q) : PW X e t' := ⟨fun wh pins s σ H Q I q => h.run wh pins s σ H Q I (w σ H Q q)⟩
theorem _root_.L2.PI.imp {X : Cx} {tg it : Expr} {t t' : TI} (h : PI X tg it t) (w : ∀ σ H Q, t' σ H Q → t σ H Q) : PI X tg it t' := ⟨fun pins s σ H Q I q => h.run pins s σ H Q I (w σ H Q q)⟩
theorem _root_.L2.PS.imp {X : Cx} {e : Stmt} {t t' : TS} (h : PS X e t) (w : ∀ D σ H, t' D σ H → t D σ H) : PS X e t' := ⟨fun pins s σ H D I q => h.run pins s σ H D I (w D σ H q)⟩
theorem _root_.L2.PSs.imp {X : Cx} {e : List Stmt} {t t' : TS} (h : PSs X e t) (w : ∀ D σ H, t' D σ H → t D σ H) : PSs X e t' := ⟨fun pins s σ H D I q => h.run pins s σ H D I (w D σ H q)⟩

/-- bind of two -/
def o2 {α β γ : Type} (x : Option α) (y : Option β) (g : α → β → Option γ) : Option γ := match x with
  | none => none
  | some a => match y with
    | none => none
    | some b => g a b
def o1 {α γ : Type} (x : Option α) (g : α → Option γ) : Option γ := match x with
  | none => none
  | some a => g a
theorem o2_some {α β γ : Type} {x : Option α} {y : Option β} {g : α → β → Option γ} {c : γ} (h : o2 x y g = some c) : ∃ a b, x = some a ∧ y = some b ∧ g a b = some c := by
  unfold o2 at h
  split at h
  · cases h
  · split at h
    · cases h
    · exact ⟨_, _, rfl, rfl, h⟩
theorem o1_some {α γ : Type} {x : Option α} {g : α → Option γ} {c : γ} (h : o1 x g = some c) : ∃ a, x = some a ∧ g a = some c := by
  unfold o1 at h
  split at h
  · cases h
  · exact ⟨_, rfl, h⟩

/-! ### names and constants -/
def eVar (i : Nat) : FE := fun ρ => match ρ[i]? with
  | some (some d) => some d
  | _ => none
def eC (d : D) : FE := fun _ => some d
theorem eVar_some {i : Nat} {ρ : PEnv} {d : D} (h : eVar i ρ = some d) : ρ[i]? = some (some d) := by
  unfold eVar at h
  split at h
  · rename_i e; rw [e, Option.some.inj h]
  · cases h
section
variable {X : Cx} {K : PySem.W.Frag} {κ : Mo} {pos : Pos}
theorem qe_of {e : Expr} {i m : Nat} (h : PE X e (tVar i)) : PE X e (tD K (.br m) (eVar i) [(i, m)]) := h.imp fun σ H Q ⟨B, L, ρ, d, g, es, hf, q⟩ => by
  obtain ⟨v, h1, h2⟩ := g.slot i d (eVar_some hf)
  exact ⟨v, h1, q v H (Same.refl H) (h2.up (es (i, m) (by simp)))⟩
theorem qv (i : Nat) {m : Nat} {x : Str} {pos : Pos} (hN : X.N[i]? = some x := by rfl) (hv : Vis X.env.scope x := by first | exact Or.inl rfl | exact Or.inr (Or.inl rfl) | exact Or.inr (Or.inr rfl)) (hd : (x == ("__debug__" : Str)) = false := by decide)
    (hcd : (x == ("__classdict__" : Str)) = false := by decide) : PE X (.Name x pos) (tD K (.br m) (eVar i) [(i, m)]) := qe_of (pe_var hN hv hd hcd)
theorem qc {e : Expr} {v : V} {d : D} (h : PE X e (tC v)) (r : ∀ H, R K H v d) (f : isTop d = false) : PE X e (tD K κ (eC d) []) := h.imp fun σ H Q ⟨B, L, ρ, d', g, es, hf, q⟩ => by
  cases (show d = d' from Option.some.inj hf)
  exact q v H (Same.refl H) (Post.of_flat (r _) f)
theorem qint {i j pos} : PE X (.Constant (.int i) j pos) (tD K κ (eC (.int i)) []) := qc pe_int (fun _ => .int i) rfl
theorem qbl {i j pos} : PE X (.Constant (.bool i) j pos) (tD K κ (eC (.bool i)) []) := qc pe_bl (fun _ => .bl i) rfl
theorem qnon {j pos} : PE X (.Constant .none j pos) (tD K κ (eC .none) []) := qc pe_non (fun _ => .non) rfl
theorem qstr {i j pos} : PE X (.Constant (.str i) j pos) (tD K κ (eC (.str i)) []) := qc pe_str (fun _ => .str i) rfl
/-- read at a lesser freedom -/
theorem qup {e : Expr} {f : FE} {es : Esc} {m n : Nat} (h : PE X e (tD K (.br m) f es)) (hm : m ≤ n := by decide) : PE X e (tD K (.br n) f es) := h.imp fun σ H Q ⟨B, L, ρ, d, g, es, hf, q⟩ =>
  ⟨B, L, ρ, d, g, es, hf, fun v H' e p => q v H' e (RL.up p hm)⟩

/-! ### lists of arguments -/
def aNil : FA := fun _ => some []
def aCons (f : FE) (r : FA) : FA := fun ρ => o2 (f ρ) (r ρ) fun d ds => some (d :: ds)
theorem qa_nil {m : Nat} : PA X [] (tDA K m aNil []) := pa_nil.imp fun σ H Q ⟨B, L, ρ, ds, g, es, hf, q⟩ => by
  cases (show [] = ds from Option.some.inj hf)
  exact q [] H (Same.refl H) rfl fun i x d h => by simp at h
theorem qa_cons {m : Nat} {e : Expr} {es : List Expr} {f : FE} {fs : FA} {c c' : Esc} (h : PE X e (tD K (.br m) f c)) (t : PA X es (tDA K m fs c')) (hs : starEach (e :: es) X.env = (false, eval e X.env) :: starEach es X.env := by rfl) :
    PA X (e :: es) (tDA K m (aCons f fs) (c ++ c')) := (pa_cons h t hs).imp fun σ H Q ⟨B, L, ρ, ds, g, es, hf, q⟩ => by
  obtain ⟨d, ds', h1, h2, h3⟩ := o2_some hf
  cases (show d :: ds' = ds from Option.some.inj h3)
  refine ⟨B, L, ρ, d, g, es.left, h1, fun v H1 s1 p1 => ⟨B, L, ρ, ds', g.mono s1, es.right, h2, fun vs H2 s2 hl p2 => ?_⟩⟩
  refine q _ H2 (s1.trans s2) (by simp [hl]) fun i x y e1 e2 => ?_
  cases i with
  | zero =>
    simp at e1 e2
    subst e1 e2
    exact RL.mono s2 (same_hid s2) p1
  | succ i => exact p2 i x y (by simpa using e1) (by simpa using e2)
/-- a display: a tuple, a list -/
def sz : Nat := 16777216
theorem sz_eq : sizeLine = sz := sizeLine_eq
def eTup (fs : FA) : FE := fun ρ => o1 (fs ρ) fun ds => if ds.length ≤ sz then some (.tuple ds) else none
def eLst (fs : FA) : FE := fun ρ => o1 (fs ρ) fun ds => if ds.length ≤ sz then some (.list ds) else none
theorem ite_some {α : Type} {c : Prop} [Decidable c] {x y : α} (h : (if c then some x else none) = some y) : c ∧ x = y := by
  split at h
  · exact ⟨by assumption, Option.some.inj h⟩
  · cases h
theorem qe_tup {x1} {es : List Expr} {fs : FA} {c : Esc} (h : PA X es (tDA K 0 fs c)) : PE X (.Tuple es x1 pos) (tD K κ (eTup fs) c) := (pe_tup h).imp fun σ H Q ⟨B, L, ρ, d, g, es, hf, q⟩ => by
  obtain ⟨ds, h1, h2⟩ := o1_some hf
  obtain ⟨hc, e⟩ := ite_some h2
  subst e
  refine ⟨B, L, ρ, ds, g, es, h1, fun vs H1 s1 hl p1 => ⟨by rw [hl, sz_eq]; exact hc, fun p np => ?_⟩⟩
  have s2 : Same H1 (upd H1 p (.tup vs)) := same_upd np
  refine q _ _ (s1.trans s2) (Post.of_flat (.tup (a := p) (xs := vs) (.inl (.inl ?_)) (RA.of_get hl fun i x d e1 e2 => (p1 i x d e1 e2).r.mono (same_hid s2))) rfl)
  rw [hid_out ((g.ok.mono s1).trk.new np), upd_same]
theorem qe_lst {es : List Expr} {fs : FA} {c : Esc} (h : PA X es (tDA K 0 fs c)) (hκ : κ.one = true := by rfl) : PE X (.List es pos) (tD K κ (eLst fs) c) := (pe_lst h).imp fun σ H Q ⟨B, L, ρ, d, g, es, hf, q⟩ => by
  obtain ⟨ds, h1, h2⟩ := o1_some hf
  obtain ⟨hc, e⟩ := ite_some h2
  subst e
  refine ⟨B, L, ρ, ds, g, es, h1, fun vs H1 s1 hl p1 => ⟨by rw [hl, sz_eq]; exact hc, fun p np => ?_⟩⟩
  have s2 : Same H1 (upd H1 p (.lst vs)) := same_upd np
  refine q _ _ (s1.trans s2) (Post.new g.ok.trk (s1.free np) upd_same (RA.of_get hl fun i x d e1 e2 => (p1 i x d e1 e2).r.mono (same_hidW s2 fun a h => ?_)) hκ)
  rcases List.mem_cons.mp h with e | h
  · rw [e]; exact .inr np
  · exact .inl h

/-! ### operators -/
/-- an operator on values does what op does on trees -/
def OpD (K : PySem.W.Frag) (r : R2) (op : D → D → Option D) : Prop := ∀ (B : List Addr) (x y : V) (dx dy d : D) (H : Hp) (Q : VK), Ok B H → RL K B H 1 x dx → RL K B H 1 y dy → op dx dy = some d →
  (∀ v H', Same H H' → (∀ κ : Mo, κ.one = true → Post K B H H' κ v d) → Q v H') → r x y H Q
def eOp (op : D → D → Option D) (f g : FE) : FE := fun ρ => o2 (f ρ) (g ρ) op
theorem qe_op {o : Operator} {r : R2} {op : D → D → Option D} {a b : Expr} {fa fb : FE} {ca cb : Esc} (hr : OpR X (binaryOp o) r) (hd : OpD K r op) (ha : PE X a (tD K (.br 1) fa ca)) (hb : PE X b (tD K (.br 1) fb cb)) (hκ : κ.one = true := by rfl) :
    PE X (.BinOp a o b pos) (tD K κ (eOp op fa fb) (ca ++ cb)) := (pe_op hr ha hb).imp fun σ H Q ⟨B, L, ρ, d, g, es, hf, q⟩ => by
  obtain ⟨dx, dy, h1, h2, h3⟩ := o2_some hf
  refine ⟨B, L, ρ, dx, g, es.left, h1, fun x H1 s1 p1 => ⟨B, L, ρ, dy, g.mono s1, es.right, h2, fun y H2 s2 p2 => ?_⟩⟩
  refine hd B x y dx dy d H2 Q ((g.ok.mono s1).mono s2) (RL.mono s2 (same_hid s2) p1) p2 h3 fun v H3 s3 p3 => q v H3 ((s1.trans s2).trans s3) ?_
  have p := p3 κ hκ
  cases κ with
  | br m => exact p
  | fr =>
    obtain ⟨o, h1, h2, h3⟩ := p
    exact ⟨o, fun a z => (s1.trans s2).free (h1 a z), h2, h3⟩
  | fr2 => cases hκ
/-- ints to an int -/
theorem OpD.ii {C : Int → Int → Prop} {gV : Int → Int → Int} {op : D → D → Option D} (h : ∀ dx dy d, op dx dy = some d → ∃ i j, dx = .int i ∧ dy = .int j ∧ C i j ∧ d = .int (gV i j)) : OpD K (rI C fun i j => .int (gV i j)) op := by
  intro B x y dx dy d H Q hB rx ry ho q
  obtain ⟨i, j, rfl, rfl, c, rfl⟩ := h _ _ _ ho
  exact ⟨i, j, rx.int, ry.int, c, q _ H (Same.refl H) fun κ _ => Post.of_flat (.int _) rfl⟩
def dSub : D → D → Option D
  | .int i, .int j => some (.int (i - j))
  | _, _ => none
def mulOk (i j : Int) : Bool := decide (j.natAbs < 18446744073709551616) || decide (i.natAbs < 18446744073709551616) || decide (i.natAbs.log2 + j.natAbs.log2 < 1000000)
def fdivOk (j : Int) : Bool := decide (0 < j) && decide (j.natAbs.log2 < 9000)
def dFdiv : D → D → Option D
  | .int i, .int j => if fdivOk j = true then some (.int (i / j)) else none
  | _, _ => none
def dMod : D → D → Option D
  | .int i, .int j => if 0 < j then some (.int (i % j)) else none
  | _, _ => none
def powOk (i j : Int) : Bool := decide (0 ≤ j) && decide (j ≤ 1000000) && decide (i.natAbs < 18446744073709551616)
def dPow : D → D → Option D
  | .int i, .int j => if powOk i j = true then some (.int (i ^ j.toNat)) else none
  | _, _ => none
def dShl : D → D → Option D
  | .int i, .int j => if powOk i j = true then some (.int (i * 2 ^ j.toNat)) else none
  | _, _ => none
def dShr : D → D → Option D
  | .int i, .int j => if 0 ≤ j then some (.int (i / 2 ^ j.toNat)) else none
  | _, _ => none
end
theorem mulOk_ok {i j : Int} (h : mulOk i j = true) : IntMulOk i j := by
  unfold mulOk at h
  rw [Bool.or_eq_true, Bool.or_eq_true] at h
  rcases h with (h | h) | h
  · have h := of_decide_eq_true h
    exact .of_right (intBits_le_64 (by omega) (by omega))
  · have h := of_decide_eq_true h
    exact .of_left (intBits_le_64 (by omega) (by omega))
  · exact CMulW.ok (show i.natAbs.log2 + j.natAbs.log2 < 1000000 from of_decide_eq_true h)
theorem op_mulA {X : Cx} : OpR X (binaryOp .Mult) (rI (fun i j => mulOk i j = true) fun i j => .int (i * j)) := opI fun _ _ _ _ _ _ _ hc q => mul_int q (mulOk_ok hc)
theorem op_sub' {X : Cx} : OpR X (binaryOp .Sub) (rI (fun _ _ => True) fun i j => .int (i - j)) := opI fun _ _ _ _ _ _ _ _ q => sub_int q
theorem op_add' {X : Cx} : OpR X (binaryOp .Add) (rI (fun _ _ => True) fun i j => .int (i + j)) := opI fun _ _ _ _ _ _ _ _ q => add_int q
theorem op_fdivA {X : Cx} : OpR X (binaryOp .FloorDiv) (rI (fun _ j => fdivOk j = true) fun i j => .int (i / j)) := opI fun i j _ _ _ _ _ hc q => by
  unfold fdivOk at hc
  rw [Bool.and_eq_true] at hc
  have h1 := of_decide_eq_true hc.1
  exact floordiv_int (by omega) (by rw [Int.fdiv_eq_ediv_of_nonneg i (by omega)]; exact q) (.inl (PyProof.noPylong_of_log2 (of_decide_eq_true hc.2)))
section
variable {X : Cx} {K : PySem.W.Frag} {κ : Mo} {pos : Pos} {a b : Expr} {fa fb : FE} {ca cb : Esc}
theorem qe_sub (ha : PE X a (tD K (.br 1) fa ca)) (hb : PE X b (tD K (.br 1) fb cb)) (hκ : κ.one = true := by rfl) : PE X (.BinOp a .Sub b pos) (tD K κ (eOp dSub fa fb) (ca ++ cb)) :=
  qe_op op_sub' (OpD.ii fun dx dy d h => by
    unfold dSub at h
    split at h
    · exact ⟨_, _, rfl, rfl, trivial, (Option.some.inj h).symm⟩
    · cases h) ha hb hκ
theorem qe_fdiv (ha : PE X a (tD K (.br 1) fa ca)) (hb : PE X b (tD K (.br 1) fb cb)) (hκ : κ.one = true := by rfl) : PE X (.BinOp a .FloorDiv b pos) (tD K κ (eOp dFdiv fa fb) (ca ++ cb)) :=
  qe_op op_fdivA (OpD.ii fun dx dy d h => by
    unfold dFdiv at h
    split at h
    · obtain ⟨c, e⟩ := ite_some h
      exact ⟨_, _, rfl, rfl, c, e.symm⟩
    · cases h) ha hb hκ
theorem qe_mod (ha : PE X a (tD K (.br 1) fa ca)) (hb : PE X b (tD K (.br 1) fb cb)) (hκ : κ.one = true := by rfl) : PE X (.BinOp a .Mod b pos) (tD K κ (eOp dMod fa fb) (ca ++ cb)) :=
  qe_op op_mod (OpD.ii fun dx dy d h => by
    unfold dMod at h
    split at h
    · obtain ⟨c, e⟩ := ite_some h
      exact ⟨_, _, rfl, rfl, c, e.symm⟩
    · cases h) ha hb hκ
theorem powOk_ok {i j : Int} (h : powOk i j = true) : CPow i j := by
  unfold powOk at h
  rw [Bool.and_eq_true, Bool.and_eq_true] at h
  exact ⟨of_decide_eq_true h.1.1, of_decide_eq_true h.1.2, of_decide_eq_true h.2⟩
theorem qe_pow (ha : PE X a (tD K (.br 1) fa ca)) (hb : PE X b (tD K (.br 1) fb cb)) (hκ : κ.one = true := by rfl) : PE X (.BinOp a .Pow b pos) (tD K κ (eOp dPow fa fb) (ca ++ cb)) :=
  qe_op op_pow (OpD.ii fun dx dy d h => by
    unfold dPow at h
    split at h
    · obtain ⟨c, e⟩ := ite_some h
      exact ⟨_, _, rfl, rfl, powOk_ok c, e.symm⟩
    · cases h) ha hb hκ
theorem qe_shl (ha : PE X a (tD K (.br 1) fa ca)) (hb : PE X b (tD K (.br 1) fb cb)) (hκ : κ.one = true := by rfl) : PE X (.BinOp a .LShift b pos) (tD K κ (eOp dShl fa fb) (ca ++ cb)) :=
  qe_op op_shl (OpD.ii fun dx dy d h => by
    unfold dShl at h
    split at h
    · obtain ⟨c, e⟩ := ite_some h
      exact ⟨_, _, rfl, rfl, powOk_ok c, e.symm⟩
    · cases h) ha hb hκ
theorem qe_shr (ha : PE X a (tD K (.br 1) fa ca)) (hb : PE X b (tD K (.br 1) fb cb)) (hκ : κ.one = true := by rfl) : PE X (.BinOp a .RShift b pos) (tD K κ (eOp dShr fa fb) (ca ++ cb)) :=
  qe_op op_shr (OpD.ii fun dx dy d h => by
    unfold dShr at h
    split at h
    · obtain ⟨c, e⟩ := ite_some h
      exact ⟨_, _, rfl, rfl, c, e.symm⟩
    · cases h) ha hb hκ
/-! + : ints, tuples, lists -/
def dAdd : D → D → Option D
  | .int i, .int j => some (.int (i + j))
  | .tuple x, .tuple y => if x.length + y.length ≤ sz then some (.tuple (x ++ y)) else none
  | .list x, .list y => if x.length + y.length ≤ sz then some (.list (x ++ y)) else none
  | _, _ => none
theorem RL.list1' {B : List Addr} {H : Hp} {v : V} {ds : List D} (h : RL K B H 1 v (.list ds)) : ∃ a xs, v = .ref a ∧ H a = some (.lst xs) ∧ RA K (hid B H) xs ds := h.list1
theorem qe_add (ha : PE X a (tD K (.br 1) fa ca)) (hb : PE X b (tD K (.br 1) fb cb)) (hX : X.K = K := by rfl) (hκ : κ.one = true := by rfl) : PE X (.BinOp a .Add b pos) (tD K κ (eOp dAdd fa fb) (ca ++ cb)) := by
  subst hX
  refine qe_op (op_add'.or (op_catA.or op_cat)) ?_ ha hb hκ
  intro B x y dx dy d H Q hB rx ry ho q
  unfold dAdd at ho
  split at ho
  · exact .inl ⟨_, _, rx.int, ry.int, trivial, q _ H (Same.refl H) fun κ _ => by
      cases (Option.some.inj ho)
      exact Post.of_flat (.int _) rfl⟩
  · obtain ⟨c, rfl⟩ := ite_some ho
    obtain ⟨p, xs, rfl, h1, h1', h2⟩ := rx.tup
    obtain ⟨p', ys, rfl, h3, h3', h4⟩ := ry.tup
    refine .inr (.inl ⟨p, p', xs, ys, rfl, rfl, h1, h3, by rw [h2.length, h4.length, sz_eq]; exact c, fun e => ?_, fun _ e => ?_, fun _ _ t nt => ?_⟩)
    · subst e
      cases h2
      exact q _ H (Same.refl H) fun κ _ => Post.of_flat (.tup h3' h4) rfl
    · subst e
      cases h4
      rw [List.append_nil] at q
      exact q _ H (Same.refl H) fun κ _ => Post.of_flat (.tup h1' h2) rfl
    · have s := same_upd (o := HO.tup (xs ++ ys)) nt
      refine q _ _ s fun κ _ => Post.of_flat (.tup (a := t) (xs := xs ++ ys) (.inl (.inl ?_)) ((h2.append h4).mono (same_hid s))) rfl
      rw [hid_out (hB.trk.new nt), upd_same]
  · obtain ⟨c, rfl⟩ := ite_some ho
    obtain ⟨p, xs, rfl, h1, h2⟩ := rx.list1
    obtain ⟨p', ys, rfl, h3, h4⟩ := ry.list1
    refine .inr (.inr ⟨p, p', xs, ys, rfl, rfl, h1, h3, by rw [h2.length, h4.length, sz_eq]; exact c, fun t nt => ?_⟩)
    have s := same_upd (o := HO.lst (xs ++ ys)) nt
    refine q _ _ s fun κ hκ => Post.new hB.trk nt upd_same ((h2.append h4).mono (same_hidW s fun b hb => ?_)) hκ
    rcases List.mem_cons.mp hb with e | hb
    · rw [e]; exact .inr nt
    · exact .inl hb
  · cases ho
/-! * : ints, a list times an int -/
def dMul : D → D → Option D
  | .int i, .int j => if mulOk i j = true then some (.int (i * j)) else none
  | .list x, .int j => if x.length * j.toNat ≤ sz ∧ -9223372036854775808 ≤ j ∧ j < 9223372036854775808 then some (.list (List.replicate j.toNat x).flatten) else none
  | _, _ => none
theorem qe_mul (ha : PE X a (tD K (.br 1) fa ca)) (hb : PE X b (tD K (.br 1) fb cb)) (hκ : κ.one = true := by rfl) : PE X (.BinOp a .Mult b pos) (tD K κ (eOp dMul fa fb) (ca ++ cb)) := by
  refine qe_op (op_mulA.or op_rep) ?_ ha hb hκ
  intro B x y dx dy d H Q hB rx ry ho q
  unfold dMul at ho
  split at ho
  · obtain ⟨c, rfl⟩ := ite_some ho
    exact .inl ⟨_, _, rx.int, ry.int, c, q _ H (Same.refl H) fun κ _ => Post.of_flat (.int _) rfl⟩
  · rename_i x' j'
    obtain ⟨⟨c, c1, c2⟩, rfl⟩ := ite_some ho
    obtain ⟨p, xs, rfl, h1, h2⟩ := rx.list1
    refine .inr ⟨p, _, xs, rfl, ry.int, h1, by omega, by omega, by rw [h2.length, sz_eq]; exact c, fun t nt => ?_⟩
    have s := same_upd (o := HO.lst (List.replicate j'.toNat xs).flatten) nt
    refine q _ _ s fun κ hκ => Post.new hB.trk nt upd_same ((h2.rep _).mono (same_hidW s fun b hb => ?_)) hκ
    rcases List.mem_cons.mp hb with e | hb
    · rw [e]; exact .inr nt
    · exact .inl hb
  · cases ho
/-! one operand -/
def dNeg : D → Option D
  | .int i => some (.int (-i))
  | _ => none
def eUn (op : D → Option D) (f : FE) : FE := fun ρ => o1 (f ρ) op
theorem qe_neg (ha : PE X a (tD K (.br 1) fa ca)) : PE X (.UnaryOp .USub a pos) (tD K κ (eUn dNeg fa) []) := (pe_un un_neg ha).imp fun σ H Q ⟨B, L, ρ, d, g, es, hf, q⟩ => by
  obtain ⟨dx, h1, h2⟩ := o1_some hf
  unfold dNeg at h2
  split at h2
  · cases (Option.some.inj h2)
    exact ⟨[], _, ρ, _, g.zero, .zero, h1, fun x H1 s1 p1 => ⟨_, RL.int p1, q _ H1 s1 (Post.of_flat (.int _) rfl)⟩⟩
  · cases h2
end
end DS
end

section
set_option Elab.async false
set_option linter.all false
set_option maxRecDepth 100000
/-! Part d: comparisons, tests, subscripts, calls. -/
namespace DS
open PySem PySem.Spec PyProof.Rows L2

/-! ### comparisons -/
def OpC (K : PySem.W.Frag) (r : R2) (op : D → D → Option Bool) : Prop := ∀ (x y : V) (dx dy : D) (b : Bool) (H : Hp) (Q : VK), R K H x dx → R K H y dy → op dx dy = some b → Q (.bl b) H → r x y H Q
def tCmp (op : D → D → Option Bool) (f g : FE) : FT := fun ρ => o2 (f ρ) (g ρ) op
def eB (f : FT) : FE := fun ρ => o1 (f ρ) fun b => some (.bool b)
section
variable {X : Cx} {K : PySem.W.Frag} {κ : Mo} {pos : Pos} {a b : Expr} {fa fb : FE} {ca cb : Esc}
theorem RL.r0 {H : Hp} {m : Nat} {v : V} {d : D} (h : RL K [] H m v d) : R K H v d := h.open
theorem qe_cmp {op : CmpOp} {r : R2} {o : D → D → Option Bool} (hr : OpR X (compareOp op) r) (hd : OpC K r o) (ha : PE X a (tD K (.br 1) fa ca)) (hb : PE X b (tD K (.br 1) fb cb)) (hm : behindInMarks op b = false) :
    PE X (.Compare a [op] [b] pos) (tD K κ (eB (tCmp o fa fb)) []) := (pe_cmpR hr ha hb hm).imp fun σ H Q ⟨B, L, ρ, d, g, es, hf, q⟩ => by
  obtain ⟨k, h1, h2⟩ := o1_some hf
  cases (Option.some.inj h2)
  obtain ⟨dx, dy, h3, h4, h5⟩ := o2_some h1
  exact ⟨[], _, ρ, dx, g.zero, .zero, h3, fun x H1 s1 p1 => ⟨[], _, ρ, dy, (g.mono s1).zero, .zero, h4, fun y H2 s2 p2 =>
    hd x y dx dy k H2 Q ((RL.r0 p1).mono s2) (RL.r0 p2) h5 (q _ H2 (s1.trans s2) (Post.of_flat (.bl k) rfl))⟩⟩
theorem qt_cmp {op : CmpOp} {r : R2} {o : D → D → Option Bool} (hr : OpR X (compareOp op) r) (hd : OpC K r o) (ha : PE X a (tD K (.br 1) fa ca)) (hb : PE X b (tD K (.br 1) fb cb)) (hm : behindInMarks op b = false) :
    PT X (.Compare a [op] [b] pos) (tT K (tCmp o fa fb)) := (pt_cmpR hr ha hb hm).imp fun σ H Q ⟨B, L, ρ, k, g, hf, q⟩ => by
  obtain ⟨dx, dy, h3, h4, h5⟩ := o2_some hf
  exact ⟨[], _, ρ, dx, g.zero, .zero, h3, fun x H1 s1 p1 => ⟨[], _, ρ, dy, (g.mono s1).zero, .zero, h4, fun y H2 s2 p2 =>
    hd x y dx dy k H2 _ ((RL.r0 p1).mono s2) (RL.r0 p2) h5 ⟨k, rfl, q H2 (s1.trans s2)⟩⟩⟩
/-- a < b < c -/
def tChn (op op' : D → D → Option Bool) (f g h : FE) : FT := fun ρ => match o2 (f ρ) (g ρ) op with
  | none => none
  | some false => some false
  | some true => o2 (g ρ) (h ρ) op'
theorem qt_chain {op op' : CmpOp} {r r' : R2} {o o' : D → D → Option Bool} {c : Expr} {fc : FE} {cc : Esc} (hr : OpR X (compareOp op) r) (hd : OpC K r o) (hr' : OpR X (compareOp op') r') (hd' : OpC K r' o')
    (ha : PE X a (tD K (.br 1) fa ca)) (hb : PE X b (tD K (.br 1) fb cb)) (hc : PE X c (tD K (.br 1) fc cc)) (pt : PT X (.Compare a [op, op'] [b, c] pos) (tTest (tChain r r' (tD K (.br 1) fa ca) (tD K (.br 1) fb cb) (tD K (.br 1) fc cc)))) :
    PT X (.Compare a [op, op'] [b, c] pos) (tT K (tChn o o' fa fb fc)) := pt.imp fun σ H Q ⟨B, L, ρ, k, g, hf, q⟩ => by
  unfold tChn at hf
  split at hf
  · cases hf
  · rename_i h1
    obtain ⟨dx, dy, h3, h4, h5⟩ := o2_some h1
    refine ⟨[], _, ρ, dx, g.zero, .zero, h3, fun x H1 s1 p1 => ⟨[], _, ρ, dy, (g.mono s1).zero, .zero, h4, fun y H2 s2 p2 =>
      hd x y dx dy false H2 _ ((RL.r0 p1).mono s2) (RL.r0 p2) h5 ⟨false, rfl, ?_⟩⟩⟩
    rw [if_neg (by decide)]
    cases (Option.some.inj hf)
    exact ⟨_, rfl, q H2 (s1.trans s2)⟩
  · rename_i h1
    obtain ⟨dx, dy, h3, h4, h5⟩ := o2_some h1
    obtain ⟨dy', dz, h6, h7, h8⟩ := o2_some hf
    rw [h4] at h6
    cases (Option.some.inj h6)
    refine ⟨[], _, ρ, dx, g.zero, .zero, h3, fun x H1 s1 p1 => ⟨[], _, ρ, dy, (g.mono s1).zero, .zero, h4, fun y H2 s2 p2 =>
      hd x y dx dy true H2 _ ((RL.r0 p1).mono s2) (RL.r0 p2) h5 ⟨true, rfl, ?_⟩⟩⟩
    rw [if_pos rfl]
    exact ⟨[], _, ρ, dz, ((g.mono s1).mono s2).zero, .zero, h7, fun z H3 s3 p3 => hd' y z dy dz k H3 _ ((RL.r0 p2).mono s3) (RL.r0 p3) h8 ⟨k, rfl, q H3 ((s1.trans s2).trans s3)⟩⟩
/-! == of any trees without dicts -/
mutual
theorem R.toDp {H : Hp} : ∀ {v : V} {d : D}, R K H v d → d.canLay0 = true → Dp K H v d
  | _, _, .non, _ => .non
  | _, _, .bl b, _ => .bl b
  | _, _, .int i, _ => .int i
  | _, _, .str x, _ => .str x
  | _, _, .lst h a, f => .lst (SqL.of h) (RA.toDp a (by simpa [PyData.canLay0] using f))
  | _, _, .frz h a, f => by simp [PyData.canLay0] at f
  | _, _, .tup h a, f => .tup h (RA.toDp a (by simpa [PyData.canLay0] using f))
  | _, _, .dk h a, f => by simp [PyData.canLay0] at f
  | _, _, .dt h a, f => by simp [PyData.canLay0] at f
theorem RA.toDp {H : Hp} : ∀ {v : List V} {d : List D}, RA K H v d → PyData.canLayAll0 d = true → DpAll K H v d
  | _, _, .nil, _ => .nil
  | _, _, .cons h t, f => by
    have f' := f
    simp only [PyData.canLayAll0, Bool.and_eq_true] at f'
    exact .cons (R.toDp h f'.1) (RA.toDp t f'.2)
end
/-! the comparisons of ints, and of trees that are alike -/
def noneD : D → Bool
  | .none => true
  | _ => false
/-- both can be laid down, are alike, the first one isn't None, and not deep -/
def cmpOk (x y : D) : Bool := x.canLay0 && y.canLay0 && PySem.W.alike x y && !noneD x && decide (x.depth ≤ 60)
def rDat (K : PySem.W.Frag) (g : D → D → Bool) : R2 := fun x y H Q => ∃ d e, Dp K H x d ∧ Dp K H y e ∧ cmpOk d e = true ∧ Q (.bl (g d e)) H
theorem cmpOk_facts {x y : D} (h : cmpOk x y = true) : x.canLay0 = true ∧ y.canLay0 = true ∧ PySem.W.alike x y = true ∧ x ≠ .none ∧ x.depth ≤ 60 := by
  unfold cmpOk at h
  simp only [Bool.and_eq_true, decide_eq_true_eq] at h
  refine ⟨h.1.1.1.1, h.1.1.1.2, h.1.1.2, ?_, h.2⟩
  intro e
  rw [e] at h
  simp [noneD] at h
theorem cmp_room {A : Around} {x y : D} (hu : A.units + 64 < cLine) (h : x.depth ≤ 60) : A.units + min x.depth y.depth < cLine := by
  have := Nat.min_le_left x.depth y.depth
  omega
def dLt : D → D → Option Bool
  | .int i, .int j => some (decide (i < j))
  | x, y => if cmpOk x y = true then some (PySem.W.dataLt x y) else none
theorem op_ltA {X : Cx} (hu : X.A.units + 64 < cLine) : OpR X (compareOp .Lt) (fun x y H Q => rI0 (fun i j => .bl (decide (i < j))) x y H Q ∨ rDat X.K (fun d e => PySem.W.dataLt d e) x y H Q) := op_lt.or (by
  intro pins s σ H x y v u Q I rx ry h
  obtain ⟨d, e, hd, he, ok, q⟩ := h
  obtain ⟨as, r1⟩ := Dp.reads I d x v hd rx
  obtain ⟨bs, r2⟩ := Dp.reads I e y u he ry
  have f := cmpOk_facts ok
  exact PySem.W.lt_data r1 r2 f.2.2.1 f.2.2.2.1 (cmp_room hu f.2.2.2.2) ⟨.bl _, H, I, rfl, q⟩)
theorem oc_lt {K : PySem.W.Frag} : OpC K (fun x y H Q => rI0 (fun i j => .bl (decide (i < j))) x y H Q ∨ rDat K (fun d e => PySem.W.dataLt d e) x y H Q) dLt := by
  intro x y dx dy b H Q rx ry h q
  unfold dLt at h
  split at h
  · cases (Option.some.inj h); exact .inl ⟨_, _, rx.int', ry.int', q⟩
  · obtain ⟨hc, e⟩ := ite_some h
    subst e
    have f := cmpOk_facts hc
    exact .inr ⟨dx, dy, rx.toDp f.1, ry.toDp f.2.1, hc, q⟩
def dLe : D → D → Option Bool
  | .int i, .int j => some (decide (i ≤ j))
  | x, y => if cmpOk x y = true then some (!PySem.W.dataLt y x) else none
theorem op_leA {X : Cx} (hu : X.A.units + 64 < cLine) : OpR X (compareOp .LtE) (fun x y H Q => rI0 (fun i j => .bl (decide (i ≤ j))) x y H Q ∨ rDat X.K (fun d e => !PySem.W.dataLt e d) x y H Q) := op_le.or (by
  intro pins s σ H x y v u Q I rx ry h
  obtain ⟨d, e, hd, he, ok, q⟩ := h
  obtain ⟨as, r1⟩ := Dp.reads I d x v hd rx
  obtain ⟨bs, r2⟩ := Dp.reads I e y u he ry
  have f := cmpOk_facts ok
  exact PySem.W.le_data r1 r2 f.2.2.1 f.2.2.2.1 (cmp_room hu f.2.2.2.2) ⟨.bl _, H, I, rfl, q⟩)
theorem oc_le {K : PySem.W.Frag} : OpC K (fun x y H Q => rI0 (fun i j => .bl (decide (i ≤ j))) x y H Q ∨ rDat K (fun d e => !PySem.W.dataLt e d) x y H Q) dLe := by
  intro x y dx dy b H Q rx ry h q
  unfold dLe at h
  split at h
  · cases (Option.some.inj h); exact .inl ⟨_, _, rx.int', ry.int', q⟩
  · obtain ⟨hc, e⟩ := ite_some h
    subst e
    have f := cmpOk_facts hc
    exact .inr ⟨dx, dy, rx.toDp f.1, ry.toDp f.2.1, hc, q⟩
def dGt : D → D → Option Bool
  | .int i, .int j => some (decide (j < i))
  | x, y => if cmpOk x y = true then some (PySem.W.dataLt y x) else none
theorem op_gtA {X : Cx} (hu : X.A.units + 64 < cLine) : OpR X (compareOp .Gt) (fun x y H Q => rI0 (fun i j => .bl (decide (j < i))) x y H Q ∨ rDat X.K (fun d e => PySem.W.dataLt e d) x y H Q) := op_gt.or (by
  intro pins s σ H x y v u Q I rx ry h
  obtain ⟨d, e, hd, he, ok, q⟩ := h
  obtain ⟨as, r1⟩ := Dp.reads I d x v hd rx
  obtain ⟨bs, r2⟩ := Dp.reads I e y u he ry
  have f := cmpOk_facts ok
  exact PySem.W.gt_data r1 r2 f.2.2.1 f.2.2.2.1 (cmp_room hu f.2.2.2.2) ⟨.bl _, H, I, rfl, q⟩)
theorem oc_gt {K : PySem.W.Frag} : OpC K (fun x y H Q => rI0 (fun i j => .bl (decide (j < i))) x y H Q ∨ rDat K (fun d e => PySem.W.dataLt e d) x y H Q) dGt := by
  intro x y dx dy b H Q rx ry h q
  unfold dGt at h
  split at h
  · cases (Option.some.inj h); exact .inl ⟨_, _, rx.int', ry.int', q⟩
  · obtain ⟨hc, e⟩ := ite_some h
    subst e
    have f := cmpOk_facts hc
    exact .inr ⟨dx, dy, rx.toDp f.1, ry.toDp f.2.1, hc, q⟩
def dGe : D → D → Option Bool
  | .int i, .int j => some (decide (j ≤ i))
  | x, y => if cmpOk x y = true then some (!PySem.W.dataLt x y) else none
theorem op_geA {X : Cx} (hu : X.A.units + 64 < cLine) : OpR X (compareOp .GtE) (fun x y H Q => rI0 (fun i j => .bl (decide (j ≤ i))) x y H Q ∨ rDat X.K (fun d e => !PySem.W.dataLt d e) x y H Q) := op_ge.or (by
  intro pins s σ H x y v u Q I rx ry h
  obtain ⟨d, e, hd, he, ok, q⟩ := h
  obtain ⟨as, r1⟩ := Dp.reads I d x v hd rx
  obtain ⟨bs, r2⟩ := Dp.reads I e y u he ry
  have f := cmpOk_facts ok
  exact PySem.W.ge_data r1 r2 f.2.2.1 f.2.2.2.1 (cmp_room hu f.2.2.2.2) ⟨.bl _, H, I, rfl, q⟩)
theorem oc_ge {K : PySem.W.Frag} : OpC K (fun x y H Q => rI0 (fun i j => .bl (decide (j ≤ i))) x y H Q ∨ rDat K (fun d e => !PySem.W.dataLt d e) x y H Q) dGe := by
  intro x y dx dy b H Q rx ry h q
  unfold dGe at h
  split at h
  · cases (Option.some.inj h); exact .inl ⟨_, _, rx.int', ry.int', q⟩
  · obtain ⟨hc, e⟩ := ite_some h
    subst e
    have f := cmpOk_facts hc
    exact .inr ⟨dx, dy, rx.toDp f.1, ry.toDp f.2.1, hc, q⟩
def dEq (x y : D) : Option Bool := if (SeqAt.shaped x && SeqAt.shaped y) = true then some (PyData.eqv x y) else none
def dNe (x y : D) : Option Bool := if (SeqAt.shaped x && SeqAt.shaped y) = true then some (!PyData.eqv x y) else none
theorem oc_eq : OpC K (rEqD K) dEq := by
  intro x y dx dy b H Q rx ry h q
  obtain ⟨hc, e⟩ := ite_some h
  subst e
  rw [Bool.and_eq_true] at hc
  exact ⟨dx, dy, rx.toDp (SeqAt.canLay_of_shaped hc.1), ry.toDp (SeqAt.canLay_of_shaped hc.2), hc.1, hc.2, q⟩
theorem oc_ne : OpC K (rNeD K) dNe := by
  intro x y dx dy b H Q rx ry h q
  obtain ⟨hc, e⟩ := ite_some h
  subst e
  rw [Bool.and_eq_true] at hc
  exact ⟨dx, dy, rx.toDp (SeqAt.canLay_of_shaped hc.1), ry.toDp (SeqAt.canLay_of_shaped hc.2), hc.1, hc.2, q⟩
/-! is None -/
def isNon : D → Bool
  | .none => true
  | _ => false
def eIsN (f : FE) : FE := fun ρ => o1 (f ρ) fun d => some (.bool (isNon d))
def eNotN (f : FE) : FE := fun ρ => o1 (f ρ) fun d => some (.bool (!isNon d))
theorem R.isNon {H : Hp} {v : V} {d : D} (h : R K H v d) : decide (v = V.non) = DS.isNon d := by
  cases h <;> rfl
theorem qe_isN {j pos'} (ha : PE X a (tD K (.br 1) fa ca)) : PE X (.Compare a [.Is] [.Constant .none j pos'] pos) (tD K κ (eIsN fa) []) := (pe_cmp (pc_isN ha) rfl).imp fun σ H Q ⟨B, L, ρ, d, g, es, hf, q⟩ => by
  obtain ⟨k, h1, h2⟩ := o1_some hf
  cases (Option.some.inj h2)
  exact ⟨[], _, ρ, k, g.zero, .zero, h1, fun x H1 s1 p1 => show Q _ H1 from (RL.r0 p1).isNon ▸ q _ H1 s1 (Post.of_flat (.bl _) rfl)⟩
theorem qe_notN {j pos'} (ha : PE X a (tD K (.br 1) fa ca)) : PE X (.Compare a [.IsNot] [.Constant .none j pos'] pos) (tD K κ (eNotN fa) []) := (pe_cmp (pc_notN ha) rfl).imp fun σ H Q ⟨B, L, ρ, d, g, es, hf, q⟩ => by
  obtain ⟨k, h1, h2⟩ := o1_some hf
  cases (Option.some.inj h2)
  exact ⟨[], _, ρ, k, g.zero, .zero, h1, fun x H1 s1 p1 => show Q _ H1 from (RL.r0 p1).isNon ▸ q _ H1 s1 (Post.of_flat (.bl _) rfl)⟩
/-! is True, is False -/
/-! in: a list of any trees; a tuple of flat ones -/
def scal1 : D → Bool
  | .none => true
  | .bool _ => true
  | .int _ => true
  | .str _ => true
  | _ => false
def dIn : D → D → Option Bool
  | x, .list ds => if (SeqAt.shaped x && SeqAt.shaped (.list ds)) = true then some (ds.any fun z => PyData.eqv z x) else none
  | x, .tuple ds => if (scal1 x && ds.all scal1) = true then some (ds.any fun z => PyData.eqv z x) else none
  | _, _ => none
def dNotIn (x y : D) : Option Bool := o1 (dIn x y) fun b => some (!b)
theorem R.flatV {H : Hp} {v : V} {d : D} (h : R K H v d) (f : scal1 d = true) : L2.flatV v = true := by
  cases h <;> first | rfl | cases f
theorem RA.flatV {H : Hp} : ∀ {v : List V} {d : List D}, RA K H v d → d.all scal1 = true → v.all L2.flatV = true
  | _, _, .nil, _ => rfl
  | _, _, .cons h t, f => by
    rw [List.all_cons, Bool.and_eq_true] at f ⊢
    exact ⟨h.flatV f.1, RA.flatV t f.2⟩
theorem eqV_eqv {H : Hp} {v w : V} {d e : D} (h : R K H v d) (h' : R K H w e) (f : scal1 d = true) (f' : scal1 e = true) : eqV v w = PyData.eqv d e := by
  cases h <;> first | (cases f; done) | (cases h' <;> first | (cases f'; done) | rfl | simp [eqV, PyData.eqv])
theorem any_eqv {H : Hp} {w : V} {e : D} (h' : R K H w e) (f' : scal1 e = true) : ∀ {v : List V} {d : List D}, RA K H v d → d.all scal1 = true → (v.any fun y => eqV y w) = d.any fun z => PyData.eqv z e
  | _, _, .nil, _ => rfl
  | _, _, .cons h t, f => by
    rw [List.all_cons, Bool.and_eq_true] at f
    rw [List.any_cons, List.any_cons, any_eqv h' f' t f.2, eqV_eqv h h' f.1 f']
theorem oc_in : OpC K (fun x y H Q => rInD K x y H Q ∨ rIn K false x y H Q) dIn := by
  intro x y dx dy b H Q rx ry h q
  unfold dIn at h
  split at h
  · obtain ⟨hc, e⟩ := ite_some h
    subst e
    have hc := (Bool.and_eq_true _ _).mp hc
    exact .inl ⟨dx, _, rx.toDp (SeqAt.canLay_of_shaped hc.1), ry.toDp (SeqAt.canLay_of_shaped hc.2), hc.1, hc.2, q⟩
  · obtain ⟨hc, e⟩ := ite_some h
    subst e
    have hc := (Bool.and_eq_true _ _).mp hc
    cases ry with
    | tup h1 h2 =>
      refine .inr ⟨_, _, rfl, .inr h1, rx.flatV hc.1, h2.flatV hc.2, ?_⟩
      rw [if_neg (by decide)]
      unfold inV
      rw [any_eqv rx hc.1 h2 hc.2]
      exact q
  · cases h
theorem oc_notIn : OpC K (fun x y H Q => rNotInD K x y H Q ∨ rIn K true x y H Q) dNotIn := by
  intro x y dx dy b H Q rx ry h q
  obtain ⟨c, h', e⟩ := o1_some h
  clear h
  cases (Option.some.inj e)
  have h := h'
  unfold dIn at h
  split at h
  · obtain ⟨hc, e⟩ := ite_some h
    subst e
    have hc := (Bool.and_eq_true _ _).mp hc
    exact .inl ⟨dx, _, rx.toDp (SeqAt.canLay_of_shaped hc.1), ry.toDp (SeqAt.canLay_of_shaped hc.2), hc.1, hc.2, q⟩
  · obtain ⟨hc, e⟩ := ite_some h
    subst e
    have hc := (Bool.and_eq_true _ _).mp hc
    cases ry with
    | tup h1 h2 =>
      refine .inr ⟨_, _, rfl, .inr h1, rx.flatV hc.1, h2.flatV hc.2, ?_⟩
      rw [if_pos rfl]
      unfold inV
      rw [any_eqv rx hc.1 h2 hc.2]
      exact q
  · cases h
end

/-! ### truth, and, or, not -/
def dTru : D → Option Bool
  | .none => some false
  | .bool b => some b
  | .int i => some (i != 0)
  | .str y => if y.length ≤ sz then some ((y.length : Int) != 0) else none
  | .list ds => some !ds.isEmpty
  | .tuple ds => some !ds.isEmpty
  | .dict _ => none
def tTru (f : FE) : FT := fun ρ => o1 (f ρ) dTru
def tAndD (f g : FT) : FT := fun ρ => match f ρ with
  | none => none
  | some true => g ρ
  | some false => some false
def tOrD (f g : FT) : FT := fun ρ => match f ρ with
  | none => none
  | some true => some true
  | some false => g ρ
def tNotD (f : FT) : FT := fun ρ => o1 (f ρ) fun b => some !b
def eAndD (f g : FE) : FE := fun ρ => match f ρ with
  | none => none
  | some d => match dTru d with
    | none => none
    | some true => g ρ
    | some false => some d
def eOrD (f g : FE) : FE := fun ρ => match f ρ with
  | none => none
  | some d => match dTru d with
    | none => none
    | some true => some d
    | some false => g ρ
def eIfD (c : FT) (f g : FE) : FE := fun ρ => match c ρ with
  | none => none
  | some true => f ρ
  | some false => g ρ
section
variable {X : Cx} {K : PySem.W.Frag} {κ : Mo} {pos : Pos} {a b : Expr} {fa fb : FE} {ca cb : Esc} {f g : FT} {rest : List Expr}
theorem RA.isEmpty {H : Hp} {v : List V} {d : List D} (h : RA K H v d) : (!v.isEmpty) = !d.isEmpty := by
  cases h <;> rfl
theorem tru_of {H : Hp} {v : V} {d : D} {k : Bool} (h : R K H v d) (e : dTru d = some k) : TruV K v H k := by
  cases h with
  | non => exact (Option.some.inj e).symm
  | bl b => exact (Option.some.inj e).symm
  | int i => exact (Option.some.inj e).symm
  | str x =>
    obtain ⟨h1, h2⟩ := ite_some e
    exact ⟨by rw [sz_eq]; exact h1, h2.symm⟩
  | lst h1 h2 => exact .inl ⟨_, SqL.of h1, by rw [h2.isEmpty]; exact (Option.some.inj e).symm⟩
  | tup h1 h2 => exact .inr (.inl ⟨_, h1, by rw [h2.isEmpty]; exact (Option.some.inj e).symm⟩)
  | frz _ _ => cases e
  | dk _ _ => cases e
  | dt _ _ => cases e
theorem qt_tru (ha : PE X a (tD K (.br 1) fa ca)) (he : ∀ whole, isTrue a X.env whole = (do let v ← whole; standAt a.pos; holding [v] (truthy v))) (hX : X.K = K := by rfl) : PT X a (tT K (tTru fa)) := (pt_truth ha he).imp fun σ H Q ⟨B, L, ρ, k, g, hf, q⟩ => by
  subst hX
  obtain ⟨d, h1, h2⟩ := o1_some hf
  exact ⟨[], _, ρ, d, g.zero, .zero, h1, fun x H1 s1 p1 => ⟨k, tru_of (RL.r0 p1) h2, q H1 s1⟩⟩
/-- a bool's own test -/
def dBl : D → Option Bool
  | .bool b => some b
  | _ => none
theorem qt_not (h : PT X a (tT K f)) : PT X (.UnaryOp .Not a pos) (tT K (tNotD f)) := (pt_not h).imp fun σ H Q ⟨B, L, ρ, k, g, hf, q⟩ => by
  obtain ⟨c, h1, h2⟩ := o1_some hf
  cases (Option.some.inj h2)
  exact ⟨B, L, ρ, c, g, h1, fun H1 s1 => q H1 s1⟩
theorem qw_and1 (ha : PT X a (tT K f)) : PW X (.BoolOp .And [a] pos) (tT K f) := pw_and1 ha
theorem qw_or1 (ha : PT X a (tT K f)) : PW X (.BoolOp .Or [a] pos) (tT K f) := pw_or1 ha
theorem qw_and (ha : PT X a (tT K f)) (hb : PW X (.BoolOp .And (b :: rest) pos) (tT K g)) : PW X (.BoolOp .And (a :: b :: rest) pos) (tT K (tAndD f g)) := (pw_and ha hb).imp fun σ H Q ⟨B, L, ρ, k, gd, hf, q⟩ => by
  unfold tAndD at hf
  split at hf
  · cases hf
  · exact ⟨B, L, ρ, true, gd, by assumption, fun H1 s1 => iteT <| ⟨B, L, ρ, k, gd.mono s1, hf, fun H2 s2 => q H2 (s1.trans s2)⟩⟩
  · cases (Option.some.inj hf)
    exact ⟨B, L, ρ, false, gd, by assumption, fun H1 s1 => iteF <| q H1 s1⟩
theorem qw_or (ha : PT X a (tT K f)) (hb : PW X (.BoolOp .Or (b :: rest) pos) (tT K g)) : PW X (.BoolOp .Or (a :: b :: rest) pos) (tT K (tOrD f g)) := (pw_or ha hb).imp fun σ H Q ⟨B, L, ρ, k, gd, hf, q⟩ => by
  unfold tOrD at hf
  split at hf
  · cases hf
  · cases (Option.some.inj hf)
    exact ⟨B, L, ρ, true, gd, by assumption, fun H1 s1 => iteT <| q H1 s1⟩
  · exact ⟨B, L, ρ, false, gd, by assumption, fun H1 s1 => iteF <| ⟨B, L, ρ, k, gd.mono s1, hf, fun H2 s2 => q H2 (s1.trans s2)⟩⟩
theorem qe_if {c : Expr} (hc : PT X c (tT K f)) (ha : PE X a (tD K κ fa ca)) (hb : PE X b (tD K κ fb cb)) : PE X (.IfExp c a b pos) (tD K κ (eIfD f fa fb) (ca ++ cb)) := (pe_ifExp hc ha hb).imp fun σ H Q ⟨B, L, ρ, d, g, es, hf, q⟩ => by
  have fr : ∀ {H1 H' : Hp} {v : V}, Same H H1 → Post K B H1 H' κ v d → Post K B H H' κ v d := fun {H1 H' v} s p => by
    cases κ with
    | br m => exact p
    | fr =>
      obtain ⟨o, h1, h2, h3⟩ := p
      exact ⟨o, fun a z => s.free (h1 a z), h2, h3⟩
    | fr2 =>
      obtain ⟨o, h1, h2, h3⟩ := p
      exact ⟨o, fun a z => s.free (h1 a z), h2, h3⟩
  unfold eIfD at hf
  split at hf
  · cases hf
  · exact ⟨B, L, ρ, true, g, by assumption, fun H1 s1 => iteT <| ⟨B, L, ρ, d, g.mono s1, es.left, hf, fun v H2 s2 p => q v H2 (s1.trans s2) (fr s1 p)⟩⟩
  · exact ⟨B, L, ρ, false, g, by assumption, fun H1 s1 => iteF <| ⟨B, L, ρ, d, g.mono s1, es.right, hf, fun v H2 s2 p => q v H2 (s1.trans s2) (fr s1 p)⟩⟩
/-- as values: read at any freedom -/
theorem qe_one {op} {m : Nat} (h : PE X a (tD K (.br m) fa ca)) : PE X (.BoolOp op [a] pos) (tD K (.br m) fa ca) := pe_one h
theorem qe_and {m : Nat} (ha : PE X a (tD K (.br m) fa ca)) (hb : PE X (.BoolOp .And (b :: rest) pos) (tD K (.br m) fb cb)) (hX : X.K = K := by rfl) : PE X (.BoolOp .And (a :: b :: rest) pos) (tD K (.br m) (eAndD fa fb) (ca ++ cb)) :=
  (pe_andT ha hb).imp fun σ H Q ⟨B, L, ρ, d, g, es, hf, q⟩ => by
  subst hX
  unfold eAndD at hf
  split at hf
  · cases hf
  · rename_i d' h1
    split at hf
    · cases hf
    · rename_i h2
      exact ⟨B, L, ρ, _, g, es.left, h1, fun x H1 s1 p1 => ⟨true, tru_of (RL.open p1) h2, iteT <| ⟨B, L, ρ, d, g.mono s1, es.right, hf, fun v H2 s2 p => q v H2 (s1.trans s2) p⟩⟩⟩
    · rename_i h2
      cases (Option.some.inj hf)
      exact ⟨B, L, ρ, _, g, es.left, h1, fun x H1 s1 p1 => ⟨false, tru_of (RL.open p1) h2, iteF <| q x H1 s1 p1⟩⟩
theorem qe_or {m : Nat} (ha : PE X a (tD K (.br m) fa ca)) (hb : PE X (.BoolOp .Or (b :: rest) pos) (tD K (.br m) fb cb)) (hX : X.K = K := by rfl) : PE X (.BoolOp .Or (a :: b :: rest) pos) (tD K (.br m) (eOrD fa fb) (ca ++ cb)) :=
  (pe_orT ha hb).imp fun σ H Q ⟨B, L, ρ, d, g, es, hf, q⟩ => by
  subst hX
  unfold eOrD at hf
  split at hf
  · cases hf
  · rename_i d' h1
    split at hf
    · cases hf
    · rename_i h2
      cases (Option.some.inj hf)
      exact ⟨B, L, ρ, _, g, es.left, h1, fun x H1 s1 p1 => ⟨true, tru_of (RL.open p1) h2, iteT <| q x H1 s1 p1⟩⟩
    · rename_i h2
      exact ⟨B, L, ρ, _, g, es.left, h1, fun x H1 s1 p1 => ⟨false, tru_of (RL.open p1) h2, iteF <| ⟨B, L, ρ, d, g.mono s1, es.right, hf, fun v H2 s2 p => q v H2 (s1.trans s2) p⟩⟩⟩
theorem qe_not (ha : PE X a (tD K (.br 1) fa ca)) (hX : X.K = K := by rfl) : PE X (.UnaryOp .Not a pos) (tD K κ (eB (tNotD (tTru fa))) []) := (pe_notT ha).imp fun σ H Q ⟨B, L, ρ, d, g, es, hf, q⟩ => by
  subst hX
  obtain ⟨k, h1, h2⟩ := o1_some hf
  cases (Option.some.inj h2)
  obtain ⟨c, h3, h4⟩ := o1_some h1
  cases (Option.some.inj h4)
  obtain ⟨e, h5, h6⟩ := o1_some h3
  exact ⟨[], _, ρ, e, g.zero, .zero, h5, fun x H1 s1 p1 => ⟨c, tru_of (RL.r0 p1) h6, q _ H1 s1 (Post.of_flat (.bl _) rfl)⟩⟩
end

/-! ### subscripts -/
def dIx : D → D → Option D
  | .list ds, .int i => atI ds i
  | .tuple ds, .int i => atI ds i
  | .dict ((.none, .list ds) :: _), .int i => atI ds i
  | _, _ => none
def eIx (f g : FE) : FE := fun ρ => o2 (f ρ) (g ρ) dIx
section
variable {X : Cx} {K : PySem.W.Frag} {κ : Mo} {pos : Pos} {a b : Expr} {fa fb : FE} {ca cb : Esc}
theorem at_len {xs : List V} {ds : List D} {i : Int} {d : D} (hl : xs.length = ds.length) (h : atI ds i = some d) : ∃ (j : Nat) (x : V), atI xs i = some x ∧ xs[j]? = some x ∧ ds[j]? = some d := by
  unfold atI at h
  obtain ⟨j, h1, h2⟩ := Option.bind_eq_some_iff.mp h
  obtain ⟨hj, _⟩ := List.getElem?_eq_some_iff.mp h2
  have hj' : j < xs.length := by omega
  refine ⟨j, xs[j], ?_, List.getElem?_eq_getElem hj', h2⟩
  unfold atI
  rw [hl, h1]
  exact List.getElem?_eq_getElem hj'
theorem RK.key {H : Hp} {kvs : List (Key × V)} {k e : D} {r : List (D × D)} (h : RK K H kvs ((k, e) :: r)) : k ≠ .none := by
  cases h with
  | cons _ _ =>
    rename_i k _ _ _ _
    cases k <;> simp [keyD]
theorem RT.key {H : Hp} {kvs : List (List Key × V)} {k e : D} {r : List (D × D)} (h : RT K H kvs ((k, e) :: r)) : k ≠ .none := by
  cases h with
  | cons _ _ => simp
theorem RL.frz {B : List Addr} {H : Hp} {m : Nat} {v : V} {e : D} {r : List (D × D)} (h : RL K B H m v (.dict ((.none, e) :: r))) : ∃ a xs ds, v = .ref a ∧ e = .list ds ∧ SqL K H a xs ∧ RA K (hid B H) xs ds := by
  generalize hd : PyData.dict ((PyData.none, e) :: r) = d at h
  cases h with
  | z h =>
    cases h with
    | frz h1 h2 =>
      simp at hd
      exact ⟨_, _, _, rfl, hd.1, (same_unhid (B := B)).seq h1, h2⟩
    | dk _ h2 =>
      cases hd
      exact absurd rfl h2.key
    | dt _ h2 =>
      cases hd
      exact absurd rfl h2.key
    | _ => cases hd
  | l => cases hd
  | dk _ h2 =>
    cases hd
    exact absurd rfl h2.key
  | dt _ h2 =>
    cases hd
    exact absurd rfl h2.key
theorem qe_ix {m : Nat} (ha : PE X a (tD K (.br (m + 1)) fa ca)) (hb : PE X b (tD K (.br 1) fb cb)) (hs : PlainIx b) (hX : X.K = K := by rfl) : PE X (.Subscript a b pos) (tD K (.br m) (eIx fa fb) ca) := (pe_ix ix_seq ha hb hs).imp fun σ H Q ⟨B, L, ρ, d, g, es, hf, q⟩ => by
  subst hX
  obtain ⟨dx, dy, h1, h2, h3⟩ := o2_some hf
  refine ⟨B, L, ρ, dx, g, es, h1, fun x H1 s1 p1 => ⟨[], _, ρ, dy, (g.mono s1).zero, .zero, h2, fun y H2 s2 p2 => ?_⟩⟩
  have p1 : RL X.K B H2 (m + 1) x dx := RL.mono s2 (same_hid s2) p1
  unfold dIx at h3
  split at h3
  · obtain ⟨p, xs, rfl, e1, e2, e3⟩ := p1.list
    obtain ⟨j, z, f1, f2, f3⟩ := at_len e2 h3
    exact .inl ⟨p, xs, _, z, rfl, RL.int p2, SqL.of e1, f1, q z H2 (s1.trans s2) (e3 j z d f2 f3)⟩
  · obtain ⟨p, xs, rfl, e1, _, e3⟩ := p1.tup
    obtain ⟨j, z, f1, f2, f3⟩ := at_len e3.length h3
    obtain ⟨z', f4, f5⟩ := e3.get f3
    rw [f2] at f4; cases f4
    exact .inr (.inl ⟨p, xs, _, z, rfl, RL.int p2, e1, f1, q z H2 (s1.trans s2) (.z f5)⟩)
  · rename_i ds r i
    obtain ⟨p, xs, ds', rfl, e0, e1, e3⟩ := p1.frz
    cases e0
    obtain ⟨j, z, f1, f2, f3⟩ := at_len e3.length h3
    obtain ⟨z', f4, f5⟩ := e3.get f3
    rw [f2] at f4; cases f4
    exact .inl ⟨_, _, _, z, rfl, RL.int p2, e1, f1, q z H2 (s1.trans s2) (.z f5)⟩
  · cases h3
end
end DS
end

section
set_option Elab.async false
set_option linter.all false
set_option maxRecDepth 100000
/-! Part e: calls. -/
namespace DS
open PySem PySem.Spec PyProof.Rows L2

/-! ### a def of the program as a function on trees -/
abbrev Fn := List D → Option D
def spD (K : PySem.W.Frag) (n : Nat) (F : Fn) : Sp := fun vs H Q _ => ∃ B ds d, Ok B H ∧ RA K (hid B H) vs ds ∧ ds.length = n ∧ F ds = some d ∧ ∀ v H', Same H H' → R K (hid B H') v d → Q v H'
theorem spD_len {K : PySem.W.Frag} {n : Nat} {F : Fn} : ∀ vs H Q E, spD K n F vs H Q E → vs.length = n := fun vs H Q E ⟨B, ds, d, _, h2, h3, _⟩ => by
  rw [h2.length, h3]
def eCall (n : Nat) (F : Fn) (fs : FA) : FE := fun ρ => o1 (fs ρ) fun ds => if ds.length = n then F ds else none
section
variable {X : Cx} {K : PySem.W.Frag} {κ : Mo} {p pos : Pos} {e : Expr} {es : List Expr} {fs : FA} {c : Esc} {k n m : Nat} {f : Addr} {fd : FuncData} {ps : List Str} {F : Fn} {x : Str}
theorem qe_call (G : FnOk X.prog X.w X.K X.mg X.base CX0 k f fd ps (spD K n F)) (hr : Room k X.A) (hg : Gl X x) (hm : X.mg x = some (.ref f)) (hk : PySem.W.keepIn X.K (.ref f) = true) (hb : Binds X.K fd ps [])
    (ha : PA X (e :: es) (tDA K 0 fs c)) (hdb : (x == ("__debug__" : Str)) = false := by decide) (he : starEach (e :: es) X.env = (false, eval e X.env) :: starEach es X.env := by rfl) (hpl : (backTo pos (starEach es X.env)).any (·.1) = false := by rfl) :
    PE X (.Call (.Name x p) (e :: es) [] pos) (tD K (.br m) (eCall n F fs) c) := (pe_call (E := E0) G hr hg hm hk hb .nil pass0 ha hdb he hpl).imp fun σ H Q ⟨B, L, ρ, d, g, es, hf, q⟩ => by
  obtain ⟨ds, h1, h2⟩ := o1_some hf
  have hn : ds.length = n := by
    split at h2
    · assumption
    · cases h2
  rw [if_pos hn] at h2
  refine ⟨B, L, ρ, ds, g, es, h1, fun vs H1 s1 hl p1 => ?_⟩
  show spD K n F (vs ++ []) H1 Q E0
  rw [List.append_nil]
  exact ⟨B, ds, d, g.ok.mono s1, RA.of_get hl fun i x y e1 e2 => (p1 i x y e1 e2).r, hn, h2, fun v H' s2 r => q v H' (s1.trans s2) (.z r)⟩
end

/-! ### built-ins -/
/-- a built-in on values does what op does on trees; the answer is flat -/
def CallF (K : PySem.W.Frag) (r : List V → Hp → VK → Prop) (op : List D → Option D) : Prop := ∀ (vs : List V) (ds : List D) (d : D) (H : Hp) (Q : VK), RA K H vs ds → op ds = some d → (∀ v, R K H v d → flat d = true → Q v H) → r vs H Q
/-- .. makes something new -/
def CallD (K : PySem.W.Frag) (r : List V → Hp → VK → Prop) (op : List D → Option D) : Prop := ∀ (B : List Addr) (vs : List V) (ds : List D) (d : D) (H : Hp) (Q : VK), Ok B H → vs.length = ds.length → (∀ (i : Nat) (x : V) (y : D), vs[i]? = some x → ds[i]? = some y → RL K B H 1 x y) → op ds = some d →
  (∀ v H', Same H H' → (∀ κ : Mo, κ.one = true → Post K B H H' κ v d) → Q v H') → r vs H Q
def eCB (op : List D → Option D) (fs : FA) : FE := fun ρ => o1 (fs ρ) op
section
variable {X : Cx} {K : PySem.W.Frag} {κ : Mo} {p pos : Pos} {e : Expr} {es : List Expr} {fs : FA} {c : Esc} {x : Str} {id T : String} {r : List V → Hp → VK → Prop} {op : List D → Option D}
theorem flat_top {d : D} (h : flat d = true) : isTop d = false := by
  cases d <;> first | rfl | cases h
theorem cbF (hd : CallF K r op) {t : TE} (ht : t = tCB r (tDA K 1 fs c)) : ∀ σ H Q, tD K κ (eCB op fs) [] σ H Q → t σ H Q := by
  subst ht
  intro σ H Q ⟨B, L, ρ, d, g, es, hf, q⟩
  obtain ⟨ds, h1, h2⟩ := o1_some hf
  exact ⟨[], _, ρ, ds, g.zero, .zero, h1, fun vs H1 s1 hl p1 => hd vs ds d H1 Q (RA.of_get hl fun i x y e1 e2 => RL.r0 (p1 i x y e1 e2)) h2 fun v rv fl => q v H1 s1 (Post.of_flat (rv.hidF (g.ok.mono s1).noTup fl) (flat_top fl))⟩
theorem cbD (hd : CallD K r op) (hκ : κ.one = true) {t : TE} (ht : t = tCB r (tDA K 1 fs c)) : ∀ σ H Q, tD K κ (eCB op fs) c σ H Q → t σ H Q := by
  subst ht
  intro σ H Q ⟨B, L, ρ, d, g, es, hf, q⟩
  obtain ⟨ds, h1, h2⟩ := o1_some hf
  refine ⟨B, L, ρ, ds, g, es, h1, fun vs H1 s1 hl p1 => hd B vs ds d H1 Q (g.ok.mono s1) hl p1 h2 fun v H' s2 p2 => q v H' (s1.trans s2) ?_⟩
  have p := p2 κ hκ
  cases κ with
  | br m => exact p
  | fr =>
    obtain ⟨o, h1, h2, h3⟩ := p
    exact ⟨o, fun a z => s1.free (h1 a z), h2, h3⟩
  | fr2 => cases hκ
theorem qe_bF (hc : CallR X (.builtin id) r) (hd : CallF K r op) (hg : Gl X x) (hm : X.mg x = none) (hv : bootBuiltins x = some (.builtin id)) (ha : PA X (e :: es) (tDA K 1 fs c)) (hn : x ≠ "__name__" := by decide) (hdb : (x == ("__debug__" : Str)) = false := by decide)
    (he : starEach (e :: es) X.env = (false, eval e X.env) :: starEach es X.env := by rfl) (hpl : (backTo pos (starEach es X.env)).any (·.1) = false := by rfl) : PE X (.Call (.Name x p) (e :: es) [] pos) (tD K κ (eCB op fs) []) :=
  (pe_callB hc hg hm hv ha hn hdb he hpl).imp (cbF hd rfl)
theorem qe_bD (hc : CallR X (.builtin id) r) (hd : CallD K r op) (hg : Gl X x) (hm : X.mg x = none) (hv : bootBuiltins x = some (.builtin id)) (ha : PA X (e :: es) (tDA K 1 fs c)) (hκ : κ.one = true := by rfl) (hn : x ≠ "__name__" := by decide) (hdb : (x == ("__debug__" : Str)) = false := by decide)
    (he : starEach (e :: es) X.env = (false, eval e X.env) :: starEach es X.env := by rfl) (hpl : (backTo pos (starEach es X.env)).any (·.1) = false := by rfl) : PE X (.Call (.Name x p) (e :: es) [] pos) (tD K κ (eCB op fs) c) :=
  (pe_callB hc hg hm hv ha hn hdb he hpl).imp (cbD hd hκ rfl)
theorem qe_tF (hc : CallR X (.type T) r) (hd : CallF K r op) (hg : Gl X x) (hm : X.mg x = none) (hv : bootBuiltins x = some (.type T)) (ha : PA X (e :: es) (tDA K 1 fs c)) (hn : x ≠ "__name__" := by decide) (hdb : (x == ("__debug__" : Str)) = false := by decide)
    (he : starEach (e :: es) X.env = (false, eval e X.env) :: starEach es X.env := by rfl) (hpl : (backTo pos (starEach es X.env)).any (·.1) = false := by rfl) : PE X (.Call (.Name x p) (e :: es) [] pos) (tD K κ (eCB op fs) []) :=
  (pe_callTy hc hg hm hv ha hn hdb he hpl).imp (cbF hd rfl)
theorem qe_tD (hc : CallR X (.type T) r) (hd : CallD K r op) (hg : Gl X x) (hm : X.mg x = none) (hv : bootBuiltins x = some (.type T)) (ha : PA X (e :: es) (tDA K 1 fs c)) (hκ : κ.one = true := by rfl) (hn : x ≠ "__name__" := by decide) (hdb : (x == ("__debug__" : Str)) = false := by decide)
    (he : starEach (e :: es) X.env = (false, eval e X.env) :: starEach es X.env := by rfl) (hpl : (backTo pos (starEach es X.env)).any (·.1) = false := by rfl) : PE X (.Call (.Name x p) (e :: es) [] pos) (tD K κ (eCB op fs) c) :=
  (pe_callTy hc hg hm hv ha hn hdb he hpl).imp (cbD hd hκ rfl)
end
/-! one argument -/
def d1 (op : D → Option D) : List D → Option D
  | [x] => op x
  | _ => none
def d2 (op : D → D → Option D) : List D → Option D
  | [x, y] => op x y
  | _ => none
theorem d1_some {op : D → Option D} {ds : List D} {d : D} (h : d1 op ds = some d) : ∃ x, ds = [x] ∧ op x = some d := by
  unfold d1 at h
  split at h
  · exact ⟨_, rfl, h⟩
  · cases h
theorem d2_some {op : D → D → Option D} {ds : List D} {d : D} (h : d2 op ds = some d) : ∃ x y, ds = [x, y] ∧ op x y = some d := by
  unfold d2 at h
  split at h
  · exact ⟨_, _, rfl, h⟩
  · cases h
section
variable {K : PySem.W.Frag} {H : Hp} {B : List Addr}
theorem RA.one {vs : List V} {x : D} (h : RA K H vs [x]) : ∃ v, vs = [v] ∧ R K H v x := by
  cases h with
  | cons h t => cases t; exact ⟨_, rfl, h⟩
theorem RA.two {vs : List V} {x y : D} (h : RA K H vs [x, y]) : ∃ v w, vs = [v, w] ∧ R K H v x ∧ R K H w y := by
  cases h with
  | cons h t =>
    cases t with
    | cons h' t => cases t; exact ⟨_, _, rfl, h, h'⟩
theorem one_of {vs : List V} {x : D} (hl : vs.length = [x].length) (h : ∀ (i : Nat) (v : V) (y : D), vs[i]? = some v → [x][i]? = some y → RL K B H 1 v y) : ∃ v, vs = [v] ∧ RL K B H 1 v x := by
  match vs, hl with
  | [v], _ => exact ⟨v, rfl, h 0 v x rfl rfl⟩
/-! len, int, abs, min, max, sum, all, any -/
def dLen : D → Option D
  | .list ds => some (.int ds.length)
  | .tuple ds => some (.int ds.length)
  | .dict ((.none, .list ds) :: _) => some (.int ds.length)
  | _ => none
theorem cf_len : CallF K (fun xs H Q => ∃ p ys, xs = [.ref p] ∧ (SqL K H p ys ∨ SqT K H p ys) ∧ Q (.int ys.length) H) (d1 dLen) := by
  intro vs ds d H Q r h q
  obtain ⟨x, rfl, h'⟩ := d1_some h
  clear h
  have h := h'
  clear h'
  obtain ⟨v, rfl, rv⟩ := r.one
  unfold dLen at h
  split at h
  · cases rv with
    | lst h1 h2 =>
      cases (Option.some.inj h)
      exact ⟨_, _, rfl, .inl (SqL.of h1), by rw [h2.length]; exact q _ (.int _) rfl⟩
  · cases rv with
    | tup h1 h2 =>
      cases (Option.some.inj h)
      exact ⟨_, _, rfl, .inr h1, by rw [h2.length]; exact q _ (.int _) rfl⟩
  · obtain ⟨a, xs, ds, rfl, e, h1, h2⟩ := RL.frz (B := []) (m := 0) (.z (by rw [hid_nil]; exact rv))
    cases e
    cases (Option.some.inj h)
    exact ⟨_, _, rfl, .inl h1, by rw [h2.length]; exact q _ (.int _) rfl⟩
  · cases h
def dInt : D → Option D
  | .int i => some (.int i)
  | .bool b => some (.int (if b then 1 else 0))
  | _ => none
theorem cf_int : CallF K (fun xs H Q => (∃ i, xs = [.int i] ∧ Q (.int i) H) ∨ ∃ k, xs = [.bl k] ∧ Q (.int (if k then 1 else 0)) H) (d1 dInt) := by
  intro vs ds d H Q r h q
  obtain ⟨x, rfl, h'⟩ := d1_some h
  clear h
  have h := h'
  clear h'
  obtain ⟨v, rfl, rv⟩ := r.one
  unfold dInt at h
  split at h
  · cases (Option.some.inj h)
    exact .inl ⟨_, by rw [rv.int'], q _ (.int _) rfl⟩
  · cases (Option.some.inj h)
    exact .inr ⟨_, by rw [rv.bl'], q _ (.int _) rfl⟩
  · cases h
def dAbs : D → Option D
  | .int i => some (.int (if i < 0 then -i else i))
  | _ => none
theorem cf_abs : CallF K (fun xs H Q => ∃ i, xs = [.int i] ∧ Q (.int (if i < 0 then -i else i)) H) (d1 dAbs) := by
  intro vs ds d H Q r h q
  obtain ⟨x, rfl, h'⟩ := d1_some h
  clear h
  have h := h'
  clear h'
  obtain ⟨v, rfl, rv⟩ := r.one
  unfold dAbs at h
  split at h
  · cases (Option.some.inj h)
    exact ⟨_, by rw [rv.int'], q _ (.int _) rfl⟩
  · cases h
def dMax2 : D → D → Option D
  | .int i, .int j => some (.int (if j > i then j else i))
  | _, _ => none
def dMin2 : D → D → Option D
  | .int i, .int j => some (.int (if j < i then j else i))
  | _, _ => none
theorem cf_max2 : CallF K (fun xs H Q => ∃ i j, xs = [.int i, .int j] ∧ Q (.int (if j > i then j else i)) H) (d2 dMax2) := by
  intro vs ds d H Q r h q
  obtain ⟨x, y, rfl, h'⟩ := d2_some h
  clear h
  have h := h'
  clear h'
  obtain ⟨v, w, rfl, rv, rw'⟩ := r.two
  unfold dMax2 at h
  split at h
  · cases (Option.some.inj h)
    exact ⟨_, _, by rw [rv.int', rw'.int'], q _ (.int _) rfl⟩
  · cases h
theorem cf_min2 : CallF K (fun xs H Q => ∃ i j, xs = [.int i, .int j] ∧ Q (.int (if j < i then j else i)) H) (d2 dMin2) := by
  intro vs ds d H Q r h q
  obtain ⟨x, y, rfl, h'⟩ := d2_some h
  clear h
  have h := h'
  clear h'
  obtain ⟨v, w, rfl, rv, rw'⟩ := r.two
  unfold dMin2 at h
  split at h
  · cases (Option.some.inj h)
    exact ⟨_, _, by rw [rv.int', rw'.int'], q _ (.int _) rfl⟩
  · cases h
/-- the ints of a list -/
def intsD : List D → Option (List Int)
  | [] => some []
  | .int i :: r => o1 (intsD r) fun is => some (i :: is)
  | _ => none
theorem intsD_some : ∀ {ds : List D} {is : List Int}, intsD ds = some is → ds = is.map PyData.int
  | [], is, h => by cases (Option.some.inj h); rfl
  | .int i :: r, is, h => by
    obtain ⟨js, h1, h2⟩ := o1_some (show o1 (intsD r) (fun is => some (i :: is)) = some is from h)
    cases (Option.some.inj h2)
    rw [intsD_some h1]; rfl
  | .none :: _, _, h => by cases h
  | .bool _ :: _, _, h => by cases h
  | .str _ :: _, _, h => by cases h
  | .list _ :: _, _, h => by cases h
  | .tuple _ :: _, _, h => by cases h
  | .dict _ :: _, _, h => by cases h
def bools : List D → Option (List Bool)
  | [] => some []
  | .bool i :: r => o1 (bools r) fun is => some (i :: is)
  | _ => none
theorem bools_some : ∀ {ds : List D} {is : List Bool}, bools ds = some is → ds = is.map PyData.bool
  | [], is, h => by cases (Option.some.inj h); rfl
  | .bool i :: r, is, h => by
    obtain ⟨js, h1, h2⟩ := o1_some (show o1 (bools r) (fun is => some (i :: is)) = some is from h)
    cases (Option.some.inj h2)
    rw [bools_some h1]; rfl
  | .none :: _, _, h => by cases h
  | .int _ :: _, _, h => by cases h
  | .str _ :: _, _, h => by cases h
  | .list _ :: _, _, h => by cases h
  | .tuple _ :: _, _, h => by cases h
  | .dict _ :: _, _, h => by cases h
def dSum : D → Option D
  | .list ds => o1 (intsD ds) fun is => some (.int is.sum)
  | _ => none
theorem cf_sum : CallF K (rSum K) (d1 dSum) := by
  intro vs ds d H Q r h q
  obtain ⟨x, rfl, h'⟩ := d1_some h
  clear h
  have h := h'
  clear h'
  obtain ⟨v, rfl, rv⟩ := r.one
  unfold dSum at h
  split at h
  · obtain ⟨is, h1, h2⟩ := o1_some h
    cases (Option.some.inj h2)
    cases rv with
    | lst e1 e2 =>
      rw [intsD_some h1] at e2
      have e3 := e2.ints
      subst e3
      exact ⟨_, _, rfl, SqL.of e1, q _ (.int _) rfl⟩
  · cases h
def dAll : D → Option D
  | .list ds => o1 (bools ds) fun is => some (.bool (is.all id))
  | _ => none
def dAny : D → Option D
  | .list ds => o1 (bools ds) fun is => some (.bool (is.any id))
  | _ => none
theorem cf_all : CallF K (rAll K) (d1 dAll) := by
  intro vs ds d H Q r h q
  obtain ⟨x, rfl, h'⟩ := d1_some h
  clear h
  have h := h'
  clear h'
  obtain ⟨v, rfl, rv⟩ := r.one
  unfold dAll at h
  split at h
  · obtain ⟨is, h1, h2⟩ := o1_some h
    cases (Option.some.inj h2)
    cases rv with
    | lst e1 e2 =>
      rw [bools_some h1] at e2
      have e3 := e2.bools
      subst e3
      exact ⟨_, _, rfl, SqL.of e1, q _ (.bl _) rfl⟩
  · cases h
theorem cf_any : CallF K (rAny K) (d1 dAny) := by
  intro vs ds d H Q r h q
  obtain ⟨x, rfl, h'⟩ := d1_some h
  clear h
  have h := h'
  clear h'
  obtain ⟨v, rfl, rv⟩ := r.one
  unfold dAny at h
  split at h
  · obtain ⟨is, h1, h2⟩ := o1_some h
    cases (Option.some.inj h2)
    cases rv with
    | lst e1 e2 =>
      rw [bools_some h1] at e2
      have e3 := e2.bools
      subst e3
      exact ⟨_, _, rfl, SqL.of e1, q _ (.bl _) rfl⟩
  · cases h
/-! tuple(xs), list(xs) -/
def dTuple : D → Option D
  | .list ds => some (.tuple ds)
  | .tuple ds => some (.tuple ds)
  | _ => none
theorem cd_tuple : CallD K (fun xs H Q => ∃ p ys, xs = [.ref p] ∧ ((SqL K H p ys ∧ ∀ l, H l = none → Q (.ref l) (upd H l (.tup ys))) ∨ (SqT K H p ys ∧ Q (.ref p) H))) (d1 dTuple) := by
  intro B vs ds d H Q ok hl r h q
  obtain ⟨x, rfl, h'⟩ := d1_some h
  clear h
  have h := h'
  clear h'
  obtain ⟨v, rfl, rv⟩ := one_of hl r
  unfold dTuple at h
  split at h
  · cases (Option.some.inj h)
    obtain ⟨p, ys, rfl, h1, h2⟩ := rv.list1
    refine ⟨p, ys, rfl, .inl ⟨SqL.of h1, fun l hn => ?_⟩⟩
    have s := same_upd (o := HO.tup ys) hn
    refine q _ _ s fun κ _ => Post.of_flat (.tup (a := l) (xs := ys) (.inl (.inl ?_)) (h2.mono (same_hid s))) rfl
    rw [hid_out (ok.trk.new hn), upd_same]
  · cases (Option.some.inj h)
    obtain ⟨p, ys, rfl, h1, h1', h2⟩ := rv.tup
    exact ⟨p, ys, rfl, .inr ⟨h1, q _ _ (Same.refl H) fun κ _ => Post.of_flat (.tup h1' h2) rfl⟩⟩
  · cases h
def dList : D → Option D
  | .list ds => some (.list ds)
  | .tuple ds => some (.list ds)
  | _ => none
theorem same_hidC {p : Addr} {o : HO} (hn : H p = none) : Same (hid B H) (hid (p :: B) (upd H p o)) := same_hidW (same_upd hn) fun b hb => by
  rcases List.mem_cons.mp hb with e | hb
  · rw [e]; exact .inr hn
  · exact .inl hb
theorem cd_list : CallD K (fun xs H Q => ∃ p ys, xs = [.ref p] ∧ (SqL K H p ys ∨ SqT K H p ys) ∧ ∀ l, H l = none → Q (.ref l) (upd H l (.lst ys))) (d1 dList) := by
  intro B vs ds d H Q ok hl r h q
  obtain ⟨x, rfl, h'⟩ := d1_some h
  clear h
  have h := h'
  clear h'
  obtain ⟨v, rfl, rv⟩ := one_of hl r
  unfold dList at h
  split at h
  · cases (Option.some.inj h)
    obtain ⟨p, ys, rfl, h1, h2⟩ := rv.list1
    exact ⟨p, ys, rfl, .inl (SqL.of h1), fun l hn => q _ _ (same_upd hn) fun κ hκ => Post.new ok.trk hn upd_same (h2.mono (same_hidC hn)) hκ⟩
  · cases (Option.some.inj h)
    obtain ⟨p, ys, rfl, h1, h1', h2⟩ := rv.tup
    exact ⟨p, ys, rfl, .inr h1, fun l hn => q _ _ (same_upd hn) fun κ hκ => Post.new ok.trk hn upd_same (h2.mono (same_hidC hn)) hκ⟩
  · cases h
end
/-! isinstance(x, T) -/
def isTy : D → String → Option Bool
  | .none, n => kitB "NoneType" n
  | .bool _, n => kitB "bool" n
  | .int _, n => kitB "int" n
  | .str _, n => kitB "str" n
  | .list _, n => kitB "list" n
  | .tuple _, n => kitB "tuple" n
  | .dict _, _ => none
def eIsi (n : String) (f : FE) : FE := fun ρ => o1 (f ρ) fun d => o1 (isTy d n) fun b => some (.bool b)
section
variable {X : Cx} {K : PySem.W.Frag} {κ : Mo} {p pos p2 : Pos} {a : Expr} {fa : FE} {c : Esc} {n : String} {y : Str}
theorem seqT_ty {H : Hp} {q : Addr} {xs : List V} (h : SqT K H q xs) : TyX K H (.ref q) (.type "tuple") := by
  rcases h with (h | ⟨o, h⟩) | ⟨o, its, n, h1, h2, _⟩
  · exact .base (.tup h)
  · exact .fTuple h
  · exact .kTuple h1 h2
theorem isTy_ok {H : Hp} {v : V} {d : D} {b : Bool} (r : R K H v d) (h : isTy d n = some b) : ∃ t, TyX K H v t ∧ PySem.W.kitOne K t (.type n) = some b := by
  cases r with
  | non => exact ⟨_, .base .non, kit_ty h⟩
  | bl x => exact ⟨_, .base (.bl x), kit_ty h⟩
  | int x => exact ⟨_, .base (.int x), kit_ty h⟩
  | str x => exact ⟨_, .base (.str x), kit_ty h⟩
  | lst h1 _ => exact ⟨_, .base (.lst h1), kit_ty h⟩
  | tup h1 _ => exact ⟨_, seqT_ty h1, kit_ty h⟩
  | frz _ _ => cases h
  | dk _ _ => cases h
  | dt _ _ => cases h
theorem qe_isi (hg : Gl X "isinstance") (hm : X.mg "isinstance" = none) (ha : PE X a (tD K (.br 1) fa c)) (hg2 : Gl X y) (hm2 : X.mg y = none) (hv2 : bootBuiltins y = some (.type n)) (hX : X.K = K := by rfl) (hn : y ≠ "__name__" := by decide) (hd : (y == ("__debug__" : Str)) = false := by decide)
    (he : starEach [a, .Name y p2] X.env = (false, eval a X.env) :: starEach [.Name y p2] X.env := by rfl) (he2 : starEach [.Name y p2] X.env = (false, eval (.Name y p2) X.env) :: starEach [] X.env := by rfl) (hpl : (backTo pos (starEach [.Name y p2] X.env)).any (·.1) = false := by rfl) :
    PE X (.Call (.Name "isinstance" p) [a, .Name y p2] [] pos) (tD K κ (eIsi n fa) []) := by
  subst hX
  refine (pe_callB call_isi hg hm (by decide +kernel) (pa_cons ha (pa_cons (pe_bltn (v := .ty n) hg2 hm2 hv2 rfl hn hd) pa_nil he2) he) (by decide) (by decide) he hpl).imp fun σ H Q ⟨B, L, ρ, d, g, es, hf, q⟩ => ?_
  obtain ⟨dx, h1, h2⟩ := o1_some hf
  obtain ⟨b, h3, h4⟩ := o1_some h2
  cases (Option.some.inj h4)
  refine ⟨[], _, ρ, dx, g.zero, .zero, h1, fun x H1 s1 p1 => ?_⟩
  obtain ⟨t, h5, h6⟩ := isTy_ok (RL.r0 p1) h3
  exact ⟨x, .ty n, t, .type n, b, rfl, .ty n, h5, h6, q _ H1 s1 (Post.of_flat (.bl b) rfl)⟩
end

/-! ### slices -/
def cutD (ds : List D) (lo hi : Option Int) : List D := (ds.drop (HT.sIx ds.length 0 lo)).take (HT.sIx ds.length ds.length hi - HT.sIx ds.length 0 lo)
abbrev FO := PEnv → Option (Option Int)
def oNone : FO := fun _ => some none
def oSome (f : FE) : FO := fun ρ => o1 (f ρ) fun d => match d with
  | .int i => some (some i)
  | _ => none
def dSlice (lo hi : Option Int) : D → Option D
  | .list ds => some (.list (cutD ds lo hi))
  | .tuple ds => some (.tuple (cutD ds lo hi))
  | _ => none
def eSl (f : FE) (lo hi : FO) : FE := fun ρ => match f ρ, lo ρ, hi ρ with
  | some d, some l, some h => dSlice l h d
  | _, _, _ => none
def tO (K : PySem.W.Frag) (f : FO) : TO := fun σ H Q => ∃ B L ρ o, Good K B L σ H ρ ∧ f ρ = some o ∧ ∀ H', Same H H' → Q o H'
section
variable {X : Cx} {K : PySem.W.Frag} {κ : Mo} {pos p2 : Pos} {a e : Expr} {lo hi : Option Expr} {fa : FE} {fl fh : FO} {c : Esc}
theorem _root_.L2.PO.imp {e : Option Expr} {t t' : TO} (h : PO X e t) (w : ∀ σ H Q, t' σ H Q → t σ H Q) : PO X e t' := ⟨fun pins s σ H Q I q => h.run pins s σ H Q I (w σ H Q q)⟩
theorem qo_none : PO X none (tO K oNone) := po_none.imp fun σ H Q ⟨B, L, ρ, o, g, h, q⟩ => by
  cases (Option.some.inj h)
  exact q H (Same.refl H)
theorem qo_some (h : PE X e (tD K (.br 1) fa c)) : PO X (some e) (tO K (oSome fa)) := (po_some h).imp fun σ H Q ⟨B, L, ρ, o, g, h, q⟩ => by
  obtain ⟨d, h1, h2⟩ := o1_some h
  refine ⟨[], _, ρ, d, g.zero, .zero, h1, fun v H1 s1 p1 => ?_⟩
  split at h2
  · cases (Option.some.inj h2)
    exact ⟨_, RL.int p1, q H1 s1⟩
  · cases h2
theorem cutV_R {H : Hp} {xs : List V} {ds : List D} (h : RA K H xs ds) (lo hi : Option Int) : RA K H (cutV xs lo hi) (cutD ds lo hi) := by
  unfold cutV cutD
  rw [h.length]
  exact (h.drop _).take _
theorem qe_sl (ha : PE X a (tD K (.br 1) fa c)) (hl : PO X lo (tO K fl)) (hh : PO X hi (tO K fh)) (hX : X.K = K := by rfl) (hκ : κ.one = true := by rfl) : PE X (.Subscript a (.Slice lo hi none p2) pos) (tD K κ (eSl fa fl fh) c) := by
  subst hX
  refine (pe_slice (sl_list.or sl_tupA) ha hl hh).imp fun σ H Q ⟨B, L, ρ, d, g, es, hf, q⟩ => ?_
  unfold eSl at hf
  split at hf
  · rename_i dx l h e1 e2 e3
    refine ⟨B, L, ρ, dx, g, es, e1, fun x H1 s1 p1 => ⟨B, L, ρ, l, g.mono s1, e2, fun H2 s2 => ⟨B, L, ρ, h, (g.mono s1).mono s2, e3, fun H3 s3 => ?_⟩⟩⟩
    have s13 := s2.trans s3
    have ok := ((g.ok.mono s1).mono s13)
    have p1 : RL X.K B H3 1 x dx := RL.mono s13 (same_hid s13) p1
    unfold dSlice at hf
    split at hf
    · cases (Option.some.inj hf)
      obtain ⟨p, ys, rfl, h1, h2⟩ := p1.list1
      refine .inl ⟨p, ys, rfl, SqL.of h1, fun t nt => q _ _ ((s1.trans s13).trans (same_upd nt)) ?_⟩
      have := Post.new (κ := κ) (H' := upd H3 t (.lst (cutV ys l h))) g.ok.trk ((s1.trans s13).free nt) upd_same ((cutV_R h2 l h).mono (same_hidC nt)) hκ
      exact this
    · cases (Option.some.inj hf)
      obtain ⟨p, ys, rfl, h1, h1', h2⟩ := p1.tup
      refine .inr ⟨p, ys, rfl, h1, fun hw => ?_, fun _ t nt => ?_⟩
      · have e : ∀ {ds : List D}, ds.length = ys.length → cutD ds l h = ds := fun {ds} e => by
          unfold cutD
          rw [e, hw.1, hw.2, List.drop_zero, Nat.sub_zero, ← e, List.take_length]
        rw [e h2.length.symm] at q
        exact q _ _ (s1.trans s13) (Post.of_flat (.tup h1' h2) rfl)
      · have s := same_upd (o := HO.tup (cutV ys l h)) nt
        refine q _ _ ((s1.trans s13).trans s) (Post.of_flat (.tup (a := t) (xs := cutV ys l h) (.inl (.inl ?_)) ((cutV_R h2 l h).mono (same_hid s))) rfl)
        rw [hid_out (ok.trk.new nt), upd_same]
    · cases hf
  · cases hf
end
end DS
end

section
set_option Elab.async false
set_option linter.all false
set_option maxRecDepth 100000
/-! Part f: targets, what is walked, comprehensions. -/
namespace DS
open PySem PySem.Spec PyProof.Rows L2

/-! ### targets: names and tuples of them -/
inductive Tg where
  | nm (i : Nat)
  | tp (ts : List Tg)
mutual
def Tg.go : Tg → D → Option (List (Nat × D))
  | .nm i, d => some [(i, d)]
  | .tp ts, .tuple ds => Tg.gos ts ds
  | .tp _, _ => none
def Tg.gos : List Tg → List D → Option (List (Nat × D))
  | [], [] => some []
  | t :: ts, d :: ds => match Tg.go t d, Tg.gos ts ds with
    | some l, some m => some (l ++ m)
    | _, _ => none
  | _, _ => none
end
mutual
def Tg.ix : Tg → List Nat
  | .nm i => [i]
  | .tp ts => Tg.ixs ts
def Tg.ixs : List Tg → List Nat
  | [] => []
  | t :: ts => Tg.ix t ++ Tg.ixs ts
end
mutual
theorem Tg.go_ix : ∀ {t : Tg} {d : D} {l : List (Nat × D)}, t.go d = some l → l.map (·.1) = t.ix
  | .nm i, d, l, h => by
    unfold Tg.go at h
    cases (Option.some.inj h); rfl
  | .tp ts, .tuple ds, l, h => by
    unfold Tg.go at h
    unfold Tg.ix
    exact Tg.gos_ix h
  | .tp ts, .none, l, h => by unfold Tg.go at h; cases h
  | .tp ts, .bool _, l, h => by unfold Tg.go at h; cases h
  | .tp ts, .int _, l, h => by unfold Tg.go at h; cases h
  | .tp ts, .str _, l, h => by unfold Tg.go at h; cases h
  | .tp ts, .list _, l, h => by unfold Tg.go at h; cases h
  | .tp ts, .dict _, l, h => by unfold Tg.go at h; cases h
theorem Tg.gos_ix : ∀ {t : List Tg} {d : List D} {l : List (Nat × D)}, Tg.gos t d = some l → l.map (·.1) = Tg.ixs t
  | [], [], l, h => by
    unfold Tg.gos at h
    cases (Option.some.inj h); rfl
  | t :: ts, d :: ds, l, h => by
    unfold Tg.gos at h
    split at h
    · rename_i l1 l2 h1 h2
      cases (Option.some.inj h)
      unfold Tg.ixs
      rw [List.map_append, Tg.go_ix h1, Tg.gos_ix h2]
    · cases h
  | [], _ :: _, l, h => by unfold Tg.gos at h; cases h
  | _ :: _, [], l, h => by unfold Tg.gos at h; cases h
end
def setsV (σ : St) (l : List (Nat × V)) : St := l.foldl (fun s p => s.set p.1 (some p.2)) σ
def setsD (ρ : PEnv) (l : List (Nat × D)) : PEnv := l.foldl (fun s p => s.set p.1 (some p.2)) ρ
inductive RS (K : PySem.W.Frag) (H : Hp) : List (Nat × V) → List (Nat × D) → Prop
  | nil : RS K H [] []
  | cons {i : Nat} {v : V} {d : D} {l : List (Nat × V)} {m : List (Nat × D)} : R K H v d → RS K H l m → RS K H ((i, v) :: l) ((i, d) :: m)
theorem RS.append {K : PySem.W.Frag} {H : Hp} : ∀ {l l' : List (Nat × V)} {m m' : List (Nat × D)}, RS K H l m → RS K H l' m' → RS K H (l ++ l') (m ++ m')
  | _, _, _, _, .nil, q => q
  | _, _, _, _, .cons h t, q => .cons h (RS.append t q)
theorem RS.ix {K : PySem.W.Frag} {H : Hp} : ∀ {l : List (Nat × V)} {m : List (Nat × D)}, RS K H l m → l.map (·.1) = m.map (·.1)
  | _, _, .nil => rfl
  | _, _, .cons _ t => by rw [List.map_cons, List.map_cons, RS.ix t]
theorem setsV_append (σ : St) (l m : List (Nat × V)) : setsV σ (l ++ m) = setsV (setsV σ l) m := by
  unfold setsV; rw [List.foldl_append]
/-- the reading of a target -/
def tG (K : PySem.W.Frag) (t : Tg) : TG := fun v σ H Q => ∃ B d l, R K (hid B H) v d ∧ t.go d = some l ∧ ∀ m, RS K (hid B H) m l → Q (setsV σ m) H
def tGs (K : PySem.W.Frag) (ts : List Tg) : TGs := fun vs σ H Q => ∃ B ds l, RA K (hid B H) vs ds ∧ Tg.gos ts ds = some l ∧ ∀ m, RS K (hid B H) m l → Q (setsV σ m) H
theorem _root_.L2.PG.imp {X : Cx} {e : Expr} {t t' : TG} (h : PG X e t) (w : ∀ v σ H Q, t' v σ H Q → t v σ H Q) : PG X e t' := ⟨fun pins s σ H v u Q I r q => h.run pins s σ H v u Q I r (w v σ H Q q)⟩
theorem _root_.L2.PGs.imp {X : Cx} {e : List Expr} {t t' : TGs} (h : PGs X e t) (w : ∀ v σ H Q, t' v σ H Q → t v σ H Q) : PGs X e t' := ⟨fun pins s σ H v u Q I r q => h.run pins s σ H v u Q I r (w v σ H Q q)⟩
section
variable {X : Cx} {K : PySem.W.Frag} {pos : Pos}
theorem gg_of {e : Expr} {i : Nat} (h : PG X e (gName i)) : PG X e (tG K (.nm i)) := h.imp fun v σ H Q ⟨B, d, l, h1, h2, q⟩ => by
  unfold Tg.go at h2
  cases (Option.some.inj h2)
  exact q [(i, v)] (.cons h1 .nil)
theorem gg (i : Nat) {x : Str} (hN : X.N.Nodup) (hi : X.N[i]? = some x := by rfl) (hx : Loc X.env.scope x := by first | exact Or.inl rfl | exact Or.inr rfl) (hf : X.fn x = true ∨ X.env.scope.names.lookup x = some .local := by first | exact .inl rfl | exact .inr rfl) : PG X (.Name x pos) (tG K (.nm i)) := gg_of (pg_name hN hi hx hf)
theorem ggs_nil : PGs X [] (tGs K []) := pgs_nil.imp fun v σ H Q ⟨B, ds, l, h1, h2, q⟩ => by
  cases ds with
  | nil =>
    cases h1
    unfold Tg.gos at h2
    cases (Option.some.inj h2)
    exact ⟨rfl, q [] .nil⟩
  | cons _ _ => unfold Tg.gos at h2; cases h2
theorem ggs_cons {e : Expr} {es : List Expr} {t : Tg} {ts : List Tg} (h : PG X e (tG K t)) (hs : PGs X es (tGs K ts)) (he : (assignEach (e :: es) X.env).map (·.2) = assign e X.env :: (assignEach es X.env).map (·.2) := by rfl) : PGs X (e :: es) (tGs K (t :: ts)) :=
  (pgs_cons h hs he).imp fun v σ H Q ⟨B, ds, l, h1, h2, q⟩ => by
  cases ds with
  | nil => unfold Tg.gos at h2; cases h2
  | cons d ds =>
    cases h1 with
    | cons r rs =>
      unfold Tg.gos at h2
      split at h2
      · rename_i l1 l2 e1 e2
        cases (Option.some.inj h2)
        exact ⟨_, _, rfl, B, d, l1, r, e1, fun m hm => ⟨B, ds, l2, rs, e2, fun m2 hm2 => by
          rw [← setsV_append]
          exact q _ (hm.append hm2)⟩⟩
      · cases h2
theorem Tg.gos_len : ∀ {ts : List Tg} {ds : List D} {l : List (Nat × D)}, Tg.gos ts ds = some l → ts.length = ds.length
  | [], [], _, _ => rfl
  | t :: ts, d :: ds, l, h => by
    unfold Tg.gos at h
    split at h
    · rename_i h2
      rw [List.length_cons, List.length_cons, Tg.gos_len h2]
    · cases h
  | [], _ :: _, l, h => by unfold Tg.gos at h; cases h
  | _ :: _, [], l, h => by unfold Tg.gos at h; cases h
theorem gg_tup {es : List Expr} {k : Nat} {ts : List Tg} (hc : X.calm = true) (h : PGs X es (tGs K ts)) (hX : X.K = K := by rfl)
    (hn : (assignEach es X.env).length = ts.length := by rfl) (hst : (assignEach es X.env).findIdx? (·.1) = none := by rfl) : PG X (.Tuple es k pos) (tG K (.tp ts)) := by
  subst hX
  refine (pg_tup hc h hn hst).imp fun v σ H Q ⟨B, d, l, h1, h2, q⟩ => ?_
  cases d with
  | tuple ds =>
    unfold Tg.go at h2
    cases h1 with
    | tup e1 e2 => exact ⟨_, _, rfl, seqT_mono same_unhid e1, by rw [e2.length, Tg.gos_len h2], B, ds, l, e2, h2, q⟩
  | _ => unfold Tg.go at h2; cases h2
end

/-! ### what is walked -/
/-- while G stands, J gives the trees ds one by one, none of which leans on what B hides -/
structure Walks (K : PySem.W.Frag) (G : Hp) (B : List Addr) (J : It) (ds : List D) : Prop where
  go : ∀ i H, i < ds.length → Same G H → J.go i H
  stop : ∀ H, Same G H → J.stop ds.length H
  yld : ∀ i H x H' d, ds[i]? = some d → Same G H → J.yld i H x H' → Same H H' ∧ ∀ B', (∀ a ∈ B', (a ∈ B ∨ G a = none) ∧ H a ≠ none) → R K (hid B' H') x d
/-- m = 0: what is walked leans on nothing hidden; m = 1: a list that is walked may itself be hidden -/
def gOf (m : Nat) (B : List Addr) (H : Hp) : Hp := match m with
  | 0 => hid B H
  | _ => H
def tI (K : PySem.W.Frag) (m : Nat) (f : FA) (c : Esc) : TI := fun σ H Rr => ∃ B L ρ ds, Good K B L σ H ρ ∧ EscOk c L ∧ f ρ = some ds ∧ ∀ J H1, Same H H1 → Walks K (gOf m B H1) B J ds → Rr J H1
theorem gOf_unhid {m : Nat} {B : List Addr} {H : Hp} : Same (gOf m B H) H := by
  cases m with
  | zero => exact same_unhid
  | succ m => exact Same.refl H
theorem same_gOf {m : Nat} {B : List Addr} {H : Hp} : Same (hid B H) (gOf m B H) := by
  cases m with
  | zero => exact Same.refl _
  | succ m => exact same_unhid
theorem gOf_none {m : Nat} {B : List Addr} {H : Hp} {a : Addr} (h : gOf m B H a = none) : a ∈ B ∨ H a = none := by
  cases m with
  | zero =>
    by_cases hb : a ∈ B
    · exact .inl hb
    · exact .inr (by
        have h' : hid B H a = none := h
        rw [hid_out hb] at h'; exact h')
  | succ m => exact .inr h
/-- a tree of what is below B, later -/
theorem keepR {m : Nat} {B B' : List Addr} {H1 H H' : Hp} (s : Same (gOf m B H1) H) (s' : Same H H') (h : ∀ a ∈ B', (a ∈ B ∨ gOf m B H1 a = none) ∧ H a ≠ none) : Same (hid B H1) (hid B' H') := fun b o q => by
  obtain ⟨q1, q2⟩ := hid_some q
  have q3 : gOf m B H1 b = some o := same_gOf b o q
  rw [hid_out fun z => ?_]
  · exact s' _ _ (s _ _ q3)
  · rcases (h b z).1 with z | z
    · exact q1 z
    · rw [q3] at z; cases z
section
variable {X : Cx} {K : PySem.W.Frag} {pos p tpos : Pos} {tg e : Expr} {f : FE} {c : Esc} {m : Nat}
def seqOf : D → Option (List D)
  | .list ds => some ds
  | .tuple ds => some ds
  | _ => none
def iSeq (f : FE) : FA := fun ρ => o1 (f ρ) seqOf
theorem RL.listG {B : List Addr} {H : Hp} {v : V} {ds : List D} (hm : m ≤ 1) (h : RL K B H m v (.list ds)) : ∃ a xs, v = .ref a ∧ gOf m B H a = some (.lst xs) ∧ RA K (hid B H) xs ds := by
  match m, hm with
  | 0, _ =>
    have := h.r
    cases this with
    | lst h1 h2 => exact ⟨_, _, rfl, h1, h2⟩
  | 1, _ => exact h.list1
theorem walks_list {B : List Addr} {H1 : Hp} {a : Addr} {xs : List V} {ds : List D} (h1 : gOf m B H1 a = some (.lst xs)) (h2 : RA K (hid B H1) xs ds) : Walks K (gOf m B H1) B (Itl K a) ds where
  go := fun i H hi s => ⟨xs, xs[i]'(by rw [h2.length]; exact hi), SqL.of (s _ _ h1), by simp⟩
  stop := fun H s => ⟨xs, SqL.of (s _ _ h1), by rw [h2.length]; exact Nat.le_refl _⟩
  yld := fun i H x H' d hd s y => by
    obtain ⟨e, y⟩ := y
    subst e
    obtain ⟨z, e1, r⟩ := h2.get hd
    have e2 := y xs (SqL.of (s _ _ h1))
    rw [e1] at e2
    cases (Option.some.inj e2)
    exact ⟨Same.refl _, fun B' hb => r.mono (keepR s (Same.refl _) hb)⟩
theorem walks_tup {B : List Addr} {H1 : Hp} {a : Addr} {xs : List V} {ds : List D} (h1 : SqT K (hid B H1) a xs) (h2 : RA K (hid B H1) xs ds) : Walks K (gOf m B H1) B (Itt K a) ds where
  go := fun i H hi s => ⟨xs, xs[i]'(by rw [h2.length]; exact hi), seqT_mono s (seqT_mono same_gOf h1), by simp⟩
  stop := fun H s => ⟨xs, seqT_mono s (seqT_mono same_gOf h1), by rw [h2.length]; exact Nat.le_refl _⟩
  yld := fun i H x H' d hd s y => by
    obtain ⟨e, y⟩ := y
    subst e
    obtain ⟨z, e1, r⟩ := h2.get hd
    have e2 := y xs (seqT_mono s (seqT_mono same_gOf h1))
    rw [e1] at e2
    cases (Option.some.inj e2)
    exact ⟨Same.refl _, fun B' hb => r.mono (keepR s (Same.refl _) hb)⟩
/-- a list or a tuple walked -/
def iLT (K : PySem.W.Frag) (tl : TE) : TI := fun σ H R => tl σ H fun x H1 => ∃ a, x = .ref a ∧ ((∃ xs, SqL K H1 a xs ∧ R (Itl K a) H1) ∨ (∃ xs, SqT K H1 a xs ∧ R (Itt K a) H1))
theorem pi_lt {l : Expr} {tl : TE} (hl : PE X l tl) : PI X tg l (iLT X.K tl) := by
  refine ⟨fun pins s σ H R I h => ?_⟩
  refine thn (hl.run pins s σ H _ I h) fun v s1 ⟨x, H1, I1, r1, q1⟩ => ?_
  obtain ⟨a, e, q⟩ := q1
  subst e
  cases r1
  rcases q with ⟨xs, hq, q⟩ | ⟨xs, hq, q⟩
  · obtain ⟨its, rv, p, hz⟩ := I1.list hq
    refine wpAny_pyIter_list p.isList ?_
    refine ⟨s1.heap.objs.size, [s1.heap.objs.size], _, _, H1, rfl, I1.kept (t' := s1.toks) fun b o e => Heap.get?_push_of_some _ e, turn_list a _, ⟨_, Heap.get?_push_size _ rfl, rfl, rfl⟩, fun b hb => ?_, q⟩
    have e : b = s1.heap.objs.size := by simpa using hb
    subst e
    exact I1.fpOk (Nat.le_refl _) (I1.hok.fresh (Nat.le_refl _))
  · obtain ⟨its, rv, p, hz⟩ := I1.tuple hq
    refine wpAny_pyIter_tuple (show s1.heap.IsTuple a its.toArray from p) ?_
    refine ⟨s1.heap.objs.size, [s1.heap.objs.size], _, _, H1, rfl, I1.kept (t' := s1.toks) fun b o e => Heap.get?_push_of_some _ e, turn_tuple a _, ⟨_, Heap.get?_push_size _ rfl, rfl, rfl⟩, fun b hb => ?_, q⟩
    have e : b = s1.heap.objs.size := by simpa using hb
    subst e
    exact I1.fpOk (Nat.le_refl _) (I1.hok.fresh (Nat.le_refl _))
theorem qi_seq (h : PE X e (tD K (.br m) f c)) (hm : m ≤ 1 := by decide) (hX : X.K = K := by rfl) : PI X tg e (tI K m (iSeq f) c) := by
  subst hX
  refine (pi_lt h).imp fun σ H Rr ⟨B, L, ρ, ds, g, es, hf, q⟩ => ?_
  obtain ⟨d, h1, h2⟩ := o1_some hf
  refine ⟨B, L, ρ, d, g, es, h1, fun v H1 s1 p1 => ?_⟩
  unfold seqOf at h2
  split at h2
  · cases (Option.some.inj h2)
    obtain ⟨a, xs, rfl, e1, e2⟩ := RL.listG hm p1
    exact ⟨a, rfl, .inl ⟨xs, SqL.of (gOf_unhid _ _ e1), q _ H1 s1 (walks_list e1 e2)⟩⟩
  · cases (Option.some.inj h2)
    obtain ⟨a, xs, rfl, e1, e1', e2⟩ := RL.tup p1
    exact ⟨a, rfl, .inr ⟨xs, e1, q _ H1 s1 (walks_tup e1' e2)⟩⟩
  · cases h2
/-! ranges -/
def rngD (lo : Int) (n : Nat) : List D := (List.range n).map fun (i : Nat) => .int (lo + (i : Int))
theorem walks_rng {G : Hp} {B : List Addr} {lo : Int} {n : Nat} : Walks K G B (Itr lo n) (rngD lo n) where
  go := fun i H hi s => show i < n from by simpa [rngD] using hi
  stop := fun H s => by
    show n ≤ (rngD lo n).length
    simp [rngD]
  yld := fun i H x H' d hd s y => by
    obtain ⟨e, y⟩ := y
    subst e y
    refine ⟨Same.refl _, fun B' hb => ?_⟩
    have hi : i < n := by
      have := (List.getElem?_eq_some_iff.mp hd).1
      simpa [rngD] using this
    have : d = .int (lo + i) := by
      unfold rngD at hd
      rw [List.getElem?_map, List.getElem?_range hi] at hd
      exact (Option.some.inj hd).symm
    rw [this]
    exact .int _
def rngOk (lo hi : Int) : Bool := decide (-4611686018427387904 ≤ lo) && decide (lo < 4611686018427387904) && decide (-4611686018427387904 ≤ hi) && decide (hi < 4611686018427387904)
def iRange1 (f : FE) : FA := fun ρ => o1 (f ρ) fun d => match d with
  | .int j => if rngOk 0 j = true then some (rngD 0 j.toNat) else none
  | _ => none
def iRange2 (f g : FE) : FA := fun ρ => o2 (f ρ) (g ρ) fun d e => match d, e with
  | .int i, .int j => if rngOk i j = true then some (rngD i (j - i).toNat) else none
  | _, _ => none
theorem rngOk_ok {lo hi : Int} (h : rngOk lo hi = true) : -(2 ^ 62) ≤ lo ∧ lo < 2 ^ 62 ∧ -(2 ^ 62) ≤ hi ∧ hi < 2 ^ 62 := by
  unfold rngOk at h
  simp only [Bool.and_eq_true, decide_eq_true_eq] at h
  omega
theorem qi_range1 {a : Expr} (hg : Gl X "range") (hm : X.mg "range" = none) (ha : PE X a (tD K (.br 1) f c)) (hs : starEach [a] X.env = (false, eval a X.env) :: starEach [] X.env := by rfl) : PI X tg (.Call (.Name "range" p) [a] [] pos) (tI K m (iRange1 f) []) := by
  refine (pi_range1 hg hm (pa_cons ha pa_nil hs) hs).imp fun σ H Rr ⟨B, L, ρ, ds, g, es, hf, q⟩ => ?_
  obtain ⟨d, h1, h2⟩ := o1_some hf
  split at h2
  · obtain ⟨k, rfl⟩ := ite_some h2
    have k := rngOk_ok k
    refine ⟨[], _, ρ, _, g.zero, .zero, h1, fun v H1 s1 p1 => ?_⟩
    exact ⟨_, by rw [RL.int p1], k.2.2.1, k.2.2.2, q _ H1 s1 walks_rng⟩
  · cases h2
theorem qi_range2 {a b : Expr} {f2 : FE} {c2 : Esc} (hg : Gl X "range") (hm : X.mg "range" = none) (ha : PE X a (tD K (.br 1) f c)) (hb : PE X b (tD K (.br 1) f2 c2)) (hs : starEach [a, b] X.env = [(false, eval a X.env), (false, eval b X.env)] := by rfl) (hs2 : starEach [b] X.env = [(false, eval b X.env)] := by rfl) :
    PI X tg (.Call (.Name "range" p) [a, b] [] pos) (tI K m (iRange2 f f2) []) := by
  refine (pi_range2 hg hm (pa_cons ha (pa_cons hb pa_nil hs2) (by rw [hs, hs2])) hs hs2).imp fun σ H Rr ⟨B, L, ρ, ds, g, es, hf, q⟩ => ?_
  obtain ⟨d, d', h1, h1', h2⟩ := o2_some hf
  split at h2
  · obtain ⟨k, rfl⟩ := ite_some h2
    have k := rngOk_ok k
    refine ⟨[], _, ρ, _, g.zero, .zero, h1, fun v H1 s1 p1 => ⟨[], _, ρ, _, (g.mono s1).zero, .zero, h1', fun w H2 s2 p2 => ?_⟩⟩
    exact ⟨_, _, by rw [RL.int p1, RL.int p2], ⟨k.1, k.2.1, k.2.2.1, k.2.2.2⟩, q _ H2 (s1.trans s2) walks_rng⟩
  · cases h2
end

/-! ### comprehensions of one clause -/
def wipeD (ρ : PEnv) : List Nat → PEnv
  | [] => ρ
  | v :: vs => (wipeD ρ vs).set v none
/-- the list that a comprehension makes -/
def lcGo (t : Tg) (ft : FT) (fe : FE) (ρ : PEnv) : List D → Option (List D)
  | [] => some []
  | d :: ds => match t.go d with
    | none => none
    | some l => match ft (setsD ρ l) with
      | none => none
      | some false => lcGo t ft fe ρ ds
      | some true => match fe (setsD ρ l) with
        | none => none
        | some y => match lcGo t ft fe ρ ds with
          | none => none
          | some ys => some (y :: ys)
def eLc (fi : FA) (t : Tg) (ft : FT) (fe : FE) (vs : List Nat) : FE := fun ρ => o1 (fi ρ) fun ds => if ds.length ≤ sz then o1 (lcGo t ft fe (wipeD ρ vs) ds) fun ys => some (.list ys) else none
section
variable {X : Cx} {K : PySem.W.Frag} {κ : Mo}
theorem wipeD_length (ρ : PEnv) : ∀ vs : List Nat, (wipeD ρ vs).length = ρ.length
  | [] => rfl
  | v :: vs => by unfold wipeD; rw [List.length_set, wipeD_length ρ vs]
theorem wipe_get {σ : St} {ρ : PEnv} (hl : σ.length = ρ.length) : ∀ {vs : List Nat} {i : Nat} {d : D}, (wipeD ρ vs)[i]? = some (some d) → ρ[i]? = some (some d) ∧ ∀ v : V, σ[i]? = some (some v) → (wipe σ vs)[i]? = some (some v)
  | [], i, d, h => ⟨h, fun v e => e⟩
  | w :: vs, i, d, h => by
    unfold wipeD at h
    by_cases hi : w = i
    · subst hi
      by_cases hv : w < (wipeD ρ vs).length
      · rw [List.getElem?_set_self hv] at h; cases h
      · rw [List.getElem?_eq_none (by simpa using hv)] at h; cases h
    · rw [List.getElem?_set_ne hi] at h
      obtain ⟨h1, h2⟩ := wipe_get hl h
      refine ⟨h1, fun v e => ?_⟩
      unfold wipe
      rw [List.getElem?_set_ne hi]
      exact h2 v e
theorem Good.wipe {B : List Addr} {L : Nat → Nat} {σ : St} {H : Hp} {ρ : PEnv} (g : Good K B L σ H ρ) (vs : List Nat) : Good K B L (wipe σ vs) H (wipeD ρ vs) :=
  ⟨g.ok, by rw [wipe_length, wipeD_length, g.len], fun i d h => by
    obtain ⟨h1, h2⟩ := wipe_get g.len h
    obtain ⟨v, e, r⟩ := g.slot i d h1
    exact ⟨v, h2 v e, r⟩⟩
theorem Good.set {B : List Addr} {L : Nat → Nat} {σ : St} {H : Hp} {ρ : PEnv} {i : Nat} {v : V} {d : D} (g : Good K B L σ H ρ) (r : R K (hid B H) v d) : Good K B L (σ.set i (some v)) H (ρ.set i (some d)) :=
  ⟨g.ok, by rw [List.length_set, List.length_set, g.len], fun j e h => by
    by_cases hj : i = j
    · subst hj
      have hi : i < ρ.length := by
        have := (List.getElem?_eq_some_iff.mp h).1
        simpa using this
      rw [List.getElem?_set_self hi] at h
      cases h
      exact ⟨v, List.getElem?_set_self (by rw [g.len]; exact hi), .z r⟩
    · rw [List.getElem?_set_ne hj] at h ⊢
      exact g.slot j e h⟩
theorem Good.sets {B : List Addr} {L : Nat → Nat} {H : Hp} : ∀ {m : List (Nat × V)} {l : List (Nat × D)} {σ : St} {ρ : PEnv}, Good K B L σ H ρ → RS K (hid B H) m l → Good K B L (setsV σ m) H (setsD ρ l)
  | [], [], σ, ρ, g, .nil => g
  | (i, v) :: m, (_, d) :: l, σ, ρ, g, .cons r t => Good.sets (m := m) (l := l) (σ := σ.set i (some v)) (ρ := ρ.set i (some d)) (Good.set g r) t
theorem wipe_set {σ : St} {i : Nat} {x : Option V} : ∀ {vs : List Nat}, i ∈ vs → wipe (σ.set i x) vs = wipe σ vs
  | [], h => by simp at h
  | v :: vs, h => by
    unfold wipe
    by_cases hv : i ∈ vs
    · rw [wipe_set hv]
    · have e : i = v := by
        rcases List.mem_cons.mp h with e | h
        · exact e
        · exact absurd h hv
      subst e
      have : ∀ ws : List Nat, i ∉ ws → wipe (σ.set i x) ws = (wipe σ ws).set i x := by
        intro ws
        induction ws with
        | nil => intro _; rfl
        | cons w ws ih =>
          intro hn
          unfold wipe
          rw [ih (fun z => hn (List.mem_cons_of_mem _ z)), List.set_comm _ _ (fun z => hn (by rw [z]; exact List.mem_cons_self))]
      rw [this vs hv, List.set_set]
theorem wipe_sets : ∀ {m : List (Nat × V)} {σ : St} {vs : List Nat}, (∀ i ∈ m.map (·.1), i ∈ vs) → wipe (setsV σ m) vs = wipe σ vs
  | [], σ, vs, _ => rfl
  | (i, v) :: m, σ, vs, h => by
    show wipe (setsV (σ.set i (some v)) m) vs = _
    rw [wipe_sets fun j hj => h j (List.mem_cons_of_mem _ hj), wipe_set (h i List.mem_cons_self)]
theorem wipe_wipe (σ : St) : ∀ vs : List Nat, (∀ i ∈ vs, (wipe σ vs)[i]? = some none ∨ (wipe σ vs)[i]? = none) := fun vs i hi => by
  cases h : (wipe σ vs)[i]? with
  | none => exact .inr rfl
  | some x =>
    cases x with
    | none => exact .inl rfl
    | some v => exact absurd hi (wipe_some h).2
theorem wipe_idem {σ : St} {vs : List Nat} : ∀ ws : List Nat, (∀ i ∈ ws, i ∈ vs) → wipe (wipe σ vs) ws = wipe σ vs
  | [], _ => rfl
  | w :: ws, h => by
    show (L2.wipe (L2.wipe σ vs) ws).set w none = L2.wipe σ vs
    rw [wipe_idem ws fun i hi => h i (List.mem_cons_of_mem _ hi)]
    have hw := wipe_wipe σ vs w (h w List.mem_cons_self)
    apply List.ext_getElem?
    intro j
    by_cases hj : w = j
    · subst hj
      by_cases hl : w < (L2.wipe σ vs).length
      · rw [List.getElem?_set_self hl]
        rcases hw with e | e
        · exact e.symm
        · rw [List.getElem?_eq_getElem hl] at e; cases e
      · rw [List.getElem?_eq_none (by simpa using hl), List.getElem?_eq_none (by simpa using hl)]
    · rw [List.getElem?_set_ne hj]
/-- the reading of a comprehension -/
theorem lc_ok {m : Nat} {fi : FA} {ci : Esc} {t : Tg} {ft : FT} {fe : FE} {ce : Esc} {vs : List Nat} (hm : m = 1) (hv : t.ix.all (vs.contains ·) = true) (hκ : κ.one = true) :
    ∀ σ H Q, tD K κ (eLc fi t ft fe vs) (ci ++ ce) σ H Q → tLc (tI K m fi ci) (tG K t) (tT K ft) (tD K (.br 0) fe ce) vs σ H Q := by
  intro σ H Q ⟨B, L, ρ, d, g, es, hf, q⟩
  obtain ⟨ds, h1, h2⟩ := o1_some hf
  have hz : ds.length ≤ sz := by
    split at h2
    · assumption
    · cases h2
  rw [if_pos hz] at h2
  obtain ⟨ys, h3, h4⟩ := o1_some h2
  cases (Option.some.inj h4)
  refine ⟨B, L, ρ, ds, g, es.left, h1, fun J H1 s1 wk D hD => ?_⟩
  subst hm
  have hixs : ∀ {l : List (Nat × PyData)} {mm : List (Nat × V)} {d : PyData} {B' : List Addr} {Hh : Hp}, t.go d = some l → RS K (hid B' Hh) mm l → ∀ i ∈ mm.map (·.1), i ∈ vs := fun {l mm d B' Hh} e rs i hi => by
    rw [rs.ix, Tg.go_ix e] at hi
    have := List.all_eq_true.mp hv i hi
    simpa using this
  -- what holds behind i turns
  let W : Nat → Nat → Hp → Prop := fun i n H' => n = ds.length - i ∧ i ≤ ds.length ∧ Same H1 H' ∧ ∃ acc done rest, H' D = some (.lst acc) ∧ RA K (hid (D :: B) H') acc done ∧ acc.length ≤ i ∧ lcGo t ft fe (wipeD ρ vs) (ds.drop i) = some rest ∧ done ++ rest = ys
  refine ⟨W, ⟨ds.length, by simp, Nat.zero_le _, same_upd hD, [], [], ys, upd_same, .nil, Nat.le_refl _, by simpa using h3, rfl⟩, ?_⟩
  rintro i n H' ⟨rfl, hi, s', acc, done, rest, hacc, racc, hlen, hgo, hys⟩
  have okB : Ok (D :: B) H' := ((g.ok.mono s1).mono s').cons hacc rfl
  have gd : Good K (D :: B) L σ H' ρ := by
    refine ⟨okB, g.len, fun j e h => ?_⟩
    obtain ⟨v, e1, r⟩ := g.slot j e h
    refine ⟨v, e1, ((r.mono s1 (same_hid s1)).mono s' (same_hidW s' fun a ha => ?_))⟩
    rcases List.mem_cons.mp ha with z | z
    · rw [z]; exact .inr hD
    · exact .inl z
  by_cases hlt : i < ds.length
  · refine .inr ⟨wk.go i H' hlt s', fun H'' => W (i + 1) (ds.length - (i + 1)) H'', fun H'' w => ⟨_, by omega, w⟩, fun x H2 y => ?_⟩
    have hd : ds[i]? = some ds[i] := List.getElem?_eq_getElem hlt
    obtain ⟨s2, rx⟩ := wk.yld i H' x H2 _ hd s' y
    have rx := rx (D :: B) fun a ha => by
      refine ⟨?_, okB.trk a ha⟩
      rcases List.mem_cons.mp ha with z | z
      · rw [z]; exact .inr hD
      · exact .inl z
    rw [List.drop_eq_getElem_cons hlt] at hgo
    unfold lcGo at hgo
    have hacc2 := s2 _ _ hacc
    have racc2 := racc.mono (same_hid (B := D :: B) s2)
    split at hgo
    · cases hgo
    · rename_i l hl
      refine ⟨D :: B, _, l, rx, hl, fun mm rs => ⟨?_, ?_⟩⟩
      · rw [wipe_sets (hixs hl rs)]
        exact wipe_idem vs fun _ h => h
      · have gs : Good K (D :: B) L (setsV (wipe σ vs) mm) H2 (setsD (wipeD ρ vs) l) := ((gd.mono s2).wipe vs).sets rs
        split at hgo
        · cases hgo
        · rename_i hft
          refine ⟨D :: B, L, _, false, gs, hft, fun H3 s3 => ?_⟩
          refine iteF ?_
          exact ⟨rfl, hlt, (s'.trans s2).trans s3, acc, done, rest, s3 _ _ hacc2, racc2.mono (same_hid s3), by omega, hgo, hys⟩
        · rename_i hft
          split at hgo
          · cases hgo
          · rename_i yv hfe
            split at hgo
            · cases hgo
            · rename_i ys' hrest
              cases (Option.some.inj hgo)
              refine ⟨D :: B, L, _, true, gs, hft, fun H3 s3 => ?_⟩
              refine iteT ?_
              refine ⟨D :: B, L, _, yv, gs.mono s3, es.right, hfe, fun v H4 s4 p4 => ?_⟩
              have s34 := s3.trans s4
              have hacc4 := s34 _ _ hacc2
              have su : Same (hid (D :: B) H4) (hid (D :: B) (upd H4 D (.lst (acc ++ [v])))) := fun b o e => by
                obtain ⟨e1, e2⟩ := hid_some e
                rw [hid_out e1, upd_ne fun z => e1 (by rw [z]; exact List.mem_cons_self)]
                exact e2
              refine ⟨acc, hacc4, by rw [sz_eq]; omega, rfl, hlt, fun b o e => ?_, acc ++ [v], done ++ [yv], ys', upd_same, ((racc2.mono (same_hid s34)).append (.cons (RL.r p4) .nil)).mono su, by simp; omega, hrest, by rw [List.append_assoc]; exact hys⟩
              have hb : b ≠ D := ne_of_none e hD
              rw [upd_ne hb]
              exact ((s'.trans s2).trans s34) _ _ e
  · have e : i = ds.length := by omega
    subst e
    refine .inl ⟨wk.stop H' s', ?_⟩
    rw [List.drop_length] at hgo
    unfold lcGo at hgo
    cases (Option.some.inj hgo)
    rw [List.append_nil] at hys
    subst hys
    refine q _ H' (s1.trans s') (Post.new g.ok.trk (s1.free hD) hacc racc hκ)
theorem qe_lc {elt tg iter : Expr} {ifs : List Expr} {scope : Scope} {own : List (Str × Nat)} {pos : Pos} {fi : FA} {ci ce : Esc} {t : Tg} {ft : FT} {fe : FE} (hc : X.calm = true) (hN : X.N.Nodup) (hi : PI X tg iter (tI K 1 fi ci)) (ok : BlkOk X.N X.env.scope scope own)
    (hg : ∀ (s : Shared) (H : Hp) (C : Addr) (cl : List (Str × Addr)) (fp : List Addr), PG (X.blk s H scope (compEnvC scope cl C X.env) fp) tg (tG K t)) (ht : ∀ (s : Shared) (H : Hp) (C : Addr) (cl : List (Str × Addr)) (fp : List Addr), PTs (X.blk s H scope (compEnvC scope cl C X.env) fp) ifs (tT K ft))
    (he : ∀ (s : Shared) (H : Hp) (C : Addr) (cl : List (Str × Addr)) (fp : List Addr), PE (X.blk s H scope (compEnvC scope cl C X.env) fp) elt (tD K (.br 0) fe ce)) (hv : t.ix.all ((own.map (·.2)).contains ·) = true := by rfl) (hκ : κ.one = true := by rfl) (hs : ∀ x, foldedSetIterable iter X.env x = pure x := by intro _; rfl) :
    PE X (.ListComp elt [⟨tg, iter, ifs, 0⟩] scope pos) (tD K κ (eLc fi t ft fe (own.map (·.2))) (ci ++ ce)) := (pe_lc hc hN hi ok hg ht he hs).imp (lc_ok rfl hv hκ)
def tTrue : FT := fun _ => some true
theorem qts_nil : PTs X [] (tT K tTrue) := ⟨fun pins s σ H Q I ⟨B, L, ρ, b, g, h, q⟩ => pts_nil.run pins s σ H Q I (by cases (Option.some.inj h); exact q H (Same.refl H))⟩
theorem qts_one {c : Expr} {f : FT} (h : PT X c (tT K f)) : PTs X [c] (tT K f) := pts_one h
end
end DS
end

section
set_option Elab.async false
set_option linter.all false
set_option maxRecDepth 100000
/-! Part g: statements. -/
namespace DS
open PySem PySem.Spec PyProof.Rows L2

abbrev S := PEnv × List Nat
inductive Out where
  | stuck
  | next (s : S)
  | ret (d : D)
  | brk (s : S)
  | cont (s : S)
abbrev FS := S → Out
def lv (L : List Nat) (i : Nat) : Nat := L.getD i 0
def demote : Esc → List Nat → List Nat
  | [], L => L
  | (i, m) :: es, L => demote es (if lv L i ≤ m then L else L.set i 0)

structure GoodS (K : PySem.W.Frag) (B0 : List Addr) (G : Hp) (O : Nat → List Addr) (B : List Addr) (σ : St) (H : Hp) (ρ : PEnv) (L : List Nat) : Prop where
  memB : ∀ a, a ∈ B ↔ a ∈ B0 ∨ ∃ i, a ∈ O i
  ok : Ok B H
  same : Same G H
  g0 : ∀ a ∈ B0, G a ≠ none
  gO : ∀ i, ∀ a ∈ O i, G a = none
  nd : ∀ i, (O i).Nodup
  dj : ∀ i j, i ≠ j → ∀ a ∈ O i, a ∉ O j
  len : σ.length = ρ.length
  lenL : L.length = ρ.length
  slot : ∀ (i : Nat) (d : D), ρ[i]? = some (some d) → ∃ v, σ[i]? = some (some v) ∧ RO K B H (lv L i) (O i) v d
def GS (K : PySem.W.Frag) (B0 : List Addr) (G : Hp) (σ : St) (H : Hp) (s : S) : Prop := ∃ O B, GoodS K B0 G O B σ H s.1 s.2
section
variable {K : PySem.W.Frag} {B0 B : List Addr} {G H H' : Hp} {O : Nat → List Addr} {σ : St} {ρ : PEnv} {L : List Nat}
theorem GoodS.good (g : GoodS K B0 G O B σ H ρ L) : Good K B (lv L) σ H ρ := ⟨g.ok, g.len, fun i d h => let ⟨v, h1, h2⟩ := g.slot i d h; ⟨v, h1, h2.toRL_aux⟩⟩
theorem GoodS.mono (g : GoodS K B0 G O B σ H ρ L) (e : Same H H') : GoodS K B0 G O B σ H' ρ L :=
  ⟨g.memB, g.ok.mono e, g.same.trans e, g.g0, g.gO, g.nd, g.dj, g.len, g.lenL, fun i d h => let ⟨v, h1, h2⟩ := g.slot i d h; ⟨v, h1, h2.mono_aux (same_hid e) fun a ha => by
    obtain ⟨o, h3, _⟩ := g.ok a ((g.memB a).mpr (.inr ⟨i, ha⟩))
    rw [h3, e _ _ h3]⟩⟩
theorem lv_set {L : List Nat} {i j x : Nat} : lv (L.set i x) j = if i = j ∧ i < L.length then x else lv L j := by
  unfold lv
  rw [List.getD_eq_getElem?_getD, List.getD_eq_getElem?_getD]
  by_cases h : i = j
  · subst h
    by_cases hi : i < L.length
    · rw [List.getElem?_set_self hi, if_pos ⟨rfl, hi⟩]; rfl
    · rw [List.getElem?_eq_none (by simpa using hi), List.getElem?_eq_none (by omega), if_neg fun z => hi z.2]
  · rw [List.getElem?_set_ne h, if_neg fun z => h z.1]
/-- a name lets its own go -/
theorem GoodS.drop (g : GoodS K B0 G O B σ H ρ L) (i : Nat) : ∃ O' B', GoodS K B0 G O' B' σ H ρ (L.set i 0) ∧ (∀ a ∈ B', a ∈ B) := by
  refine ⟨fun j => if j = i then [] else O j, B.filter fun a => decide (a ∉ O i), ⟨fun a => ?_, g.ok.sub fun a h => (List.mem_filter.mp h).1, g.same, g.g0, fun j a h => ?_, fun j => ?_, fun j k hjk a h => ?_, g.len, by rw [List.length_set, g.lenL], fun j d h => ?_⟩, fun a h => (List.mem_filter.mp h).1⟩
  · rw [List.mem_filter, g.memB]
    constructor
    · rintro ⟨h | ⟨j, h⟩, h2⟩
      · exact .inl h
      · refine .inr ⟨j, ?_⟩
        have h2 := of_decide_eq_true h2
        by_cases hj : j = i
        · rw [hj] at h; exact absurd h h2
        · rw [if_neg hj]; exact h
    · rintro (h | ⟨j, h⟩)
      · exact ⟨.inl h, decide_eq_true fun z => g.g0 a h (g.gO i a z)⟩
      · by_cases hj : j = i
        · rw [if_pos hj] at h; simp at h
        · rw [if_neg hj] at h
          exact ⟨.inr ⟨j, h⟩, decide_eq_true (g.dj j i hj a h)⟩
  · by_cases hj : j = i
    · simp only [if_pos hj] at h; simp at h
    · simp only [if_neg hj] at h; exact g.gO j a h
  · by_cases hj : j = i
    · simp only [if_pos hj]; exact List.nodup_nil
    · simp only [if_neg hj]; exact g.nd j
  · by_cases hj : j = i
    · simp only [if_pos hj] at h; simp at h
    · simp only [if_neg hj] at h
      by_cases hk : k = i
      · simp only [if_pos hk]; simp
      · simp only [if_neg hk]; exact g.dj j k hjk a h
  · obtain ⟨v, h1, h2⟩ := g.slot j d h
    refine ⟨v, h1, ?_⟩
    by_cases hj : j = i
    · subst hj
      simp only [if_pos rfl]
      have hl : j < L.length := by
        have := (List.getElem?_eq_some_iff.mp h).1
        rw [g.lenL]; exact this
      rw [lv_set, if_pos ⟨rfl, hl⟩]
      exact .z (.inl rfl) (h2.toR_aux fun a q => ⟨(List.mem_filter.mp q).1, of_decide_eq_true (List.mem_filter.mp q).2⟩)
    · simp only [if_neg hj]
      rw [lv_set, if_neg fun z => hj z.1.symm]
      exact h2.mono_aux (same_hidW (Same.refl H) fun a q => .inl (List.mem_filter.mp q).1) fun _ _ => rfl
theorem demote_le : ∀ (es : Esc) (L : List Nat) (j : Nat), lv (demote es L) j ≤ lv L j
  | [], L, j => Nat.le_refl _
  | (i, m) :: es, L, j => by
    unfold demote
    refine Nat.le_trans (demote_le es _ j) ?_
    split
    · exact Nat.le_refl _
    · rw [lv_set]
      split
      · exact Nat.zero_le _
      · exact Nat.le_refl _
theorem demote_ok : ∀ (es : Esc) (L : List Nat), EscOk es (lv (demote es L))
  | [], L => EscOk.nil
  | (i, m) :: es, L => fun p hp => by
    unfold demote
    rcases List.mem_cons.mp hp with e | hp
    · rw [e]
      refine Nat.le_trans (demote_le es _ i) ?_
      split
      · assumption
      · rename_i h
        rw [lv_set]
        split
        · exact Nat.zero_le _
        · rename_i h2
          have : ¬ i < L.length := fun z => h2 ⟨rfl, z⟩
          unfold lv at h ⊢
          rw [List.getD_eq_getElem?_getD, List.getElem?_eq_none (by omega)] at h ⊢
          exact absurd (Nat.zero_le m) h
    · exact demote_ok es _ p hp
theorem demote_len : ∀ (es : Esc) (L : List Nat), (demote es L).length = L.length
  | [], L => rfl
  | (i, m) :: es, L => by
    unfold demote
    rw [demote_len es]
    split
    · rfl
    · rw [List.length_set]
theorem GoodS.demote (es : Esc) : ∀ {O : Nat → List Addr} {B : List Addr} {L : List Nat}, GoodS K B0 G O B σ H ρ L → ∃ O' B', GoodS K B0 G O' B' σ H ρ (DS.demote es L) ∧ ∀ a ∈ B', a ∈ B := by
  induction es with
  | nil => intro O B L g; exact ⟨O, B, g, fun _ h => h⟩
  | cons p es ih =>
    obtain ⟨i, m⟩ := p
    intro O B L g
    unfold DS.demote
    split
    · exact ih g
    · obtain ⟨O1, B1, g1, h1⟩ := g.drop i
      obtain ⟨O2, B2, g2, h2⟩ := ih g1
      exact ⟨O2, B2, g2, fun a h => h1 a (h2 a h)⟩
/-- a name is set -/
theorem GoodS.assign {i l : Nat} {v : V} {d : D} {o : List Addr} (g : GoodS K B0 G O B σ H ρ L) (e : Same H H') (hn : ∀ a ∈ o, H a = none) (ho : o.Nodup) (r : RO K (o ++ B) H' l o v d) : ∃ O' B', GoodS K B0 G O' B' (σ.set i (some v)) H' (ρ.set i (some d)) (L.set i l) ∧ ∀ a ∈ B', a ∈ o ++ B := by
  have hB' : ∀ a, a ∈ o ++ B.filter (fun a => decide (a ∉ O i)) → a ∈ o ++ B := fun a h => by
    rcases List.mem_append.mp h with h | h
    · exact List.mem_append_left _ h
    · exact List.mem_append_right _ (List.mem_filter.mp h).1
  have oB : ∀ a ∈ o, a ∉ B := fun a h z => g.ok.trk a z (hn a h)
  refine ⟨fun j => if j = i then o else O j, o ++ B.filter fun a => decide (a ∉ O i), ⟨fun a => ?_, ?_, g.same.trans e, g.g0, fun j a h => ?_, fun j => ?_, fun j k hjk a h => ?_, by rw [List.length_set, List.length_set, g.len], by rw [List.length_set, List.length_set, g.lenL], fun j d' h => ?_⟩, hB'⟩
  · rw [List.mem_append, List.mem_filter, g.memB]
    constructor
    · rintro (h | ⟨h | ⟨j, h⟩, h2⟩)
      · exact .inr ⟨i, by rw [if_pos rfl]; exact h⟩
      · exact .inl h
      · refine .inr ⟨j, ?_⟩
        have h2 := of_decide_eq_true h2
        by_cases hj : j = i
        · rw [hj] at h; exact absurd h h2
        · rw [if_neg hj]; exact h
    · rintro (h | ⟨j, h⟩)
      · exact .inr ⟨.inl h, decide_eq_true fun z => g.g0 a h (g.gO i a z)⟩
      · by_cases hj : j = i
        · rw [if_pos hj] at h; exact .inl h
        · rw [if_neg hj] at h
          exact .inr ⟨.inr ⟨j, h⟩, decide_eq_true (g.dj j i hj a h)⟩
  · have h1 : Ok o H' := r.mut_aux
    exact h1.append ((g.ok.mono e).sub fun a h => (List.mem_filter.mp h).1)
  · by_cases hj : j = i
    · simp only [if_pos hj] at h
      exact g.same.free (hn a h)
    · simp only [if_neg hj] at h; exact g.gO j a h
  · by_cases hj : j = i
    · simp only [if_pos hj]; exact ho
    · simp only [if_neg hj]; exact g.nd j
  · by_cases hj : j = i
    · simp only [if_pos hj] at h
      have hk : ¬ k = i := fun z => hjk (hj.trans z.symm)
      simp only [if_neg hk]
      exact fun z => oB a h ((g.memB a).mpr (.inr ⟨k, z⟩))
    · simp only [if_neg hj] at h
      by_cases hk : k = i
      · simp only [if_pos hk]
        exact fun z => oB a z ((g.memB a).mpr (.inr ⟨j, h⟩))
      · simp only [if_neg hk]; exact g.dj j k hjk a h
  · by_cases hj : j = i
    · subst hj
      have hi : j < ρ.length := by
        have := (List.getElem?_eq_some_iff.mp h).1
        simpa using this
      rw [List.getElem?_set_self hi] at h
      cases h
      refine ⟨v, List.getElem?_set_self (by rw [g.len]; exact hi), ?_⟩
      simp only [if_pos rfl]
      rw [lv_set, if_pos ⟨rfl, by rw [g.lenL]; exact hi⟩]
      exact r.mono_aux (same_hidW (Same.refl H') fun a q => .inl (hB' a q)) fun _ _ => rfl
    · rw [List.getElem?_set_ne (Ne.symm hj)] at h
      obtain ⟨w, h1, h2⟩ := g.slot j d' h
      refine ⟨w, by rw [List.getElem?_set_ne (Ne.symm hj)]; exact h1, ?_⟩
      simp only [if_neg hj]
      rw [lv_set, if_neg fun z => hj z.1.symm]
      refine h2.mono_aux (same_hidW e fun a q => ?_) fun a ha => ?_
      · rcases List.mem_append.mp q with q | q
        · exact .inr (hn a q)
        · exact .inl (List.mem_filter.mp q).1
      · obtain ⟨u, h3, _⟩ := g.ok a ((g.memB a).mpr (.inr ⟨j, ha⟩))
        rw [h3, e _ _ h3]
theorem GoodS.assign0 {i : Nat} {v : V} {d : D} (g : GoodS K B0 G O B σ H ρ L) (r : R K (hid B H) v d) : ∃ O' B', GoodS K B0 G O' B' (σ.set i (some v)) H (ρ.set i (some d)) (L.set i 0) ∧ ∀ a ∈ B', a ∈ B :=
  g.assign (o := []) (Same.refl H) (by simp) List.nodup_nil (.z (.inl rfl) r)
end

/-! ### the reading of a statement -/
def Fin (K : PySem.W.Frag) (B0 : List Addr) (G : Hp) (E : Ends) : Out → Prop
  | .stuck => False
  | .next s => ∀ σ' H', GS K B0 G σ' H' s → E.nx σ' H'
  | .brk s => ∀ σ' H', GS K B0 G σ' H' s → E.bk σ' H'
  | .cont s => ∀ σ' H', GS K B0 G σ' H' s → E.ct σ' H'
  | .ret d => ∀ v H', Same G H' → R K (hid B0 H') v d → E.rt v H'
def tS (K : PySem.W.Frag) (g : FS) : TS := fun E σ H => ∃ B0 G s, GS K B0 G σ H s ∧ Fin K B0 G E (g s)
def sNil : FS := fun s => .next s
def sSeq (f g : FS) : FS := fun s => match f s with
  | .next s' => g s'
  | o => o
section
variable {X : Cx} {K : PySem.W.Frag} {st : Stmt} {sts : List Stmt} {f g : FS}
theorem ss_nil : PSs X [] (tS K sNil) := pss_nil.imp fun E σ H ⟨B0, G, s, hs, q⟩ => q σ H hs
theorem ss_one (h : PS X st (tS K f)) : PSs X [st] (tS K f) := pss_one h
theorem ss_cons (h : PS X st (tS K f)) (t : PSs X sts (tS K g)) : PSs X (st :: sts) (tS K (sSeq f g)) := (pss_cons h t).imp fun E σ H ⟨B0, G, s, hs, q⟩ => by
  refine ⟨B0, G, s, hs, ?_⟩
  unfold sSeq at q
  cases hf : f s with
  | next s' => rw [hf] at q; exact fun σ' H' hs' => ⟨B0, G, s', hs', q⟩
  | stuck => rw [hf] at q; exact q
  | ret d => rw [hf] at q; exact q
  | brk s' => rw [hf] at q; exact q
  | cont s' => rw [hf] at q; exact q
theorem ss_pass {pos : Pos} : PS X (.Pass pos) (tS K sNil) := ps_pass.imp fun E σ H ⟨B0, G, s, hs, q⟩ => q σ H hs
def sBreak : FS := fun s => .brk s
def sCont : FS := fun s => .cont s
theorem ss_break {pos : Pos} : PS X (.Break pos) (tS K sBreak) := ps_break.imp fun E σ H ⟨B0, G, s, hs, q⟩ => q σ H hs
theorem ss_continue {pos : Pos} : PS X (.Continue pos) (tS K sCont) := ps_continue.imp fun E σ H ⟨B0, G, s, hs, q⟩ => q σ H hs
theorem ss_doc {x j pos pos'} : PS X (.Expr (.Constant (.str x) j pos) pos') (tS K sNil) := ps_doc.imp fun E σ H ⟨B0, G, s, hs, q⟩ => q σ H hs
/-! return -/
def sRet (f : FE) : FS := fun s => match f s.1 with
  | none => .stuck
  | some d => .ret d
theorem GS.value {κ : Mo} {B0 : List Addr} {G H : Hp} {σ : St} {s : S} {f : FE} {es : Esc} {d : D} {Q : VK} (h : GS K B0 G σ H s) (hf : f s.1 = some d)
    (q : ∀ O B v H', GoodS K B0 G O B σ H s.1 (demote es s.2) → Same H H' → Post K B H H' κ v d → Q v H') : tD K κ f es σ H Q := by
  obtain ⟨O, B, g⟩ := h
  obtain ⟨O', B', g', _⟩ := g.demote es
  exact ⟨B', lv (demote es s.2), s.1, d, g'.good, demote_ok es s.2, hf, fun v H' e p => q O' B' v H' g' e p⟩
theorem ss_ret {e : Expr} {pos : Pos} {f : FE} {c : Esc} (h : PE X e (tD K (.br 0) f c)) : PS X (.Return (some e) pos) (tS K (sRet f)) := (ps_ret h).imp fun E σ H ⟨B0, G, s, hs, q⟩ => by
  unfold sRet at q
  split at q
  · exact q.elim
  · rename_i d hd
    refine GS.value hs hd fun O B v H' g e p => q v H' (g.same.trans e) ((RL.r p).mono (same_hidW (Same.refl H') fun a ha => .inl ((g.memB a).mpr (.inl ha))))
theorem ss_retN {pos : Pos} : PS X (.Return none pos) (tS K fun _ => .ret .none) := ps_retN.imp fun E σ H ⟨B0, G, s, hs, q⟩ => by
  obtain ⟨O, B, g⟩ := hs
  exact q .non H g.same .non
/-! if -/
def sIf (c : FT) (f g : FS) : FS := fun s => match c s.1 with
  | none => .stuck
  | some true => f s
  | some false => g s
theorem GS.mono {B0 : List Addr} {G H H' : Hp} {σ : St} {s : S} (h : GS K B0 G σ H s) (e : Same H H') : GS K B0 G σ H' s := let ⟨O, B, g⟩ := h; ⟨O, B, g.mono e⟩
theorem GS.good {B0 : List Addr} {G H : Hp} {σ : St} {s : S} (h : GS K B0 G σ H s) : ∃ B L, Good K B L σ H s.1 := let ⟨_, _, g⟩ := h; ⟨_, _, g.good⟩
theorem ss_if {c : Expr} {a b : List Stmt} {pos : Pos} {t : FT} (hc : PT X c (tT K t)) (ha : PSs X a (tS K f)) (hb : PSs X b (tS K g)) : PS X (.If c a b pos) (tS K (sIf t f g)) := (ps_if hc ha hb).imp fun E σ H ⟨B0, G, s, hs, q⟩ => by
  obtain ⟨B, L, gd⟩ := hs.good
  unfold sIf at q
  split at q
  · exact q.elim
  · exact ⟨B, L, s.1, true, gd, by assumption, fun H1 s1 => iteT ⟨B0, G, s, hs.mono s1, q⟩⟩
  · exact ⟨B, L, s.1, false, gd, by assumption, fun H1 s1 => iteF ⟨B0, G, s, hs.mono s1, q⟩⟩
/-! name = value -/
def sSet (i l : Nat) (f : FE) (c : Esc) : FS := fun s => match f s.1 with
  | none => .stuck
  | some d => if flat d = true then .next (s.1.set i (some d), s.2.set i 0) else .next (s.1.set i (some d), (demote c s.2).set i l)
def moOf : Nat → Mo
  | 0 => .br 0
  | 1 => .fr
  | _ => .fr2
theorem Post.open {B : List Addr} {H0 H' : Hp} {κ : Mo} {v : V} {d : D} (h : Post K B H0 H' κ v d) : R K H' v d := by
  cases κ with
  | br m => exact RL.open h
  | fr => obtain ⟨o, _, _, h⟩ := h; exact h.toRL_aux.open
  | fr2 => obtain ⟨o, _, _, h⟩ := h; exact h.toRL_aux.open
theorem set_ok {i l : Nat} {f : FE} {c : Esc} (hl : l ≤ 2) : ∀ E σ H, tS K (sSet i l f c) E σ H → tAsg (tD K (moOf l) f c) (gName i) E σ H := fun E σ H ⟨B0, G, s, hs, q⟩ => by
  unfold sSet at q
  split at q
  · exact q.elim
  · rename_i d hd
    split at q
    · rename_i hfl
      obtain ⟨O, B, g⟩ := hs
      refine ⟨[], _, s.1, d, g.good.zero, .zero, hd, fun v H' e p => q _ H' ?_⟩
      obtain ⟨O', B', g', _⟩ := (g.mono e).assign0 (i := i) (p.open.hidF ((g.ok.mono e).noTup) hfl)
      exact ⟨O', B', g'⟩
    · refine GS.value hs hd fun O B v H' g e p => q _ H' ?_
      match l, hl with
      | 0, _ =>
        obtain ⟨O', B', g', _⟩ := (g.mono e).assign0 (i := i) (RL.r p)
        exact ⟨O', B', g'⟩
      | 1, _ =>
        obtain ⟨o, h1, h2, h3⟩ := p
        obtain ⟨O', B', g', _⟩ := g.assign (i := i) e h1 h2 h3
        exact ⟨O', B', g'⟩
      | 2, _ =>
        obtain ⟨o, h1, h2, h3⟩ := p
        obtain ⟨O', B', g', _⟩ := g.assign (i := i) e h1 h2 h3
        exact ⟨O', B', g'⟩
theorem ss_set (i l : Nat) {x : Str} {e : Expr} {f : FE} {c : Esc} {pos pos' : Pos} (hN : X.N.Nodup) (he : PE X e (tD K (moOf l) f c)) (hl : l ≤ 2 := by decide) (hi : X.N[i]? = some x := by rfl) (hx : Loc X.env.scope x := by first | exact Or.inl rfl | exact Or.inr rfl) (hs : swapsWith e (some (.Name x pos')) pos.line X.env = pure false := by rfl) (hf : X.fn x = true ∨ X.env.scope.names.lookup x = some .local := by first | exact .inl rfl | exact .inr rfl) :
    PS X (.Assign [.Name x pos'] e pos) (tS K (sSet i l f c)) := (ps_set hN hi hx he hs hf).imp (set_ok hl)
/-- name = [..] -/
theorem ss_setLc (i l : Nat) {y : Str} {py : Pos} {elt tg iter : Expr} {ifs : List Expr} {scope : Scope} {own : List (Str × Nat)} {pos spos : Pos} {fi : FA} {ci ce : Esc} {t : Tg} {ft : FT} {fe : FE} (hc : X.calm = true) (hN : X.N.Nodup) (hi : PI X tg iter (tI K 1 fi ci)) (ok : BlkOk X.N X.env.scope scope own)
    (hg : ∀ (s : Shared) (H : Hp) (C : Addr) (cl : List (Str × Addr)) (fp : List Addr), PG (X.blk s H scope (compEnvC scope cl C X.env) fp) tg (tG K t)) (ht : ∀ (s : Shared) (H : Hp) (C : Addr) (cl : List (Str × Addr)) (fp : List Addr), PTs (X.blk s H scope (compEnvC scope cl C X.env) fp) ifs (tT K ft))
    (he : ∀ (s : Shared) (H : Hp) (C : Addr) (cl : List (Str × Addr)) (fp : List Addr), PE (X.blk s H scope (compEnvC scope cl C X.env) fp) elt (tD K (.br 0) fe ce)) (hl : l ≤ 1 := by decide) (hy : X.N[i]? = some y := by rfl) (hyl : X.env.scope.names.lookup y = some .local := by rfl)
    (hsw : swapsWith (.ListComp elt [⟨tg, iter, ifs, 0⟩] scope pos) (some (.Name y py)) spos.line X.env = pure true := by exact sw_true rfl rfl rfl (by decide +kernel)) (hv : t.ix.all ((own.map (·.2)).contains ·) = true := by rfl) (hs : ∀ x, foldedSetIterable iter X.env x = pure x := by intro _; rfl) :
    PS X (.Assign [.Name y py] (.ListComp elt [⟨tg, iter, ifs, 0⟩] scope pos) spos) (tS K (sSet i l (eLc fi t ft fe (own.map (·.2))) (ci ++ ce))) := (ps_setLc hc hN hy hyl hsw hi ok hg ht he hs).imp fun E σ H h =>
  lc_ok (κ := moOf l) rfl hv (by match l, hl with | 0, _ => rfl | 1, _ => rfl) σ H _ (set_ok (by omega) E σ H h)
/-! (a, b) = value: names -/
def zeros (L : List Nat) (l : List (Nat × D)) : List Nat := l.foldl (fun L p => L.set p.1 0) L
def sTup (t : Tg) (f : FE) (c : Esc) : FS := fun s => match f s.1 with
  | none => .stuck
  | some d => match t.go d with
    | none => .stuck
    | some l => if flat d = true then .next (setsD s.1 l, zeros s.2 l) else .next (setsD s.1 l, zeros (demote c s.2) l)
theorem GS.sets {B0 : List Addr} {G H : Hp} : ∀ {m : List (Nat × V)} {l : List (Nat × D)} {σ : St} {ρ : PEnv} {L : List Nat} {O : Nat → List Addr} {B B1 : List Addr}, GoodS K B0 G O B σ H ρ L → (∀ a ∈ B, a ∈ B1) → RS K (hid B1 H) m l → GS K B0 G (setsV σ m) H (setsD ρ l, zeros L l)
  | [], [], σ, ρ, L, O, B, B1, g, hB, .nil => ⟨O, B, g⟩
  | (i, v) :: m, (_, d) :: l, σ, ρ, L, O, B, B1, g, hB, .cons r t => by
    obtain ⟨O', B', g', hB'⟩ := g.assign0 (i := i) (v := v) (d := d) (r.mono (same_hidW (Same.refl H) fun a h => .inl (hB a h)))
    exact GS.sets (m := m) (l := l) g' (fun a h => hB a (hB' a h)) t
theorem ss_tup {tg e : Expr} {t : Tg} {f : FE} {c : Esc} {pos : Pos} (he : PE X e (tD K (.br 0) f c)) (hg : PG X tg (tG K t)) (hs : swapsWithSole [tg] e pos.line X.env = pure false := by rfl) (hw : swappedStores [tg] e X.env = pure none := by rfl)
    (h1 : (assignEach [tg] X.env).map (·.2) = [assign tg X.env] := by rfl) : PS X (.Assign [tg] e pos) (tS K (sTup t f c)) := (ps_asg he hg hs hw h1).imp fun E σ H ⟨B0, G, s, hs, q⟩ => by
  unfold sTup at q
  split at q
  · exact q.elim
  · rename_i d hd
    split at q
    · exact q.elim
    · rename_i l hl
      split at q
      · rename_i hfl
        obtain ⟨O, B, g⟩ := hs
        refine ⟨[], _, s.1, d, g.good.zero, .zero, hd, fun v H' e p => ?_⟩
        exact ⟨B, d, l, p.open.hidF ((g.ok.mono e).noTup) hfl, hl, fun m rs => q _ H' (GS.sets (g.mono e) (fun _ h => h) rs)⟩
      · refine GS.value (κ := .br 0) hs hd fun O B v H' g e p => ?_
        exact ⟨B, d, l, RL.r p, hl, fun m rs => q _ H' (GS.sets (g.mono e) (fun _ h => h) rs)⟩
/-! a, b = x, y with names -/
def sPar (i j : Nat) (f g : FE) (c : Esc) : FS := fun s => match f s.1, g s.1 with
  | some d, some e => if (flat d && flat e) = true then .next ((s.1.set i (some d)).set j (some e), (s.2.set i 0).set j 0) else .next ((s.1.set i (some d)).set j (some e), ((demote c s.2).set i 0).set j 0)
  | _, _ => .stuck
theorem ss_par (i j : Nat) {x y : Str} {a b : Expr} {f g : FE} {c c' : Esc} {px py pt pos : Pos} {kt k2 pt2} (hc : X.calm = true) (hN : X.N.Nodup) (ha : PE X a (tD K (.br 0) f c)) (hb : PE X b (tD K (.br 0) g c'))
    (hw : swappedStores [.Tuple [.Name x px, .Name y py] kt pt] (.Tuple [a, b] k2 pt2) X.env = pure (some [x, y])) (hi : X.N[i]? = some x := by rfl) (hj : X.N[j]? = some y := by rfl) (hij : i ≠ j := by decide)
    (hx : X.env.scope.names.lookup x = some .local := by rfl) (hy : X.env.scope.names.lookup y = some .local := by rfl)
    (hs : swapsWithSole [.Tuple [.Name x px, .Name y py] kt pt] (.Tuple [a, b] k2 pt2) pos.line X.env = pure false := by rfl) (hs1 : starEach [a, b] X.env = (false, eval a X.env) :: starEach [b] X.env := by rfl) (hs2 : starEach [b] X.env = (false, eval b X.env) :: starEach [] X.env := by rfl) :
    PS X (.Assign [.Tuple [.Name x px, .Name y py] kt pt] (.Tuple [a, b] k2 pt2) pos) (tS K (sPar i j f g (c ++ c'))) := (ps_par hc hN hi hj hij hx hy (qa_cons ha (qa_cons hb qa_nil hs2) hs1) hw hs).imp fun E σ H ⟨B0, G, s, hs, q⟩ => by
  unfold sPar at q
  split at q
  · rename_i d e hd he
    have hf : aCons f (aCons g aNil) s.1 = some [d, e] := by
      unfold aCons aNil
      simp [hd, he, o2]
    split at q
    · rename_i hfl
      rw [Bool.and_eq_true] at hfl
      obtain ⟨O, B, gd⟩ := hs
      refine ⟨[], _, s.1, _, gd.good.zero, .zero, hf, fun vs H' e1 hl p => ?_⟩
      match vs, hl with
      | [v, w], _ =>
        refine ⟨v, w, rfl, q _ H' ?_⟩
        have hB := (gd.ok.mono e1).noTup
        exact GS.sets (m := [(i, v), (j, w)]) (l := [(i, d), (j, e)]) (gd.mono e1) (fun _ h => h) (.cons ((RL.r0 (p 0 v d rfl rfl)).hidF hB hfl.1) (.cons ((RL.r0 (p 1 w e rfl rfl)).hidF hB hfl.2) .nil))
    · obtain ⟨O, B, gd⟩ := hs
      obtain ⟨O', B', g', _⟩ := gd.demote (c ++ (c' ++ []))
      rw [List.append_nil] at g'
      refine ⟨B', lv (demote (c ++ c') s.2), s.1, _, g'.good, by rw [List.append_nil]; exact demote_ok _ s.2, hf, fun vs H' e1 hl p => ?_⟩
      match vs, hl with
      | [v, w], _ =>
        refine ⟨v, w, rfl, q _ H' ?_⟩
        exact GS.sets (m := [(i, v), (j, w)]) (l := [(i, d), (j, e)]) (g'.mono e1) (fun _ h => h) (.cons (RL.r (p 0 v d rfl rfl)) (.cons (RL.r (p 1 w e rfl rfl)) .nil))
  · exact q.elim
/-! name op= value -/
def sAug (i : Nat) (op : D → D → Option D) (f : FE) : FS := fun s => match o2 (eVar i s.1) (f s.1) op with
  | none => .stuck
  | some d => .next (s.1.set i (some d), s.2.set i 0)
theorem ss_aug (i : Nat) {x : Str} {e : Expr} {f : FE} {c : Esc} {o : Operator} {ti : TIp} {op : D → D → Option D} {pos pos' : Pos} (hp : PIp X o ti) (hop : ∀ (B : List Addr) (x y : V) (dx dy d : D) (H : Hp) (Q : VK), Ok B H → R K H x dx → R K H y dy → op dx dy = some d → (∀ v H', Same H H' → R K (hid B H') v d → Q v H') → ti x y H Q)
    (hN : X.N.Nodup) (he : PE X e (tD K (.br 1) f c)) (hi : X.N[i]? = some x := by rfl) (hx : Loc X.env.scope x := by first | exact Or.inl rfl | exact Or.inr rfl) (hf : X.fn x = true ∨ X.env.scope.names.lookup x = some .local := by first | exact .inl rfl | exact .inr rfl) :
    PS X (.AugAssign (.Name x pos') o e pos) (tS K (sAug i op f)) := (ps_aug hN hi hx he hp hf).imp fun E σ H ⟨B0, G, s, hs, q⟩ => by
  unfold sAug at q
  split at q
  · exact q.elim
  · rename_i d hd
    obtain ⟨dx, dy, h1, h2, h3⟩ := o2_some hd
    obtain ⟨O, B, g⟩ := hs
    obtain ⟨v, e1, r⟩ := g.good.slot i dx (eVar_some h1)
    refine ⟨v, e1, [], _, s.1, dy, g.good.zero, .zero, h2, fun w H1 s1 p1 => ?_⟩
    refine hop B v w dx dy d H1 _ (g.ok.mono s1) (r.open.mono s1) (RL.r0 p1) h3 fun z H2 s2 rz => q _ H2 ?_
    obtain ⟨O', B', g', _⟩ := ((g.mono s1).mono s2).assign0 (i := i) rz
    exact ⟨O', B', g'⟩
def dAddI : D → D → Option D
  | .int i, .int j => some (.int (i + j))
  | _, _ => none
theorem ss_augAdd (i : Nat) {x : Str} {e : Expr} {f : FE} {c : Esc} {pos pos' : Pos} (hN : X.N.Nodup) (he : PE X e (tD K (.br 1) f c)) (hi : X.N[i]? = some x := by rfl) (hx : Loc X.env.scope x := by first | exact Or.inl rfl | exact Or.inr rfl) (hf : X.fn x = true ∨ X.env.scope.names.lookup x = some .local := by first | exact .inl rfl | exact .inr rfl) :
    PS X (.AugAssign (.Name x pos') .Add e pos) (tS K (sAug i dAddI f)) := ss_aug i ip_add (fun B x y dx dy d H Q ok rx ry h q => by
      unfold dAddI at h
      split at h
      · cases (Option.some.inj h)
        exact ⟨_, _, rx.int', ry.int', q _ H (Same.refl H) (.int _)⟩
      · cases h) hN he hi hx hf
theorem ss_augSub (i : Nat) {x : Str} {e : Expr} {f : FE} {c : Esc} {pos pos' : Pos} (hN : X.N.Nodup) (he : PE X e (tD K (.br 1) f c)) (hi : X.N[i]? = some x := by rfl) (hx : Loc X.env.scope x := by first | exact Or.inl rfl | exact Or.inr rfl) (hf : X.fn x = true ∨ X.env.scope.names.lookup x = some .local := by first | exact .inl rfl | exact .inr rfl) :
    PS X (.AugAssign (.Name x pos') .Sub e pos) (tS K (sAug i dSub f)) := ss_aug i ip_sub (fun B x y dx dy d H Q ok rx ry h q => by
      unfold dSub at h
      split at h
      · cases (Option.some.inj h)
        exact ⟨_, _, rx.int', ry.int', q _ H (Same.refl H) (.int _)⟩
      · cases h) hN he hi hx hf
/-! x.append(e), x[i] = e: x owned -/
def sApp (i : Nat) (f : FE) (c : Esc) : FS := fun s => match f s.1, eVar i s.1 with
  | some d, some (.list ds) => if ds.length < sz then
      (if flat d = true then (if lv s.2 i = 1 then .next (s.1.set i (some (.list (ds ++ [d]))), s.2) else .stuck)
        else (if lv (demote c s.2) i = 1 then .next (s.1.set i (some (.list (ds ++ [d]))), demote c s.2) else .stuck)) else .stuck
  | _, _ => .stuck
/-- the owned list at a name, changed -/
theorem GoodS.write {B0 B : List Addr} {G H : Hp} {O : Nat → List Addr} {σ : St} {ρ : PEnv} {L : List Nat} {i : Nat} {ds : List D} (g : GoodS K B0 G O B σ H ρ L) (hd : ρ[i]? = some (some (.list ds))) (hl : lv L i = 1) :
    ∃ a xs, σ[i]? = some (some (.ref a)) ∧ H a = some (.lst xs) ∧ RA K (hid B H) xs ds ∧ ∀ xs' ds', RA K (hid B H) xs' ds' → GS K B0 G σ (upd H a (.lst xs')) (ρ.set i (some (.list ds')), L) := by
  obtain ⟨v, h1, h2⟩ := g.slot i _ hd
  rw [hl] at h2
  generalize hoi : O i = oi at h2
  cases h2 with
  | z h _ => rcases h with h | h <;> cases h
  | @l _ a os xs _ e ra =>
    have hra : RA K (hid B H) xs ds := by
      have : ∀ {os : List (List Addr)} {vs : List V} {ds : List D}, ROA K B H 0 os vs ds → RA K (hid B H) vs ds := fun {os vs ds} h => by
        refine ROA.rec (K := K) (B := B) (H := H) (motive_1 := fun l o v d _ => l = 0 → R K (hid B H) v d) (motive_2 := fun l os vs ds _ => l = 0 → RA K (hid B H) vs ds) ?_ ?_ ?_ ?_ ?_ ?_ h rfl
        · intro l v d _ r _; exact r
        · intro l a os xs ds _ _ _ z; cases z
        · intro l a kvs es _ _ _ z; cases z
        · intro l a kvs es _ _ _ z; cases z
        · intro l _; exact .nil
        · intro l o os v d vs ds _ _ i1 i2 z; exact .cons (i1 z) (i2 z)
      exact this ra
    have aB : a ∈ B := (g.memB a).mpr (.inr ⟨i, by rw [hoi]; exact List.mem_cons_self⟩)
    refine ⟨a, xs, h1, e, hra, fun xs' ds' r => ?_⟩
    have hsame : Same (hid B H) (hid B (upd H a (.lst xs'))) := fun b o q => by
      obtain ⟨q1, q2⟩ := hid_some q
      rw [hid_out q1, upd_ne fun z => q1 (by rw [z]; exact aB)]
      exact q2
    have hos : os.flatten = [] := by
      have : ∀ {os : List (List Addr)} {vs : List V} {ds : List D}, ROA K B H 0 os vs ds → os.flatten = [] := fun {os vs ds} h => by
        refine ROA.rec (K := K) (B := B) (H := H) (motive_1 := fun l o v d _ => l = 0 → o = []) (motive_2 := fun l os vs ds _ => l = 0 → os.flatten = []) ?_ ?_ ?_ ?_ ?_ ?_ h rfl
        · intro l v d _ r _; rfl
        · intro l a os xs ds _ _ _ z; cases z
        · intro l a kvs es _ _ _ z; cases z
        · intro l a kvs es _ _ _ z; cases z
        · intro l _; rfl
        · intro l o os v d vs ds _ _ i1 i2 z; rw [List.flatten_cons, i1 z, i2 z]; rfl
      exact this ra
    rw [hos] at hoi
    refine ⟨O, B, g.memB, fun b hb => ?_, fun b o q => ?_, g.g0, g.gO, g.nd, g.dj, by rw [List.length_set, g.len], by rw [List.length_set, g.lenL], fun j d h => ?_⟩
    · by_cases hba : b = a
      · rw [hba]; exact ⟨_, upd_same, rfl⟩
      · rw [upd_ne hba]; exact g.ok b hb
    · rw [upd_ne fun z => ?_]
      · exact g.same _ _ q
      · rw [z] at q
        have := g.gO i a (by rw [hoi]; exact List.mem_cons_self)
        rw [this] at q; cases q
    · by_cases hj : j = i
      · subst hj
        have hi : j < ρ.length := (List.getElem?_eq_some_iff.mp hd).1
        simp only [List.getElem?_set_self hi] at h
        cases h
        refine ⟨.ref a, h1, ?_⟩
        rw [hoi]
        show RO K B _ (lv L j) _ _ _
        rw [hl]
        exact RO.l1 upd_same (r.mono hsame)
      · simp only [List.getElem?_set_ne (Ne.symm hj)] at h
        obtain ⟨w, h3, h4⟩ := g.slot j d h
        refine ⟨w, h3, h4.mono_aux hsame fun b hb => upd_ne fun z => ?_⟩
        exact g.dj j i hj b hb (by rw [hoi, z]; exact List.mem_cons_self)
theorem app_ok {i : Nat} {f : FE} {c : Esc} : ∀ E σ H, tS K (sApp i f c) E σ H → tDrop (tBM K "list" rAppend (tVar i) (tCons (tD K (.br 0) f c) tNil)) E σ H := fun E σ H ⟨B0, G, s, hs, q⟩ => by
  unfold sApp at q
  split at q
  · rename_i d ds hd hi
    have hi := eVar_some hi
    split at q
    · rename_i hz
      split at q
      · rename_i hfl
        split at q
        · rename_i hl
          obtain ⟨O, B, g⟩ := hs
          obtain ⟨a, xs, h1, h2, h3, h4⟩ := g.write hi hl
          refine ⟨.ref a, h1, .inl ⟨rfl, _, SqL.of h2⟩, [], _, s.1, d, g.good.zero, .zero, hd, fun v H1 s1 p1 => ?_⟩
          obtain ⟨a', xs', h1', h2', h3', h4'⟩ := (g.mono s1).write hi hl
          rw [h1] at h1'
          cases h1'
          have h5 := s1 _ _ h2
          rw [h5] at h2'
          cases h2'
          refine ⟨a, xs, v, rfl, rfl, h5, by rw [h3.length, sz_eq]; exact hz, ?_⟩
          exact q _ _ (h4' _ _ (h3'.append (.cons ((RL.r0 p1).hidF ((g.ok.mono s1).noTup) hfl) .nil)))
        · exact q.elim
      · split at q
        · rename_i hl
          obtain ⟨O, B, g0⟩ := hs
          obtain ⟨O', B', g, _⟩ := g0.demote c
          obtain ⟨a, xs, h1, h2, h3, h4⟩ := g.write hi hl
          refine ⟨.ref a, h1, .inl ⟨rfl, _, SqL.of h2⟩, B', _, s.1, d, g.good, demote_ok c s.2, hd, fun v H1 s1 p1 => ?_⟩
          obtain ⟨a', xs', h1', h2', h3', h4'⟩ := (g.mono s1).write hi hl
          rw [h1] at h1'
          cases h1'
          have h5 := s1 _ _ h2
          rw [h5] at h2'
          cases h2'
          refine ⟨a, xs, v, rfl, rfl, h5, by rw [h3.length, sz_eq]; exact hz, ?_⟩
          exact q _ _ (h4' _ _ (h3'.append (.cons (RL.r p1) .nil)))
        · exact q.elim
    · exact q.elim
  · exact q.elim
theorem ss_app (i : Nat) {x : Str} {e : Expr} {f : FE} {c : Esc} {pos p p2 p3 : Pos} (ps : PS X (.Expr (.Call (.Attribute (.Name x p) "append" p2) [e] [] p3) pos) (tDrop (tBM K "list" rAppend (tVar i) (tCons (tD K (.br 0) f c) tNil)))) :
    PS X (.Expr (.Call (.Attribute (.Name x p) "append" p2) [e] [] p3) pos) (tS K (sApp i f c)) := ps.imp app_ok
/-! x[j] = e -/
def sPut (i : Nat) (j f : FE) (c : Esc) : FS := fun s => match f s.1, eVar i s.1, j s.1 with
  | some d, some (.list ds), some (.int k) => match ixN ds.length k with
    | none => .stuck
    | some n => if flat d = true then (if lv s.2 i = 1 then .next (s.1.set i (some (.list (ds.set n d))), s.2) else .stuck)
        else (if lv (demote c s.2) i = 1 then .next (s.1.set i (some (.list (ds.set n d))), demote c s.2) else .stuck)
  | _, _, _ => .stuck
theorem put_ok {i : Nat} {j f : FE} {c cj : Esc} : ∀ E σ H, tS K (sPut i j f c) E σ H → tAsg (tD K (.br 0) f c) (gSub (tVar i) (tD K (.br 1) j cj) rSetL) E σ H := fun E σ H ⟨B0, G, s, hs, q⟩ => by
  unfold sPut at q
  split at q
  · rename_i d ds k hd hi hk
    have hi := eVar_some hi
    split at q
    · exact q.elim
    · rename_i n hn
      split at q
      · rename_i hfl
        split at q
        · rename_i hl
          obtain ⟨O, B, g⟩ := hs
          refine ⟨[], _, s.1, d, g.good.zero, .zero, hd, fun v H1 s1 p1 => ?_⟩
          obtain ⟨a, xs, h1, h2, h3, _⟩ := (g.mono s1).write hi hl
          refine ⟨.ref a, h1, [], _, s.1, _, (g.mono s1).good.zero, .zero, hk, fun w H2 s2 p2 => ?_⟩
          obtain ⟨a', xs', h1', h2', h3', h4'⟩ := ((g.mono s1).mono s2).write hi hl
          rw [h1] at h1'
          cases h1'
          have h5 := s2 _ _ h2
          rw [h5] at h2'
          cases h2'
          refine ⟨a, xs, _, n, rfl, RL.int p2, h5, by rw [h3.length]; exact hn, ?_⟩
          exact q _ _ (h4' _ _ (h3'.set (((RL.r0 p1).mono s2).hidF (((g.ok.mono s1).mono s2).noTup) hfl) n))
        · exact q.elim
      · split at q
        · rename_i hl
          obtain ⟨O, B, g0⟩ := hs
          obtain ⟨O', B', g, _⟩ := g0.demote c
          refine ⟨B', _, s.1, d, g.good, demote_ok c s.2, hd, fun v H1 s1 p1 => ?_⟩
          obtain ⟨a, xs, h1, h2, h3, _⟩ := (g.mono s1).write hi hl
          refine ⟨.ref a, h1, [], _, s.1, _, (g.mono s1).good.zero, .zero, hk, fun w H2 s2 p2 => ?_⟩
          obtain ⟨a', xs', h1', h2', h3', h4'⟩ := ((g.mono s1).mono s2).write hi hl
          rw [h1] at h1'
          cases h1'
          have h5 := s2 _ _ h2
          rw [h5] at h2'
          cases h2'
          refine ⟨a, xs, _, n, rfl, RL.int p2, h5, by rw [h3.length]; exact hn, ?_⟩
          exact q _ _ (h4' _ _ (h3'.set ((RL.r p1).mono (same_hid s2)) n))
        · exact q.elim
  · exact q.elim
theorem ss_put (i : Nat) {x : Str} {e ix : Expr} {j f : FE} {c cj : Esc} {pos p p2 : Pos} (ps : PS X (.Assign [.Subscript (.Name x p) ix p2] e pos) (tAsg (tD K (.br 0) f c) (gSub (tVar i) (tD K (.br 1) j cj) rSetL))) :
    PS X (.Assign [.Subscript (.Name x p) ix p2] e pos) (tS K (sPut i j f c)) := ps.imp put_ok
/-! for -/
def forGo (t : Tg) (body : FS) : List D → S → Out
  | [], s => .next s
  | d :: ds, s => match t.go d with
    | none => .stuck
    | some l => match body (setsD s.1 l, zeros s.2 l) with
      | .next s' => forGo t body ds s'
      | .cont s' => forGo t body ds s'
      | .brk s' => .next s'
      | .ret d => .ret d
      | .stuck => .stuck
def sFor (fi : FA) (c : Esc) (t : Tg) (body : FS) : FS := fun s => match fi s.1 with
  | none => .stuck
  | some ds => forGo t body ds (s.1, demote c s.2)
theorem Fin.mono {B0 : List Addr} {G G' : Hp} {E : Ends} {o : Out} (hG : Same G G') (g0 : ∀ a ∈ B0, G a ≠ none) (h : Fin K B0 G E o) : Fin K B0 G' E o := by
  have gs : ∀ {σ : St} {H : Hp} {s : S}, GS K B0 G' σ H s → GS K B0 G σ H s := fun {σ H s} ⟨O, B, g⟩ => ⟨O, B, g.memB, g.ok, hG.trans g.same, g0, fun i a h => hG.free (g.gO i a h), g.nd, g.dj, g.len, g.lenL, g.slot⟩
  cases o with
  | stuck => exact h
  | next s => exact fun σ' H' z => h σ' H' (gs z)
  | brk s => exact fun σ' H' z => h σ' H' (gs z)
  | cont s => exact fun σ' H' z => h σ' H' (gs z)
  | ret d => exact fun v H' e r => h v H' (hG.trans e) r
theorem ss_for {iter tg : Expr} {body : List Stmt} {pos : Pos} {fi : FA} {c : Esc} {t : Tg} {fb : FS} (hp : PassesOwn (model X.prog X.w) X.A X.env X.xe) (hc : X.calm = true) (hi : PI X tg iter (tI K 0 fi c)) (hg : PG X tg (tG K t)) (hb : PSs X body (tS K fb))
    (hs : ∀ x, foldedSetIterable iter X.env x = pure x := by intro _; rfl) : PS X (.For tg iter body [] pos) (tS K (sFor fi c t fb)) := (ps_for hp hc hi hg hb hs).imp fun E σ H ⟨B0, G, s, hs, q⟩ => by
  unfold sFor at q
  split at q
  · exact q.elim
  · rename_i ds hds
    obtain ⟨O, B, g0⟩ := hs
    obtain ⟨O', B', g, _⟩ := g0.demote c
    refine ⟨B', _, s.1, ds, g.good, demote_ok c s.2, hds, fun J H1 s1 wk => ?_⟩
    -- what stands through the loop: all that no name owns
    have g1 := g.mono s1
    let G1 : Hp := fun a => if a ∈ B' ∧ a ∉ B0 then none else H1 a
    have hG1 : Same G1 H1 := fun b o e => by
      simp only [G1] at e
      split at e
      · cases e
      · exact e
    have hGG : Same G G1 := fun b o e => by
      simp only [G1]
      rw [if_neg fun z => ?_]
      · exact g1.same _ _ e
      · rcases (g1.memB b).mp z.1 with h | ⟨i, h⟩
        · exact z.2 h
        · rw [g1.gO i b h] at e; cases e
    have hhG : Same (gOf 0 B' H1) G1 := fun b o e => by
      obtain ⟨e1, e2⟩ := hid_some (show hid B' H1 b = some o from e)
      simp only [G1]
      rw [if_neg fun z => e1 z.1]
      exact e2
    have gs1 : GS K B0 G1 σ H1 (s.1, demote c s.2) := ⟨O', B', g1.memB, g1.ok, hG1, fun a h z => g1.g0 a h (hGG.free z), fun i a h => by
      simp only [G1]
      rw [if_pos ⟨(g1.memB a).mpr (.inr ⟨i, h⟩), fun z => g1.g0 a z (g1.gO i a h)⟩], g1.nd, g1.dj, g1.len, g1.lenL, g1.slot⟩
    have q1 : Fin K B0 G1 E (forGo t fb ds (s.1, demote c s.2)) := q.mono hGG g0.g0
    refine ⟨fun i n σ' H' => n = ds.length - i ∧ i ≤ ds.length ∧ ∃ s', GS K B0 G1 σ' H' s' ∧ Fin K B0 G1 E (forGo t fb (ds.drop i) s'), ⟨ds.length, by simp, Nat.zero_le _, _, gs1, by simpa using q1⟩, ?_⟩
    rintro i n σ' H' ⟨rfl, hi, s', gs', q'⟩
    have sG : Same G1 H' := let ⟨_, _, g⟩ := gs'; g.same
    by_cases hlt : i < ds.length
    · refine .inr ⟨wk.go i H' hlt (hhG.trans sG), fun σ2 H2 => (ds.length - (i + 1) = ds.length - (i + 1) ∧ i + 1 ≤ ds.length ∧ ∃ s', GS K B0 G1 σ2 H2 s' ∧ Fin K B0 G1 E (forGo t fb (ds.drop (i + 1)) s')), fun σ2 H2 w => ⟨_, by omega, w⟩, fun x H2 y => ?_⟩
      rw [List.drop_eq_getElem_cons hlt] at q'
      obtain ⟨s2, rx⟩ := wk.yld i H' x H2 _ (List.getElem?_eq_getElem hlt) (hhG.trans sG) y
      obtain ⟨O2, B2, g2⟩ := gs'
      have rx := rx B2 fun a ha => by
        refine ⟨?_, g2.ok.trk a ha⟩
        rcases (g2.memB a).mp ha with h | ⟨j, h⟩
        · exact .inl ((g1.memB a).mpr (.inl h))
        · exact .inr (hhG.free (g2.gO j a h))
      unfold forGo at q'
      split at q'
      · exact q'.elim
      · rename_i l hl
        refine ⟨B2, _, l, rx, hl, fun m rs => ⟨B0, G1, _, GS.sets (g2.mono s2) (fun _ h => h) rs, ?_⟩⟩
        cases hbd : fb (setsD s'.1 l, zeros s'.2 l) with
        | stuck => rw [hbd] at q'; exact q'.elim
        | next s3 => rw [hbd] at q'; exact fun σ3 H3 g3 => ⟨rfl, hlt, s3, g3, q'⟩
        | cont s3 => rw [hbd] at q'; exact fun σ3 H3 g3 => ⟨rfl, hlt, s3, g3, q'⟩
        | brk s3 => rw [hbd] at q'; exact q'
        | ret d => rw [hbd] at q'; exact q'
    · have e : i = ds.length := by omega
      subst e
      refine .inl ⟨wk.stop H' (hhG.trans sG), ?_⟩
      rw [List.drop_length] at q'
      exact q' σ' H' gs'
/-! while -/
def whGo (c : FT) (body : FS) : Nat → S → Out
  | 0, _ => .stuck
  | n + 1, s => match c s.1 with
    | none => .stuck
    | some false => .next s
    | some true => match body s with
      | .next s' => whGo c body n s'
      | .cont s' => whGo c body n s'
      | .brk s' => .next s'
      | .ret d => .ret d
      | .stuck => .stuck
def sWhile (fuel : Nat) (c : FT) (body : FS) : FS := whGo c body fuel
theorem ss_while (fuel : Nat) {test : Expr} {body : List Stmt} {pos : Pos} {c : FT} {fb : FS} (hp : PassesOwn (model X.prog X.w) X.A X.env X.xe) (hc : PT X test (tT K c)) (hb : PSs X body (tS K fb)) : PS X (.While test body [] pos) (tS K (sWhile fuel c fb)) := (ps_while hp hc hb).imp fun E σ H ⟨B0, G, s, hs, q⟩ => by
  refine ⟨fun m σ' H' => ∃ s', GS K B0 G σ' H' s' ∧ Fin K B0 G E (whGo c fb m s'), ⟨fuel, s, hs, q⟩, ?_⟩
  rintro m σ' H' ⟨s', gs', q'⟩
  cases m with
  | zero => exact q'.elim
  | succ m =>
    obtain ⟨B, L, gd⟩ := gs'.good
    unfold whGo at q'
    split at q'
    · exact q'.elim
    · exact ⟨B, L, s'.1, false, gd, by assumption, fun H1 s1 => iteF (q' σ' H1 (gs'.mono s1))⟩
    · refine ⟨B, L, s'.1, true, gd, by assumption, fun H1 s1 => iteT ⟨fun σ2 H2 => ∃ s2, GS K B0 G σ2 H2 s2 ∧ Fin K B0 G E (whGo c fb m s2), fun σ2 H2 w => ⟨m, Nat.lt_succ_self m, w⟩, B0, G, s', gs'.mono s1, ?_⟩⟩
      cases hbd : fb s' with
      | stuck => rw [hbd] at q'; exact q'.elim
      | next s3 => rw [hbd] at q'; exact fun σ3 H3 g3 => ⟨s3, g3, q'⟩
      | cont s3 => rw [hbd] at q'; exact fun σ3 H3 g3 => ⟨s3, g3, q'⟩
      | brk s3 => rw [hbd] at q'; exact q'
      | ret d => rw [hbd] at q'; exact q'
end

/-! ### a def -/
def dfun (N n : Nat) (body : FS) : Fn := fun ds => if ds.length = n then (match body (ds.map some ++ List.replicate (N - n) none, List.replicate N 0) with
  | .ret d => some d
  | .next _ => some .none
  | _ => none) else none
theorem getD_rep {i N : Nat} : lv (List.replicate N 0) i = 0 := by
  unfold lv
  rw [List.getD_eq_getElem?_getD, List.getElem?_replicate]
  split <;> rfl
theorem start_ok {K : PySem.W.Frag} {B : List Addr} {H : Hp} {vs : List V} {ds : List D} {N : List Str} (ok : Ok B H) (r : RA K (hid B H) vs ds) (hn : ds.length ≤ N.length) :
    GS K B H (L2.start N vs) H (ds.map some ++ List.replicate (N.length - ds.length) none, List.replicate N.length 0) := by
  refine ⟨fun _ => [], B, fun a => by simp, ok, Same.refl H, ok.trk, fun i a h => by simp at h, fun i => List.nodup_nil, fun i j _ a h => by simp at h, ?_, ?_, fun i d h => ?_⟩
  · unfold L2.start
    simp [r.length]
  · simp; omega
  · have hi : i < ds.length := by
      by_cases hi : i < ds.length
      · exact hi
      · simp only [List.getElem?_append_right (show (ds.map some).length ≤ i by simpa using hi), List.getElem?_replicate] at h
        split at h <;> cases h
    simp only [List.getElem?_append_left (show i < (ds.map some).length by simpa using hi), List.getElem?_map] at h
    obtain ⟨x, h1, h2⟩ := Option.map_eq_some_iff.mp h
    cases h2
    obtain ⟨v, h3, h4⟩ := r.get h1
    refine ⟨v, ?_, ?_⟩
    · unfold L2.start
      rw [List.getElem?_append_left (by have := r.length; simp; omega), List.getElem?_map, h3]
      rfl
    · show RO K B H (lv (List.replicate N.length 0) i) [] v d
      rw [getD_rep]
      exact .z (.inl rfl) h4
section
variable {P : Program} {w : World} {K : PySem.W.Frag} {mg : Str → Option Value} {base : Heap}
theorem fun_den {x qual : Str} {st : Stmt} {f : Addr} {fd : FuncData} {N ps : List Str} {k : Nat} {g : FS} {NN n : Nat} (F : Fun K x qual st f fd) (hS : FnScope N ps (defScope st)) (hNN : NN = N.length) (hn : n = ps.length) (hle : ps.length ≤ N.length)
    (hbody : ∀ (cdv : Value) (A : Around) (outer : List Env) (s : Shared) (H : Hp) (E : XK), Room k (A.deeper (envOfC qual (defScope st) s.heap.objs.size f cdv)) → PSs (cxOf CX0 P w K mg base N qual (defScope st) f cdv A outer s H E).nox (defBody st) (tS K g)) :
    FnOk P w K mg base CX0 (k + 1) f fd ps (spD K n (dfun NN n g)) := by
  subst hNN hn
  refine F.ok hS spD_len (fun cdv A outer s H vs Q E hr h => ?_)
  obtain ⟨B, ds, d, ok, r, hl, hd, q⟩ := h
  refine ⟨_, hbody cdv A outer s H E hr, B, H, _, start_ok ok r (by rw [hl]; exact hle), ?_⟩
  unfold dfun at hd
  rw [if_pos hl] at hd
  rw [hl]
  split at hd
  · rename_i e
    rw [e]
    cases (Option.some.inj hd)
    exact q
  · rename_i e
    rw [e]
    cases (Option.some.inj hd)
    intro σ' H' ⟨O, B', g⟩
    exact q .non H' g.same .non
  · cases hd
end
end DS
end

section
set_option Elab.async false
set_option linter.all false
set_option maxRecDepth 100000
/-! Part h: more statements and tests. -/
namespace DS
open PySem PySem.Spec PyProof.Rows L2

theorem hu_of64 {A : Around} {k : Nat} (hr : Room k A) : A.units + 64 < cLine := hr.units
theorem hu2_of {A : Around} {k : Nat} (hr : Room k A) : A.units + 65 < cLine := by have := hr.un; omega
section
variable {X : Cx} {K : PySem.W.Frag} {κ : Mo} {pos : Pos} {a b : Expr} {fa fb : FE} {ca cb : Esc}
def tIsND (f : FE) : FT := fun ρ => o1 (f ρ) fun d => some (isNon d)
def tNotND (f : FE) : FT := fun ρ => o1 (f ρ) fun d => some (!isNon d)
theorem qt_isN {j pos'} (ha : PE X a (tD K (.br 1) fa ca)) : PT X (.Compare a [.Is] [.Constant .none j pos'] pos) (tT K (tIsND fa)) := (pt_cmp (pc_isN ha) rfl).imp fun σ H Q ⟨B, L, ρ, k, g, hf, q⟩ => by
  obtain ⟨d, h1, h2⟩ := o1_some hf
  cases (Option.some.inj h2)
  exact ⟨[], _, ρ, d, g.zero, .zero, h1, fun x H1 s1 p1 => ⟨_, by rw [(RL.r0 p1).isNon], q H1 s1⟩⟩
theorem qt_notN {j pos'} (ha : PE X a (tD K (.br 1) fa ca)) : PT X (.Compare a [.IsNot] [.Constant .none j pos'] pos) (tT K (tNotND fa)) := (pt_cmp (pc_notN ha) rfl).imp fun σ H Q ⟨B, L, ρ, k, g, hf, q⟩ => by
  obtain ⟨d, h1, h2⟩ := o1_some hf
  cases (Option.some.inj h2)
  exact ⟨[], _, ρ, d, g.zero, .zero, h1, fun x H1 s1 p1 => ⟨_, by rw [(RL.r0 p1).isNon], q H1 s1⟩⟩
/-! x[j] op= e on an owned list of ints -/
def sPutOp (i : Nat) (op : D → D → Option D) (j f : FE) : FS := fun s => match f s.1, eVar i s.1, j s.1 with
  | some d, some (.list ds), some (.int k) => match ixN ds.length k with
    | none => .stuck
    | some n => match o1 ds[n]? (fun x => op x d) with
      | some (.int y) => if lv s.2 i = 1 then .next (s.1.set i (some (.list (ds.set n (.int y)))), s.2) else .stuck
      | _ => .stuck
  | _, _, _ => .stuck
/-- reading an item by values -/
def rGetL : V → V → Hp → VK → Prop := fun o i H Q => ∃ p xs k x, o = .ref p ∧ i = .int k ∧ H p = some (.lst xs) ∧ atI xs k = some x ∧ Q x H
theorem get_list : PGet X rGetL := by
  intro pins s σ H o i ov iv Q I ro ri h
  obtain ⟨p, xs, k, z, rfl, rfl, hq, he, q⟩ := h
  cases ro
  obtain ⟨t, rfl⟩ := ri
  obtain ⟨its, r, pl, hz⟩ := I.list (SqL.of hq)
  obtain ⟨j, h1, h2, h3, h4, h5⟩ := atI_get he
  obtain ⟨w, ew, rw'⟩ := r.get h2
  have hl := r.length
  have hn := line63
  have fin : EP X pins σ Q w s := ⟨z, H, I, rw', q⟩
  by_cases h0 : 0 ≤ k
  · have hj : k.toNat = j := by
      rw [seqIndex_of h0 h5] at h1
      exact Option.some.inj h1
    exact wpAny_getItem_list pl.isList h0 (by omega) (by rw [hj]; simpa using ew) fin
  · have hj : (k + (its.toArray.size : Int)).toNat = j := by
      rw [seqIndex_neg (by omega) h4] at h1
      rw [List.size_toArray, ← hl]
      exact Option.some.inj h1
    exact wpAny_getItem_list_neg pl.isList (by omega) (by rw [List.size_toArray] <;> omega) (by omega) (by rw [hj]; simpa using ew) fin
/-- what an operator in place does to ints -/
def PIO (ti : TIp) (op : D → D → Option D) : Prop := ∀ (x y : V) (dx dy : D) (z : Int) (H : Hp) (Q : VK) (K : PySem.W.Frag), R K H x dx → R K H y dy → op dx dy = some (.int z) → Q (.int z) H → ti x y H Q
theorem pio_add : PIO (ipI fun i j => i + j) dAddI := by
  intro x y dx dy z H Q K rx ry h q
  unfold dAddI at h
  split at h
  · cases (Option.some.inj h)
    exact ⟨_, _, rx.int', ry.int', q⟩
  · cases h
theorem pio_sub : PIO (ipI fun i j => i - j) dSub := by
  intro x y dx dy z H Q K rx ry h q
  unfold dSub at h
  split at h
  · cases (Option.some.inj h)
    exact ⟨_, _, rx.int', ry.int', q⟩
  · cases h
theorem atI_of {α : Type} {xs : List α} {k : Int} {n : Nat} (h : ixN xs.length k = some n) : atI xs k = xs[n]? := by
  unfold atI; rw [h]; rfl
theorem putOp_ok {i : Nat} {j f : FE} {c cj : Esc} {op : D → D → Option D} {ti : TIp} (hio : PIO ti op) : ∀ E σ H, tS K (sPutOp i op j f) E σ H → tAugS (tVar i) (tD K (.br 1) j cj) (tD K (.br 1) f c) rGetL ti rSetL E σ H := fun E σ H ⟨B0, G, s, hs, q⟩ => by
  unfold sPutOp at q
  split at q
  · rename_i d ds k hd hi hk
    have hi := eVar_some hi
    split at q
    · exact q.elim
    · rename_i n hn
      split at q
      · rename_i y hy
        split at q
        · rename_i hl
          obtain ⟨e, he, hop⟩ := o1_some hy
          obtain ⟨O, B, g⟩ := hs
          obtain ⟨a, xs, h1, h2, h3, _⟩ := g.write hi hl
          refine ⟨.ref a, h1, [], _, s.1, _, g.good.zero, .zero, hk, fun w H1 s1 p1 => ?_⟩
          obtain ⟨v, hv, rv⟩ := h3.get he
          refine ⟨a, xs, k, v, rfl, RL.int p1, s1 _ _ h2, by rw [atI_of (by rw [h3.length]; exact hn)]; exact hv, [], _, s.1, d, (g.mono s1).good.zero, .zero, hd, fun u H2 s2 p2 => ?_⟩
          have s12 := s1.trans s2
          refine hio v u e d y H2 _ K ((rv.mono same_unhid).mono s12) (RL.r0 p2) hop ?_
          obtain ⟨a', xs', h1', h2', h3', h4'⟩ := (g.mono s12).write hi hl
          rw [h1] at h1'
          cases h1'
          have h5 := s12 _ _ h2
          rw [h5] at h2'
          cases h2'
          refine ⟨a, xs, k, n, rfl, RL.int p1, h5, by rw [h3.length]; exact hn, ?_⟩
          exact q _ _ (h4' _ _ (h3'.set (.int y) n))
        · exact q.elim
      · exact q.elim
  · exact q.elim
theorem ss_putOp (i : Nat) {x : Str} {e ix : Expr} {j f : FE} {c cj : Esc} {pos p p2 : Pos} {o : Operator} {op : D → D → Option D} {ti : TIp} (hio : PIO ti op) (ps : PS X (.AugAssign (.Subscript (.Name x p) ix p2) o e pos) (tAugS (tVar i) (tD K (.br 1) j cj) (tD K (.br 1) f c) rGetL ti rSetL)) :
    PS X (.AugAssign (.Subscript (.Name x p) ix p2) o e pos) (tS K (sPutOp i op j f)) := ps.imp (putOp_ok hio)
/-! x.extend(e) -/
def sExt (i : Nat) (f : FE) (c : Esc) : FS := fun s => match f s.1, eVar i s.1 with
  | some (.list es), some (.list ds) => if ds.length + es.length ≤ sz ∧ lv (demote c s.2) i = 1 then .next (s.1.set i (some (.list (ds ++ es))), demote c s.2) else .stuck
  | _, _ => .stuck
theorem ext_ok {i : Nat} {f : FE} {c : Esc} : ∀ E σ H, tS K (sExt i f c) E σ H → tDrop (tBM K "list" rExtend (tVar i) (tCons (tD K (.br 1) f c) tNil)) E σ H := fun E σ H ⟨B0, G, s, hs, q⟩ => by
  unfold sExt at q
  split at q
  · rename_i es ds hd hi
    have hi := eVar_some hi
    split at q
    · rename_i hz
      obtain ⟨hz, hl⟩ := hz
      obtain ⟨O, B, g0⟩ := hs
      obtain ⟨O', B', g, _⟩ := g0.demote c
      obtain ⟨a, xs, h1, h2, h3, h4⟩ := g.write hi hl
      refine ⟨.ref a, h1, .inl ⟨rfl, _, SqL.of h2⟩, B', _, s.1, _, g.good, demote_ok c s.2, hd, fun v H1 s1 p1 => ?_⟩
      obtain ⟨a', xs', h1', h2', h3', h4'⟩ := (g.mono s1).write hi hl
      rw [h1] at h1'
      cases h1'
      have h5 := s1 _ _ h2
      rw [h5] at h2'
      cases h2'
      obtain ⟨b, ys, rfl, e1, e2⟩ := RL.list1 p1
      refine ⟨a, b, xs, ys, rfl, rfl, h5, e1, by rw [h3.length, e2.length, sz_eq]; exact hz, ?_⟩
      exact q _ _ (h4' _ _ (h3'.append e2))
    · exact q.elim
  · exact q.elim
theorem ss_ext (i : Nat) {x : Str} {e : Expr} {f : FE} {c : Esc} {pos p p2 p3 : Pos} (ps : PS X (.Expr (.Call (.Attribute (.Name x p) "extend" p2) [e] [] p3) pos) (tDrop (tBM K "list" rExtend (tVar i) (tCons (tD K (.br 1) f c) tNil)))) :
    PS X (.Expr (.Call (.Attribute (.Name x p) "extend" p2) [e] [] p3) pos) (tS K (sExt i f c)) := ps.imp ext_ok
end
section
variable {P : Program} {w : World} {K : PySem.W.Frag} {mg : Str → Option Value} {base : Heap}
/-- a def that is never called -/
theorem fun_none {x qual : Str} {st : Stmt} {f : Addr} {fd : FuncData} {N ps : List Str} {k n : Nat} (F : Fun K x qual st f fd) (hS : FnScope N ps (defScope st)) (hn : n = ps.length) : FnOk P w K mg base CX0 (k + 1) f fd ps (spD K n fun _ => none) := by
  subst hn
  refine F.ok hS spD_len (fun cdv A outer s H vs Q E hr h => ?_)
  obtain ⟨B, ds, d, ok, r, hl, hd, q⟩ := h
  cases hd
end
end DS
end

section
set_option Elab.async false
set_option linter.all false
set_option maxRecDepth 100000
set_option maxHeartbeats 1000000
/-! Part i: zip and enumerate of lists and tuples, mixed. -/
namespace DS
open PySem PySem.Spec PyProof.Rows L2

/-- b: a tuple; else a list -/
def SqB (b : Bool) (K : PySem.W.Frag) (H : Hp) (a : Addr) (xs : List V) : Prop := if b = true then SqT K H a xs else SqL K H a xs
def ItB (b : Bool) (h : Heap) (it l : Addr) (i : Nat) : Prop := if b = true then h.IsTupleIter it l i else h.IsListIter it l i
def IsB (b : Bool) (h : Heap) (l : Addr) (items : Array Value) : Prop := if b = true then h.IsTuple l items else h.IsList l items
def beginB (b : Bool) (l : Addr) : Obj := if b = true then { cls := .type "tuple_iterator", data := .fields #[.ref l, .int 0 0] } else { cls := .type "list_iterator", data := .fields #[.ref l, .int 0 0] }
section
variable {b : Bool} {K : PySem.W.Frag}
theorem SqB.mono {H H' : Hp} {a : Addr} {xs : List V} (e : Same H H') (h : SqB b K H a xs) : SqB b K H' a xs := by
  cases b with
  | true => exact seqT_mono e h
  | false => exact e.seq h
theorem beginsB (l : Addr) (items : Array Value) : Begins (.ref l) (beginB b l) fun h => IsB b h l items := by
  cases b with
  | true => exact begins_tuple l items
  | false => exact begins_list l items
theorem beginB_it {h : Heap} {it l : Addr} (e : h.get? it = some (beginB b l)) : ItB b h it l 0 := by
  cases b with
  | true => exact ⟨_, e, rfl, rfl⟩
  | false => exact ⟨_, e, rfl, rfl⟩
theorem ItB.at {h h' : Heap} {it l : Addr} {i : Nat} (x : ItB b h it l i) (e : ∀ o, h.get? it = some o → h'.get? it = some o) : ItB b h' it l i := by
  cases b with
  | true => exact Heap.IsTupleIter.at x e
  | false => exact Heap.IsListIter.at x e
theorem ItB.obj {h : Heap} {it l : Addr} {i : Nat} (x : ItB b h it l i) : ∃ o, h.get? it = some o ∧ ∀ v, o.data ≠ .cell v := by
  cases b with
  | true => obtain ⟨o, e, _, d⟩ := x; exact ⟨o, e, fun v z => by rw [d] at z; cases z⟩
  | false => obtain ⟨o, e, _, d⟩ := x; exact ⟨o, e, fun v z => by rw [d] at z; cases z⟩
theorem drawsB {prog : Program} {w : World} {A : Around} (hh : A.handled = none) (it l : Addr) (hne : l ≠ it) (items : Array Value) :
    Draws prog w A it [it, l] items.size (fun i v => items[i]? = some v) (fun i h => ItB b h it l i ∧ IsB b h l items) := by
  cases b with
  | true => exact Draws.tuple hh it l hne items
  | false => exact Draws.list hh it l hne items
theorem _root_.L2.Inv.seqB {X : Cx} {pins : List (Addr × Obj)} {σ : L2.St} {H : Hp} {s : Shared} {a : Addr} {xs : List V} (I : Inv X pins σ H s) (h : SqB b X.K H a xs) : ∃ its : List Value, Vals xs its ∧ IsB b s.heap a its.toArray := by
  cases b with
  | true =>
    obtain ⟨its, rv, p, _⟩ := I.tuple h
    exact ⟨its, rv, p⟩
  | false =>
    obtain ⟨its, rv, p, _⟩ := I.list h
    exact ⟨its, rv, p.isList⟩
theorem _root_.L2.Inv.seqB_inj {X : Cx} {pins : List (Addr × Obj)} {σ : L2.St} {H : Hp} {s : Shared} {a : Addr} {xs ys : List V} (I : Inv X pins σ H s) (h : SqB b X.K H a xs) (h' : SqB b X.K H a ys) : xs = ys := by
  cases b with
  | true => exact I.tuple_inj h h'
  | false => exact I.list_inj h h'
theorem IsB.lt {h : Heap} {l : Addr} {items : Array Value} (x : IsB b h l items) : l < h.objs.size := by
  cases b with
  | true => obtain ⟨o, e, _⟩ := x; exact Heap.lt_size e
  | false => obtain ⟨o, e, _⟩ := x; exact Heap.lt_size e
theorem IsB.keeps {h h' : Heap} {l : Addr} {items : Array Value} (x : IsB b h l items) (k : ∀ c o, h.get? c = some o → h'.get? c = some o) : IsB b h' l items := by
  cases b with
  | true => obtain ⟨o, e, r⟩ := x; exact ⟨o, k _ _ e, r⟩
  | false => obtain ⟨o, e, r⟩ := x; exact ⟨o, k _ _ e, r⟩
end
theorem nin2 {α : Type} {z a b : α} (h1 : z ≠ a) (h2 : z ≠ b) : z ∉ [a, b] := by simp [h1, h2]
theorem in2 {α : Type} {a b : α} : a ∈ [a, b] := by simp
theorem sep_facts {N a1 a2 : Nat} (l1 : a1 < N) (l2 : a2 < N) : (N + 2 ≠ N + 4 ∧ N + 3 ≠ N + 4 ∧ N + 2 ≠ N + 3 ∧ N + 2 ≠ N ∧ N + 4 ≠ N ∧ N + 4 ≠ a1 ∧ N + 3 ≠ N ∧ N + 3 ≠ a1) ∧ N + 2 ≠ N + 1 ∧ N + 4 ≠ N + 1 ∧ N + 4 ≠ a2 ∧ N + 3 ≠ N + 1 ∧ N + 3 ≠ a2 ∧ N ≠ N + 1 ∧ N ≠ a2 ∧ N + 1 ≠ N ∧ N + 1 ≠ a1 := by omega
theorem sep_of {N a1 a2 : Nat} (l1 : a1 < N) (l2 : a2 < N) : ZipSep2 (N + 4) (N + 2) (N + 3) N (N + 1) [N, a1] [N + 1, a2] :=
  let ⟨⟨f1, f2, f3, f4, f5, f6, f7, f8⟩, f9, f10, f11, f12, f13, f14, f15, f16, f17⟩ := sep_facts l1 l2
  ⟨f1, f2, f3, f4, in2, nin2 f5 f6, nin2 f7 f8, f9, in2, nin2 f10 f11, nin2 f12 f13, nin2 f14 f15, nin2 f16 f17⟩
theorem ne_of_ltN {N a : Nat} (l : a < N) : a ≠ N ∧ a ≠ N + 1 ∧ N + 1 ≠ a ∧ N + 1 ≠ N := by omega
theorem le5 {N c : Nat} (h : c ∈ [N + 4, N + 2, N + 3, N, N + 1]) : N ≤ c := by
  simp only [List.mem_cons, List.not_mem_nil, or_false] at h
  omega
theorem le2 {N c : Nat} (h : c ∈ [N + 1, N]) : N ≤ c := by
  simp only [List.mem_cons, List.not_mem_nil, or_false] at h
  omega
/-- a new pair at each turn: what f and g say -/
def ItP (Sx Sy : Hp → List V → Prop) : It :=
  ⟨fun i H => ∃ (xs ys : List V) (x y : V), Sx H xs ∧ Sy H ys ∧ xs[i]? = some x ∧ ys[i]? = some y,
    fun i H v H' => ∃ T x y, v = .ref T ∧ H T = none ∧ H' = upd H T (.tup [x, y]) ∧ (∀ xs, Sx H xs → xs[i]? = some x) ∧ ∀ ys, Sy H ys → ys[i]? = some y,
    fun i H => ∃ xs ys : List V, Sx H xs ∧ Sy H ys ∧ i = min xs.length ys.length⟩
abbrev ItZ (b1 b2 : Bool) (K : PySem.W.Frag) (a1 a2 : Addr) : It := ItP (fun H xs => SqB b1 K H a1 xs) (fun H xs => SqB b2 K H a2 xs)
theorem turn_zipB {P : Program} {w : World} {K : PySem.W.Frag} {elts : List Expr} {kk : Nat} {tpos : Pos} {b1 b2 : Bool} {a1 a2 z TI TO i1 i2 : Addr} (S : ZipSep2 z TI TO i1 i2 [i1, a1] [i2, a2]) (n1 : a1 ≠ i1) (n2 : a2 ≠ i2) :
    Turn P w K (.Tuple elts kk tpos) (ItZ b1 b2 K a1 a2) [z, TI, TO, i1, i2] z (fun i h => IsZip h z TI TO .none ∧ IsTupOf2 h TI (.ref i1) (.ref i2) ∧ (∃ x y, IsTupOf2 h TO x y) ∧ ItB b1 h i1 a1 i ∧ ItB b2 h i2 a2 i) where
  mem := List.mem_cons_self
  obj := fun i h ⟨hz, hTI, ⟨x, y, hTO⟩, h1, h2⟩ c hc => by
    simp only [List.mem_cons, List.not_mem_nil, or_false] at hc
    rcases hc with rfl | rfl | rfl | rfl | rfl
    · exact ⟨_, hz, fun v q => nomatch q⟩
    · exact ⟨_, hTI, fun v q => nomatch q⟩
    · exact ⟨_, hTO, fun v q => nomatch q⟩
    · exact h1.obj
    · exact h2.obj
  keep := fun i h h' ⟨hz, hTI, ⟨x, y, hTO⟩, h1, h2⟩ k => ⟨k z (by simp) _ hz, k TI (by simp) _ hTI, ⟨x, y, k TO (by simp) _ hTO⟩, h1.at fun o e => k i1 (by simp) o e, h2.at fun o e => k i2 (by simp) o e⟩
  item := by
    intro X hP hw hK hc i pins s σ H E I hf ⟨hz, hTI, hTO, h1, h2⟩ hg
    subst hP hw hK
    obtain ⟨xs, ys, x, y, hqx, hqy, hx, hy⟩ := hg
    obtain ⟨its, rv, p⟩ := I.seqB hqx
    obtain ⟨its2, rv2, p2⟩ := I.seqB hqy
    have W := GoesN.zip2 (prog := X.prog) (w := X.w) (A := X.A) (elts := elts) (x1 := kk) (pos := tpos) S (drawsB (b := b1) (show X.A.in1.handled = none from I.ok.hd hc) i1 a1 n1 its.toArray) (drawsB (b := b2) (show X.A.in1.handled = none from I.ok.hd hc) i2 a2 n2 its2.toArray)
    have hlx : i < xs.length := (List.getElem?_eq_some_iff.mp hx).1
    have hly : i < ys.length := (List.getElem?_eq_some_iff.mp hy).1
    have l1 := rv.length
    have l2 := rv2.length
    refine thn (W.goes i s _ E (by simp only [List.size_toArray]; omega) ⟨hz, hTI, hTO, ⟨h1, p⟩, ⟨h2, p2⟩⟩ fun v h' tk ⟨T, u, u2, hv, hT, hu, hu2, hTup⟩ st' hk _ => ?_) fun r s1 q => q
    subst hv
    obtain ⟨w1, e1, ru⟩ := rv.get hx
    obtain ⟨w2, e2, ru2⟩ := rv2.get hy
    have f1 : u = w1 := by
      have : its[i]? = some u := by simpa using hu
      rw [e1] at this; exact (Option.some.inj this).symm
    have f2 : u2 = w2 := by
      have : its2[i]? = some u2 := by simpa using hu2
      rw [e2] at this; exact (Option.some.inj this).symm
    subst f1 f2
    have new : ObjOk X.prog X.w (upd H T (.tup [x, y])) h' T (.tup [x, y]) := ⟨by show 2 ≤ sizeLine; decide, [u, u2], .cons ru (.cons ru2 .nil), hTup⟩
    have I1 := I.turnedNew (t' := tk) (ch := [z, TI, TO, i1, i2]) (fun c o hb q => hk c o (fun hm => hb (by
      simp only [List.mem_cons, List.not_mem_nil, or_false] at hm ⊢
      rcases hm with h | h | h | h <;> simp [h])) q) hf hT new
    refine ⟨.ref T, _, I1, rfl, ⟨T, x, y, rfl, I.hok.fresh hT, rfl, fun l hl => by rw [Inv.seqB_inj I hl hqx]; exact hx, fun l hl => by rw [Inv.seqB_inj I hl hqy]; exact hy⟩, ⟨st'.1, st'.2.1, st'.2.2.1, st'.2.2.2.1.1, st'.2.2.2.2.1⟩, fun c hcm => ?_⟩
    have hlt : c < s.heap.objs.size := by
      simp only [List.mem_cons, List.not_mem_nil, or_false] at hcm
      obtain ⟨_, _, hTO'⟩ := hTO
      rcases hcm with rfl | rfl | rfl | rfl | rfl
      · exact Heap.lt_size hz
      · exact Heap.lt_size hTI
      · exact Heap.lt_size hTO'
      · obtain ⟨_, e, _⟩ := h1.obj; exact Heap.lt_size e
      · obtain ⟨_, e, _⟩ := h2.obj; exact Heap.lt_size e
    rw [upd_ne (Nat.ne_of_lt (Nat.lt_of_lt_of_le hlt hT))]
    exact (hf c hcm).1
  done := by
    intro X hP hw hK hc i pins s σ H E I hf ⟨hz, hTI, hTO, h1, h2⟩ hg
    subst hP hw hK
    obtain ⟨xs, ys, hqx, hqy, hi⟩ := hg
    obtain ⟨its, rv, p⟩ := I.seqB hqx
    obtain ⟨its2, rv2, p2⟩ := I.seqB hqy
    have W := GoesN.zip2 (prog := X.prog) (w := X.w) (A := X.A) (elts := elts) (x1 := kk) (pos := tpos) S (drawsB (b := b1) (show X.A.in1.handled = none from I.ok.hd hc) i1 a1 n1 its.toArray) (drawsB (b := b2) (show X.A.in1.handled = none from I.ok.hd hc) i2 a2 n2 its2.toArray)
    have hi' : i = min its.toArray.size its2.toArray.size := by simp only [List.size_toArray]; rw [hi, rv.length, rv2.length]
    subst hi'
    exact W.stops s (fun s1 => Inv X pins σ H s1) E ⟨hz, hTI, hTO, ⟨h1, p⟩, ⟨h2, p2⟩⟩ fun h' tk hk _ => I.turnedL (t' := tk) (ch := [z, TI, TO, i1, i2]) (fun c o hb q => hk c o (fun hm => hb (by
      simp only [List.mem_cons, List.not_mem_nil, or_false] at hm ⊢
      rcases hm with h | h | h | h <;> simp [h])) q) hf
  self := fun A i s Q E st h => wpAny_pyIter_zip st.1 h
def iZipB (K : PySem.W.Frag) (ta : TA) : TI := fun σ H R => ta σ H fun vs H1 => ∃ a1 a2 xs ys b1 b2, vs = [.ref a1, .ref a2] ∧ SqB b1 K H1 a1 xs ∧ SqB b2 K H1 a2 ys ∧ R (ItZ b1 b2 K a1 a2) H1
theorem pi_zipB {X : Cx} {e e2 : Expr} {ta : TA} {p pos tpos : Pos} {elts : List Expr} {kk : Nat} (hg : Gl X "zip") (hm : X.mg "zip" = none) (ha : PA X [e, e2] ta)
    (hs : starEach [e, e2] X.env = (false, eval e X.env) :: starEach [e2] X.env := by rfl) (hpl : (backTo pos (starEach [e2] X.env)).any (·.1) = false := by rfl) :
    PI X (.Tuple elts kk tpos) (.Call (.Name "zip" p) [e, e2] [] pos) (iZipB X.K ta) := by
  refine ⟨fun pins s σ H R I h => ?_⟩
  refine Call_ (ld_blt I hg hm PyProof.Rows.boot_zip (PyProof.Rows.callWith_type1 (thn (ha.run pos pins s σ H _ I h) fun us s1 ⟨vs, H1, I1, r1, q1⟩ => ?_) hs hpl))
  obtain ⟨a1, a2, xs, ys, b1, b2, ex, hx, hy, q⟩ := q1
  subst ex
  obtain ⟨u, u2, rfl, r, r'⟩ := vals2 r1
  cases r
  cases r'
  obtain ⟨its, rv, p1⟩ := Inv.seqB I1 hx
  obtain ⟨its2, rv2, p2⟩ := Inv.seqB I1 hy
  have l1 := p1.lt
  have l2 := p2.lt
  refine zip_begins2 (beginsB (b := b1) a1 its.toArray) (beginsB (b := b2) a2 its2.toArray) p1 p2 fun h' hz hTI hTO h1 h2 hsz hk => wpAny_pyIter_zip hz ?_
  have I2 : Inv X pins σ H1 { s1 with heap := h' } := I1.kept (t' := s1.toks) hk
  have hD := sep_of l1 l2
  refine ⟨s1.heap.objs.size + 4, [s1.heap.objs.size + 4, s1.heap.objs.size + 2, s1.heap.objs.size + 3, s1.heap.objs.size, s1.heap.objs.size + 1], _, _, H1, rfl, I2, turn_zipB hD (ne_of_ltN l1).1 (ne_of_ltN l2).2.1, ⟨hz, hTI, ⟨_, _, hTO⟩, beginB_it h1, beginB_it h2⟩, fun c hcm => ?_, q⟩
  exact I1.fpOk (le5 hcm) (I1.hok.fresh (le5 hcm))

/-! enumerate -/
abbrev ItE (b : Bool) (K : PySem.W.Frag) (a : Addr) : It :=
  ⟨fun i H => ∃ (xs : List V) (x : V), SqB b K H a xs ∧ xs[i]? = some x,
    fun i H v H' => ∃ T x, v = .ref T ∧ H T = none ∧ H' = upd H T (.tup [.int (i : Nat), x]) ∧ ∀ xs, SqB b K H a xs → xs[i]? = some x,
    fun i H => ∃ xs : List V, SqB b K H a xs ∧ i = xs.length⟩
theorem turn_enumB {P : Program} {w : World} {K : PySem.W.Frag} {elts : List Expr} {kk : Nat} {tpos : Pos} {b : Bool} {a e it : Addr} (hei : e ≠ it) (hea : e ≠ a) (hai : a ≠ it) :
    Turn P w K (.Tuple elts kk tpos) (ItE b K a) [e, it] e (fun i h => (∃ old, IsEnum h e it (0 + (i : Int)) old) ∧ ItB b h it a i) where
  mem := List.mem_cons_self
  obj := fun i h ⟨⟨old, he⟩, h1⟩ c hc => by
    simp only [List.mem_cons, List.not_mem_nil, or_false] at hc
    rcases hc with rfl | rfl
    · exact ⟨_, he, fun v q => nomatch q⟩
    · exact h1.obj
  keep := fun i h h' ⟨⟨old, he⟩, h1⟩ k => ⟨⟨old, k e (by simp) _ he⟩, h1.at fun o q => k it (by simp) o q⟩
  item := by
    intro X hP hw hK hc i pins s σ H E I hf ⟨he, h1⟩ hg
    subst hP hw hK
    obtain ⟨xs, x, hqx, hx⟩ := hg
    obtain ⟨its, rv, p⟩ := I.seqB hqx
    have W := GoesN.enumFrom (prog := X.prog) (w := X.w) (A := X.A) (elts := elts) (x1 := kk) (pos := tpos) 0 (drawsB (b := b) (show X.A.in1.handled = none from I.ok.hd hc) it a hai its.toArray) e hei (fun z => by rcases List.mem_cons.mp z with z | z; exact hei z; exact hea (List.mem_singleton.mp z)) List.mem_cons_self
    have hlx : i < xs.length := (List.getElem?_eq_some_iff.mp hx).1
    have l1 := rv.length
    refine thn (W.goes i s _ E (by simp only [List.size_toArray]; omega) ⟨he, h1, p⟩ fun v h' tk ⟨T, t, u, hv, hT, hu, hTup⟩ st' hk _ => ?_) fun r s1 q => q
    subst hv
    obtain ⟨w1, e1, ru⟩ := rv.get hx
    have f1 : u = w1 := by
      have : its[i]? = some u := by simpa using hu
      rw [e1] at this; exact (Option.some.inj this).symm
    subst f1
    have e0 : (0 : Int) + (i : Int) = (i : Nat) := by omega
    rw [e0] at hTup
    have new : ObjOk X.prog X.w (upd H T (.tup [.int (i : Nat), x])) h' T (.tup [.int (i : Nat), x]) := ⟨by show 2 ≤ sizeLine; decide, [.int (i : Nat) t, u], .cons ⟨_, rfl⟩ (.cons ru .nil), hTup⟩
    have I1 := I.turnedNew (t' := tk) (ch := [e, it]) (fun c o hb q => hk c o hb q) hf hT new
    refine ⟨.ref T, _, I1, rfl, ⟨T, x, rfl, I.hok.fresh hT, rfl, fun l hl => by rw [Inv.seqB_inj I hl hqx]; exact hx⟩, ⟨st'.1, st'.2.1⟩, fun c hcm => ?_⟩
    have hlt : c < s.heap.objs.size := by
      simp only [List.mem_cons, List.not_mem_nil, or_false] at hcm
      obtain ⟨_, he'⟩ := he
      rcases hcm with rfl | rfl
      · exact Heap.lt_size he'
      · obtain ⟨_, e, _⟩ := h1.obj; exact Heap.lt_size e
    rw [upd_ne (Nat.ne_of_lt (Nat.lt_of_lt_of_le hlt hT))]
    exact (hf c hcm).1
  done := by
    intro X hP hw hK hc i pins s σ H E I hf ⟨he, h1⟩ hg
    subst hP hw hK
    obtain ⟨xs, hqx, hi⟩ := hg
    obtain ⟨its, rv, p⟩ := I.seqB hqx
    have W := GoesN.enumFrom (prog := X.prog) (w := X.w) (A := X.A) (elts := elts) (x1 := kk) (pos := tpos) 0 (drawsB (b := b) (show X.A.in1.handled = none from I.ok.hd hc) it a hai its.toArray) e hei (fun z => by rcases List.mem_cons.mp z with z | z; exact hei z; exact hea (List.mem_singleton.mp z)) List.mem_cons_self
    have hi' : i = its.toArray.size := by simp only [List.size_toArray]; rw [hi, rv.length]
    subst hi'
    exact W.stops s (fun s1 => Inv X pins σ H s1) E ⟨he, h1, p⟩ fun h' tk hk _ => I.turnedL (t' := tk) (ch := [e, it]) (fun c o hb q => hk c o hb q) hf
  self := fun A i s Q E st h => let ⟨⟨_, he⟩, _⟩ := st; wpAny_pyIter_enum he h
theorem meets_enum1 {v : Value} {o : Obj} {H : Heap → Prop} (B : Begins v o H) :
    Meets (Builtin.«enumerate.__new__» ⟨[.type "enumerate", v], []⟩) (fun _ R s => H s.heap ∧
      R (.ok (.ret (.ref (s.heap.push o).objs.size))) { s with heap := (s.heap.push o).push { cls := .type "enumerate", data := .fields #[.none, .bool false, .ref s.heap.objs.size, rawInt 0, .none, .none] } }) :=
  .of_wp fun prog w A R s h => by
    obtain ⟨hp, g, d, tk, os⟩ := s
    obtain ⟨h1, h⟩ := h
    have hsub := sub_enumerate
    have q1 : ∀ {A' : Around} {E : Value → Shared → Prop} {Q : Value → Shared → Prop}, Q (.ref hp.objs.size) ⟨hp.push o, g, d, tk, os⟩ → wpAny (model prog w) A' (pyIter v) Q E ⟨hp, g, d, tk, os⟩ := fun q => B.iter prog w _ _ ⟨hp, g, d, tk, os⟩ _ h1 q
    wp_walk using q1
    refine wpAny_stack_any fun st => wpAny_pure ?_
    split
    · rename_i c _ _ _ _ _
      cases (c == Value.type "enumerate") <;> (wp_walk using q1; exact ⟨_, rfl, h⟩)
    · wp_walk using q1
      exact ⟨_, rfl, h⟩
theorem enum_begins1 {prog : Program} {w : World} {A : Around} {E : Value → Shared → Prop} {s : Shared} {v : Value} {o : Obj} {H : Heap → Prop} {Q : Value → Shared → Prop} (B : Begins v o H) (h1 : H s.heap)
    (h : ∀ h', IsEnum h' (s.heap.objs.size + 1) s.heap.objs.size 0 .none → h'.get? s.heap.objs.size = some o → (∀ b o, s.heap.get? b = some o → h'.get? b = some o) → Q (.ref (s.heap.objs.size + 1)) { s with heap := h' }) :
    wpAny (model prog w) A (call (.type "enumerate") [v]) Q E s := by
  refine callType_new F.called_enumerate (by decide) (F.typeCall_enumerate_1 _) (F.newCall_enumerate_1 _) (fun obj => F.args_object_init_2 obj _) F.entry_enumerate_new (meets_enum1 B) ⟨h1, ?_⟩
  have hz : (s.heap.push o).objs.size = s.heap.objs.size + 1 := Heap.size_push ..
  show _ ∧ _
  rw [hz]
  have he : IsEnum ((s.heap.push o).push { cls := .type "enumerate", data := .fields #[.none, .bool false, .ref s.heap.objs.size, rawInt 0, .none, .none] }) (s.heap.objs.size + 1) s.heap.objs.size 0 .none := by
    have e := Heap.get?_push_size (s.heap.push o) (o := { cls := .type "enumerate", data := .fields #[.none, .bool false, .ref s.heap.objs.size, rawInt 0, .none, .none] }) rfl
    rw [hz] at e; exact e
  exact ⟨⟨_, he, rfl⟩, h _ he (Heap.get?_push_of_some _ (Heap.get?_push_size _ B.free)) fun b o x => Heap.get?_push_of_some _ (Heap.get?_push_of_some _ x)⟩
def iEnumB (K : PySem.W.Frag) (ta : TA) : TI := fun σ H R => ta σ H fun vs H1 => ∃ a xs b, vs = [.ref a] ∧ SqB b K H1 a xs ∧ R (ItE b K a) H1
theorem pi_enumB {X : Cx} {e : Expr} {ta : TA} {p pos tpos : Pos} {elts : List Expr} {kk : Nat} (hg : Gl X "enumerate") (hm : X.mg "enumerate" = none) (ha : PA X [e] ta)
    (hs : starEach [e] X.env = [(false, eval e X.env)] := by rfl) : PI X (.Tuple elts kk tpos) (.Call (.Name "enumerate" p) [e] [] pos) (iEnumB X.K ta) := by
  refine ⟨fun pins s σ H R I h => ?_⟩
  refine Call_ (ld_blt I hg hm boot_enumerate (PyProof.Rows.callWith_type1 (thn (ha.run pos pins s σ H _ I h) fun us s1 ⟨vs, H1, I1, r1, q1⟩ => ?_) hs rfl))
  obtain ⟨a, xs, b, ex, hx, q⟩ := q1
  subst ex
  obtain ⟨u, rfl, r⟩ := vals1 r1
  cases r
  obtain ⟨its, rv, p1⟩ := Inv.seqB I1 hx
  have l1 := p1.lt
  refine enum_begins1 (beginsB (b := b) a its.toArray) p1 fun h' he h1 hk => wpAny_pyIter_enum he ?_
  have I2 : Inv X pins σ H1 { s1 with heap := h' } := I1.kept (t' := s1.toks) hk
  refine ⟨s1.heap.objs.size + 1, [s1.heap.objs.size + 1, s1.heap.objs.size], _, _, H1, rfl, I2, turn_enumB (b := b) (a := a) (ne_of_ltN l1).2.2.2 (ne_of_ltN l1).2.2.1 (ne_of_ltN l1).1, ⟨⟨_, he⟩, beginB_it h1⟩, fun c hcm => ?_, q⟩
  exact I1.fpOk (le2 hcm) (I1.hok.fresh (le2 hcm))

/-! ### the same on trees -/
section
variable {X : Cx} {K : PySem.W.Frag} {m : Nat}
theorem sq_of {B : List Addr} {H : Hp} {v : V} {d : D} {ds : List D} (hm : m ≤ 1) (h : RL K B H m v d) (hd : seqOf d = some ds) : ∃ a xs b, v = .ref a ∧ SqB b K (gOf m B H) a xs ∧ RA K (hid B H) xs ds := by
  unfold seqOf at hd
  split at hd
  · cases (Option.some.inj hd)
    obtain ⟨a, xs, rfl, e1, e2⟩ := RL.listG hm h
    exact ⟨a, xs, false, rfl, SqL.of e1, e2⟩
  · cases (Option.some.inj hd)
    obtain ⟨a, xs, rfl, e1, e1', e2⟩ := RL.tup h
    exact ⟨a, xs, true, rfl, seqT_mono same_gOf e1', e2⟩
  · cases hd
theorem walks_pair {B : List Addr} {H1 : Hp} {Sx Sy : Hp → List V → Prop} {xs ys : List V} {ds es : List D} (hx : ∀ H, Same (gOf m B H1) H → Sx H xs) (hy : ∀ H, Same (gOf m B H1) H → Sy H ys) (rx : RA K (hid B H1) xs ds) (ry : RA K (hid B H1) ys es) :
    Walks K (gOf m B H1) B (ItP Sx Sy) ((ds.zip es).map fun p => .tuple [p.1, p.2]) where
  go := fun i H hi s => by
    simp only [List.length_map, List.length_zip] at hi
    have e1 := rx.length
    have e2 := ry.length
    exact ⟨xs, ys, xs[i]'(by omega), ys[i]'(by omega), hx H s, hy H s, by simp, by simp⟩
  stop := fun H s => ⟨xs, ys, hx H s, hy H s, by simp [rx.length, ry.length]⟩
  yld := fun i H v H' d hd s ⟨T, x, y, hv, hT, hH, h1, h2⟩ => by
    subst hv hH
    rw [List.getElem?_map] at hd
    obtain ⟨p, hp, e⟩ := Option.map_eq_some_iff.mp hd
    subst e
    rw [List.getElem?_zip_eq_some] at hp
    obtain ⟨x', f1, r1⟩ := rx.get hp.1
    obtain ⟨y', f2, r2⟩ := ry.get hp.2
    have g1 := h1 xs (hx H s)
    have g2 := h2 ys (hy H s)
    rw [f1] at g1
    rw [f2] at g2
    cases g1
    cases g2
    refine ⟨same_upd hT, fun B' hb => .tup (a := T) (xs := [x, y]) (.inl (.inl ?_)) (.cons (r1.mono (keepR s (same_upd hT) hb)) (.cons (r2.mono (keepR s (same_upd hT) hb)) .nil))⟩
    rw [hid_out fun z => (hb T z).2 hT, upd_same]
def iZip2 (f g : FE) : FA := fun ρ => o2 (f ρ) (g ρ) fun d e => o2 (seqOf d) (seqOf e) fun ds es => some ((ds.zip es).map fun p => .tuple [p.1, p.2])
theorem qi_zip {e e2 : Expr} {f g : FE} {c c2 : Esc} {p pos tpos : Pos} {elts : List Expr} {kk : Nat} (hg : Gl X "zip") (hm : X.mg "zip" = none) (ha : PE X e (tD K (.br m) f c)) (hb : PE X e2 (tD K (.br m) g c2)) (hm1 : m ≤ 1 := by decide) (hX : X.K = K := by rfl)
    (hs : starEach [e, e2] X.env = (false, eval e X.env) :: starEach [e2] X.env := by rfl) (hs2 : starEach [e2] X.env = (false, eval e2 X.env) :: starEach [] X.env := by rfl) (hpl : (backTo pos (starEach [e2] X.env)).any (·.1) = false := by rfl) :
    PI X (.Tuple elts kk tpos) (.Call (.Name "zip" p) [e, e2] [] pos) (tI K m (iZip2 f g) (c ++ c2)) := by
  subst hX
  refine (pi_zipB hg hm (pa_cons ha (pa_cons hb pa_nil hs2) hs) hs hpl).imp fun σ H Rr ⟨B, L, ρ, ds, g, es, hf, q⟩ => ?_
  obtain ⟨d, d', h1, h2, h3⟩ := o2_some hf
  obtain ⟨xs, ys, h4, h5, h6⟩ := o2_some h3
  cases (Option.some.inj h6)
  refine ⟨B, L, ρ, d, g, es.left, h1, fun v H1 s1 p1 => ⟨B, L, ρ, d', g.mono s1, es.right, h2, fun w H2 s2 p2 => ?_⟩⟩
  obtain ⟨a1, vs1, b1, rfl, k1, r1⟩ := sq_of hm1 (RL.mono s2 (same_hid s2) p1) h4
  obtain ⟨a2, vs2, b2, rfl, k2, r2⟩ := sq_of hm1 p2 h5
  exact ⟨a1, a2, vs1, vs2, b1, b2, rfl, k1.mono gOf_unhid, k2.mono gOf_unhid, q _ H2 (s1.trans s2) (walks_pair (fun H s => k1.mono s) (fun H s => k2.mono s) r1 r2)⟩
def enumD (ds : List D) : List D := (ds.zipIdx).map fun p => .tuple [.int (p.2 : Nat), p.1]
def iEnumD (f : FE) : FA := fun ρ => o1 (f ρ) fun d => o1 (seqOf d) fun ds => some (enumD ds)
theorem walks_enum {B : List Addr} {H1 : Hp} {b : Bool} {a : Addr} {xs : List V} {ds : List D} (hx : SqB b K (gOf m B H1) a xs) (rx : RA K (hid B H1) xs ds) : Walks K (gOf m B H1) B (ItE b K a) (enumD ds) where
  go := fun i H hi s => by
    simp only [enumD, List.length_map, List.length_zipIdx] at hi
    have e1 := rx.length
    exact ⟨xs, xs[i]'(by omega), hx.mono s, by simp⟩
  stop := fun H s => ⟨xs, hx.mono s, by simp [enumD, rx.length]⟩
  yld := fun i H v H' d hd s ⟨T, x, hv, hT, hH, h1⟩ => by
    subst hv hH
    unfold enumD at hd
    rw [List.getElem?_map, List.getElem?_zipIdx] at hd
    obtain ⟨p, hp, e⟩ := Option.map_eq_some_iff.mp hd
    subst e
    obtain ⟨y, hy, e⟩ := Option.map_eq_some_iff.mp hp
    subst e
    obtain ⟨x', f1, r1⟩ := rx.get hy
    have g1 := h1 xs (hx.mono s)
    rw [f1] at g1
    cases g1
    refine ⟨same_upd hT, fun B' hb => .tup (a := T) (xs := [.int (i : Nat), x]) (.inl (.inl ?_)) (.cons ?_ (.cons (r1.mono (keepR s (same_upd hT) hb)) .nil))⟩
    · rw [hid_out fun z => (hb T z).2 hT, upd_same]
    · have e0 : (((0 + i : Nat) : Int)) = ((i : Nat) : Int) := by omega
      show R K _ (.int (i : Nat)) (.int ((0 + i : Nat) : Int))
      rw [e0]
      exact .int _
theorem qi_enum {e : Expr} {f : FE} {c : Esc} {p pos tpos : Pos} {elts : List Expr} {kk : Nat} (hg : Gl X "enumerate") (hm : X.mg "enumerate" = none) (ha : PE X e (tD K (.br m) f c)) (hm1 : m ≤ 1 := by decide) (hX : X.K = K := by rfl)
    (hs : starEach [e] X.env = (false, eval e X.env) :: starEach [] X.env := by rfl) : PI X (.Tuple elts kk tpos) (.Call (.Name "enumerate" p) [e] [] pos) (tI K m (iEnumD f) c) := by
  subst hX
  refine (pi_enumB hg hm (pa_cons ha pa_nil hs) hs).imp fun σ H Rr ⟨B, L, ρ, ds, g, es, hf, q⟩ => ?_
  obtain ⟨d, h1, h3⟩ := o1_some hf
  obtain ⟨xs, h4, h6⟩ := o1_some h3
  cases (Option.some.inj h6)
  refine ⟨B, L, ρ, d, g, es, h1, fun v H1 s1 p1 => ?_⟩
  obtain ⟨a1, vs1, b1, rfl, k1, r1⟩ := sq_of hm1 p1 h4
  exact ⟨a1, vs1, b1, rfl, k1.mono gOf_unhid, q _ H1 s1 (walks_enum k1 r1)⟩
end
end DS
end

section
set_option Elab.async false
set_option linter.all false
set_option maxRecDepth 100000
set_option maxHeartbeats 1000000
/-! Part j: list.index, list(range(..)), a, b, c = x, y, z. -/
namespace DS
open PySem PySem.Spec PyProof.Rows L2

section
variable {X : Cx} {K : PySem.W.Frag} {κ : Mo} {o e : Expr} {fo fe : FE} {co ce : Esc} {T id : String} {r : V → List V → Hp → VK → Prop} {dop : D → D → Option D}
/-- a method of a built-in type with one argument and a flat answer -/
structure MethF (K : PySem.W.Frag) (T : String) (r : V → List V → Hp → VK → Prop) (dop : D → D → Option D) : Prop where
  ty : ∀ (x : V) (dx dy d : D) (H : Hp), R K H x dx → dop dx dy = some d → tyV K T x H
  run : ∀ (x y : V) (dx dy d : D) (H : Hp) (Q : VK), R K H x dx → R K H y dy → dop dx dy = some d → (∀ v, R K H v d → flat d = true → Q v H) → r x [y] H Q
theorem qe_m1F (hd : MethF K T r dop) (h : PE X e (tBM K T r (tD K (.br 1) fo co) (tCons (tD K (.br 1) fe ce) tNil))) : PE X e (tD K κ (eOp dop fo fe) []) := h.imp fun σ H Q ⟨B, L, ρ, d, g, es, hf, q⟩ => by
  obtain ⟨dx, dy, h1, h2, h3⟩ := o2_some hf
  refine ⟨[], _, ρ, dx, g.zero, .zero, h1, fun x H1 s1 p1 => ⟨hd.ty x dx dy d H1 (RL.r0 p1) h3, [], _, ρ, dy, (g.mono s1).zero, .zero, h2, fun y H2 s2 p2 => ?_⟩⟩
  exact hd.run x y dx dy d H2 Q ((RL.r0 p1).mono s2) (RL.r0 p2) h3 fun v rv fl => q v H2 (s1.trans s2) (Post.of_flat (rv.hidF ((g.ok.mono s1).mono s2).noTup fl) (flat_top fl))
def dIndex : D → D → Option D
  | .list ds, d => if (SeqAt.shaped (.list ds) && SeqAt.shaped d) = true then (match ds.findIdx? fun z => PyData.eqv z d with
    | some j => some (.int (j : Nat))
    | none => none) else none
  | _, _ => none
theorem mf_index : MethF K "list" (rIndexD K) dIndex where
  ty := fun x dx dy d H rx h => by
    unfold dIndex at h
    split at h
    · cases rx with
      | lst h1 h2 => exact .inl ⟨rfl, _, SqL.of h1⟩
    · cases h
  run := fun x y dx dy d H Q rx ry h q => by
    unfold dIndex at h
    split at h
    · split at h
      · rename_i hs
        split at h
        · rename_i j hj
          cases (Option.some.inj h)
          have hs := (Bool.and_eq_true _ _).mp hs
          cases rx with
          | lst h1 h2 =>
            have hj := List.findIdx?_eq_some_iff_getElem.mp hj
            obtain ⟨hlt, he, hno⟩ := hj
            refine ⟨_, y, dy, _, j, _, rfl, rfl, (R.lst h1 h2).toDp (SeqAt.canLay_of_shaped hs.1), ry.toDp (SeqAt.canLay_of_shaped hs.2), hs.1, hs.2, List.getElem?_eq_getElem hlt, he, fun m z' hm hz => ?_, q _ (.int _) rfl⟩
            obtain ⟨hml, hz'⟩ := List.getElem?_eq_some_iff.mp hz
            have hh := hno m hm
            rw [hz'] at hh
            simpa using hh
        · cases h
      · cases h
    · cases h
end
section
variable {X : Cx} {K : PySem.W.Frag} {κ : Mo} {pos : Pos} {a b c : Expr} {f g h : FE} {ca cb cc : Esc}
/-! a, b, c = x, y, z with names -/
def sPar3 (i j k : Nat) (f g h : FE) (c : Esc) : FS := fun s => match f s.1, g s.1, h s.1 with
  | some d, some e, some u => .next (((s.1.set i (some d)).set j (some e)).set k (some u), (((demote c s.2).set i 0).set j 0).set k 0)
  | _, _, _ => .stuck
theorem ss_par3 (i j k : Nat) {x y z : Str} {px py pz pt pos : Pos} {kt k2 pt2} (hc : X.calm = true) (hN : X.N.Nodup) (ha : PE X a (tD K (.br 0) f ca)) (hb : PE X b (tD K (.br 0) g cb)) (hcc : PE X c (tD K (.br 0) h cc))
    (hw : swappedStores [.Tuple [.Name x px, .Name y py, .Name z pz] kt pt] (.Tuple [a, b, c] k2 pt2) X.env = pure (some [x, y, z])) (hi : X.N[i]? = some x := by rfl) (hj : X.N[j]? = some y := by rfl) (hk : X.N[k]? = some z := by rfl) (hij : i ≠ j := by decide) (hik : i ≠ k := by decide) (hjk : j ≠ k := by decide)
    (hx : X.env.scope.names.lookup x = some .local := by rfl) (hy : X.env.scope.names.lookup y = some .local := by rfl) (hz : X.env.scope.names.lookup z = some .local := by rfl)
    (hs : swapsWithSole [.Tuple [.Name x px, .Name y py, .Name z pz] kt pt] (.Tuple [a, b, c] k2 pt2) pos.line X.env = pure false := by rfl) (hs1 : starEach [a, b, c] X.env = (false, eval a X.env) :: starEach [b, c] X.env := by rfl) (hs2 : starEach [b, c] X.env = (false, eval b X.env) :: starEach [c] X.env := by rfl) (hs3 : starEach [c] X.env = (false, eval c X.env) :: starEach [] X.env := by rfl) :
    PS X (.Assign [.Tuple [.Name x px, .Name y py, .Name z pz] kt pt] (.Tuple [a, b, c] k2 pt2) pos) (tS K (sPar3 i j k f g h (ca ++ (cb ++ cc)))) := (ps_par3 hc hN hi hj hk hij hik hjk hx hy hz (qa_cons ha (qa_cons hb (qa_cons hcc qa_nil hs3) hs2) hs1) hw hs).imp fun E σ H ⟨B0, G, s, hs, q⟩ => by
  unfold sPar3 at q
  split at q
  · rename_i d e u hd he hu
    have hf : aCons f (aCons g (aCons h aNil)) s.1 = some [d, e, u] := by
      unfold aCons aNil
      simp [hd, he, hu, o2]
    obtain ⟨O, B, gd⟩ := hs
    obtain ⟨O', B', g', _⟩ := gd.demote (ca ++ (cb ++ (cc ++ [])))
    rw [List.append_nil] at g'
    refine ⟨B', lv (demote (ca ++ (cb ++ cc)) s.2), s.1, _, g'.good, by rw [List.append_nil]; exact demote_ok _ s.2, hf, fun vs H' e1 hl p => ?_⟩
    match vs, hl with
    | [v1, v2, v3], _ =>
      refine ⟨v1, v2, v3, rfl, q _ H' ?_⟩
      exact GS.sets (m := [(i, v1), (j, v2), (k, v3)]) (l := [(i, d), (j, e), (k, u)]) (g'.mono e1) (fun _ h => h) (.cons (RL.r (p 0 v1 d rfl rfl)) (.cons (RL.r (p 1 v2 e rfl rfl)) (.cons (RL.r (p 2 v3 u rfl rfl)) .nil)))
  · exact q.elim
/-! list(range(..)), tuple(range(..)) -/
def rgOk (a b : Int) : Bool := rngOk a b && decide ((b - a).toNat ≤ 16777216)
theorem rgOk_ok {a b : Int} (h : rgOk a b = true) : RgOk a b := by
  unfold rgOk at h
  rw [Bool.and_eq_true] at h
  have h1 := rngOk_ok h.1
  have h2 := of_decide_eq_true h.2
  exact ⟨h1.1, h1.2.1, h1.2.2.1, h1.2.2.2, by omega⟩
def eRg (t : List D → D) (f g : FE) : FE := fun ρ => o2 (f ρ) (g ρ) fun d e => match d, e with
  | .int i, .int j => if rgOk i j = true then some (t (rngD i (j - i).toNat)) else none
  | _, _ => none
def tRgD (K : PySem.W.Frag) (f g : FE) : St → Hp → (Int → Int → Hp → Prop) → Prop := fun σ H Q => ∃ B L ρ i j, Good K B L σ H ρ ∧ f ρ = some (.int i) ∧ g ρ = some (.int j) ∧ ∀ H', Same H H' → Q i j H'
theorem qrg_1 {p : Pos} (hg : Gl X "range") (hm : X.mg "range" = none) (ha : PE X a (tD K (.br 1) f ca)) (na : starEach [a] X.env = (false, eval a X.env) :: starEach [] X.env := by rfl) : PRg X (.Call (.Name "range" p) [a] [] pos) (tRgD K (eC (.int 0)) f) := by
  intro pins s σ H Q I ⟨B, L, ρ, i, j, gd, h1, h2, q⟩
  cases (Option.some.inj h1)
  exact prg_1 hg hm ha na pins s σ H Q I ⟨[], _, ρ, _, gd.zero, .zero, h2, fun v H1 s1 p1 => ⟨j, RL.int p1, q H1 s1⟩⟩
theorem qrg_2 {p : Pos} (hg : Gl X "range") (hm : X.mg "range" = none) (ha : PE X a (tD K (.br 1) f ca)) (hb : PE X b (tD K (.br 1) g cb)) (na : starEach [a, b] X.env = (false, eval a X.env) :: starEach [b] X.env := by rfl) (nb : starEach [b] X.env = (false, eval b X.env) :: starEach [] X.env := by rfl) (hp : (backTo pos (starEach [b] X.env)).any (·.1) = false := by rfl) :
    PRg X (.Call (.Name "range" p) [a, b] [] pos) (tRgD K f g) := by
  intro pins s σ H Q I ⟨B, L, ρ, i, j, gd, h1, h2, q⟩
  exact prg_2 hg hm ha hb na nb hp pins s σ H Q I ⟨[], _, ρ, _, gd.zero, .zero, h1, fun v H1 s1 p1 => ⟨[], _, ρ, _, (gd.mono s1).zero, .zero, h2, fun w H2 s2 p2 => ⟨i, j, RL.int p1, RL.int p2, q H2 (s1.trans s2)⟩⟩⟩
theorem rgV_R {H : Hp} (i : Int) (n : Nat) : RA K H ((List.range n).map fun k => V.int (i + (k : Nat))) (rngD i n) := by
  unfold rngD
  generalize List.range n = l
  induction l with
  | nil => exact .nil
  | cons k r ih => exact .cons (.int _) ih
theorem qe_listRg {p : Pos} {e : Expr} (hc : X.calm = true) (hg : Gl X "list") (hm : X.mg "list" = none) (he : PRg X e (tRgD K f g)) (hκ : κ.one = true := by rfl) (na : starEach [e] X.env = (false, eval e X.env) :: starEach [] X.env := by rfl) : PE X (.Call (.Name "list" p) [e] [] pos) (tD K κ (eRg .list f g) []) :=
  (pe_listRg hc hg hm he na).imp fun σ H Q ⟨B, L, ρ, d, gd, es, hf, q⟩ => by
  obtain ⟨d1, d2, h1, h2, h3⟩ := o2_some hf
  split at h3
  · rename_i i j
    obtain ⟨hok, e⟩ := ite_some h3
    subst e
    refine ⟨B, L, ρ, i, j, gd, h1, h2, fun H1 s1 => ⟨rgOk_ok hok, fun t nt => q _ _ (s1.trans (same_upd nt)) (Post.new gd.ok.trk (s1.free nt) upd_same (rgV_R i _) hκ)⟩⟩
  · cases h3
theorem qe_tupRg {p : Pos} {e : Expr} (hc : X.calm = true) (hg : Gl X "tuple") (hm : X.mg "tuple" = none) (he : PRg X e (tRgD K f g)) (na : starEach [e] X.env = (false, eval e X.env) :: starEach [] X.env := by rfl) : PE X (.Call (.Name "tuple" p) [e] [] pos) (tD K κ (eRg .tuple f g) []) :=
  (pe_tupRg hc hg hm he na).imp fun σ H Q ⟨B, L, ρ, d, gd, es, hf, q⟩ => by
  obtain ⟨d1, d2, h1, h2, h3⟩ := o2_some hf
  split at h3
  · rename_i i j
    obtain ⟨hok, e⟩ := ite_some h3
    subst e
    refine ⟨B, L, ρ, i, j, gd, h1, h2, fun H1 s1 => ⟨rgOk_ok hok, fun t nt => q _ _ (s1.trans (same_upd nt)) (Post.of_flat (.tup (a := t) (xs := rgV i j) (.inl (.inl ?_)) (rgV_R i _)) rfl)⟩⟩
    rw [hid_out ((gd.ok.mono s1).trk.new nt), upd_same]
  · cases h3
end
end DS
end

section
set_option Elab.async false
set_option linter.all false
set_option maxRecDepth 100000
/-! Part k: the law's own promise. -/
namespace DS
open PySem PySem.Spec PyProof.Rows L2
/-- the script as a tree: a list that is never written -/
def scr (ns : List Int) : D := .dict [(.none, .list (ns.map PyData.int))]
theorem law_sp {K : PySem.W.Frag} {F : Fn} {H : Hp} {a : Addr} {ns : List Int} (h : F [scr ns] = some (.bool true)) (hS : SqL K H a (ns.map V.int)) : spD K 1 F [.ref a] H (fun v _ => v = .bl true) fun _ _ _ => False :=
  ⟨[], [scr ns], .bool true, Ok.nil, by rw [hid_nil]; exact .cons (.frz hS (RA.ofInts ns)) .nil, rfl, h, fun v H' _ r => r.bl'⟩
end DS
end

section
set_option Elab.async false
set_option linter.all false
set_option maxRecDepth 100000
set_option maxHeartbeats 1000000
/-! Part m: min, max, sorted of trees that are alike. -/
namespace DS
open PySem PySem.Spec PyProof.Rows L2

/-- trees that can be compared with each other -/
def allCmp (ds : List D) : Bool := PyData.canLayAll0 ds && decide (PyData.depthAll ds ≤ 60) && ds.all fun x => !noneD x && ds.all fun y => PySem.W.alike x y
theorem noneD_ne {x : D} (h : (!noneD x) = true) : x ≠ .none := by
  intro e
  rw [e] at h
  simp [noneD] at h
theorem allCmp_facts {ds : List D} (h : allCmp ds = true) : PyData.canLayAll0 ds = true ∧ PyData.depthAll ds ≤ 60 ∧ PySem.W.AlikeAll ds := by
  unfold allCmp at h
  simp only [Bool.and_eq_true, decide_eq_true_eq, List.all_eq_true] at h
  exact ⟨h.1.1, h.1.2, fun x hx y hy => (h.2 x hx).2 y hy, fun x hx => noneD_ne (h.2 x hx).1⟩
theorem fold_mem (f : D → D → Bool) : ∀ (r : List D) (x : D), r.foldl (fun a y => if f y a = true then y else a) x ∈ x :: r
  | [], x => .head _
  | y :: r, x => by
    have := fold_mem f r (if f y x = true then y else x)
    rw [List.foldl_cons]
    rcases List.mem_cons.mp this with e | e
    · rw [e]
      split
      · exact .tail _ (.head _)
      · exact .head _
    · exact .tail _ (.tail _ e)
theorem minD_mem (x : D) (r : List D) : PySem.W.minD x r ∈ x :: r := fold_mem (fun y a => PySem.W.dataLt y a) r x
theorem maxD_mem (x : D) (r : List D) : PySem.W.maxD x r ∈ x :: r := fold_mem (fun y a => PySem.W.dataLt a y) r x
/-- min(xs), max(xs) as g tells -/
def rBest (K : PySem.W.Frag) (g : D → List D → D) : List V → Hp → VK → Prop := fun vs H Q => ∃ a xs ds x r, vs = [.ref a] ∧ (SqL K H a xs ∨ SqT K H a xs) ∧ DpAll K H xs ds ∧ ds = x :: r ∧ allCmp ds = true ∧ ∀ (i : Nat) (y : V), xs[i]? = some y → ds[i]? = some (g x r) → Q y H
section
variable {X : Cx} {K : PySem.W.Frag} {pins : List (Addr × Obj)} {s : Shared} {σ : St} {H : Hp}
theorem best_at {its : List Value} {xs : List V} {ds : List D} {as : List Addr} {i : Nat} {v : Value} {d : D} {h' : Heap} {bs : List Addr} (rv : Vals xs its) (ra : ReadsAll s.heap its ds as) (al : PySem.W.AlikeAll ds) (hd : d ∈ ds)
    (hk : ∀ b o, s.heap.get? b = some o → h'.get? b = some o) (hv : its.toArray[i]? = some v) (rd : Reads h' v d bs) : ∃ y, xs[i]? = some y ∧ RelV y v ∧ ds[i]? = some d := by
  have hv' : its[i]? = some v := by simpa using hv
  obtain ⟨bs', r1, hi, hm, _⟩ := PySem.W.readsAll_at ra i v hv'
  have e := PySem.W.alike_unique _ _ _ _ _ (al.1 _ hm _ hd) (PyProof.Rows.Reads.keeps hk r1) rd
  have hl : i < its.length := (List.getElem?_eq_some_iff.mp hv').1
  have hx : i < xs.length := by rw [rv.length]; exact hl
  obtain ⟨u, hu, ru⟩ := rv.get (List.getElem?_eq_getElem hx)
  rw [hv'] at hu
  cases hu
  refine ⟨xs[i], List.getElem?_eq_getElem hx, ru, ?_⟩
  rw [← e, List.getD_eq_getElem?_getD, List.getElem?_eq_getElem hi]
  rfl
theorem cr_minD (hc : X.calm = true) (hu : X.A.units + 64 < cLine) : CallR X (.builtin "min") (rBest X.K PySem.W.minD) := by
  intro pins s σ H vs us Q I r h
  obtain ⟨a, xs, ds, x, l, rfl, hs, dp, rfl, ok, q⟩ := h
  obtain ⟨f1, f2, f3⟩ := allCmp_facts ok
  rw [Vals.ref1 r]
  rcases hs with hs | hs
  · obtain ⟨its, rv, hl, _⟩ := I.list hs
    obtain ⟨as, ra⟩ := Dp.readsAll I _ _ _ dp rv
    refine PySem.W.min_list_data (I.ok.hd hc) hl.isList (by simpa using ra) f3 (by omega) fun i v h' tk bs hv rd hk => ?_
    obtain ⟨y, e1, e2, e3⟩ := best_at rv ra f3 (minD_mem x l) hk hv rd
    exact ⟨y, H, I.kept hk, e2, q i y e1 e3⟩
  · obtain ⟨its, rv, hl, _⟩ := I.tuple hs
    obtain ⟨as, ra⟩ := Dp.readsAll I _ _ _ dp rv
    refine PySem.W.min_tuple_data (I.ok.hd hc) hl (by simpa using ra) f3 (by omega) fun i v h' tk bs hv rd hk => ?_
    obtain ⟨y, e1, e2, e3⟩ := best_at rv ra f3 (minD_mem x l) hk hv rd
    exact ⟨y, H, I.kept hk, e2, q i y e1 e3⟩
theorem cr_maxD (hc : X.calm = true) (hu : X.A.units + 64 < cLine) : CallR X (.builtin "max") (rBest X.K PySem.W.maxD) := by
  intro pins s σ H vs us Q I r h
  obtain ⟨a, xs, ds, x, l, rfl, hs, dp, rfl, ok, q⟩ := h
  obtain ⟨f1, f2, f3⟩ := allCmp_facts ok
  rw [Vals.ref1 r]
  rcases hs with hs | hs
  · obtain ⟨its, rv, hl, _⟩ := I.list hs
    obtain ⟨as, ra⟩ := Dp.readsAll I _ _ _ dp rv
    refine PySem.W.max_list_data (I.ok.hd hc) hl.isList (by simpa using ra) f3 (by omega) fun i v h' tk bs hv rd hk => ?_
    obtain ⟨y, e1, e2, e3⟩ := best_at rv ra f3 (maxD_mem x l) hk hv rd
    exact ⟨y, H, I.kept hk, e2, q i y e1 e3⟩
  · obtain ⟨its, rv, hl, _⟩ := I.tuple hs
    obtain ⟨as, ra⟩ := Dp.readsAll I _ _ _ dp rv
    refine PySem.W.max_tuple_data (I.ok.hd hc) hl (by simpa using ra) f3 (by omega) fun i v h' tk bs hv rd hk => ?_
    obtain ⟨y, e1, e2, e3⟩ := best_at rv ra f3 (maxD_mem x l) hk hv rd
    exact ⟨y, H, I.kept hk, e2, q i y e1 e3⟩
end
/-- min(xs) of a list or a tuple -/
def bestOf (g : D → List D → D) : List D → Option D
  | x :: r => if (allCmp (x :: r) && flat (g x r)) = true then some (g x r) else none
  | [] => none
def dMin1 : D → Option D
  | .list ds => bestOf PySem.W.minD ds
  | .tuple ds => bestOf PySem.W.minD ds
  | _ => none
def dMax1 : D → Option D
  | .list ds => bestOf PySem.W.maxD ds
  | .tuple ds => bestOf PySem.W.maxD ds
  | _ => none
section
variable {K : PySem.W.Frag}
theorem best_ok {g : D → List D → D} {a : Addr} {xs : List V} {ds : List D} {d : D} {H : Hp} {Q : VK} (hs : SqL K H a xs ∨ SqT K H a xs) (ra : RA K H xs ds) (h : bestOf g ds = some d) (q : ∀ v, R K H v d → flat d = true → Q v H) : rBest K g [.ref a] H Q := by
  unfold bestOf at h
  split at h
  · rename_i x r
    obtain ⟨hc, e⟩ := ite_some h
    subst e
    rw [Bool.and_eq_true] at hc
    refine ⟨a, xs, _, x, r, rfl, hs, RA.toDp ra (allCmp_facts hc.1).1, rfl, hc.1, fun i y e1 e2 => ?_⟩
    obtain ⟨y', e3, rr⟩ := ra.get e2
    rw [e1] at e3
    cases e3
    exact q y rr hc.2
  · cases h
theorem cf_min1 : CallF K (rBest K PySem.W.minD) (d1 dMin1) := by
  intro vs ds d H Q r h q
  obtain ⟨x, rfl, h'⟩ := d1_some h
  obtain ⟨v, rfl, rv⟩ := r.one
  unfold dMin1 at h'
  split at h'
  · cases rv with
    | lst e1 e2 => exact best_ok (.inl (SqL.of e1)) e2 h' q
  · cases rv with
    | tup e1 e2 => exact best_ok (.inr e1) e2 h' q
  · cases h'
theorem cf_max1 : CallF K (rBest K PySem.W.maxD) (d1 dMax1) := by
  intro vs ds d H Q r h q
  obtain ⟨x, rfl, h'⟩ := d1_some h
  obtain ⟨v, rfl, rv⟩ := r.one
  unfold dMax1 at h'
  split at h'
  · cases rv with
    | lst e1 e2 => exact best_ok (.inl (SqL.of e1)) e2 h' q
  · cases rv with
    | tup e1 e2 => exact best_ok (.inr e1) e2 h' q
  · cases h'
end
end DS
end

section
set_option Elab.async false
set_option linter.all false
set_option maxRecDepth 100000
set_option maxHeartbeats 1000000
/-! Part n: comprehensions with two fors. -/
namespace DS
open PySem PySem.Spec PyProof.Rows L2
/-- the list that the outer for makes -/
def lc2Go (t : Tg) (ft : FT) (inner : PEnv → Option (List D)) (ρ : PEnv) : List D → Option (List D)
  | [] => some []
  | d :: ds => match t.go d with
    | none => none
    | some l => match ft (setsD ρ l) with
      | none => none
      | some false => lc2Go t ft inner ρ ds
      | some true => match inner (setsD ρ l) with
        | none => none
        | some ys => match lc2Go t ft inner ρ ds with
          | none => none
          | some zs => some (ys ++ zs)
def inLc (fi : FA) (t : Tg) (ft : FT) (fe : FE) (vs : List Nat) (ρ : PEnv) : Option (List D) := o1 (fi ρ) fun ds => lcGo t ft fe (wipeD ρ vs) ds
def eLc2 (fi : FA) (t : Tg) (ft : FT) (fi1 : FA) (t1 : Tg) (ft1 : FT) (fe : FE) (vs vs1 : List Nat) : FE := fun ρ => o1 (fi ρ) fun ds => o1 (lc2Go t ft (inLc fi1 t1 ft1 fe vs1) (wipeD ρ vs) ds) fun ys => if ys.length ≤ sz then some (.list ys) else none
section
variable {X : Cx} {K : PySem.W.Frag} {κ : Mo}
theorem RS.mono {H H' : Hp} (e : Same H H') : ∀ {l : List (Nat × V)} {m : List (Nat × D)}, RS K H l m → RS K H' l m
  | _, _, .nil => .nil
  | _, _, .cons h t => .cons (h.mono e) (RS.mono e t)
theorem lc2_ok {fi fi1 : FA} {ci ci1 : Esc} {t t1 : Tg} {ft ft1 : FT} {fe : FE} {ce : Esc} {vs vs1 : List Nat} (hv : t.ix.all (vs.contains ·) = true) (hv1 : t1.ix.all (vs1.contains ·) = true) (hκ : κ.one = true) :
    ∀ σ H Q, tD K κ (eLc2 fi t ft fi1 t1 ft1 fe vs vs1) (ci ++ (ci1 ++ ce)) σ H Q → tLc2 (tI K 1 fi ci) (tG K t) (tT K ft) (tI K 0 fi1 ci1) (tG K t1) (tT K ft1) (tD K (.br 0) fe ce) vs vs1 σ H Q := by
  intro σ H Q ⟨B, L, ρ, d, g, es, hf, q⟩
  obtain ⟨ds, h1, h2⟩ := o1_some hf
  obtain ⟨ys, h3, h4⟩ := o1_some h2
  have hz : ys.length ≤ sz := by
    split at h4
    · assumption
    · cases h4
  rw [if_pos hz] at h4
  cases (Option.some.inj h4)
  refine ⟨B, L, ρ, ds, g, es.left, h1, fun J H1 s1 wk D hD => ?_⟩
  have hixs : ∀ {t : Tg} {vs : List Nat} {l : List (Nat × PyData)} {mm : List (Nat × V)} {d : PyData} {B' : List Addr} {Hh : Hp}, t.ix.all (vs.contains ·) = true → t.go d = some l → RS K (hid B' Hh) mm l → ∀ i ∈ mm.map (·.1), i ∈ vs := fun {t vs l mm d B' Hh} hv e rs i hi => by
    rw [rs.ix, Tg.go_ix e] at hi
    have := List.all_eq_true.mp hv i hi
    simpa using this
  -- hiding D : what is behind it may change
  have okB : ∀ {H' : Hp} {acc : List V}, Same H1 H' → H' D = some (.lst acc) → Ok (D :: B) H' := fun s' hacc => ((g.ok.mono s1).mono s').cons hacc rfl
  have gd : ∀ {H' : Hp} {acc : List V}, Same H1 H' → H' D = some (.lst acc) → Good K (D :: B) L σ H' ρ := fun {H' acc} s' hacc => by
    refine ⟨okB s' hacc, g.len, fun j e h => ?_⟩
    obtain ⟨v, e1, r⟩ := g.slot j e h
    refine ⟨v, e1, ((r.mono s1 (same_hid s1)).mono s' (same_hidW s' fun a ha => ?_))⟩
    rcases List.mem_cons.mp ha with z | z
    · rw [z]; exact .inr hD
    · exact .inl z
  let W : Nat → Nat → Hp → Prop := fun i n H' => n = ds.length - i ∧ i ≤ ds.length ∧ Same H1 H' ∧ ∃ acc done rest, H' D = some (.lst acc) ∧ RA K (hid (D :: B) H') acc done ∧ lc2Go t ft (inLc fi1 t1 ft1 fe vs1) (wipeD ρ vs) (ds.drop i) = some rest ∧ done ++ rest = ys
  refine ⟨W, ⟨ds.length, by simp, Nat.zero_le _, same_upd hD, [], [], ys, upd_same, .nil, by simpa using h3, rfl⟩, ?_⟩
  rintro i n H' ⟨rfl, hi, s', acc, done, rest, hacc, racc, hgo, hys⟩
  by_cases hlt : i < ds.length
  · refine .inr ⟨wk.go i H' hlt s', fun H'' => W (i + 1) (ds.length - (i + 1)) H'', fun H'' w => ⟨_, by omega, w⟩, fun x H2 y => ?_⟩
    have hd : ds[i]? = some ds[i] := List.getElem?_eq_getElem hlt
    obtain ⟨s2, rx⟩ := wk.yld i H' x H2 _ hd s' y
    have rx := rx (D :: B) fun a ha => by
      refine ⟨?_, (okB s' hacc).trk a ha⟩
      rcases List.mem_cons.mp ha with z | z
      · rw [z]; exact .inr hD
      · exact .inl z
    rw [List.drop_eq_getElem_cons hlt] at hgo
    unfold lc2Go at hgo
    have hacc2 := s2 _ _ hacc
    have racc2 := racc.mono (same_hid (B := D :: B) s2)
    split at hgo
    · cases hgo
    · rename_i l hl
      refine ⟨D :: B, _, l, rx, hl, fun mm rs => ⟨?_, ?_⟩⟩
      · rw [wipe_sets (hixs hv hl rs)]
        exact wipe_idem vs fun _ h => h
      · have gs : Good K (D :: B) L (setsV (wipe σ vs) mm) H2 (setsD (wipeD ρ vs) l) := ((gd (s'.trans s2) hacc2).wipe vs).sets rs
        split at hgo
        · cases hgo
        · rename_i hft
          refine ⟨D :: B, L, _, false, gs, hft, fun H3 s3 => ?_⟩
          refine iteF ?_
          exact ⟨rfl, hlt, (s'.trans s2).trans s3, acc, done, rest, s3 _ _ hacc2, racc2.mono (same_hid s3), hgo, hys⟩
        · rename_i hft
          split at hgo
          · cases hgo
          · rename_i zs hin
            split at hgo
            · cases hgo
            · rename_i ys' hrest
              cases (Option.some.inj hgo)
              refine ⟨D :: B, L, _, true, gs, hft, fun H3 s3 => ?_⟩
              refine iteT ?_
              obtain ⟨ds1, g1, g2⟩ := o1_some hin
              refine ⟨D :: B, L, _, ds1, gs.mono s3, es.right.left, g1, fun J1 H4 s4 wk1 => ?_⟩
              have hacc4 := s4 _ _ (s3 _ _ hacc2)
              have racc4 := racc2.mono (same_hid (B := D :: B) (s3.trans s4))
              have s14 := ((s'.trans s2).trans s3).trans s4
              have rs4 := rs.mono (same_hid (B := D :: B) (s3.trans s4))
              -- the inner loop
              let W1 : Nat → Nat → Hp → Prop := fun j k H' => k = ds1.length - j ∧ j ≤ ds1.length ∧ Same H1 H' ∧ Same (hid (D :: B) H4) (hid (D :: B) H') ∧ ∃ acc done2 rest2, H' D = some (.lst acc) ∧ RA K (hid (D :: B) H') acc done2 ∧ lcGo t1 ft1 fe (wipeD (setsD (wipeD ρ vs) l) vs1) (ds1.drop j) = some rest2 ∧ done2 ++ (rest2 ++ ys') = ys
              refine ⟨W1, ⟨ds1.length, by simp, Nat.zero_le _, s14, Same.refl _, acc, done, zs, hacc4, racc4, by simpa using g2, hys⟩, ?_⟩
              rintro j k H5 ⟨rfl, hj, s15, s45, acc5, done5, rest5, hacc5, racc5, hgo5, hys5⟩
              have st5 : Same (gOf 0 (D :: B) H4) H5 := s45.trans same_unhid
              by_cases hlt1 : j < ds1.length
              · refine .inr ⟨wk1.go j H5 hlt1 st5, fun H'' => W1 (j + 1) (ds1.length - (j + 1)) H'', fun H'' w => ⟨_, by omega, w⟩, fun x1 H6 y1 => ?_⟩
                have hd1 : ds1[j]? = some ds1[j] := List.getElem?_eq_getElem hlt1
                obtain ⟨s6, rx1⟩ := wk1.yld j H5 x1 H6 _ hd1 st5 y1
                have rx1 := rx1 (D :: B) fun a ha => ⟨.inl ha, (okB s15 hacc5).trk a ha⟩
                rw [List.drop_eq_getElem_cons hlt1] at hgo5
                unfold lcGo at hgo5
                have hacc6 := s6 _ _ hacc5
                have racc6 := racc5.mono (same_hid (B := D :: B) s6)
                split at hgo5
                · cases hgo5
                · rename_i l1 hl1
                  refine ⟨D :: B, _, l1, rx1, hl1, fun mm1 rs1 => ⟨?_, ?_⟩⟩
                  · rw [wipe_sets (hixs hv1 hl1 rs1)]
                    exact wipe_idem vs1 fun _ h => h
                  · have gs6 : Good K (D :: B) L (setsV (wipe σ vs) mm) H6 (setsD (wipeD ρ vs) l) := ((gd (s15.trans s6) hacc6).wipe vs).sets (rs4.mono (s45.trans (same_hid s6)))
                    have gt : Good K (D :: B) L (setsV (wipe (setsV (wipe σ vs) mm) vs1) mm1) H6 (setsD (wipeD (setsD (wipeD ρ vs) l) vs1) l1) := (gs6.wipe vs1).sets rs1
                    split at hgo5
                    · cases hgo5
                    · rename_i hft1
                      refine ⟨D :: B, L, _, false, gt, hft1, fun H7 s7 => ?_⟩
                      refine iteF ?_
                      exact ⟨rfl, hlt1, (s15.trans s6).trans s7, s45.trans (same_hid (s6.trans s7)), acc5, done5, rest5, s7 _ _ hacc6, racc6.mono (same_hid s7), hgo5, hys5⟩
                    · rename_i hft1
                      split at hgo5
                      · cases hgo5
                      · rename_i yv hfe
                        split at hgo5
                        · cases hgo5
                        · rename_i rest6 hrest6
                          cases (Option.some.inj hgo5)
                          refine ⟨D :: B, L, _, true, gt, hft1, fun H7 s7 => ?_⟩
                          refine iteT ?_
                          refine ⟨D :: B, L, _, yv, gt.mono s7, es.right.right, hfe, fun v H8 s8 p8 => ?_⟩
                          have s78 := s7.trans s8
                          have hacc8 := s78 _ _ hacc6
                          have su : Same (hid (D :: B) H8) (hid (D :: B) (upd H8 D (.lst (acc5 ++ [v])))) := fun b o e => by
                            obtain ⟨e1, e2⟩ := hid_some e
                            rw [hid_out e1, upd_ne fun z => e1 (by rw [z]; exact List.mem_cons_self)]
                            exact e2
                          have hl5 : acc5.length < sizeLine := by
                            rw [sz_eq, racc5.length]
                            have hlen : done5.length < ys.length := by
                              rw [← hys5]
                              simp only [List.length_append, List.length_cons]
                              omega
                            omega
                          refine ⟨acc5, hacc8, hl5, rfl, hlt1, fun b o e => ?_, (s45.trans (same_hid (s6.trans s78))).trans su, acc5 ++ [v], done5 ++ [yv], rest6, upd_same, ((racc6.mono (same_hid s78)).append (.cons (RL.r p8) .nil)).mono su, hrest6, by simpa using hys5⟩
                          have hb : b ≠ D := ne_of_none e hD
                          rw [upd_ne hb]
                          exact ((s15.trans s6).trans s78) _ _ e
              · have e : j = ds1.length := by omega
                subst e
                refine .inl ⟨wk1.stop H5 st5, ?_⟩
                rw [List.drop_length] at hgo5
                unfold lcGo at hgo5
                cases (Option.some.inj hgo5)
                exact ⟨rfl, hlt, s15, acc5, done5, ys', hacc5, racc5, hrest, by simpa using hys5⟩
  · have e : i = ds.length := by omega
    subst e
    refine .inl ⟨wk.stop H' s', ?_⟩
    rw [List.drop_length] at hgo
    unfold lc2Go at hgo
    cases (Option.some.inj hgo)
    rw [List.append_nil] at hys
    subst hys
    refine q _ H' (s1.trans s') (Post.new g.ok.trk (s1.free hD) hacc racc hκ)
theorem qe_lc2 {elt tg iter tg1 iter1 : Expr} {ifs ifs1 : List Expr} {scope : Scope} {own : List (Str × Nat)} {vs1 : List Nat} {pos : Pos} {fi fi1 : FA} {ci ci1 ce : Esc} {t t1 : Tg} {ft ft1 : FT} {fe : FE} (hc : X.calm = true) (hN : X.N.Nodup) (hi : PI X tg iter (tI K 1 fi ci)) (ok : BlkOk X.N X.env.scope scope own) (hvs : vs1.all ((own.map (·.2)).contains ·) = true)
    (hg : ∀ (s : Shared) (H : Hp) (C : Addr) (cl : List (Str × Addr)) (fp : List Addr), PG (X.blk s H scope (compEnvC scope cl C X.env) fp) tg (tG K t)) (ht : ∀ (s : Shared) (H : Hp) (C : Addr) (cl : List (Str × Addr)) (fp : List Addr), PTs (X.blk s H scope (compEnvC scope cl C X.env) fp) ifs (tT K ft))
    (hi1 : ∀ (s : Shared) (H : Hp) (C : Addr) (cl : List (Str × Addr)) (fp : List Addr), PI (X.blk s H scope (compEnvC scope cl C X.env) fp) tg1 iter1 (tI K 0 fi1 ci1))
    (hg1 : ∀ (s : Shared) (H : Hp) (C : Addr) (cl : List (Str × Addr)) (fp : List Addr), PG (X.blk s H scope (compEnvC scope cl C X.env) fp) tg1 (tG K t1)) (ht1 : ∀ (s : Shared) (H : Hp) (C : Addr) (cl : List (Str × Addr)) (fp : List Addr), PTs (X.blk s H scope (compEnvC scope cl C X.env) fp) ifs1 (tT K ft1))
    (he : ∀ (s : Shared) (H : Hp) (C : Addr) (cl : List (Str × Addr)) (fp : List Addr), PE (X.blk s H scope (compEnvC scope cl C X.env) fp) elt (tD K (.br 0) fe ce)) (hv : t.ix.all ((own.map (·.2)).contains ·) = true := by rfl) (hv1 : t1.ix.all (vs1.contains ·) = true := by rfl) (hκ : κ.one = true := by rfl) (hs : ∀ x, foldedSetIterable iter X.env x = pure x := by intro _; rfl) (hs1 : ∀ env x, foldedSetIterable iter1 env x = pure x := by intro _ _; rfl) :
    PE X (.ListComp elt [⟨tg, iter, ifs, 0⟩, ⟨tg1, iter1, ifs1, 0⟩] scope pos) (tD K κ (eLc2 fi t ft fi1 t1 ft1 fe (own.map (·.2)) vs1) (ci ++ (ci1 ++ ce))) :=
  (pe_lc2 hc hN hi ok (fun i hi => by simpa using List.all_eq_true.mp hvs i hi) hg ht hi1 hg1 ht1 he hs hs1).imp (lc2_ok hv hv1 hκ)
theorem ss_setLc2 (i l : Nat) {y : Str} {py : Pos} {elt tg iter tg1 iter1 : Expr} {ifs ifs1 : List Expr} {scope : Scope} {own : List (Str × Nat)} {vs1 : List Nat} {pos spos : Pos} {fi fi1 : FA} {ci ci1 ce : Esc} {t t1 : Tg} {ft ft1 : FT} {fe : FE} (hc : X.calm = true) (hN : X.N.Nodup) (hi : PI X tg iter (tI K 1 fi ci)) (ok : BlkOk X.N X.env.scope scope own) (hvs : vs1.all ((own.map (·.2)).contains ·) = true)
    (hg : ∀ (s : Shared) (H : Hp) (C : Addr) (cl : List (Str × Addr)) (fp : List Addr), PG (X.blk s H scope (compEnvC scope cl C X.env) fp) tg (tG K t)) (ht : ∀ (s : Shared) (H : Hp) (C : Addr) (cl : List (Str × Addr)) (fp : List Addr), PTs (X.blk s H scope (compEnvC scope cl C X.env) fp) ifs (tT K ft))
    (hi1 : ∀ (s : Shared) (H : Hp) (C : Addr) (cl : List (Str × Addr)) (fp : List Addr), PI (X.blk s H scope (compEnvC scope cl C X.env) fp) tg1 iter1 (tI K 0 fi1 ci1))
    (hg1 : ∀ (s : Shared) (H : Hp) (C : Addr) (cl : List (Str × Addr)) (fp : List Addr), PG (X.blk s H scope (compEnvC scope cl C X.env) fp) tg1 (tG K t1)) (ht1 : ∀ (s : Shared) (H : Hp) (C : Addr) (cl : List (Str × Addr)) (fp : List Addr), PTs (X.blk s H scope (compEnvC scope cl C X.env) fp) ifs1 (tT K ft1))
    (he : ∀ (s : Shared) (H : Hp) (C : Addr) (cl : List (Str × Addr)) (fp : List Addr), PE (X.blk s H scope (compEnvC scope cl C X.env) fp) elt (tD K (.br 0) fe ce)) (hl : l ≤ 1 := by decide) (hy : X.N[i]? = some y := by rfl) (hyl : X.env.scope.names.lookup y = some .local := by rfl)
    (hsw : swapsWith (.ListComp elt [⟨tg, iter, ifs, 0⟩, ⟨tg1, iter1, ifs1, 0⟩] scope pos) (some (.Name y py)) spos.line X.env = pure true := by exact sw_true rfl rfl rfl (by decide +kernel)) (hv : t.ix.all ((own.map (·.2)).contains ·) = true := by rfl) (hv1 : t1.ix.all (vs1.contains ·) = true := by rfl) (hs : ∀ x, foldedSetIterable iter X.env x = pure x := by intro _; rfl) (hs1 : ∀ env x, foldedSetIterable iter1 env x = pure x := by intro _ _; rfl) :
    PS X (.Assign [.Name y py] (.ListComp elt [⟨tg, iter, ifs, 0⟩, ⟨tg1, iter1, ifs1, 0⟩] scope pos) spos) (tS K (sSet i l (eLc2 fi t ft fi1 t1 ft1 fe (own.map (·.2)) vs1) (ci ++ (ci1 ++ ce)))) := (ps_setLc2 hc hN hy hyl hsw hi ok (fun i hi => by simpa using List.all_eq_true.mp hvs i hi) hg ht hi1 hg1 ht1 he hs hs1).imp fun E σ H h =>
  lc2_ok (κ := moOf l) hv hv1 (by match l, hl with | 0, _ => rfl | 1, _ => rfl) σ H _ (set_ok (by omega) E σ H h)
end
end DS
end

section
set_option Elab.async false
set_option linter.all false
set_option maxRecDepth 100000
set_option maxHeartbeats 1000000
/-! Part o: range(i, j, -1), max(.., default=), found *= x, tuples times a number. -/
namespace DS
open PySem PySem.Spec PyProof.Rows L2
/-- i, i - 1, .. (n of them) -/
def rngDn (i : Int) (n : Nat) : List D := (List.range n).map fun (k : Nat) => .int (i - (k : Int))
theorem walks_down {K : PySem.W.Frag} {G : Hp} {B : List Addr} {lo : Int} {n : Nat} : Walks K G B (Itc lo (-1) n) (rngDn lo n) where
  go := fun i H hi s => show i < n from by simpa [rngDn] using hi
  stop := fun H s => by
    show n ≤ (rngDn lo n).length
    simp [rngDn]
  yld := fun i H x H' d hd s y => by
    obtain ⟨e, y⟩ := y
    subst e y
    refine ⟨Same.refl _, fun B' hb => ?_⟩
    have hi : i < n := by
      have := (List.getElem?_eq_some_iff.mp hd).1
      simpa [rngDn] using this
    have : d = .int (lo + (i : Nat) * (-1)) := by
      unfold rngDn at hd
      rw [List.getElem?_map, List.getElem?_range hi] at hd
      have e := Option.some.inj hd
      rw [← e]
      show PyData.int (lo - (i : Int)) = PyData.int (lo + (i : Int) * (-1))
      rw [Int.mul_neg_one]
      rfl
    rw [this]
    exact .int _
def iRange3 (f g h : FE) : FA := fun ρ => match f ρ, g ρ, h ρ with
  | some (.int i), some (.int j), some (.int c) => if (rngOk i j && decide (c = -1)) = true then some (rngDn i (i - j).toNat) else none
  | _, _, _ => none
section
variable {X : Cx} {K : PySem.W.Frag} {tg : Expr} {p pos : Pos} {m : Nat} {f f2 f3 : FE} {c c2 c3 : Esc}
theorem qi_range3 {a b d : Expr} (hg : Gl X "range") (hm : X.mg "range" = none) (ha : PE X a (tD K (.br 1) f c)) (hb : PE X b (tD K (.br 1) f2 c2)) (hd : PE X d (tD K (.br 1) f3 c3))
    (hs : starEach [a, b, d] X.env = (false, eval a X.env) :: starEach [b, d] X.env := by rfl) (hs2 : starEach [b, d] X.env = (false, eval b X.env) :: starEach [d] X.env := by rfl) (hs3 : starEach [d] X.env = (false, eval d X.env) :: starEach [] X.env := by rfl) (hpl : (backTo pos (starEach [b, d] X.env)).any (·.1) = false := by rfl) :
    PI X tg (.Call (.Name "range" p) [a, b, d] [] pos) (tI K m (iRange3 f f2 f3) []) := by
  refine (pi_range3 hg hm (pa_cons ha (pa_cons hb (pa_cons hd pa_nil hs3) hs2) hs) hs hpl).imp fun σ H Rr ⟨B, L, ρ, ds, g, es, hf, q⟩ => ?_
  unfold iRange3 at hf
  split at hf
  · rename_i i j k h1 h2 h3
    obtain ⟨hc, rfl⟩ := ite_some hf
    rw [Bool.and_eq_true, decide_eq_true_eq] at hc
    have r := rngOk_ok hc.1
    have hk := hc.2
    subst hk
    refine ⟨[], _, ρ, _, g.zero, .zero, h1, fun v H1 s1 p1 => ⟨[], _, ρ, _, (g.mono s1).zero, .zero, h2, fun w H2 s2 p2 => ⟨[], _, ρ, _, ((g.mono s1).mono s2).zero, .zero, h3, fun u H3 s3 p3 => ?_⟩⟩⟩
    exact ⟨_, _, _, _, by rw [RL.int p1, RL.int p2, RL.int p3], RgC.neg r.1 r.2.1 r.2.2.1 r.2.2.2, q _ H3 ((s1.trans s2).trans s3) walks_down⟩
  · cases hf
end
end DS
end

section


end

section
set_option Elab.async false
set_option linter.all false
/-! Part l: rewriting rules by which a def's function on trees is reckoned. -/
namespace DS
open PySem
section
variable {α β γ : Type} {ρ : PEnv} {d e : D} {s : S}
@[simp] theorem o1_s (a : α) (g : α → Option γ) : o1 (some a) g = g a := id rfl
@[simp] theorem o1_n (g : α → Option γ) : o1 none g = none := id rfl
@[simp] theorem o2_ss (a : α) (b : β) (g : α → β → Option γ) : o2 (some a) (some b) g = g a b := id rfl
@[simp] theorem o2_n (y : Option β) (g : α → β → Option γ) : o2 none y g = none := id rfl
@[simp] theorem eC_a (d : D) (ρ : PEnv) : eC d ρ = some d := id rfl
@[simp] theorem eVar_0 (d : D) (ρ : PEnv) : eVar 0 (some d :: ρ) = some d := id rfl
@[simp] theorem eVar_s (n : Nat) (x : Option D) (ρ : PEnv) : eVar (n + 1) (x :: ρ) = eVar n ρ := id rfl
@[simp] theorem aNil_a (ρ : PEnv) : aNil ρ = some [] := id rfl
@[simp] theorem aCons_a (f : FE) (r : FA) (ρ : PEnv) : aCons f r ρ = o2 (f ρ) (r ρ) fun d ds => some (d :: ds) := id rfl
@[simp] theorem eOp_a (op : D → D → Option D) (f g : FE) (ρ : PEnv) : eOp op f g ρ = o2 (f ρ) (g ρ) op := id rfl
@[simp] theorem eUn_a (op : D → Option D) (f : FE) (ρ : PEnv) : eUn op f ρ = o1 (f ρ) op := id rfl
@[simp] theorem eIx_a (f g : FE) (ρ : PEnv) : eIx f g ρ = o2 (f ρ) (g ρ) dIx := id rfl
@[simp] theorem eCB_a (op : List D → Option D) (fs : FA) (ρ : PEnv) : eCB op fs ρ = o1 (fs ρ) op := id rfl
@[simp] theorem eB_a (f : FT) (ρ : PEnv) : eB f ρ = o1 (f ρ) fun b => some (.bool b) := id rfl
@[simp] theorem tCmp_a (op : D → D → Option Bool) (f g : FE) (ρ : PEnv) : tCmp op f g ρ = o2 (f ρ) (g ρ) op := id rfl
@[simp] theorem tTru_a (f : FE) (ρ : PEnv) : tTru f ρ = o1 (f ρ) dTru := id rfl
@[simp] theorem tNotD_a (f : FT) (ρ : PEnv) : tNotD f ρ = o1 (f ρ) fun b => some !b := id rfl
@[simp] theorem tIsND_a (f : FE) (ρ : PEnv) : tIsND f ρ = o1 (f ρ) fun d => some (isNon d) := id rfl
@[simp] theorem tNotND_a (f : FE) (ρ : PEnv) : tNotND f ρ = o1 (f ρ) fun d => some (!isNon d) := id rfl
@[simp] theorem eIsN_a (f : FE) (ρ : PEnv) : eIsN f ρ = o1 (f ρ) fun d => some (.bool (isNon d)) := id rfl
@[simp] theorem eNotN_a (f : FE) (ρ : PEnv) : eNotN f ρ = o1 (f ρ) fun d => some (.bool (!isNon d)) := id rfl
@[simp] theorem tTrue_a (ρ : PEnv) : tTrue ρ = some true := id rfl
@[simp] theorem eIsi_a (n : String) (f : FE) (ρ : PEnv) : eIsi n f ρ = o1 (f ρ) fun d => o1 (isTy d n) fun b => some (.bool b) := id rfl
@[simp] theorem iSeq_a (f : FE) (ρ : PEnv) : iSeq f ρ = o1 (f ρ) seqOf := id rfl
@[simp] theorem seqOf_l (ds : List D) : seqOf (.list ds) = some ds := id rfl
@[simp] theorem seqOf_t (ds : List D) : seqOf (.tuple ds) = some ds := id rfl
@[simp] theorem d1_1 (op : D → Option D) (x : D) : d1 op [x] = op x := id rfl
@[simp] theorem d2_2 (op : D → D → Option D) (x y : D) : d2 op [x, y] = op x y := id rfl
@[simp] theorem dLen_l (ds : List D) : dLen (.list ds) = some (.int ds.length) := id rfl
@[simp] theorem dLen_t (ds : List D) : dLen (.tuple ds) = some (.int ds.length) := id rfl
@[simp] theorem dInt_i (i : Int) : dInt (.int i) = some (.int i) := id rfl
@[simp] theorem dInt_b (b : Bool) : dInt (.bool b) = some (.int (if b then 1 else 0)) := id rfl
@[simp] theorem dTuple_l (ds : List D) : dTuple (.list ds) = some (.tuple ds) := id rfl
@[simp] theorem dTuple_t (ds : List D) : dTuple (.tuple ds) = some (.tuple ds) := id rfl
@[simp] theorem dList_l (ds : List D) : dList (.list ds) = some (.list ds) := id rfl
@[simp] theorem dList_t (ds : List D) : dList (.tuple ds) = some (.list ds) := id rfl
@[simp] theorem dAdd_i (i j : Int) : dAdd (.int i) (.int j) = some (.int (i + j)) := id rfl
@[simp] theorem dAddI_i (i j : Int) : dAddI (.int i) (.int j) = some (.int (i + j)) := id rfl
@[simp] theorem dSub_i (i j : Int) : dSub (.int i) (.int j) = some (.int (i - j)) := id rfl
@[simp] theorem dNeg_i (i : Int) : dNeg (.int i) = some (.int (-i)) := id rfl
@[simp] theorem dLt_i (i j : Int) : dLt (.int i) (.int j) = some (decide (i < j)) := id rfl
@[simp] theorem dLe_i (i j : Int) : dLe (.int i) (.int j) = some (decide (i ≤ j)) := id rfl
@[simp] theorem dGt_i (i j : Int) : dGt (.int i) (.int j) = some (decide (j < i)) := id rfl
@[simp] theorem dGe_i (i j : Int) : dGe (.int i) (.int j) = some (decide (j ≤ i)) := id rfl
@[simp] theorem dEq_i (i j : Int) : dEq (.int i) (.int j) = some (decide (i = j)) := by
  unfold dEq
  rw [if_pos (by rfl)]
  simp [PyData.eqv]
  rfl
@[simp] theorem dNe_i (i j : Int) : dNe (.int i) (.int j) = some (!decide (i = j)) := by
  unfold dNe
  rw [if_pos (by rfl)]
  simp [PyData.eqv]
  rfl
@[simp] theorem dTru_b (b : Bool) : dTru (.bool b) = some b := id rfl
@[simp] theorem dTru_i (i : Int) : dTru (.int i) = some (i != 0) := id rfl
@[simp] theorem dTru_l (ds : List D) : dTru (.list ds) = some !ds.isEmpty := id rfl
@[simp] theorem dTru_t (ds : List D) : dTru (.tuple ds) = some !ds.isEmpty := id rfl
@[simp] theorem dTru_n : dTru .none = some false := id rfl
@[simp] theorem isNon_n : isNon .none = true := id rfl
@[simp] theorem isNon_b (b : Bool) : isNon (.bool b) = false := id rfl
@[simp] theorem isNon_i (b : Int) : isNon (.int b) = false := id rfl
@[simp] theorem isNon_s (b : Str) : isNon (.str b) = false := id rfl
@[simp] theorem isNon_l (b : List D) : isNon (.list b) = false := id rfl
@[simp] theorem isNon_t (b : List D) : isNon (.tuple b) = false := id rfl
theorem dMul_i {i j : Int} (h : mulOk i j = true) : dMul (.int i) (.int j) = some (.int (i * j)) := by
  show (if mulOk i j = true then _ else _) = _
  rw [if_pos h]
theorem dFdiv_i {i j : Int} (h : fdivOk j = true) : dFdiv (.int i) (.int j) = some (.int (i / j)) := by
  show (if fdivOk j = true then _ else _) = _
  rw [if_pos h]
theorem dMod_i {i j : Int} (h : 0 < j) : dMod (.int i) (.int j) = some (.int (i % j)) := by
  show (if 0 < j then _ else _) = _
  rw [if_pos h]
theorem mulOk_l {i j : Int} (h : i.natAbs < 18446744073709551616) : mulOk i j = true := by
  simp [mulOk, h]
theorem mulOk_r {i j : Int} (h : j.natAbs < 18446744073709551616) : mulOk i j = true := by
  simp [mulOk, h]
theorem log2_le_of_lt {a : Nat} {n : Nat} (h : a < 2 ^ n) (hn : 0 < n) : a.log2 < n := by
  by_cases ha : a = 0
  · subst ha; simpa using hn
  · exact (Nat.log2_lt ha).mpr h
theorem mulOk_big {i j : Int} {m n : Nat} (hi : i.natAbs < 2 ^ m) (hj : j.natAbs < 2 ^ n) (hm : 0 < m) (hn : 0 < n) (h : m + n ≤ 1000000) : mulOk i j = true := by
  have h1 := log2_le_of_lt hi hm
  have h2 := log2_le_of_lt hj hn
  unfold mulOk
  rw [Bool.or_eq_true]
  right
  exact decide_eq_true (by omega)
theorem fdivOk_of {j : Int} {n : Nat} (h0 : 0 < j) (hj : j.natAbs < 2 ^ n) (hn : 0 < n) (h : n ≤ 9000) : fdivOk j = true := by
  have h1 := log2_le_of_lt hj hn
  unfold fdivOk
  rw [Bool.and_eq_true]
  exact ⟨decide_eq_true h0, decide_eq_true (by omega)⟩
/-! statements -/
@[simp] theorem sNil_a (s : S) : sNil s = .next s := id rfl
@[simp] theorem sRet_a (f : FE) (s : S) : sRet f s = match f s.1 with | none => .stuck | some d => .ret d := id rfl
theorem sSeq_next {f g : FS} {s s' : S} (h : f s = .next s') : sSeq f g s = g s' := by
  unfold sSeq; rw [h]
theorem sSeq_ret {f g : FS} {s : S} {d : D} (h : f s = .ret d) : sSeq f g s = .ret d := by
  unfold sSeq; rw [h]
theorem sSet_next {i l : Nat} {f : FE} {c : Esc} {s : S} {d : D} (h : f s.1 = some d) : sSet i l f c s = if flat d = true then .next (s.1.set i (some d), s.2.set i 0) else .next (s.1.set i (some d), (demote c s.2).set i l) := by
  unfold sSet; rw [h]
theorem sIf_t {c : FT} {f g : FS} {s : S} (h : c s.1 = some true) : sIf c f g s = f s := by
  unfold sIf; rw [h]
theorem sIf_f {c : FT} {f g : FS} {s : S} (h : c s.1 = some false) : sIf c f g s = g s := by
  unfold sIf; rw [h]
theorem eCall_a {n : Nat} {F : Fn} {fs : FA} {ρ : PEnv} {ds : List D} (h : fs ρ = some ds) (hn : ds.length = n) : eCall n F fs ρ = F ds := by
  unfold eCall; rw [h]; simp [hn]
end
/-! calls: no step by reckoning, so that nothing looks into the function called -/
section
variable {ρ : PEnv} {F : Fn} {f1 f2 f3 f4 f5 f6 : FE}
@[simp] theorem eCall_1 : eCall 1 F (aCons f1 aNil) ρ = o1 (f1 ρ) fun x => F [x] := by
  unfold eCall aCons aNil; cases f1 ρ <;> rfl
@[simp] theorem eCall_2 : eCall 2 F (aCons f1 (aCons f2 aNil)) ρ = o1 (f1 ρ) fun x => o1 (f2 ρ) fun y => F [x, y] := by
  unfold eCall aCons aNil; cases f1 ρ <;> cases f2 ρ <;> rfl
@[simp] theorem eCall_3 : eCall 3 F (aCons f1 (aCons f2 (aCons f3 aNil))) ρ = o1 (f1 ρ) fun x => o1 (f2 ρ) fun y => o1 (f3 ρ) fun z => F [x, y, z] := by
  unfold eCall aCons aNil; cases f1 ρ <;> cases f2 ρ <;> cases f3 ρ <;> rfl
@[simp] theorem eCall_4 : eCall 4 F (aCons f1 (aCons f2 (aCons f3 (aCons f4 aNil)))) ρ = o1 (f1 ρ) fun x => o1 (f2 ρ) fun y => o1 (f3 ρ) fun z => o1 (f4 ρ) fun u => F [x, y, z, u] := by
  unfold eCall aCons aNil; cases f1 ρ <;> cases f2 ρ <;> cases f3 ρ <;> cases f4 ρ <;> rfl
@[simp] theorem eCall_5 : eCall 5 F (aCons f1 (aCons f2 (aCons f3 (aCons f4 (aCons f5 aNil))))) ρ = o1 (f1 ρ) fun x => o1 (f2 ρ) fun y => o1 (f3 ρ) fun z => o1 (f4 ρ) fun u => o1 (f5 ρ) fun v => F [x, y, z, u, v] := by
  unfold eCall aCons aNil; cases f1 ρ <;> cases f2 ρ <;> cases f3 ρ <;> cases f4 ρ <;> cases f5 ρ <;> rfl
@[simp] theorem eCall_6 : eCall 6 F (aCons f1 (aCons f2 (aCons f3 (aCons f4 (aCons f5 (aCons f6 aNil)))))) ρ = o1 (f1 ρ) fun x => o1 (f2 ρ) fun y => o1 (f3 ρ) fun z => o1 (f4 ρ) fun u => o1 (f5 ρ) fun v => o1 (f6 ρ) fun w => F [x, y, z, u, v, w] := by
  unfold eCall aCons aNil; cases f1 ρ <;> cases f2 ρ <;> cases f3 ρ <;> cases f4 ρ <;> cases f5 ρ <;> cases f6 ρ <;> rfl
@[simp] theorem eCall_7 {f7 : FE} : eCall 7 F (aCons f1 (aCons f2 (aCons f3 (aCons f4 (aCons f5 (aCons f6 (aCons f7 aNil))))))) ρ = o1 (f1 ρ) fun x => o1 (f2 ρ) fun y => o1 (f3 ρ) fun z => o1 (f4 ρ) fun u => o1 (f5 ρ) fun v => o1 (f6 ρ) fun w => o1 (f7 ρ) fun t => F [x, y, z, u, v, w, t] := by
  unfold eCall aCons aNil; cases f1 ρ <;> cases f2 ρ <;> cases f3 ρ <;> cases f4 ρ <;> cases f5 ρ <;> cases f6 ρ <;> cases f7 ρ <;> rfl
end
theorem sRet_ok {f : FE} {s : S} {d : D} (h : f s.1 = some d) : sRet f s = .ret d := by
  unfold sRet; rw [h]
theorem dfun_ret {N n : Nat} {body : FS} {ds : List D} {d : D} (ρ : PEnv) (L : List Nat) (hn : ds.length = n) (hρ : ds.map some ++ List.replicate (N - n) none = ρ) (hL : List.replicate N 0 = L) (h : body (ρ, L) = .ret d) : dfun N n body ds = some d := by
  unfold dfun
  rw [if_pos hn, hρ, hL, h]
theorem sSet_any {i l : Nat} {f : FE} {c : Esc} {ρ : PEnv} {L : List Nat} {d : D} (h : f ρ = some d) : ∃ L', sSet i l f c (ρ, L) = .next (ρ.set i (some d), L') := by
  rw [sSet_next (s := (ρ, L)) h]
  split <;> exact ⟨_, rfl⟩
theorem sPar_flat {i j : Nat} {f g : FE} {c : Esc} {ρ : PEnv} {L : List Nat} {d e : D} (h : f ρ = some d) (h' : g ρ = some e) (hd : flat d = true) (he : flat e = true) : sPar i j f g c (ρ, L) = .next ((ρ.set i (some d)).set j (some e), (L.set i 0).set j 0) := by
  unfold sPar
  simp only [h, h', hd, he]
  rfl
theorem sSet_flat {i l : Nat} {f : FE} {c : Esc} {ρ : PEnv} {L : List Nat} {d : D} (h : f ρ = some d) (hd : flat d = true) : sSet i l f c (ρ, L) = .next (ρ.set i (some d), L.set i 0) := by
  rw [sSet_next (s := (ρ, L)) h, if_pos hd]
end DS
end

section
set_option Elab.async false
set_option linter.all false
set_option maxRecDepth 10000
namespace Lib
open DS PySem
def den_divisor : Fn := dfun 2 2 (sSeq (sPar 0 1 (eCB (d1 dAbs) (aCons (eVar 0) aNil)) (eCB (d1 dAbs) (aCons (eVar 1) aNil)) ([] ++ []))
  (sSeq (sWhile 100000 (tCmp dGt (eVar 1) (eC (.int 0)))
  (sPar 0 1 (eVar 1) (eOp dMod (eVar 0) (eVar 1)) ([(1, 0)] ++ ([(0, 1)] ++ [(1, 1)]))))
  (sRet (eVar 0))))
def den_lowest : Fn := dfun 3 2 (sSeq (sSet 2 0 (eIfD (tCmp dGt (eVar 1) (eC (.int 0))) (eCall 2 den_divisor (aCons (eVar 0) (aCons (eVar 1) aNil))) (eUn dNeg (eCall 2 den_divisor (aCons (eVar 0) (aCons (eVar 1) aNil))))) (([(0, 0)] ++ ([(1, 0)] ++ [])) ++ []))
  (sRet (eTup (aCons (eOp dFdiv (eVar 0) (eVar 2)) (aCons (eOp dFdiv (eVar 1) (eVar 2)) aNil)))))
def den_plus : Fn := dfun 2 2 (sRet (eCall 2 den_lowest (aCons (eOp dAdd (eOp dMul (eIx (eVar 0) (eC (.int 0))) (eIx (eVar 1) (eC (.int 1)))) (eOp dMul (eIx (eVar 1) (eC (.int 0))) (eIx (eVar 0) (eC (.int 1))))) (aCons (eOp dMul (eIx (eVar 0) (eC (.int 1))) (eIx (eVar 1) (eC (.int 1)))) aNil))))
def den_minus : Fn := dfun 2 2 (sRet (eCall 2 den_lowest (aCons (eOp dSub (eOp dMul (eIx (eVar 0) (eC (.int 0))) (eIx (eVar 1) (eC (.int 1)))) (eOp dMul (eIx (eVar 1) (eC (.int 0))) (eIx (eVar 0) (eC (.int 1))))) (aCons (eOp dMul (eIx (eVar 0) (eC (.int 1))) (eIx (eVar 1) (eC (.int 1)))) aNil))))
def den_times : Fn := dfun 2 2 (sRet (eCall 2 den_lowest (aCons (eOp dMul (eIx (eVar 0) (eC (.int 0))) (eIx (eVar 1) (eC (.int 0)))) (aCons (eOp dMul (eIx (eVar 0) (eC (.int 1))) (eIx (eVar 1) (eC (.int 1)))) aNil))))
def den_is_less : Fn := dfun 2 2 (sRet (eB (tCmp dLt (eOp dMul (eIx (eVar 0) (eC (.int 0))) (eIx (eVar 1) (eC (.int 1)))) (eOp dMul (eIx (eVar 1) (eC (.int 0))) (eIx (eVar 0) (eC (.int 1)))))))
def den_total : Fn := dfun 3 1 (sSeq (sSet 1 0 (eTup (aCons (eC (.int 0)) (aCons (eC (.int 1)) aNil))) ([] ++ ([] ++ [])))
  (sSeq (sFor (iSeq (eVar 0)) [(0, 0)] (.nm 2)
  (sSet 1 0 (eCall 2 den_plus (aCons (eVar 1) (aCons (eVar 2) aNil))) ([(1, 0)] ++ ([(2, 0)] ++ []))))
  (sRet (eVar 1))))
def den_greatest : Fn := dfun 3 1 (sSeq (sSet 1 0 (eIx (eVar 0) (eC (.int 0))) [(0, 1)])
  (sSeq (sFor (iSeq (eVar 0)) [(0, 0)] (.nm 2)
  (sSet 1 0 (eIfD (tTru (eCall 2 den_is_less (aCons (eVar 1) (aCons (eVar 2) aNil)))) (eVar 2) (eVar 1)) ([(2, 0)] ++ [(1, 0)])))
  (sRet (eVar 1))))
def den_mean_of : Fn := dfun 4 1 (sSeq (sSet 1 0 (eCB (d1 dSum) (aCons (eLc (iSeq (eVar 0)) (.tp [(.nm 2), (.nm 3)]) tTrue (eVar 2) [2, 3]) aNil)) [])
  (sRet (eCall 1 den_total (aCons (eLc (iSeq (eVar 0)) (.tp [(.nm 2), (.nm 3)]) tTrue (eCall 2 den_times (aCons (eVar 3) (aCons (eCall 2 den_lowest (aCons (eVar 2) (aCons (eVar 1) aNil))) aNil))) [2, 3]) aNil))))
def den__law_mixed : Fn := dfun 6 2 (sSeq (sSet 2 0 (eC (.int 0)) [])
  (sSeq (sIf (tCmp dGt (eCB (d1 dLen) (aCons (eVar 0) aNil)) (eC (.int 0)))
  (sSet 2 0 (eIx (eVar 0) (eOp dMod (eVar 1) (eCB (d1 dLen) (aCons (eVar 0) aNil)))) [(0, 1)])
  sNil)
  (sSeq (sSet 3 0 (eOp dMod (eCB (d1 dInt) (aCons (eOp dAdd (eOp dAdd (eOp dMul (eVar 2) (eC (.int 48271))) (eOp dMul (eVar 1) (eC (.int 69621)))) (eC (.int 8191))) aNil)) (eC (.int 2147483647))) ([] ++ []))
  (sSeq (sSet 4 0 (eOp dMod (eCB (d1 dInt) (aCons (eOp dAdd (eOp dAdd (eOp dMul (eVar 3) (eVar 3)) (eOp dFdiv (eVar 3) (eC (.int 7)))) (eOp dMul (eVar 1) (eC (.int 16807)))) aNil)) (eC (.int 2147483629))) ([] ++ []))
  (sSeq (sSet 5 0 (eOp dMod (eCB (d1 dInt) (aCons (eOp dAdd (eOp dAdd (eOp dMul (eVar 4) (eVar 4)) (eOp dFdiv (eVar 4) (eC (.int 11)))) (eC (.int 40692))) aNil)) (eC (.int 2147483563))) ([] ++ []))
  (sRet (eOp dMod (eOp dFdiv (eVar 5) (eC (.int 5))) (eC (.int 1000003)))))))))
def den__law_row : Fn := dfun 5 2 (sSeq (sSet 2 0 (eC (.int 0)) [])
  (sSeq (sIf (tAndD (tCmp dGt (eCB (d1 dLen) (aCons (eVar 0) aNil)) (eC (.int 0))) (tCmp dGe (eIx (eVar 0) (eC (.int 0))) (eOp dPow (eC (.int 10)) (eC (.int 18)))))
  (sSet 2 0 (eIx (eVar 0) (eC (.int 0))) [(0, 1)])
  sNil)
  (sSeq (sSet 3 1 (eLst aNil) [])
  (sSeq (sFor (iRange1 (eVar 1)) [] (.nm 4)
  (sIf (tCmp dGt (eVar 2) (eC (.int 0)))
  (sSeq (sApp 3 (eOp dMod (eCB (d1 dInt) (aCons (eVar 2) aNil)) (eC (.int 1000))) ([] ++ []))
  (sSet 2 0 (eOp dFdiv (eVar 2) (eC (.int 1000))) ([(2, 1)] ++ [])))
  (sApp 3 (eCall 2 den__law_mixed (aCons (eVar 0) (aCons (eVar 4) aNil))) ([(0, 0)] ++ ([(4, 0)] ++ [])))))
  (sRet (eVar 3))))))
def den__law_is_int : Fn := dfun 1 1 (sRet (eAndD (eIsi "int" (eVar 0)) (eB (tNotD (tTru (eIsi "bool" (eVar 0)))))))
def den__law_like : Nat → Fn
  | 0 => fun _ => none
  | n + 1 => dfun 3 2 (sSeq (sIf (tIsND (eVar 1))
  (sRet (eIsN (eVar 0)))
  sNil)
  (sSeq (sIf (tTru (eIsi "bool" (eVar 1)))
  (sRet (eAndD (eIsi "bool" (eVar 0)) (eB (tCmp dEq (eVar 0) (eVar 1)))))
  sNil)
  (sSeq (sIf (tTru (eIsi "tuple" (eVar 1)))
  (sSeq (sIf (tOrD (tNotD (tTru (eIsi "tuple" (eVar 0)))) (tCmp dNe (eCB (d1 dLen) (aCons (eVar 0) aNil)) (eCB (d1 dLen) (aCons (eVar 1) aNil))))
  (sRet (eC (.bool false)))
  sNil)
  (sRet (eCB (d1 dAll) (aCons (eLc (iRange1 (eCB (d1 dLen) (aCons (eVar 1) aNil))) (.nm 2) tTrue (eCall 2 (den__law_like n) (aCons (eIx (eVar 0) (eVar 2)) (aCons (eIx (eVar 1) (eVar 2)) aNil))) [2]) aNil))))
  sNil)
  (sSeq (sIf (tTru (eIsi "str" (eVar 1)))
  (sRet (eAndD (eIsi "str" (eVar 0)) (eB (tCmp dEq (eVar 0) (eVar 1)))))
  sNil)
  (sRet (eAndD (eCall 1 den__law_is_int (aCons (eVar 0) aNil)) (eB (tCmp dEq (eVar 0) (eVar 1)))))))))
def den__law_common : Fn := dfun 2 2 (sSeq (sPar 0 1 (eCB (d1 dAbs) (aCons (eVar 0) aNil)) (eCB (d1 dAbs) (aCons (eVar 1) aNil)) ([] ++ []))
  (sSeq (sWhile 100000 (tCmp dGt (eVar 1) (eC (.int 0)))
  (sPar 0 1 (eVar 1) (eOp dMod (eCB (d1 dInt) (aCons (eVar 0) aNil)) (eVar 1)) ([(1, 0)] ++ ([] ++ [(1, 1)]))))
  (sRet (eVar 0))))
def den__law_ratio : Fn := dfun 3 2 (sSeq (sSet 2 0 (eCall 2 den__law_common (aCons (eVar 0) (aCons (eVar 1) aNil))) ([(0, 0)] ++ ([(1, 0)] ++ [])))
  (sSeq (sIf (tCmp dLt (eVar 1) (eC (.int 0)))
  (sSet 2 0 (eUn dNeg (eVar 2)) [])
  sNil)
  (sRet (eTup (aCons (eOp dFdiv (eVar 0) (eVar 2)) (aCons (eOp dFdiv (eVar 1) (eVar 2)) aNil))))))
def den__law_power : Fn := dfun 4 2 (sSeq (sSet 2 0 (eC (.int 1)) [])
  (sSeq (sFor (iRange1 (eVar 1)) [] (.nm 3)
  (sSet 2 0 (eOp dMul (eVar 2) (eVar 0)) ([(2, 1)] ++ [(0, 1)])))
  (sRet (eVar 2))))
end Lib
end

section
set_option Elab.async false
set_option linter.all false
set_option maxRecDepth 10000
namespace Lib
open DS PySem
/-- a ratio as a tree -/
def rt (q : Rat) : D := .tuple [.int q.num, .int q.den]
/-- small enough: numerator and denominator below 2 ^ n -/
def Sm (n : Nat) (q : Rat) : Prop := q.num.natAbs < 2 ^ n ∧ q.den < 2 ^ n
/-! Euclid's loop -/
def gcdLoop : FS := sWhile 100000 (tCmp dGt (eVar 1) (eC (.int 0))) (sPar 0 1 (eVar 1) (eOp dMod (eVar 0) (eVar 1)) ([(1, 0)] ++ ([(0, 1)] ++ [(1, 1)])))
theorem gcd_step (n : Nat) (a b : Int) (L : List Nat) (hb : 0 < b) : ∃ L', whGo (tCmp dGt (eVar 1) (eC (.int 0))) (sPar 0 1 (eVar 1) (eOp dMod (eVar 0) (eVar 1)) ([(1, 0)] ++ ([(0, 1)] ++ [(1, 1)]))) (n + 1) ([some (.int a), some (.int b)], L) =
    whGo (tCmp dGt (eVar 1) (eC (.int 0))) (sPar 0 1 (eVar 1) (eOp dMod (eVar 0) (eVar 1)) ([(1, 0)] ++ ([(0, 1)] ++ [(1, 1)]))) n ([some (.int b), some (.int (a % b))], L') := by
  rw [whGo]
  simp [hb, sPar, dMod_i hb, flat]
  exact ⟨_, rfl⟩
theorem gcd_end (n : Nat) (a : Int) (L : List Nat) : whGo (tCmp dGt (eVar 1) (eC (.int 0))) (sPar 0 1 (eVar 1) (eOp dMod (eVar 0) (eVar 1)) ([(1, 0)] ++ ([(0, 1)] ++ [(1, 1)]))) (n + 1) ([some (.int a), some (.int 0)], L) = .next ([some (.int a), some (.int 0)], L) := by
  rw [whGo]
  simp
theorem mod2_lt {b r : Int} (hr : 0 < r) (hrb : r < b) : 2 * (b % r) < b := by
  have h1 := Int.emod_lt_of_pos b hr
  have h2 := Int.emod_nonneg b (by omega : r ≠ 0)
  by_cases h : 2 * r ≤ b
  · omega
  · have : b % r = b - r := by
      have e := Int.emod_add_mul_ediv b r
      have hq : b / r = 1 := by
        apply Int.le_antisymm
        · have : b / r < 2 := Int.ediv_lt_of_lt_mul hr (by omega)
          omega
        · exact (Int.le_ediv_iff_mul_le hr).mpr (by omega)
      rw [hq] at e
      omega
    omega
theorem gcd_mod (a b : Int) : Int.gcd a b = Int.gcd b (a % b) := by
  rw [Int.gcd_comm a b]
  conv => lhs; rw [← Int.emod_add_mul_ediv a b, Int.mul_comm]
  exact Int.gcd_add_mul_right_right b (a % b) (a / b)
theorem gcd_go : ∀ (k n : Nat) (a b : Int) (L : List Nat), 0 ≤ a → 0 ≤ b → b < 2 ^ k → 2 * k + 1 ≤ n → ∃ L', whGo (tCmp dGt (eVar 1) (eC (.int 0))) (sPar 0 1 (eVar 1) (eOp dMod (eVar 0) (eVar 1)) ([(1, 0)] ++ ([(0, 1)] ++ [(1, 1)]))) n ([some (.int a), some (.int b)], L) = .next ([some (.int (Int.gcd a b)), some (.int 0)], L')
  | 0, n + 1, a, b, L, ha, hb, hk, hn => by
    have e : b = 0 := by simpa using (show b < 1 by simpa using hk) |> fun h => (by omega : b = 0)
    subst e
    rw [gcd_end]
    exact ⟨L, by simp [Int.natAbs_of_nonneg ha]⟩
  | k + 1, n + 3, a, b, L, ha, hb, hk, hn => by
    by_cases h0 : b = 0
    · subst h0
      rw [gcd_end]
      exact ⟨L, by simp [Int.natAbs_of_nonneg ha]⟩
    · have hb' : 0 < b := by omega
      obtain ⟨L1, e1⟩ := gcd_step (n + 2) a b L hb'
      rw [e1]
      have hr0 := Int.emod_nonneg a (by omega : b ≠ 0)
      have hr1 := Int.emod_lt_of_pos a hb'
      have g1 : Int.gcd a b = Int.gcd b (a % b) := gcd_mod a b
      by_cases h1 : a % b = 0
      · rw [h1] at g1 ⊢
        rw [gcd_end]
        exact ⟨L1, by rw [g1]; simp [Int.natAbs_of_nonneg hb]⟩
      · obtain ⟨L2, e2⟩ := gcd_step (n + 1) b (a % b) L1 (by omega)
        rw [e2]
        have hm := mod2_lt (b := b) (r := a % b) (by omega) hr1
        have hlt : b % (a % b) < 2 ^ k := by
          have : (2 : Int) ^ (k + 1) = 2 * 2 ^ k := by rw [Int.pow_succ]; omega
          omega
        obtain ⟨L3, e3⟩ := gcd_go k (n + 1) (a % b) (b % (a % b)) L2 hr0 (Int.emod_nonneg b h1) hlt (by omega)
        rw [e3]
        refine ⟨L3, ?_⟩
        rw [g1, gcd_mod b (a % b)]
/-! divisor, lowest -/
theorem int_lt_pow {b : Int} {k : Nat} (h0 : 0 ≤ b) (h : b.natAbs < 2 ^ k) : b < 2 ^ k := by
  have e : b = (b.natAbs : Int) := by omega
  rw [e]
  have := Int.ofNat_lt.mpr h
  simpa using this
theorem divisor_ok {a b : Int} {k : Nat} (hb : b.natAbs < 2 ^ k) (hk : k ≤ 40000) : den_divisor [.int a, .int b] = some (.int (Int.gcd a b)) := by
  have habs : ∀ x : Int, (if x < 0 then -x else x) = (x.natAbs : Int) := fun x => by split <;> omega
  unfold den_divisor dfun
  simp only [List.length_cons, List.length_nil, Nat.zero_add, Nat.reduceAdd, if_true, List.map_cons, List.map_nil]
  rw [sSeq_next (s' := ([some (.int a.natAbs), some (.int b.natAbs)], [0, 0])) (by simp [sPar, dAbs, flat, habs])]
  obtain ⟨L, e⟩ := gcd_go k 100000 a.natAbs b.natAbs [0, 0] (by omega) (by omega) (by
    have := Int.ofNat_lt.mpr hb
    simpa using this) (by omega)
  rw [sSeq_next (s' := ([some (.int (Int.gcd a b)), some (.int 0)], L)) (by
    unfold sWhile
    rw [e]
    simp [Int.gcd_eq_natAbs_gcd_natAbs])]
  simp
/-- the lowest terms of a / b, b above 0 -/
theorem lowest_ok {a b : Int} {k : Nat} (hb0 : 0 < b) (hb : b.natAbs < 2 ^ k) (hk : k ≤ 8999) : den_lowest [.int a, .int b] = some (rt (Rat.divInt a b)) := by
  have hg : (Int.gcd a b) ≠ 0 := fun h => by
    have := (Int.gcd_eq_zero_iff.mp h).2
    omega
  have hgb : Int.gcd a b ≤ b.natAbs := Nat.le_of_dvd (by omega) (Int.gcd_eq_natAbs_gcd_natAbs a b ▸ Nat.gcd_dvd_right _ _)
  have hnum : (Rat.divInt a b).num = a / (Int.gcd a b : Int) := by rw [Rat.num_divInt, Int.gcd_comm, Int.sign_eq_one_of_pos hb0, Int.one_mul]
  have hden : (Rat.divInt a b).den = b.natAbs / Int.gcd a b := by rw [Rat.den_divInt, if_neg (by omega), Int.gcd_comm]
  have hfd : fdivOk (Int.gcd a b : Int) = true := fdivOk_of (n := k + 1) (by omega) (by
    rw [Nat.pow_succ]
    have e : ((Int.gcd a b : Nat) : Int).natAbs = Int.gcd a b := by omega
    rw [e]; omega) (by omega) (by omega)
  unfold den_lowest dfun
  simp only [List.length_cons, List.length_nil, Nat.zero_add, Nat.reduceAdd, if_true, List.map_cons, List.map_nil]
  rw [sSeq_next (s' := ([some (.int a), some (.int b), some (.int (Int.gcd a b))], [0, 0, 0])) (by
    rw [sSet_next (d := .int (Int.gcd a b)) (by simp [eIfD, hb0, eCall, divisor_ok hb (by omega : k ≤ 40000)])]
    simp [flat])]
  have eb : b / (Int.gcd a b : Int) = ((b.natAbs / Int.gcd a b : Nat) : Int) := by
    rw [Int.natCast_ediv]
    congr 1
    omega
  simp only [sRet_a, eTup, aCons_a, eOp_a, eVar_0, eVar_s, o2_ss, o1_s, dFdiv_i hfd, aNil_a, rt, hnum, hden, eb]
  rfl
theorem Sm.mono {m n : Nat} {q : Rat} (h : Sm m q) (hmn : m ≤ n) : Sm n q :=
  ⟨Nat.lt_of_lt_of_le h.1 (Nat.pow_le_pow_right (by omega) hmn), Nat.lt_of_lt_of_le h.2 (Nat.pow_le_pow_right (by omega) hmn)⟩
theorem natAbs_mul_lt {x y : Int} {m n : Nat} (hx : x.natAbs < 2 ^ m) (hy : y.natAbs < 2 ^ n) : (x * y).natAbs < 2 ^ (m + n) := by
  rw [Int.natAbs_mul, Nat.pow_add]
  exact Nat.mul_lt_mul'' hx hy
theorem natAbs_add_lt {x y : Int} {m : Nat} (hx : x.natAbs < 2 ^ m) (hy : y.natAbs < 2 ^ m) : (x + y).natAbs < 2 ^ (m + 1) := by
  rw [Nat.pow_succ]; omega
theorem natAbs_sub_lt {x y : Int} {m : Nat} (hx : x.natAbs < 2 ^ m) (hy : y.natAbs < 2 ^ m) : (x - y).natAbs < 2 ^ (m + 1) := by
  rw [Nat.pow_succ]; omega
/-- a quotient is no greater than what it is made of -/
theorem Sm.divInt {a b : Int} {m n : Nat} (hb : 0 < b) (ha : a.natAbs < 2 ^ m) (hb' : b.natAbs < 2 ^ m) : Sm m (Rat.divInt a b) := by
  have hg : 0 < Int.gcd a b := Nat.pos_of_ne_zero fun h => by
    have := (Int.gcd_eq_zero_iff.mp h).2
    omega
  have hnum : (Rat.divInt a b).num = a / (Int.gcd a b : Int) := by rw [Rat.num_divInt, Int.gcd_comm, Int.sign_eq_one_of_pos hb, Int.one_mul]
  have hden : (Rat.divInt a b).den = b.natAbs / Int.gcd a b := by rw [Rat.den_divInt, if_neg (by omega), Int.gcd_comm]
  constructor
  · rw [hnum]
    have hd : (Int.gcd a b : Int) ∣ a := Int.gcd_dvd_left _ _
    rw [Int.natAbs_ediv_of_dvd hd]
    have e : ((Int.gcd a b : Nat) : Int).natAbs = Int.gcd a b := by omega
    rw [e]
    exact Nat.lt_of_le_of_lt (Nat.div_le_self _ _) ha
  · rw [hden]
    exact Nat.lt_of_le_of_lt (Nat.div_le_self _ _) hb'
theorem den_pos (q : Rat) : (0 : Int) < q.den := by
  have := q.den_nz
  omega
theorem atI_0 {x : D} {r : List D} : L2.atI (x :: r) 0 = some x := by
  have : L2.atI (x :: r) ((0 : Nat) : Int) = some x := L2.atI_nat rfl
  simpa using this
theorem atI_1 {x y : D} {r : List D} : L2.atI (x :: y :: r) 1 = some y := by
  have : L2.atI (x :: y :: r) ((1 : Nat) : Int) = some y := L2.atI_nat rfl
  simpa using this
theorem rt_0 (q : Rat) : dIx (rt q) (.int 0) = some (.int q.num) := atI_0
theorem rt_1 (q : Rat) : dIx (rt q) (.int 1) = some (.int q.den) := atI_1
theorem times_ok {p q : Rat} {m n : Nat} (hp : Sm m p) (hq : Sm n q) (h0 : 0 < m) (h1 : 0 < n) (h : m + n ≤ 8000) : den_times [rt p, rt q] = some (rt (p * q)) ∧ Sm (m + n) (p * q) := by
  have e : p * q = Rat.divInt (p.num * q.num) (p.den * q.den) := by
    conv => lhs; rw [← Rat.num_divInt_den p, ← Rat.num_divInt_den q]
    exact Rat.divInt_mul_divInt _ _
  have hd : (0 : Int) < p.den * q.den := Int.mul_pos (den_pos p) (den_pos q)
  have b1 : (p.num * q.num).natAbs < 2 ^ (m + n) := natAbs_mul_lt hp.1 hq.1
  have b2 : ((p.den : Int) * q.den).natAbs < 2 ^ (m + n) := natAbs_mul_lt (by simpa using hp.2) (by simpa using hq.2)
  have m1 : mulOk p.num q.num = true := mulOk_big hp.1 hq.1 h0 h1 (by omega)
  have m2 : mulOk (p.den : Int) q.den = true := mulOk_big (m := m) (n := n) (by simpa using hp.2) (by simpa using hq.2) h0 h1 (by omega)
  refine ⟨?_, by rw [e]; exact Sm.divInt (n := n) hd b1 b2⟩
  have hl := lowest_ok (a := p.num * q.num) hd b2 (by omega)
  rw [← e] at hl
  simp [den_times, dfun, eCall, rt_0, rt_1, dMul_i m1, dMul_i m2, hl]
theorem plus_ok {p q : Rat} {m n : Nat} (hp : Sm m p) (hq : Sm n q) (h0 : 0 < m) (h1 : 0 < n) (h : m + n ≤ 8000) : den_plus [rt p, rt q] = some (rt (p + q)) ∧ Sm (m + n + 1) (p + q) := by
  have e : p + q = Rat.divInt (p.num * q.den + q.num * p.den) (p.den * q.den) := by
    conv => lhs; rw [← Rat.num_divInt_den p, ← Rat.num_divInt_den q]
    exact Rat.divInt_add_divInt _ _ (by have := den_pos p; omega) (by have := den_pos q; omega)
  have hd : (0 : Int) < p.den * q.den := Int.mul_pos (den_pos p) (den_pos q)
  have c1 : (p.num * q.den).natAbs < 2 ^ (m + n) := natAbs_mul_lt hp.1 (by simpa using hq.2)
  have c2 : (q.num * p.den).natAbs < 2 ^ (m + n) := by
    rw [Nat.add_comm]
    exact natAbs_mul_lt hq.1 (by simpa using hp.2)
  have b1 := natAbs_add_lt c1 c2
  have b2 : ((p.den : Int) * q.den).natAbs < 2 ^ (m + n) := natAbs_mul_lt (by simpa using hp.2) (by simpa using hq.2)
  have b2' : ((p.den : Int) * q.den).natAbs < 2 ^ (m + n + 1) := Nat.lt_of_lt_of_le b2 (Nat.pow_le_pow_right (by omega) (by omega))
  have m1 : mulOk p.num q.den = true := mulOk_big (m := m) (n := n) hp.1 (by simpa using hq.2) h0 h1 (by omega)
  have m2 : mulOk q.num p.den = true := mulOk_big (m := n) (n := m) hq.1 (by simpa using hp.2) h1 h0 (by omega)
  have m3 : mulOk (p.den : Int) q.den = true := mulOk_big (m := m) (n := n) (by simpa using hp.2) (by simpa using hq.2) h0 h1 (by omega)
  refine ⟨?_, by rw [e]; exact Sm.divInt (n := n) hd b1 b2'⟩
  have hl := lowest_ok (a := p.num * q.den + q.num * p.den) hd b2 (by omega)
  rw [← e] at hl
  simp [den_plus, dfun, eCall, rt_0, rt_1, dMul_i m1, dMul_i m2, dMul_i m3, hl]
theorem minus_ok {p q : Rat} {m n : Nat} (hp : Sm m p) (hq : Sm n q) (h0 : 0 < m) (h1 : 0 < n) (h : m + n ≤ 8000) : den_minus [rt p, rt q] = some (rt (p - q)) ∧ Sm (m + n + 1) (p - q) := by
  have e : p - q = Rat.divInt (p.num * q.den - q.num * p.den) (p.den * q.den) := by
    conv => lhs; rw [← Rat.num_divInt_den p, ← Rat.num_divInt_den q]
    exact Rat.divInt_sub_divInt _ _ (by have := den_pos p; omega) (by have := den_pos q; omega)
  have hd : (0 : Int) < p.den * q.den := Int.mul_pos (den_pos p) (den_pos q)
  have c1 : (p.num * q.den).natAbs < 2 ^ (m + n) := natAbs_mul_lt hp.1 (by simpa using hq.2)
  have c2 : (q.num * p.den).natAbs < 2 ^ (m + n) := by
    rw [Nat.add_comm]
    exact natAbs_mul_lt hq.1 (by simpa using hp.2)
  have b1 := natAbs_sub_lt c1 c2
  have b2 : ((p.den : Int) * q.den).natAbs < 2 ^ (m + n) := natAbs_mul_lt (by simpa using hp.2) (by simpa using hq.2)
  have b2' : ((p.den : Int) * q.den).natAbs < 2 ^ (m + n + 1) := Nat.lt_of_lt_of_le b2 (Nat.pow_le_pow_right (by omega) (by omega))
  have m1 : mulOk p.num q.den = true := mulOk_big (m := m) (n := n) hp.1 (by simpa using hq.2) h0 h1 (by omega)
  have m2 : mulOk q.num p.den = true := mulOk_big (m := n) (n := m) hq.1 (by simpa using hp.2) h1 h0 (by omega)
  have m3 : mulOk (p.den : Int) q.den = true := mulOk_big (m := m) (n := n) (by simpa using hp.2) (by simpa using hq.2) h0 h1 (by omega)
  refine ⟨?_, by rw [e]; exact Sm.divInt (n := n) hd b1 b2'⟩
  have hl := lowest_ok (a := p.num * q.den - q.num * p.den) hd b2 (by omega)
  rw [← e] at hl
  simp [den_minus, dfun, eCall, rt_0, rt_1, dMul_i m1, dMul_i m2, dMul_i m3, hl]
theorem is_less_ok {p q : Rat} {m n : Nat} (hp : Sm m p) (hq : Sm n q) (h0 : 0 < m) (h1 : 0 < n) (h : m + n ≤ 8000) : den_is_less [rt p, rt q] = some (.bool (decide (p < q))) := by
  have m1 : mulOk p.num q.den = true := mulOk_big (m := m) (n := n) hp.1 (by simpa using hq.2) h0 h1 (by omega)
  have m2 : mulOk q.num p.den = true := mulOk_big (m := n) (n := m) hq.1 (by simpa using hp.2) h1 h0 (by omega)
  simp [den_is_less, dfun, rt_0, rt_1, dMul_i m1, dMul_i m2, Rat.lt_iff]
end Lib
end

section
set_option Elab.async false
set_option linter.all false
set_option maxRecDepth 10000
/-! The law's own helpers, as in every law: the row of numbers that a script gives, the comparison of trees, ratios, powers. -/
namespace Lib
open DS PySem
theorem scr_len (ns : List Int) : dLen (scr ns) = some (.int ns.length) := by
  simp [scr, dLen]
theorem atI_map {ns : List Int} {i : Int} (h0 : 0 ≤ i) (h1 : i < ns.length) : ∃ x, L2.atI (ns.map PyData.int) i = some (.int x) := by
  obtain ⟨j, rfl⟩ : ∃ j : Nat, i = (j : Int) := ⟨i.toNat, by omega⟩
  have hj : j < ns.length := by omega
  exact ⟨ns[j], L2.atI_nat (by simp [hj])⟩
theorem scr_ix {ns : List Int} {i : Int} (h0 : 0 ≤ i) (h1 : i < ns.length) : ∃ x, dIx (scr ns) (.int i) = some (.int x) := by
  show ∃ x, L2.atI (ns.map PyData.int) i = some (.int x)
  exact atI_map h0 h1
theorem natAbs_emod_lt {a b : Int} (hb : 0 < b) : (a % b).natAbs < b.natAbs := by
  have h1 := Int.emod_lt_of_pos a hb
  have h2 := Int.emod_nonneg a (by omega : b ≠ 0)
  omega
theorem mixed_ok (ns : List Int) (k : Int) : ∃ v, 0 ≤ v ∧ den__law_mixed [scr ns, .int k] = some (.int v) := by
  -- behind the choice of the cell
  have tail : ∀ (cell : Int) (L : List Nat), ∃ v, 0 ≤ v ∧ (sSeq (sSet 3 0 (eOp dMod (eCB (d1 dInt) (aCons (eOp dAdd (eOp dAdd (eOp dMul (eVar 2) (eC (.int 48271))) (eOp dMul (eVar 1) (eC (.int 69621)))) (eC (.int 8191))) aNil)) (eC (.int 2147483647))) ([] ++ []))
      (sSeq (sSet 4 0 (eOp dMod (eCB (d1 dInt) (aCons (eOp dAdd (eOp dAdd (eOp dMul (eVar 3) (eVar 3)) (eOp dFdiv (eVar 3) (eC (.int 7)))) (eOp dMul (eVar 1) (eC (.int 16807)))) aNil)) (eC (.int 2147483629))) ([] ++ []))
      (sSeq (sSet 5 0 (eOp dMod (eCB (d1 dInt) (aCons (eOp dAdd (eOp dAdd (eOp dMul (eVar 4) (eVar 4)) (eOp dFdiv (eVar 4) (eC (.int 11)))) (eC (.int 40692))) aNil)) (eC (.int 2147483563))) ([] ++ []))
      (sRet (eOp dMod (eOp dFdiv (eVar 5) (eC (.int 5))) (eC (.int 1000003))))))) ([some (scr ns), some (.int k), some (.int cell), none, none, none], L) = .ret (.int v) := by
    intro cell L
    generalize hf : (cell * 48271 + k * 69621 + 8191) % 2147483647 = first
    have f1 : first.natAbs < 18446744073709551616 := by
      have := natAbs_emod_lt (a := cell * 48271 + k * 69621 + 8191) (b := 2147483647) (by omega)
      rw [hf] at this
      omega
    generalize hs : (first * first + first / 7 + k * 16807) % 2147483629 = second
    have s1 : second.natAbs < 18446744073709551616 := by
      have := natAbs_emod_lt (a := first * first + first / 7 + k * 16807) (b := 2147483629) (by omega)
      rw [hs] at this
      omega
    have k1 : ∀ i : Int, mulOk i 48271 = true := fun i => mulOk_r (by decide)
    have k2 : ∀ i : Int, mulOk i 69621 = true := fun i => mulOk_r (by decide)
    have k3 : ∀ i : Int, mulOk i 16807 = true := fun i => mulOk_r (by decide)
    have d7 : fdivOk 7 = true := by decide
    have d11 : fdivOk 11 = true := by decide
    have d5 : fdivOk 5 = true := by decide
    rw [sSeq_next (s' := ([some (scr ns), some (.int k), some (.int cell), some (.int first), none, none], L.set 3 0)) (by
      rw [sSet_next (d := .int first) (by simp [dMul_i (k1 _), dMul_i (k2 _), dMod, hf])]
      simp [flat])]
    rw [sSeq_next (s' := ([some (scr ns), some (.int k), some (.int cell), some (.int first), some (.int second), none], (L.set 3 0).set 4 0)) (by
      rw [sSet_next (d := .int second) (by simp [dMul_i (mulOk_l f1), dMul_i (k3 _), dFdiv_i d7, dMod, hs])]
      simp [flat])]
    rw [sSeq_next (s' := ([some (scr ns), some (.int k), some (.int cell), some (.int first), some (.int second), some (.int ((second * second + second / 11 + 40692) % 2147483563))], ((L.set 3 0).set 4 0).set 5 0)) (by
      rw [sSet_next (d := .int ((second * second + second / 11 + 40692) % 2147483563)) (by simp [dMul_i (mulOk_l s1), dFdiv_i d11, dMod])]
      simp [flat])]
    refine ⟨(second * second + second / 11 + 40692) % 2147483563 / 5 % 1000003, Int.emod_nonneg _ (by decide), ?_⟩
    simp [dFdiv_i d5, dMod]
  unfold den__law_mixed dfun
  simp only [List.length_cons, List.length_nil, Nat.zero_add, Nat.reduceAdd, if_true, List.map_cons, List.map_nil]
  rw [sSeq_next (s' := ([some (scr ns), some (.int k), some (.int 0), none, none, none], [0, 0, 0, 0, 0, 0])) (by simp [sSet, flat])]
  by_cases h : ns = []
  · rw [sSeq_next (s' := ([some (scr ns), some (.int k), some (.int 0), none, none, none], [0, 0, 0, 0, 0, 0])) (by
      rw [sIf_f (by simp [scr_len, h])]
      rfl)]
    obtain ⟨v, h0, e⟩ := tail 0 [0, 0, 0, 0, 0, 0]
    exact ⟨v, h0, by rw [e]⟩
  · have hl : (0 : Int) < ns.length := by
      have := List.length_pos_iff.mpr h
      omega
    obtain ⟨x, hx⟩ := scr_ix (ns := ns) (i := k % (ns.length : Int)) (Int.emod_nonneg _ (by omega)) (Int.emod_lt_of_pos _ hl)
    rw [sSeq_next (s' := ([some (scr ns), some (.int k), some (.int x), none, none, none], [0, 0, 0, 0, 0, 0])) (by
      rw [sIf_t (by simp [scr_len]; omega)]
      rw [sSet_next (d := .int x) (by simp [scr_len, dMod_i hl, hx])]
      simp [flat])]
    obtain ⟨v, h0, e⟩ := tail x [0, 0, 0, 0, 0, 0]
    exact ⟨v, h0, by rw [e]⟩
end Lib
end

section
set_option Elab.async false
set_option linter.all false
set_option maxRecDepth 10000
/-! Loops with a claim that each round keeps; comprehensions; the row that a script gives. -/
namespace Lib
open DS PySem
theorem for_inv {t : Tg} {body : FS} (P : Nat → S → Prop) : ∀ (ds : List D) (k0 : Nat) (s : S), P k0 s →
    (∀ k d s, ds[k]? = some d → P (k0 + k) s → ∃ l s', t.go d = some l ∧ body (setsD s.1 l, zeros s.2 l) = .next s' ∧ P (k0 + k + 1) s') →
    ∃ s', forGo t body ds s = .next s' ∧ P (k0 + ds.length) s'
  | [], k0, s, h, _ => ⟨s, rfl, h⟩
  | d :: ds, k0, s, h, st => by
    obtain ⟨l, s', e1, e2, h'⟩ := st 0 d s rfl h
    obtain ⟨s2, e3, h2⟩ := for_inv P ds (k0 + 1) s' h' (fun k d' s'' hd hp => by
      have := st (k + 1) d' s'' (by simpa using hd)
      have a1 : k0 + (k + 1) = k0 + 1 + k := by omega
      rw [a1] at this
      exact this hp)
    refine ⟨s2, ?_, ?_⟩
    · unfold forGo
      rw [e1]
      show (match body (setsD s.1 l, zeros s.2 l) with
        | .next s' => forGo t body ds s'
        | .cont s' => forGo t body ds s'
        | .brk s' => .next s'
        | .ret d => .ret d
        | .stuck => .stuck) = _
      rw [e2]
      exact e3
    · have a1 : k0 + (d :: ds).length = k0 + 1 + ds.length := by simp; omega
      rw [a1]; exact h2
/-- a loop over i, i + 1, … -/
theorem rng_get {lo : Int} {n k : Nat} {d : D} (h : (rngD lo n)[k]? = some d) : k < n ∧ d = .int (lo + k) := by
  have hk : k < n := by
    have := (List.getElem?_eq_some_iff.mp h).1
    simpa [rngD] using this
  refine ⟨hk, ?_⟩
  unfold rngD at h
  rw [List.getElem?_map, List.getElem?_range hk] at h
  exact (Option.some.inj h).symm
theorem rng_len {lo : Int} {n : Nat} : (rngD lo n).length = n := by simp [rngD]
theorem for_rng {i : Nat} {body : FS} {n : Nat} {lo : Int} (P : Nat → S → Prop) (s : S) (h0 : P 0 s)
    (st : ∀ (k : Nat) (s : S), k < n → P k s → ∃ s', body (s.1.set i (some (.int (lo + k))), s.2.set i 0) = .next s' ∧ P (k + 1) s') :
    ∃ s', forGo (.nm i) body (rngD lo n) s = .next s' ∧ P n s' := by
  obtain ⟨s', e, h⟩ := for_inv (t := .nm i) (body := body) P (rngD lo n) 0 s h0 (fun k d s hd hp => by
    obtain ⟨hk, rfl⟩ := rng_get hd
    rw [Nat.zero_add] at hp ⊢
    obtain ⟨s', e, h'⟩ := st k s hk hp
    exact ⟨[(i, .int (lo + k))], s', by simp [Tg.go], e, h'⟩)
  rw [Nat.zero_add, rng_len] at h
  exact ⟨s', e, h⟩
theorem range1_ok {f : FE} {ρ : PEnv} {n : Nat} (h : f ρ = some (.int n)) (hn : n < 4611686018427387904) : iRange1 f ρ = some (rngD 0 n) := by
  unfold iRange1
  rw [h, o1_s]
  have : rngOk 0 (n : Int) = true := by
    unfold rngOk
    simp only [Bool.and_eq_true, decide_eq_true_eq]
    omega
  show (if rngOk 0 (n : Int) = true then some (rngD 0 (n : Int).toNat) else none) = _
  rw [if_pos this]
  rfl
theorem range2_ok {f g : FE} {ρ : PEnv} {i j : Int} (h : f ρ = some (.int i)) (h' : g ρ = some (.int j)) (b1 : -4611686018427387904 ≤ i) (b2 : i < 4611686018427387904) (b3 : -4611686018427387904 ≤ j) (b4 : j < 4611686018427387904) : iRange2 f g ρ = some (rngD i (j - i).toNat) := by
  unfold iRange2
  rw [h, h', o2_ss]
  have : rngOk i j = true := by
    unfold rngOk
    simp only [Bool.and_eq_true, decide_eq_true_eq]
    omega
  show (if rngOk i j = true then some (rngD i (j - i).toNat) else none) = _
  rw [if_pos this]
theorem sFor_go {fi : FA} {c : Esc} {t : Tg} {body : FS} {s : S} {ds : List D} (h : fi s.1 = some ds) : sFor fi c t body s = forGo t body ds (s.1, demote c s.2) := by
  unfold sFor; rw [h]
/-! comprehensions -/
theorem lc_map {t : Tg} {fe : FE} {ρ : PEnv} {g : D → D} : ∀ {ds : List D}, (∀ d ∈ ds, ∃ l, t.go d = some l ∧ fe (setsD ρ l) = some (g d)) → lcGo t tTrue fe ρ ds = some (ds.map g)
  | [], _ => rfl
  | d :: ds, h => by
    obtain ⟨l, e1, e2⟩ := h d (.head _)
    have ih := lc_map (ds := ds) fun d' hd => h d' (.tail _ hd)
    unfold lcGo
    rw [e1]
    simp only [tTrue_a, e2, ih, List.map_cons]
theorem eLc_map {fi : FA} {t : Tg} {fe : FE} {vs : List Nat} {ρ : PEnv} {g : D → D} {ds : List D} (h : fi ρ = some ds) (hl : ds.length ≤ 16777216) (hg : ∀ d ∈ ds, ∃ l, t.go d = some l ∧ fe (setsD (wipeD ρ vs) l) = some (g d)) :
    eLc fi t tTrue fe vs ρ = some (.list (ds.map g)) := by
  unfold eLc
  rw [h, o1_s]
  have : ds.length ≤ sz := hl
  rw [if_pos this, lc_map hg, o1_s]
/-- over i = 0, 1, … -/
theorem lc_rng {i : Nat} {fe : FE} {ρ : PEnv} {n : Nat} {lo : Int} {g : Nat → D} (h : ∀ k : Nat, k < n → fe (ρ.set i (some (.int (lo + k)))) = some (g k)) : lcGo (.nm i) tTrue fe ρ (rngD lo n) = some ((List.range n).map g) := by
  unfold rngD
  have go : ∀ (l : List Nat), (∀ k ∈ l, k < n) → lcGo (.nm i) tTrue fe ρ (l.map fun (k : Nat) => .int (lo + (k : Int))) = some (l.map g) := by
    intro l hl
    induction l with
    | nil => rfl
    | cons k l ih =>
      have e := h k (hl k (.head _))
      have ih' := ih fun k' hk => hl k' (.tail _ hk)
      unfold lcGo
      simp only [List.map_cons, Tg.go, tTrue_a]
      show (match fe (ρ.set i (some (.int (lo + k)))) with
        | none => none
        | some y => match lcGo (.nm i) tTrue fe ρ (l.map fun (k : Nat) => .int (lo + (k : Int))) with
          | none => none
          | some ys => some (y :: ys)) = _
      rw [e, ih']
  exact go (List.range n) fun k hk => List.mem_range.mp hk
theorem eLc_rng {f : FE} {i : Nat} {fe : FE} {vs : List Nat} {ρ : PEnv} {n : Nat} {g : Nat → D} (hf : f ρ = some (.int n)) (hn : n ≤ 16777216) (h : ∀ k : Nat, k < n → fe ((wipeD ρ vs).set i (some (.int k))) = some (g k)) :
    eLc (iRange1 f) (.nm i) tTrue fe vs ρ = some (.list ((List.range n).map g)) := by
  unfold eLc
  rw [range1_ok hf (by omega), o1_s]
  have : (rngD 0 n).length ≤ sz := by rw [rng_len]; exact hn
  rw [if_pos this, lc_rng (g := g) (fun k hk => by rw [Int.zero_add]; exact h k hk), o1_s]
/-! the row -/
def Nats (ds : List D) : Prop := ∀ d ∈ ds, ∃ v : Int, 0 ≤ v ∧ d = .int v
theorem Nats.snoc {ds : List D} {v : Int} (h : Nats ds) (hv : 0 ≤ v) : Nats (ds ++ [.int v]) := fun d hd => by
  rcases List.mem_append.mp hd with h1 | h1
  · exact h d h1
  · simp at h1; exact ⟨v, hv, h1⟩
theorem sApp_flat {i : Nat} {f : FE} {c : Esc} {ρ : PEnv} {L : List Nat} {d : D} {ds : List D} (h : f ρ = some d) (hd : flat d = true) (hi : eVar i ρ = some (.list ds)) (hl : ds.length < 16777216) (hL : lv L i = 1) : sApp i f c (ρ, L) = .next (ρ.set i (some (.list (ds ++ [d]))), L) := by
  unfold sApp
  simp only [h, hi]
  have : ds.length < sz := hl
  rw [if_pos this, if_pos hd, if_pos hL]
theorem sApp_deep {i : Nat} {f : FE} {c : Esc} {ρ : PEnv} {L : List Nat} {d : D} {ds : List D} (h : f ρ = some d) (hd : flat d = false) (hi : eVar i ρ = some (.list ds)) (hl : ds.length < 16777216) (hL : lv (demote c L) i = 1) : sApp i f c (ρ, L) = .next (ρ.set i (some (.list (ds ++ [d]))), demote c L) := by
  unfold sApp
  simp only [h, hi]
  have : ds.length < sz := hl
  rw [if_pos this, if_neg (by simp [hd]), if_pos hL]
theorem row_ok (ns : List Int) (many : Nat) (hm : many ≤ 1000000) : ∃ ds, ds.length = many ∧ Nats ds ∧ den__law_row [scr ns, .int many] = some (.list ds) := by
  have head : ∃ (big : Int) , (sIf (tAndD (tCmp dGt (eCB (d1 dLen) (aCons (eVar 0) aNil)) (eC (.int 0))) (tCmp dGe (eIx (eVar 0) (eC (.int 0))) (eOp dPow (eC (.int 10)) (eC (.int 18)))))
      (sSet 2 0 (eIx (eVar 0) (eC (.int 0))) [(0, 1)]) sNil) ([some (scr ns), some (.int many), some (.int 0), none, none], [0, 0, 0, 0, 0]) = .next ([some (scr ns), some (.int many), some (.int big), none, none], [0, 0, 0, 0, 0]) := by
    by_cases h : ns = []
    · exact ⟨0, by rw [sIf_f (by simp [tAndD, scr_len, h])]; rfl⟩
    · have hl : (0 : Int) < ns.length := by
        have := List.length_pos_iff.mpr h
        omega
      obtain ⟨x, hx⟩ := scr_ix (ns := ns) (i := 0) (by omega) hl
      have hl' : 0 < ns.length := by omega
      have hp : dPow (.int 10) (.int 18) = some (.int 1000000000000000000) := by
        show (if powOk 10 18 = true then some (PyData.int ((10 : Int) ^ (18 : Int).toNat)) else none) = _
        rw [if_pos (by decide)]
        rfl
      by_cases hb : 1000000000000000000 ≤ x
      · refine ⟨x, ?_⟩
        rw [sIf_t (by simp [tAndD, scr_len, hx, hp, hb, hl'])]
        rw [sSet_next (d := .int x) (by simp [hx])]
        simp [flat]
      · refine ⟨0, ?_⟩
        rw [sIf_f (by simp [tAndD, scr_len, hx, hp, hb, hl'])]
        rfl
  obtain ⟨big, hbig⟩ := head
  unfold den__law_row dfun
  simp only [List.length_cons, List.length_nil, Nat.zero_add, Nat.reduceAdd, if_true, List.map_cons, List.map_nil]
  rw [sSeq_next (s' := ([some (scr ns), some (.int many), some (.int 0), none, none], [0, 0, 0, 0, 0])) (by simp [sSet, flat])]
  rw [sSeq_next hbig]
  rw [sSeq_next (s' := ([some (scr ns), some (.int many), some (.int big), some (.list []), none], [0, 0, 0, 1, 0])) (by simp [sSet, flat, eLst, sz, demote])]
  have loop := for_rng (i := 4) (n := many) (lo := 0) (body := sIf (tCmp dGt (eVar 2) (eC (.int 0)))
    (sSeq (sApp 3 (eOp dMod (eCB (d1 dInt) (aCons (eVar 2) aNil)) (eC (.int 1000))) ([] ++ []))
    (sSet 2 0 (eOp dFdiv (eVar 2) (eC (.int 1000))) ([(2, 1)] ++ [])))
    (sApp 3 (eCall 2 den__law_mixed (aCons (eVar 0) (aCons (eVar 4) aNil))) ([(0, 0)] ++ ([(4, 0)] ++ []))))
    (fun k s => ∃ (big : Int) (ds : List D) (x : Option D), s = ([some (scr ns), some (.int many), some (.int big), some (.list ds), x], [0, 0, 0, 1, 0]) ∧ ds.length = k ∧ Nats ds)
    ([some (scr ns), some (.int many), some (.int big), some (.list []), none], [0, 0, 0, 1, 0]) ⟨big, [], none, rfl, rfl, fun d hd => by simp at hd⟩
    (by
      rintro k _ hk ⟨big, ds, x, rfl, hl, hn⟩
      by_cases hb : 0 < big
      · refine ⟨_, ?_, big / 1000, ds ++ [.int (big % 1000)], some (.int (0 + k)), rfl, by simp [hl], hn.snoc (Int.emod_nonneg _ (by decide))⟩
        rw [sIf_t (by simp [hb])]
        rw [sSeq_next (sApp_flat (d := .int (big % 1000)) (ds := ds) (by simp [dMod]) (by rfl) (by simp) (by omega) (by rfl))]
        rw [sSet_next (d := .int (big / 1000)) (by simp [dFdiv_i (j := 1000) (by decide)])]
        simp [flat]
      · obtain ⟨v, hv, e⟩ := mixed_ok ns (0 + k)
        refine ⟨_, ?_, big, ds ++ [.int v], some (.int (0 + k)), rfl, by simp [hl], hn.snoc hv⟩
        rw [sIf_f (by simp [hb])]
        rw [sApp_flat (d := .int v) (ds := ds) (by simpa [eCall] using e) (by rfl) (by simp) (by omega) (by rfl)]
        rfl)
  obtain ⟨s', e, big', ds, x, rfl, hl, hn⟩ := loop
  rw [sSeq_next (s' := ([some (scr ns), some (.int many), some (.int big'), some (.list ds), x], [0, 0, 0, 1, 0])) (by
    rw [sFor_go (range1_ok (n := many) (by simp) (by omega))]
    exact e)]
  exact ⟨ds, hl, hn, by simp⟩
theorem map_ix {n j : Nat} {g : Nat → D} (h : j < n) : dIx (.list ((List.range n).map g)) (.int j) = some (g j) := by
  show L2.atI ((List.range n).map g) (j : Int) = some (g j)
  exact L2.atI_nat (by simp [h])
/-- the row as numbers r 0, r 1, … -/
theorem row_fn (ns : List Int) (many : Nat) (hm : many ≤ 1000000) : ∃ r : Nat → Int, (∀ k, 0 ≤ r k) ∧ den__law_row [scr ns, .int many] = some (.list ((List.range many).map fun k => .int (r k))) := by
  obtain ⟨ds, hl, hn, e⟩ := row_ok ns many hm
  have h : ∀ k : Nat, ∃ v : Int, 0 ≤ v ∧ (k < ds.length → ds[k]? = some (.int v)) := fun k => by
    by_cases hk : k < ds.length
    · obtain ⟨v, h0, h1⟩ := hn ds[k] (List.getElem_mem hk)
      exact ⟨v, h0, fun _ => by rw [List.getElem?_eq_getElem hk, h1]⟩
    · exact ⟨0, Int.le_refl _, fun h => absurd h hk⟩
  refine ⟨fun k => (h k).choose, fun k => (h k).choose_spec.1, ?_⟩
  rw [e]
  congr 2
  refine List.ext_getElem? fun k => ?_
  by_cases hk : k < many
  · rw [(h k).choose_spec.2 (by omega)]
    simp [hk]
  · rw [List.getElem?_eq_none (by omega), List.getElem?_eq_none (by simp; omega)]
end Lib
end

section
set_option Elab.async false
set_option linter.all false
set_option maxRecDepth 10000
/-! The law's comparison of a tree with itself; its ratios and powers. -/
namespace Lib
open DS PySem
@[simp] theorem ty_bool_bool (b : Bool) : isTy (.bool b) "bool" = some true := by
  show L2.kitB "bool" "bool" = _
  decide +kernel
@[simp] theorem ty_bool_int (b : Bool) : isTy (.bool b) "int" = some true := by
  show L2.kitB "bool" "int" = _
  decide +kernel
@[simp] theorem ty_bool_str (b : Bool) : isTy (.bool b) "str" = some false := by
  show L2.kitB "bool" "str" = _
  decide +kernel
@[simp] theorem ty_bool_list (b : Bool) : isTy (.bool b) "list" = some false := by
  show L2.kitB "bool" "list" = _
  decide +kernel
@[simp] theorem ty_bool_tuple (b : Bool) : isTy (.bool b) "tuple" = some false := by
  show L2.kitB "bool" "tuple" = _
  decide +kernel
@[simp] theorem ty_int_bool (i : Int) : isTy (.int i) "bool" = some false := by
  show L2.kitB "int" "bool" = _
  decide +kernel
@[simp] theorem ty_int_int (i : Int) : isTy (.int i) "int" = some true := by
  show L2.kitB "int" "int" = _
  decide +kernel
@[simp] theorem ty_int_str (i : Int) : isTy (.int i) "str" = some false := by
  show L2.kitB "int" "str" = _
  decide +kernel
@[simp] theorem ty_int_list (i : Int) : isTy (.int i) "list" = some false := by
  show L2.kitB "int" "list" = _
  decide +kernel
@[simp] theorem ty_int_tuple (i : Int) : isTy (.int i) "tuple" = some false := by
  show L2.kitB "int" "tuple" = _
  decide +kernel
@[simp] theorem ty_str_bool (s : Str) : isTy (.str s) "bool" = some false := by
  show L2.kitB "str" "bool" = _
  decide +kernel
@[simp] theorem ty_str_int (s : Str) : isTy (.str s) "int" = some false := by
  show L2.kitB "str" "int" = _
  decide +kernel
@[simp] theorem ty_str_str (s : Str) : isTy (.str s) "str" = some true := by
  show L2.kitB "str" "str" = _
  decide +kernel
@[simp] theorem ty_str_list (s : Str) : isTy (.str s) "list" = some false := by
  show L2.kitB "str" "list" = _
  decide +kernel
@[simp] theorem ty_str_tuple (s : Str) : isTy (.str s) "tuple" = some false := by
  show L2.kitB "str" "tuple" = _
  decide +kernel
@[simp] theorem ty_list_bool (l : List D) : isTy (.list l) "bool" = some false := by
  show L2.kitB "list" "bool" = _
  decide +kernel
@[simp] theorem ty_list_int (l : List D) : isTy (.list l) "int" = some false := by
  show L2.kitB "list" "int" = _
  decide +kernel
@[simp] theorem ty_list_str (l : List D) : isTy (.list l) "str" = some false := by
  show L2.kitB "list" "str" = _
  decide +kernel
@[simp] theorem ty_list_list (l : List D) : isTy (.list l) "list" = some true := by
  show L2.kitB "list" "list" = _
  decide +kernel
@[simp] theorem ty_list_tuple (l : List D) : isTy (.list l) "tuple" = some false := by
  show L2.kitB "list" "tuple" = _
  decide +kernel
@[simp] theorem ty_tuple_bool (l : List D) : isTy (.tuple l) "bool" = some false := by
  show L2.kitB "tuple" "bool" = _
  decide +kernel
@[simp] theorem ty_tuple_int (l : List D) : isTy (.tuple l) "int" = some false := by
  show L2.kitB "tuple" "int" = _
  decide +kernel
@[simp] theorem ty_tuple_str (l : List D) : isTy (.tuple l) "str" = some false := by
  show L2.kitB "tuple" "str" = _
  decide +kernel
@[simp] theorem ty_tuple_list (l : List D) : isTy (.tuple l) "list" = some false := by
  show L2.kitB "tuple" "list" = _
  decide +kernel
@[simp] theorem ty_tuple_tuple (l : List D) : isTy (.tuple l) "tuple" = some true := by
  show L2.kitB "tuple" "tuple" = _
  decide +kernel
@[simp] theorem ty_NoneType_bool  : isTy (.none) "bool" = some false := by
  show L2.kitB "NoneType" "bool" = _
  decide +kernel
@[simp] theorem ty_NoneType_int  : isTy (.none) "int" = some false := by
  show L2.kitB "NoneType" "int" = _
  decide +kernel
@[simp] theorem ty_NoneType_str  : isTy (.none) "str" = some false := by
  show L2.kitB "NoneType" "str" = _
  decide +kernel
@[simp] theorem ty_NoneType_list  : isTy (.none) "list" = some false := by
  show L2.kitB "NoneType" "list" = _
  decide +kernel
@[simp] theorem ty_NoneType_tuple  : isTy (.none) "tuple" = some false := by
  show L2.kitB "NoneType" "tuple" = _
  decide +kernel
/-- a tree that the law's comparison knows, less than n deep -/
def pl : Nat → D → Bool
  | 0, _ => false
  | _ + 1, .none => true
  | _ + 1, .bool _ => true
  | _ + 1, .int _ => true
  | _ + 1, .str s => SeqAt.shaped (.str s)
  | n + 1, .tuple ds => decide (ds.length ≤ 1000000) && ds.all (pl n)
  | _ + 1, _ => false
theorem is_int_ok (i : Int) : den__law_is_int [.int i] = some (.bool true) := by
  simp [den__law_is_int, dfun, eAndD]
theorem dEq_str (s : Str) (h : SeqAt.shaped (.str s) = true) : dEq (.str s) (.str s) = some true := by
  unfold dEq
  rw [if_pos (by simp [h])]
  simp [PyData.eqv]
theorem all_true {α : Type} (l : List α) : dAll (.list (l.map fun _ => .bool true)) = some (.bool true) := by
  have : ∀ l : List α, bools (l.map fun _ => PyData.bool true) = some (l.map fun _ => true) := by
    intro l
    induction l with
    | nil => rfl
    | cons a l ih => simp [bools, ih]
  simp [dAll, this]
theorem like_eq (n : Nat) : den__law_like (n + 1) = dfun 3 2 (sSeq (sIf (tIsND (eVar 1))
  (sRet (eIsN (eVar 0)))
  sNil)
  (sSeq (sIf (tTru (eIsi "bool" (eVar 1)))
  (sRet (eAndD (eIsi "bool" (eVar 0)) (eB (tCmp dEq (eVar 0) (eVar 1)))))
  sNil)
  (sSeq (sIf (tTru (eIsi "tuple" (eVar 1)))
  (sSeq (sIf (tOrD (tNotD (tTru (eIsi "tuple" (eVar 0)))) (tCmp dNe (eCB (d1 dLen) (aCons (eVar 0) aNil)) (eCB (d1 dLen) (aCons (eVar 1) aNil))))
  (sRet (eC (.bool false)))
  sNil)
  (sRet (eCB (d1 dAll) (aCons (eLc (iRange1 (eCB (d1 dLen) (aCons (eVar 1) aNil))) (.nm 2) tTrue (eCall 2 (den__law_like n) (aCons (eIx (eVar 0) (eVar 2)) (aCons (eIx (eVar 1) (eVar 2)) aNil))) [2]) aNil))))
  sNil)
  (sSeq (sIf (tTru (eIsi "str" (eVar 1)))
  (sRet (eAndD (eIsi "str" (eVar 0)) (eB (tCmp dEq (eVar 0) (eVar 1)))))
  sNil)
  (sRet (eAndD (eCall 1 den__law_is_int (aCons (eVar 0) aNil)) (eB (tCmp dEq (eVar 0) (eVar 1)))))))) ) := by rw [den__law_like]
theorem like_a2 (n) (ds : List D) (hc : eLc (iRange1 (eCB (d1 dLen) (aCons (eVar 1) aNil))) (.nm 2) tTrue (eCall 2 (den__law_like n) (aCons (eIx (eVar 0) (eVar 2)) (aCons (eIx (eVar 1) (eVar 2)) aNil))) [2] [some (.tuple ds), some (.tuple ds), none] = some (.list ((List.range ds.length).map fun _ => .bool true))) : (eCB (d1 dAll) (aCons (eLc (iRange1 (eCB (d1 dLen) (aCons (eVar 1) aNil))) (.nm 2) tTrue (eCall 2 (den__law_like n) (aCons (eIx (eVar 0) (eVar 2)) (aCons (eIx (eVar 1) (eVar 2)) aNil))) [2]) aNil)) [some (.tuple ds), some (.tuple ds), none] = some (.bool true) := by
  have ha := all_true (List.range ds.length)
  simp [hc, ha]
theorem like_a3 (ds : List D) : tOrD (tNotD (tTru (eIsi "tuple" (eVar 0)))) (tCmp dNe (eCB (d1 dLen) (aCons (eVar 0) aNil)) (eCB (d1 dLen) (aCons (eVar 1) aNil))) [some (.tuple ds), some (.tuple ds), none] = some false := by
  simp [tOrD]
theorem like_a4 (ds : List D) : (sIf (tTru (eIsi "bool" (eVar 1))) (sRet (eAndD (eIsi "bool" (eVar 0)) (eB (tCmp dEq (eVar 0) (eVar 1))))) sNil) ([some (.tuple ds), some (.tuple ds), none], [0, 0, 0]) = .next ([some (.tuple ds), some (.tuple ds), none], [0, 0, 0]) := by
  rw [sIf_f (by simp)]
  rfl
theorem like_a5 (n) (ds : List D) (hc : eLc (iRange1 (eCB (d1 dLen) (aCons (eVar 1) aNil))) (.nm 2) tTrue (eCall 2 (den__law_like n) (aCons (eIx (eVar 0) (eVar 2)) (aCons (eIx (eVar 1) (eVar 2)) aNil))) [2] [some (.tuple ds), some (.tuple ds), none] = some (.list ((List.range ds.length).map fun _ => .bool true))) : sRet (eCB (d1 dAll) (aCons (eLc (iRange1 (eCB (d1 dLen) (aCons (eVar 1) aNil))) (.nm 2) tTrue (eCall 2 (den__law_like n) (aCons (eIx (eVar 0) (eVar 2)) (aCons (eIx (eVar 1) (eVar 2)) aNil))) [2]) aNil)) ([some (.tuple ds), some (.tuple ds), none], [0, 0, 0]) = .ret (.bool true) := sRet_ok (like_a2 n ds hc)
theorem like_a6 (ds : List D) : (sIf (tOrD (tNotD (tTru (eIsi "tuple" (eVar 0)))) (tCmp dNe (eCB (d1 dLen) (aCons (eVar 0) aNil)) (eCB (d1 dLen) (aCons (eVar 1) aNil))))
  (sRet (eC (.bool false)))
  sNil) ([some (.tuple ds), some (.tuple ds), none], [0, 0, 0]) = .next ([some (.tuple ds), some (.tuple ds), none], [0, 0, 0]) := by
  rw [sIf_f (s := ([some (.tuple ds), some (.tuple ds), none], [0, 0, 0])) (like_a3 ds)]
  rfl
theorem like_tup {n : Nat} (ih : ∀ d, pl n d = true → den__law_like n [d, d] = some (.bool true)) {ds : List D} (h : pl (n + 1) (.tuple ds) = true) : den__law_like (n + 1) [.tuple ds, .tuple ds] = some (.bool true) := by
  simp only [pl, Bool.and_eq_true, decide_eq_true_eq, List.all_eq_true] at h
  have hc : eLc (iRange1 (eCB (d1 dLen) (aCons (eVar 1) aNil))) (.nm 2) tTrue (eCall 2 (den__law_like n) (aCons (eIx (eVar 0) (eVar 2)) (aCons (eIx (eVar 1) (eVar 2)) aNil))) [2] [some (.tuple ds), some (.tuple ds), none] = some (.list ((List.range ds.length).map fun _ => .bool true)) := by
    refine eLc_rng (n := ds.length) (by simp) (by omega) fun k hk => ?_
    have e : L2.atI ds (k : Int) = some ds[k] := L2.atI_nat (by simp [hk])
    have e' : dIx (.tuple ds) (.int k) = some ds[k] := e
    simp [wipeD, eCall, e', ih ds[k] (h.2 _ (List.getElem_mem hk))]
  rw [like_eq]
  unfold dfun
  simp only [List.length_cons, List.length_nil, Nat.zero_add, Nat.reduceAdd, if_true, List.map_cons, List.map_nil]
  rw [sSeq_next (s' := ([some (.tuple ds), some (.tuple ds), none], [0, 0, 0])) (by
    rw [sIf_f (by simp)]
    rfl)]
  rw [sSeq_next (like_a4 ds)]
  rw [sSeq_ret (d := .bool true) (by
    rw [sIf_t (by simp)]
    rw [sSeq_next (s' := ([some (.tuple ds), some (.tuple ds), none], [0, 0, 0])) (like_a6 ds)]
    exact like_a5 n ds hc)]
theorem like_ok (n : Nat) : ∀ (d : D), pl n d = true → den__law_like n [d, d] = some (.bool true) := by
  induction n with
  | zero => intro d h; cases h
  | succ n ih =>
    intro d h
    cases d with
    | none => simp [den__law_like, dfun, sSeq, sIf]
    | bool b => cases b <;> simp [den__law_like, dfun, sSeq, sIf, eAndD] <;> rfl
    | int i => simp [den__law_like, dfun, sSeq, sIf, eAndD, eCall, is_int_ok]
    | str s => simp [den__law_like, dfun, sSeq, sIf, eAndD, dEq_str s h]
    | tuple ds => exact like_tup ih h
    | list ds => cases h
    | dict ds => cases h
theorem pl_rt (n : Nat) (q : Rat) : pl (n + 2) (rt q) = true := rfl
/-! the law's ratio -/
theorem lgcd_go : ∀ (k n : Nat) (a b : Int) (L : List Nat), 0 ≤ a → 0 ≤ b → b < 2 ^ k → 2 * k + 1 ≤ n → ∃ L', whGo (tCmp dGt (eVar 1) (eC (.int 0))) (sPar 0 1 (eVar 1) (eOp dMod (eCB (d1 dInt) (aCons (eVar 0) aNil)) (eVar 1)) ([(1, 0)] ++ ([] ++ [(1, 1)]))) n ([some (.int a), some (.int b)], L) = .next ([some (.int (Int.gcd a b)), some (.int 0)], L') := by
  have same : ∀ (n : Nat) (a b : Int) (L : List Nat), whGo (tCmp dGt (eVar 1) (eC (.int 0))) (sPar 0 1 (eVar 1) (eOp dMod (eCB (d1 dInt) (aCons (eVar 0) aNil)) (eVar 1)) ([(1, 0)] ++ ([] ++ [(1, 1)]))) n ([some (.int a), some (.int b)], L) = whGo (tCmp dGt (eVar 1) (eC (.int 0))) (sPar 0 1 (eVar 1) (eOp dMod (eVar 0) (eVar 1)) ([(1, 0)] ++ ([(0, 1)] ++ [(1, 1)]))) n ([some (.int a), some (.int b)], L) := by
    intro n
    induction n with
    | zero => intros; rfl
    | succ n ih =>
      intro a b L
      by_cases hb : 0 < b
      · rw [whGo, whGo]
        simp only [List.append_nil, List.nil_append, List.cons_append] at ih ⊢
        simp [hb, sPar, dMod_i hb, flat, ih]
      · rw [whGo, whGo]
        simp [hb]
  intro k n a b L h0 h1 h2 h3
  rw [same]
  exact gcd_go k n a b L h0 h1 h2 h3
theorem common_ok {a b : Int} {k : Nat} (hb : b.natAbs < 2 ^ k) (hk : k ≤ 40000) : den__law_common [.int a, .int b] = some (.int (Int.gcd a b)) := by
  have habs : ∀ x : Int, (if x < 0 then -x else x) = (x.natAbs : Int) := fun x => by split <;> omega
  unfold den__law_common dfun
  simp only [List.length_cons, List.length_nil, Nat.zero_add, Nat.reduceAdd, if_true, List.map_cons, List.map_nil]
  rw [sSeq_next (s' := ([some (.int a.natAbs), some (.int b.natAbs)], [0, 0])) (by simp [sPar, dAbs, flat, habs])]
  obtain ⟨L, e⟩ := lgcd_go k 100000 a.natAbs b.natAbs [0, 0] (by omega) (by omega) (by
    have := Int.ofNat_lt.mpr hb
    simpa using this) (by omega)
  rw [sSeq_next (s' := ([some (.int (Int.gcd a b)), some (.int 0)], L)) (by
    unfold sWhile
    rw [e]
    simp [Int.gcd_eq_natAbs_gcd_natAbs])]
  simp
theorem ratio_ok {a b : Int} {k : Nat} (hb0 : 0 < b) (hb : b.natAbs < 2 ^ k) (hk : k ≤ 8999) : den__law_ratio [.int a, .int b] = some (rt (Rat.divInt a b)) := by
  have hg : (Int.gcd a b) ≠ 0 := fun h => by
    have := (Int.gcd_eq_zero_iff.mp h).2
    omega
  have hgb : Int.gcd a b ≤ b.natAbs := Nat.le_of_dvd (by omega) (Int.gcd_eq_natAbs_gcd_natAbs a b ▸ Nat.gcd_dvd_right _ _)
  have hnum : (Rat.divInt a b).num = a / (Int.gcd a b : Int) := by rw [Rat.num_divInt, Int.gcd_comm, Int.sign_eq_one_of_pos hb0, Int.one_mul]
  have hden : (Rat.divInt a b).den = b.natAbs / Int.gcd a b := by rw [Rat.den_divInt, if_neg (by omega), Int.gcd_comm]
  have hfd : fdivOk (Int.gcd a b : Int) = true := fdivOk_of (n := k + 1) (by omega) (by
    rw [Nat.pow_succ]
    have e : ((Int.gcd a b : Nat) : Int).natAbs = Int.gcd a b := by omega
    rw [e]; omega) (by omega) (by omega)
  unfold den__law_ratio dfun
  simp only [List.length_cons, List.length_nil, Nat.zero_add, Nat.reduceAdd, if_true, List.map_cons, List.map_nil]
  rw [sSeq_next (s' := ([some (.int a), some (.int b), some (.int (Int.gcd a b))], [0, 0, 0])) (by
    rw [sSet_next (d := .int (Int.gcd a b)) (by simp [eCall, common_ok hb (by omega : k ≤ 40000)])]
    simp [flat])]
  rw [sSeq_next (s' := ([some (.int a), some (.int b), some (.int (Int.gcd a b))], [0, 0, 0])) (by
    rw [sIf_f (by simp; omega)]
    simp)]
  have eb : b / (Int.gcd a b : Int) = ((b.natAbs / Int.gcd a b : Nat) : Int) := by
    rw [Int.natCast_ediv]
    congr 1
    omega
  simp only [sRet_a, eTup, aCons_a, eOp_a, eVar_0, eVar_s, o2_ss, o1_s, dFdiv_i hfd, aNil_a, rt, hnum, hden, eb]
  rfl
theorem power_ok {b : Int} {n : Nat} (hb : b.natAbs < 18446744073709551616) (hn : n ≤ 1000000) : den__law_power [.int b, .int n] = some (.int (b ^ n)) := by
  unfold den__law_power dfun
  simp only [List.length_cons, List.length_nil, Nat.zero_add, Nat.reduceAdd, if_true, List.map_cons, List.map_nil]
  rw [sSeq_next (s' := ([some (.int b), some (.int n), some (.int 1), none], [0, 0, 0, 0])) (by simp [sSet, flat])]
  obtain ⟨s', e, x, L, rfl⟩ := for_rng (i := 3) (n := n) (lo := 0) (body := sSet 2 0 (eOp dMul (eVar 2) (eVar 0)) ([(2, 1)] ++ [(0, 1)]))
    (fun k s => ∃ x L, s = ([some (.int b), some (.int n), some (.int (b ^ k)), x], L)) ([some (.int b), some (.int n), some (.int 1), none], [0, 0, 0, 0]) ⟨none, [0, 0, 0, 0], by rw [Int.pow_zero]⟩
    (by
      rintro k _ hk ⟨x, L, rfl⟩
      refine ⟨_, ?_, some (.int (0 + k)), (L.set 3 0).set 2 0, rfl⟩
      rw [sSet_next (d := .int (b ^ (k + 1))) (by simp [dMul_i (mulOk_r hb), Int.pow_succ])]
      simp [flat])
  rw [sSeq_next (s' := ([some (.int b), some (.int n), some (.int (b ^ n)), x], L)) (by
    rw [sFor_go (range1_ok (n := n) (by simp) (by omega))]
    exact e)]
  simp
end Lib
end

section
set_option Elab.async false
set_option linter.all false
set_option maxRecDepth 10000
/-! Sums and means of ratios. -/
namespace Lib
open DS PySem
theorem Sm.one {m : Nat} (h : 0 < m) : Sm m 1 := ⟨by show 1 < 2 ^ m; exact Nat.one_lt_two_pow (by omega), by show 1 < 2 ^ m; exact Nat.one_lt_two_pow (by omega)⟩
theorem Sm.zero {m : Nat} (h : 0 < m) : Sm m 0 := ⟨by show 0 < 2 ^ m; exact Nat.two_pow_pos m, by show 1 < 2 ^ m; exact Nat.one_lt_two_pow (by omega)⟩
theorem flat_rt (q : Rat) : flat (rt q) = true := rfl
theorem total_go {m : Nat} (hm : 0 < m) (x0 : Option D) : ∀ (ts : List Rat) (k : Nat) (q : Rat) (y : Option D) (L : List Nat), (∀ t ∈ ts, Sm m t) → 0 < k → Sm k q → k + ts.length * (m + 1) ≤ 7000 →
    ∃ y' L', forGo (.nm 2) (sSet 1 0 (eCall 2 den_plus (aCons (eVar 1) (aCons (eVar 2) aNil))) ([(1, 0)] ++ ([(2, 0)] ++ []))) (ts.map rt) ([x0, some (rt q), y], L) = .next ([x0, some (rt (ts.foldl (· + ·) q)), y'], L') ∧ Sm (k + ts.length * (m + 1)) (ts.foldl (· + ·) q)
  | [], k, q, y, L, _, hk, hq, _ => ⟨y, L, rfl, by simpa using hq⟩
  | t :: ts, k, q, y, L, ht, hk, hq, hb => by
    have hl : (t :: ts).length * (m + 1) = ts.length * (m + 1) + (m + 1) := by rw [List.length_cons, Nat.succ_mul]
    have p := plus_ok hq (ht t (.head _)) hk hm (by omega)
    obtain ⟨y', L', e, s⟩ := total_go hm x0 ts (k + m + 1) (q + t) (some (rt t)) ((L.set 2 0).set 1 0) (fun t' h => ht t' (.tail _ h)) (by omega) p.2 (by omega)
    refine ⟨y', L', ?_, ?_⟩
    · unfold forGo
      have hs : sSet 1 0 (eCall 2 den_plus (aCons (eVar 1) (aCons (eVar 2) aNil))) ([(1, 0)] ++ ([(2, 0)] ++ [])) ([x0, some (rt q), some (rt t)], L.set 2 0) = .next ([x0, some (rt (q + t)), some (rt t)], (L.set 2 0).set 1 0) := by
        rw [sSet_next (d := rt (q + t)) (by simp only [eCall_2, eVar_0, eVar_s, o1_s, p.1])]
        rw [if_pos (flat_rt _)]
        rfl
      simp only [List.map_cons, Tg.go]
      show (match sSet 1 0 (eCall 2 den_plus (aCons (eVar 1) (aCons (eVar 2) aNil))) ([(1, 0)] ++ ([(2, 0)] ++ [])) ([x0, some (rt q), some (rt t)], L.set 2 0) with
        | .next s' => forGo (.nm 2) (sSet 1 0 (eCall 2 den_plus (aCons (eVar 1) (aCons (eVar 2) aNil))) ([(1, 0)] ++ ([(2, 0)] ++ []))) (ts.map rt) s'
        | .cont s' => forGo (.nm 2) (sSet 1 0 (eCall 2 den_plus (aCons (eVar 1) (aCons (eVar 2) aNil))) ([(1, 0)] ++ ([(2, 0)] ++ []))) (ts.map rt) s'
        | .brk s' => .next s'
        | .ret d => .ret d
        | .stuck => .stuck) = _
      rw [hs]
      exact e
    · rw [hl]
      have e2 : k + (ts.length * (m + 1) + (m + 1)) = k + m + 1 + ts.length * (m + 1) := by omega
      rw [e2]
      exact s
theorem total_ok {m : Nat} {ts : List Rat} (hm : 0 < m) (ht : ∀ t ∈ ts, Sm m t) (hb : 1 + ts.length * (m + 1) ≤ 7000) :
    den_total [.list (ts.map rt)] = some (rt (ts.foldl (· + ·) 0)) ∧ Sm (1 + ts.length * (m + 1)) (ts.foldl (· + ·) 0) := by
  obtain ⟨y', L', e, s⟩ := total_go hm (some (.list (ts.map rt))) ts 1 0 none [0, 0, 0] ht (by omega) (Sm.zero (by omega)) hb
  refine ⟨?_, s⟩
  unfold den_total dfun
  simp only [List.length_cons, List.length_nil, Nat.zero_add, Nat.reduceAdd, if_true, List.map_cons, List.map_nil]
  rw [sSeq_next (s' := ([some (.list (ts.map rt)), some (rt 0), none], [0, 0, 0])) (by
    rw [sSet_next (d := rt 0) (by simp [eTup, sz]; rfl)]
    rfl)]
  rw [sSeq_next (s' := _) (by
    rw [sFor_go (ds := ts.map rt) (by simp)]
    exact e)]
  rw [sRet_ok (d := rt (ts.foldl (· + ·) 0)) (by simp)]
/-- weights and ratios -/
def wp (p : Int × Rat) : D := .tuple [.int p.1, rt p.2]
theorem lc_wp {fe : FE} {ρ : PEnv} {i j : Nat} (g : Int × Rat → D) {ps : List (Int × Rat)} (h : ∀ p ∈ ps, fe ((ρ.set i (some (.int p.1))).set j (some (rt p.2))) = some (g p)) :
    lcGo (.tp [(.nm i), (.nm j)]) tTrue fe ρ (ps.map wp) = some (ps.map g) := by
  induction ps with
  | nil => rfl
  | cons p ps ih =>
    have h1 := h p (.head _)
    have h2 := ih fun q hq => h q (.tail _ hq)
    simp only [List.map_cons]
    unfold lcGo
    have e : Tg.go (.tp [(.nm i), (.nm j)]) (wp p) = some [(i, .int p.1), (j, rt p.2)] := rfl
    rw [e]
    simp only [tTrue_a]
    show (match fe ((ρ.set i (some (.int p.1))).set j (some (rt p.2))) with
      | none => none
      | some y => match lcGo (.tp [(.nm i), (.nm j)]) tTrue fe ρ (ps.map wp) with
        | none => none
        | some ys => some (y :: ys)) = _
    rw [h1, h2]
theorem intsD_map (l : List Int) : intsD (l.map PyData.int) = some l := by
  induction l with
  | nil => rfl
  | cons a l ih => simp [intsD, ih]
theorem dSum_ok (l : List Int) : dSum (.list (l.map PyData.int)) = some (.int l.sum) := by
  simp [dSum, intsD_map]
/-- the mean of weighted ratios -/
def mean (ps : List (Int × Rat)) : Rat := (ps.map fun p : Int × Rat => p.2 * Rat.divInt p.1 (ps.map (fun q : Int × Rat => q.1)).sum).foldl (· + ·) 0
theorem mean_ok {m : Nat} {ps : List (Int × Rat)} (hm : 0 < m) (hq : ∀ p ∈ ps, Sm m p.2) (hw : ∀ p ∈ ps, p.1.natAbs < 2 ^ m) (h0 : 0 < (ps.map (fun q : Int × Rat => q.1)).sum) (hs : (ps.map (fun q : Int × Rat => q.1)).sum.natAbs < 2 ^ m) (hb : 1 + ps.length * (m + m + 1) ≤ 7000) :
    den_mean_of [.list (ps.map wp)] = some (rt (mean ps)) ∧ Sm (1 + ps.length * (m + m + 1)) (mean ps) := by
  have hl : ps.length ≤ 7000 := by
    have := Nat.le_mul_of_pos_right ps.length (show 0 < m + m + 1 by omega)
    omega
  have ht : ∀ t ∈ ps.map (fun p : Int × Rat => p.2 * Rat.divInt p.1 (ps.map (fun q : Int × Rat => q.1)).sum), Sm (m + m) t := fun t h => by
    obtain ⟨p, hp, rfl⟩ := List.mem_map.mp h
    have hm4 : m + m ≤ 8000 := by
      have := Nat.le_mul_of_pos_left (m + m + 1) (List.length_pos_of_mem hp)
      omega
    exact (times_ok (hq p hp) (Sm.divInt (n := m) h0 (hw p hp) hs) hm hm hm4).2
  have tot := total_ok (m := m + m) (ts := ps.map (fun p : Int × Rat => p.2 * Rat.divInt p.1 (ps.map (fun q : Int × Rat => q.1)).sum)) (by omega) ht (by simpa using hb)
  rw [List.length_map] at tot
  refine ⟨?_, tot.2⟩
  refine dfun_ret [some (.list (ps.map wp)), none, none, none] [0, 0, 0, 0] rfl rfl rfl ?_
  have hsz : (ps.map wp).length ≤ sz := by rw [List.length_map]; show ps.length ≤ 16777216; omega
  rw [sSeq_next (s' := ([some (.list (ps.map wp)), some (.int (ps.map (fun q : Int × Rat => q.1)).sum), none, none], [0, 0, 0, 0])) (by
    rw [sSet_next (d := .int (ps.map (fun q : Int × Rat => q.1)).sum) (by
      have e := lc_wp (i := 2) (j := 3) (fe := eVar 2) (ρ := [some (.list (ps.map wp)), none, none, none]) (fun p => PyData.int p.1) (ps := ps) (fun p _ => rfl)
      simp only [eCB_a, aCons_a, aNil_a, eLc, iSeq_a, eVar_0, o1_s, seqOf_l, if_pos hsz]
      have w : wipeD [some (.list (ps.map wp)), none, none, none] [2, 3] = [some (.list (ps.map wp)), none, none, none] := rfl
      rw [w, e, o1_s, o2_ss, o1_s, d1_1]
      have := dSum_ok (ps.map (fun q : Int × Rat => q.1))
      rw [List.map_map] at this
      exact this)]
    rfl)]
  rw [sRet_ok (d := rt (mean ps)) (by
    have e := lc_wp (i := 2) (j := 3) (fe := eCall 2 den_times (aCons (eVar 3) (aCons (eCall 2 den_lowest (aCons (eVar 2) (aCons (eVar 1) aNil))) aNil))) (ρ := [some (.list (ps.map wp)), some (.int (ps.map (fun q : Int × Rat => q.1)).sum), none, none]) (fun p => rt (p.2 * Rat.divInt p.1 (ps.map (fun q : Int × Rat => q.1)).sum)) (ps := ps) (fun p hp => by
      have hm4 : m + m ≤ 8000 := by
        have := Nat.le_mul_of_pos_left (m + m + 1) (List.length_pos_of_mem hp)
        omega
      have l1 := lowest_ok (a := p.1) h0 hs (by omega)
      have t1 := (times_ok (hq p hp) (Sm.divInt (n := m) h0 (hw p hp) hs) hm hm hm4).1
      simp only [eCall_2, List.set_cons_zero, List.set_cons_succ, eVar_0, eVar_s, o1_s, l1, t1])
    have w : wipeD [some (.list (ps.map wp)), some (.int (ps.map (fun q : Int × Rat => q.1)).sum), none, none] [2, 3] = [some (.list (ps.map wp)), some (.int (ps.map (fun q : Int × Rat => q.1)).sum), none, none] := rfl
    have t1 := tot.1
    rw [List.map_map] at t1
    simp only [eCall_1, eLc, iSeq_a, eVar_0, o1_s, seqOf_l, if_pos hsz, w, e]
    exact t1)]
end Lib
end

section
set_option Elab.async false
set_option linter.all false
set_option maxRecDepth 10000
/-! The chance of enough wins: sums of Pascal's numbers, and the same by one point after another. -/
namespace Lib
open DS PySem
/-- Pascal's numbers -/
def C : Nat → Nat → Nat
  | _, 0 => 1
  | 0, _ + 1 => 0
  | n + 1, k + 1 => C n k + C n (k + 1)
theorem C_0 (n : Nat) : C n 0 = 1 := by cases n <;> rfl
theorem C_gt : ∀ {n k : Nat}, n < k → C n k = 0
  | 0, k + 1, _ => rfl
  | n + 1, k + 1, h => by
    show C n k + C n (k + 1) = 0
    rw [C_gt (by omega), C_gt (by omega)]
theorem C_pos : ∀ {n k : Nat}, k ≤ n → 0 < C n k
  | n, 0, _ => by rw [C_0]; omega
  | n + 1, k + 1, h => by
    show 0 < C n k + C n (k + 1)
    have := C_pos (n := n) (k := k) (by omega)
    omega
theorem C_step : ∀ (n k : Nat), C n (k + 1) * (k + 1) + C n k * k = C n k * n
  | 0, 0 => rfl
  | 0, k + 1 => by simp [C]
  | n + 1, 0 => by
    have := C_step n 0
    simp only [C, C_0] at *
    omega
  | n + 1, k + 1 => by
    have h1 := C_step n k
    have h2 := C_step n (k + 1)
    have e1 : C (n + 1) (k + 1 + 1) = C n (k + 1) + C n (k + 1 + 1) := rfl
    have e2 : C (n + 1) (k + 1) = C n k + C n (k + 1) := rfl
    rw [e1, e2]
    grind
/-- the way on in the row of Pascal's numbers -/
theorem C_next {n k : Nat} (h : k ≤ n) : ((C n k : Int) * ((n : Int) - k)) / ((k : Int) + 1) = C n (k + 1) := by
  have := C_step n k
  have e : (C n k : Int) * ((n : Int) - k) = C n (k + 1) * ((k : Int) + 1) := by
    have : ((C n (k + 1) * (k + 1) + C n k * k : Nat) : Int) = (C n k * n : Nat) := by rw [this]
    push_cast at this
    grind
  rw [e]
  exact Int.mul_ediv_cancel _ (by omega)
def rsum (g : Nat → Int) : Nat → Int
  | 0 => 0
  | m + 1 => rsum g m + g m
theorem rsum_front (g : Nat → Int) : ∀ m, rsum g (m + 1) = g 0 + rsum (fun j => g (j + 1)) m
  | 0 => by simp [rsum]
  | m + 1 => by
    have := rsum_front g m
    rw [show rsum g (m + 1 + 1) = rsum g (m + 1) + g (m + 1) from rfl, this]
    simp only [rsum]
    omega
theorem rsum_congr {g h : Nat → Int} : ∀ {m : Nat}, (∀ j, j < m → g j = h j) → rsum g m = rsum h m
  | 0, _ => rfl
  | m + 1, e => by
    simp only [rsum]
    rw [rsum_congr fun j hj => e j (by omega), e m (by omega)]
theorem rsum_lin (g h : Nat → Int) (x z : Int) : ∀ m, rsum (fun j => x * g j + z * h j) m = x * rsum g m + z * rsum h m
  | 0 => by simp [rsum]
  | m + 1 => by
    simp only [rsum]
    rw [rsum_lin g h x z m]
    grind
def trm (x z : Int) (n k : Nat) : Int := C n k * x ^ k * z ^ (n - k)
/-- k of n and more -/
def Tl (x z : Int) (n a : Nat) : Int := rsum (fun j => trm x z n (a + j)) (n + 1 - a)
theorem trm_gt {x z : Int} {n k : Nat} (h : n < k) : trm x z n k = 0 := by
  simp [trm, C_gt h]
theorem trm_step (x z : Int) {n k : Nat} (h : k ≤ n) : trm x z (n + 1) (k + 1) = x * trm x z n k + z * trm x z n (k + 1) := by
  unfold trm
  have e : C (n + 1) (k + 1) = C n k + C n (k + 1) := rfl
  rw [e]
  have e1 : n + 1 - (k + 1) = n - k := by omega
  rw [e1]
  by_cases hk : k = n
  · subst hk
    rw [C_gt (n := k) (k := k + 1) (by omega)]
    simp
    grind
  · have e2 : n - k = (n - (k + 1)) + 1 := by omega
    rw [e2]
    push_cast
    grind
theorem Tl_step (x z : Int) (n a : Nat) : Tl x z (n + 1) (a + 1) = x * Tl x z n a + z * Tl x z n (a + 1) := by
  unfold Tl
  have e1 : n + 1 + 1 - (a + 1) = n + 1 - a := by omega
  rw [e1]
  have e2 : rsum (fun j => trm x z (n + 1) (a + 1 + j)) (n + 1 - a) = rsum (fun j => x * trm x z n (a + j) + z * trm x z n (a + 1 + j)) (n + 1 - a) := rsum_congr fun j hj => by
    have := trm_step x z (n := n) (k := a + j) (by omega)
    have e3 : a + 1 + j = a + j + 1 := by omega
    rw [e3]
    exact this
  rw [e2, rsum_lin]
  congr 2
  by_cases h : a ≤ n
  · have e4 : n + 1 - a = (n + 1 - (a + 1)) + 1 := by omega
    rw [e4]
    show rsum _ (n + 1 - (a + 1)) + trm x z n (a + 1 + (n + 1 - (a + 1))) = _
    rw [trm_gt (by omega), Int.add_zero]
  · have e4 : n + 1 - a = 0 := by omega
    have e5 : n + 1 - (a + 1) = 0 := by omega
    rw [e4, e5]
theorem Tl_gt {x z : Int} {n a : Nat} (h : n < a) : Tl x z n a = 0 := by
  unfold Tl
  have : n + 1 - a = 0 := by omega
  rw [this]
  rfl
theorem Tl_0 (x z : Int) : ∀ n, Tl x z n 0 = (x + z) ^ n
  | 0 => by simp [Tl, rsum, trm, C_0]
  | n + 1 => by
    have ih := Tl_0 x z n
    have h := Tl_step x z n 0
    have f : Tl x z (n + 1) 0 = z ^ (n + 1) + Tl x z (n + 1) 1 := by
      unfold Tl
      show rsum _ (n + 1 + 1) = _
      rw [rsum_front]
      simp only [trm, C_0, Nat.zero_add]
      simp
      exact rsum_congr fun j hj => by
        have e : n + 1 - (j + 1) = n - j := by omega
        rw [Nat.add_comm 1 j, e]
    have g : Tl x z n 0 = z ^ n + Tl x z n 1 := by
      unfold Tl
      show rsum _ (n + 1) = _
      rw [rsum_front]
      simp only [trm, C_0, Nat.zero_add]
      simp
      exact rsum_congr fun j hj => by rw [Nat.add_comm 1 j]
    rw [f, h]
    rw [Int.pow_succ, Int.pow_succ, ← ih]
    simp only [Nat.zero_add]
    grind
/-- the chance, one point after another -/
def V (p : Rat) : Nat → Nat → Rat
  | 0, _ => 1
  | _ + 1, 0 => 0
  | a + 1, b + 1 => p * V p a (b + 1) + (1 - p) * V p (a + 1) b
theorem pow_ne {y : Int} {n : Nat} (hy : 0 < y) : (y : Rat) ^ n ≠ 0 := by
  have h : (0 : Rat) < y := by exact_mod_cast hy
  have := Rat.pow_pos (n := n) h
  grind
theorem V_Tl {x y : Int} (hy : 0 < y) : ∀ a b : Nat, 0 < a + b → V ((x : Rat) / y) a b = (Tl x (y - x) (a + b - 1) a : Rat) / (y : Rat) ^ (a + b - 1)
  | 0, b + 1, _ => by
    have : 0 + (b + 1) - 1 = b := by omega
    rw [this, Tl_0]
    have : x + (y - x) = y := by omega
    rw [this]
    simp only [V]
    rw [Rat.intCast_pow]
    have h := pow_ne (n := b) hy
    grind
  | a + 1, 0, _ => by
    rw [Tl_gt (by omega)]
    simp only [V]
    grind
  | a + 1, b + 1, _ => by
    have h1 := V_Tl (x := x) hy a (b + 1) (by omega)
    have h2 := V_Tl (x := x) hy (a + 1) b (by omega)
    have e0 : a + 1 + (b + 1) - 1 = (a + b) + 1 := by omega
    have e1 : a + (b + 1) - 1 = a + b := by omega
    have e2 : a + 1 + b - 1 = a + b := by omega
    rw [e1] at h1
    rw [e2] at h2
    rw [e0, Tl_step]
    simp only [V]
    rw [h1, h2, Rat.pow_succ]
    have h := pow_ne (n := a + b) hy
    have hy' := pow_ne (n := 1) hy
    rw [Rat.pow_one] at hy'
    push_cast
    generalize (y : Rat) ^ (a + b) = W at h ⊢
    generalize (y : Rat) = Y at hy' ⊢
    generalize (x : Rat) = X at ⊢
    generalize (Tl x (y - x) (a + b) a : Rat) = A at ⊢
    generalize (Tl x (y - x) (a + b) (a + 1) : Rat) = B at ⊢
    grind
end Lib
end

section
set_option Elab.async false
set_option linter.all false
set_option maxRecDepth 10000
/-! k44: prices of rights by steps, in whole numbers. -/
namespace Lib
open DS PySem
theorem ipos {a : Int} (k : Nat) (h : 0 < a) : 0 < a ^ k := Int.pow_pos h
/-- steps back: a times the one above and b times the one below -/
def itb (a b : Int) (g : Nat → Int) : Nat → Nat → Int
  | 0, k => g k
  | j + 1, k => a * itb a b g j (k + 1) + b * itb a b g j k
theorem itb_sum (a b : Int) (g : Nat → Int) : ∀ j k, itb a b g j k = rsum (fun i => trm a b j i * g (k + i)) (j + 1)
  | 0, k => by simp [itb, rsum, trm, C]
  | j + 1, k => by
    have h1 := itb_sum a b g j (k + 1)
    have h2 := itb_sum a b g j k
    simp only [itb, h1, h2]
    rw [rsum_front _ (j + 1)]
    have e : rsum (fun i => trm a b (j + 1) (i + 1) * g (k + (i + 1))) (j + 1) = rsum (fun i => a * (trm a b j i * g (k + 1 + i)) + b * (trm a b j (i + 1) * g (k + (i + 1)))) (j + 1) := rsum_congr fun i hi => by
      rw [trm_step a b (by omega)]
      have e1 : k + 1 + i = k + (i + 1) := by omega
      rw [e1]
      grind
    rw [e, rsum_lin]
    have f : rsum (fun i => trm a b j (i + 1) * g (k + (i + 1))) (j + 1) = rsum (fun i => trm a b j (i + 1) * g (k + (i + 1))) j := by
      show rsum _ j + trm a b j (j + 1) * g (k + (j + 1)) = _
      rw [trm_gt (by omega)]
      omega
    have f2 := rsum_front (fun i => trm a b j i * g (k + i)) j
    have t0 : trm a b (j + 1) 0 = b * trm a b j 0 := by
      simp only [trm, C_0, Int.pow_zero, Nat.sub_zero]
      rw [Int.pow_succ]
      grind
    rw [f, f2, t0]
    grind
theorem itb_congr {a b : Int} {g h : Nat → Int} {m : Nat} (e : ∀ k, k ≤ m → g k = h k) : ∀ j k, k + j ≤ m → itb a b g j k = itb a b h j k
  | 0, k, hk => e k (by omega)
  | j + 1, k, hk => by
    simp only [itb]
    rw [itb_congr e j (k + 1) (by omega), itb_congr e j k (by omega)]
theorem itb_shift (a b : Int) (g : Nat → Int) : ∀ j k, itb a b (fun i => g (i + 1)) j k = itb a b g j (k + 1)
  | 0, k => rfl
  | j + 1, k => by simp only [itb]; rw [itb_shift a b g j (k + 1), itb_shift a b g j k]
theorem itb_bd {a b T : Int} {g : Nat → Int} {m : Nat} (ha : 0 ≤ a) (hb : 0 ≤ b) (hg : ∀ k, k ≤ m → 0 ≤ g k ∧ g k ≤ T) : ∀ j k, k + j ≤ m → 0 ≤ itb a b g j k ∧ itb a b g j k ≤ T * (a + b) ^ j
  | 0, k, h => by simpa [itb] using hg k (by omega)
  | j + 1, k, h => by
    have h1 := itb_bd ha hb hg j (k + 1) (by omega)
    have h2 := itb_bd ha hb hg j k (by omega)
    simp only [itb]
    rw [Int.pow_succ]
    have a1 := Int.mul_nonneg ha h1.1
    have a2 := Int.mul_nonneg hb h2.1
    have a3 := Int.mul_le_mul_of_nonneg_left h1.2 ha
    have a4 := Int.mul_le_mul_of_nonneg_left h2.2 hb
    constructor
    · omega
    · have e : T * ((a + b) ^ j * (a + b)) = a * (T * (a + b) ^ j) + b * (T * (a + b) ^ j) := by grind
      omega
def mx (i : Int) : Int := if 0 < i then i else 0
theorem mx_nn (i : Int) : 0 ≤ mx i := by unfold mx; split <;> omega
/-- the numbers of a right -/
structure R4 where
  x : Int
  y : Int
  z : Int
  q : Int
  s : Int
  K : Int
  sg : Int
namespace R4
variable (r : R4)
def pr (t k : Nat) : Int := r.s * r.z ^ k * r.x ^ (t - k)
def gn (t k : Nat) : Int := mx (r.sg * (r.pr t k - r.K * r.q ^ t))
def M : Int := (r.z - r.x) * r.y
def A (n j k : Nat) : Int := itb (r.y - r.x) (r.z - r.y) (r.gn n) j k
def B (n : Nat) : Nat → Nat → Int
  | 0, k => r.gn n k
  | i + 1, k => if r.gn (n - (i + 1)) k * r.M ^ (i + 1) < (r.y - r.x) * B n i (k + 1) + (r.z - r.y) * B n i k then (r.y - r.x) * B n i (k + 1) + (r.z - r.y) * B n i k else r.gn (n - (i + 1)) k * r.M ^ (i + 1)
/-- within the law's bounds -/
structure Ok (r : R4) : Prop where
  x1 : 1 ≤ r.x
  xy : r.x < r.y
  yz : r.y < r.z
  y9 : r.y ≤ 9
  z14 : r.z ≤ 14
  zx : r.z - r.x ≤ 9
  q1 : 1 ≤ r.q
  q6 : r.q ≤ 6
  s1 : 1 ≤ r.s
  s81 : r.s ≤ 81
  K0 : 0 ≤ r.K
  K86 : r.K ≤ 90
  sg : r.sg = 1 ∨ r.sg = -1
variable {r}
theorem pow_bd {a b : Int} {k m : Nat} (h0 : 1 ≤ a) (h : a ≤ b) (hk : k ≤ m) : 1 ≤ a ^ k ∧ a ^ k ≤ b ^ m := by
  have h1 : ∀ k : Nat, 1 ≤ a ^ k := fun k => by
    have := ipos k (show 0 < a by omega)
    omega
  refine ⟨h1 k, ?_⟩
  have e1 : a ^ k ≤ b ^ k := by
    induction k with
    | zero => simp
    | succ k ih =>
      rw [Int.pow_succ, Int.pow_succ]
      exact Int.mul_le_mul (ih (by omega)) h (by omega) (by have := ipos k (show 0 < b by omega); omega)
  have e2 : b ^ k ≤ b ^ m := by
    obtain ⟨d, rfl⟩ : ∃ d, m = k + d := ⟨m - k, by omega⟩
    rw [Int.pow_add]
    have := ipos d (show 0 < b by omega)
    have := ipos k (show 0 < b by omega)
    have e := Int.mul_le_mul_of_nonneg_left (show 1 ≤ b ^ d by omega) (show 0 ≤ b ^ k by omega)
    rw [Int.mul_one] at e
    exact e
  omega
theorem Ok.pr_bd (h : Ok r) {t k : Nat} (hk : k ≤ t) (ht : t ≤ 6) : 0 < r.pr t k ∧ r.pr t k < 2 ^ 30 := by
  unfold pr
  have a1 := pow_bd (k := k) (m := k) (by have := h.x1; have := h.xy; have := h.yz; omega : 1 ≤ r.z) h.z14 (Nat.le_refl _)
  have a2 := pow_bd (k := t - k) (m := t - k) h.x1 (by have := h.xy; have := h.yz; have := h.z14; omega : r.x ≤ 14) (Nat.le_refl _)
  have a3 : r.z ^ k * r.x ^ (t - k) ≤ 14 ^ 6 := by
    have e := Int.mul_le_mul a1.2 a2.2 (by omega) (by omega)
    rw [← Int.pow_add] at e
    have e2 := (pow_bd (a := 14) (b := 14) (k := k + (t - k)) (m := 6) (by omega) (by omega) (by omega)).2
    omega
  have a4 : 0 < r.z ^ k * r.x ^ (t - k) := Int.mul_pos (by omega) (by omega)
  rw [Int.mul_assoc]
  have hs := h.s1
  have hs2 := h.s81
  refine ⟨Int.mul_pos (by omega) a4, ?_⟩
  have e := Int.mul_le_mul hs2 a3 (by omega) (by omega)
  have : (81 : Int) * 14 ^ 6 < 2 ^ 30 := by decide
  omega
theorem Ok.q_bd (h : Ok r) {t : Nat} (ht : t ≤ 6) : 0 < r.q ^ t ∧ r.q ^ t < 2 ^ 16 := by
  have a := pow_bd (k := t) (m := 6) h.q1 h.q6 ht
  have : (6 : Int) ^ 6 < 2 ^ 16 := by decide
  omega
theorem Ok.gn_bd (h : Ok r) {t k : Nat} (hk : k ≤ t) (ht : t ≤ 6) : 0 ≤ r.gn t k ∧ r.gn t k ≤ 2 ^ 31 := by
  refine ⟨mx_nn _, ?_⟩
  have a1 := h.pr_bd hk ht
  have a2 := h.q_bd ht
  have a3 : 0 ≤ r.K * r.q ^ t ∧ r.K * r.q ^ t ≤ 90 * 2 ^ 16 := ⟨Int.mul_nonneg h.K0 (by omega), Int.mul_le_mul h.K86 (by omega) (by omega) (by omega)⟩
  unfold gn mx
  rcases h.sg with e | e <;> rw [e] <;> split <;> omega
theorem Ok.M_bd (h : Ok r) {i : Nat} (hi : i ≤ 6) : 0 < r.M ^ i ∧ r.M ^ i ≤ 81 ^ i := by
  have h1 := h.x1; have h2 := h.xy; have h3 := h.yz; have h4 := h.y9; have h5 := h.zx
  have m1 : 1 ≤ r.M := by
    have := Int.mul_pos (show 0 < r.z - r.x by omega) (show 0 < r.y by omega)
    unfold M; omega
  have m2 : r.M ≤ 81 := by
    have := Int.mul_le_mul h5 h4 (by omega) (by omega)
    unfold M; omega
  have a := pow_bd (k := i) (m := i) m1 m2 (Nat.le_refl _)
  omega
theorem Ok.A_bd (h : Ok r) {n j k : Nat} (hn : n ≤ 6) (hk : k + j ≤ n) : 0 ≤ r.A n j k ∧ r.A n j k < 2 ^ 60 := by
  have h2 := h.xy; have h3 := h.yz; have h5 := h.zx
  have b := itb_bd (a := r.y - r.x) (b := r.z - r.y) (T := 2 ^ 31) (g := r.gn n) (m := n) (by omega) (by omega) (fun k hk => h.gn_bd hk hn) j k hk
  refine ⟨b.1, ?_⟩
  have e : r.y - r.x + (r.z - r.y) = r.z - r.x := by omega
  rw [e] at b
  have p := pow_bd (a := r.z - r.x) (b := 9) (k := j) (m := 6) (by omega) h5 (by omega)
  have : (2 : Int) ^ 31 * (r.z - r.x) ^ j ≤ 2 ^ 31 * 9 ^ 6 := Int.mul_le_mul_of_nonneg_left p.2 (by decide)
  have : (2 : Int) ^ 31 * 9 ^ 6 < 2 ^ 60 := by decide
  have b2 := b.2
  unfold A
  omega
theorem Ok.B_bd (h : Ok r) {n : Nat} (hn : n ≤ 6) : ∀ i k : Nat, k + i ≤ n → 0 ≤ r.B n i k ∧ r.B n i k ≤ 2 ^ 31 * 81 ^ i
  | 0, k, hk => by simpa [B] using h.gn_bd (t := n) (k := k) (by omega) hn
  | i + 1, k, hk => by
    have h2 := h.xy; have h3 := h.yz; have h5 := h.zx
    have b1 := h.B_bd hn i (k + 1) (by omega)
    have b2 := h.B_bd hn i k (by omega)
    have g := h.gn_bd (t := n - (i + 1)) (k := k) (by omega) (by omega)
    have m := h.M_bd (i := i + 1) (by omega)
    have u0 := Int.mul_nonneg g.1 (show 0 ≤ r.M ^ (i + 1) by omega)
    have u1 : r.gn (n - (i + 1)) k * r.M ^ (i + 1) ≤ 2 ^ 31 * 81 ^ (i + 1) := Int.mul_le_mul g.2 m.2 (by omega) (by decide)
    have a1 := Int.mul_nonneg (show 0 ≤ r.y - r.x by omega) b1.1
    have a2 := Int.mul_nonneg (show 0 ≤ r.z - r.y by omega) b2.1
    have a3 := Int.mul_le_mul_of_nonneg_left b1.2 (show 0 ≤ r.y - r.x by omega)
    have a4 := Int.mul_le_mul_of_nonneg_left b2.2 (show 0 ≤ r.z - r.y by omega)
    have T0 : (0 : Int) ≤ 2 ^ 31 * 81 ^ i := Int.mul_nonneg (by decide) (by have := ipos i (show (0 : Int) < 81 by decide); omega)
    have e : (r.y - r.x) * (2 ^ 31 * 81 ^ i) + (r.z - r.y) * (2 ^ 31 * 81 ^ i) = (r.z - r.x) * (2 ^ 31 * 81 ^ i) := by grind
    have a5 := Int.mul_le_mul_of_nonneg_right (show r.z - r.x ≤ 81 by omega) T0
    have e2 : (2 : Int) ^ 31 * 81 ^ (i + 1) = 81 * (2 ^ 31 * 81 ^ i) := by rw [Int.pow_succ]; grind
    simp only [B]
    split <;> constructor <;> omega
theorem Ok.B_lt (h : Ok r) {n i k : Nat} (hn : n ≤ 6) (hk : k + i ≤ n) : 0 ≤ r.B n i k ∧ r.B n i k < 2 ^ 80 := by
  have b := h.B_bd hn i k hk
  have p := pow_bd (a := 81) (b := 81) (k := i) (m := 6) (by omega) (by omega) (by omega)
  have : (2 : Int) ^ 31 * 81 ^ i ≤ 2 ^ 31 * 81 ^ 6 := Int.mul_le_mul_of_nonneg_left p.2 (by decide)
  have : (2 : Int) ^ 31 * 81 ^ 6 < 2 ^ 80 := by decide
  omega
/-- the denominators -/
theorem Ok.den_bd (h : Ok r) {t i : Nat} (ht : t ≤ 6) (hi : i ≤ 6) : 0 < r.q ^ t * r.M ^ i ∧ r.q ^ t * r.M ^ i < 2 ^ 60 := by
  have a := h.q_bd ht
  have m := h.M_bd hi
  have p := pow_bd (a := 81) (b := 81) (k := i) (m := 6) (by omega) (by omega) hi
  refine ⟨Int.mul_pos a.1 m.1, ?_⟩
  have : r.q ^ t * r.M ^ i ≤ 2 ^ 16 * 81 ^ 6 := Int.mul_le_mul (by omega) (by omega) (by omega) (by decide)
  have : (2 : Int) ^ 16 * 81 ^ 6 < 2 ^ 60 := by decide
  omega
end R4
end Lib
end

section
set_option Elab.async false
set_option linter.all false
set_option maxRecDepth 10000
/-! Lists by a function, ratios by two whole numbers. -/
namespace Lib
open DS PySem
def Ls (m : Nat) (f : Nat → Rat) : D := .list ((List.range m).map fun k => rt (f k))
theorem Ls_congr {m : Nat} {f g : Nat → Rat} (h : ∀ k, k < m → f k = g k) : Ls m f = Ls m g := by
  unfold Ls
  congr 1
  exact List.map_congr_left fun k hk => by rw [h k (List.mem_range.mp hk)]
theorem Ls_flat (m : Nat) (f : Nat → Rat) : flat (Ls m f) = false := rfl
theorem Ls_ix {m j : Nat} {f : Nat → Rat} (h : j < m) : dIx (Ls m f) (.int j) = some (rt (f j)) := map_ix (g := fun k => rt (f k)) h
theorem Ls_last {m : Nat} {f : Nat → Rat} : dIx (Ls (m + 1) f) (.int (-1)) = some (rt (f m)) := by
  show L2.atI ((List.range (m + 1)).map fun k => rt (f k)) (-1) = _
  unfold L2.atI L2.ixN
  have e : (-1 + ((m : Int) + 1)).toNat = m := by omega
  simp [e]
  have : (1 : Int) ≤ m + 1 := by omega
  simp [this]
theorem range_tail (m : Nat) : (List.range (m + 1)).drop 1 = (List.range m).map (· + 1) := by
  rw [List.range_succ_eq_map]
  rfl
theorem Ls_cut {m : Nat} {f : Nat → Rat} : dSlice (some 1) none (Ls (m + 1) f) = some (Ls m fun k => f (k + 1)) := by
  show some (PyData.list (cutD _ _ _)) = _
  unfold cutD Ls
  have e1 : _root_.HT.sIx ((List.range (m + 1)).map fun k => rt (f k)).length 0 (some 1) = 1 := by
    have := _root_.HT.sIx_nat ((List.range (m + 1)).map fun k => rt (f k)).length 0 1
    rw [show ((1 : Nat) : Int) = 1 from rfl] at this
    rw [this]
    simp
  rw [e1, _root_.HT.sIx_none, ← List.map_drop, range_tail]
  congr 2
  rw [List.take_of_length_le (by simp)]
  rw [List.map_map]
  rfl
theorem Ls_zip {m : Nat} {f g : Nat → Rat} {l : Nat} (h : l ≤ m) : (((List.range m).map fun k => rt (f k)).zip ((List.range l).map fun k => rt (g k))).map (fun p => PyData.tuple [p.1, p.2]) = (List.range l).map fun k => .tuple [rt (f k), rt (g k)] := by
  refine List.ext_getElem? fun i => ?_
  by_cases hi : i < l
  · have hm : i < m := by omega
    have h1 : ((List.range m).map fun k => rt (f k))[i]? = some (rt (f i)) := by simp [hm]
    have h2 : ((List.range l).map fun k => rt (g k))[i]? = some (rt (g i)) := by simp [hi]
    have h3 : (((List.range m).map fun k => rt (f k)).zip ((List.range l).map fun k => rt (g k)))[i]? = some (rt (f i), rt (g i)) := List.getElem?_zip_eq_some.mpr ⟨h1, h2⟩
    rw [List.getElem?_map, h3]
    simp [hi]
  · rw [List.getElem?_eq_none (by simp; omega), List.getElem?_eq_none (by simp; omega)]
/-- a ratio of whole numbers -/
def fr (a b : Int) : Rat := Rat.divInt a b
theorem fr_sm {a b : Int} {m : Nat} (hb : 0 < b) (h1 : a.natAbs < 2 ^ m) (h2 : b.natAbs < 2 ^ m) : Sm m (fr a b) := Sm.divInt (n := m) hb h1 h2
theorem fr_div (a b : Int) : fr a b = (a : Rat) / b := Rat.divInt_eq_div _ _
theorem cast_ne {a : Int} (h : 0 < a) : (a : Rat) ≠ 0 := by
  have := pow_ne (n := 1) h
  rwa [Rat.pow_one] at this
theorem fr_eq {a b c d : Int} (hb : 0 < b) (hd : 0 < d) (h : a * d = c * b) : fr a b = fr c d := by
  have hb' := cast_ne hb
  have hd' := cast_ne hd
  rw [fr_div, fr_div]
  have h' : (a : Rat) * d = c * b := by exact_mod_cast h
  generalize (a : Rat) = a at *
  generalize (b : Rat) = b at *
  generalize (c : Rat) = c at *
  generalize (d : Rat) = d at *
  grind
theorem fr_parts {a b : Int} (hb : 0 < b) : ∃ g : Int, 0 < g ∧ a = (fr a b).num * g ∧ b = ((fr a b).den : Int) * g := by
  have hg : 0 < Int.gcd a b := Nat.pos_of_ne_zero fun h => by
    have := (Int.gcd_eq_zero_iff.mp h).2
    omega
  have hnum : (fr a b).num = a / (Int.gcd a b : Int) := by unfold fr; rw [Rat.num_divInt, Int.gcd_comm, Int.sign_eq_one_of_pos hb, Int.one_mul]
  have hden : (fr a b).den = b.natAbs / Int.gcd a b := by unfold fr; rw [Rat.den_divInt, if_neg (by omega), Int.gcd_comm]
  refine ⟨Int.gcd a b, by omega, ?_, ?_⟩
  · rw [hnum]
    exact (Int.ediv_mul_cancel (Int.gcd_dvd_left _ _)).symm
  · rw [hden]
    have h1 : (Int.gcd a b : Int) ∣ b := Int.gcd_dvd_right _ _
    have h2 := Int.ediv_mul_cancel h1
    have e : ((b.natAbs / Int.gcd a b : Nat) : Int) = b / (Int.gcd a b : Int) := by
      rw [Int.natCast_ediv]
      congr 1
      omega
    rw [e]
    exact h2.symm
theorem fr_lt {a b c d : Int} (hb : 0 < b) (hd : 0 < d) : fr a b < fr c d ↔ a * d < c * b := by
  obtain ⟨g, g0, e1, e2⟩ := fr_parts (a := a) hb
  obtain ⟨k, k0, e3, e4⟩ := fr_parts (a := c) hd
  rw [Rat.lt_iff]
  generalize (fr a b).num = n1 at *
  generalize ((fr a b).den : Int) = d1 at *
  generalize (fr c d).num = n2 at *
  generalize ((fr c d).den : Int) = d2 at *
  rw [e1, e2, e3, e4]
  have gk : 0 < g * k := Int.mul_pos g0 k0
  have l : n1 * g * (d2 * k) = n1 * d2 * (g * k) := by grind
  have rr : n2 * k * (d1 * g) = n2 * d1 * (g * k) := by grind
  rw [l, rr]
  exact (Int.mul_lt_mul_right gk).symm
theorem fr_int (a : Int) : fr a 1 = (a : Rat) := by
  rw [fr_div]
  push_cast
  grind
theorem rt_int (a : Int) : (.tuple [.int a, .int 1] : D) = rt (a : Rat) := rfl
theorem num_pos {a b : Int} (hb : 0 < b) : 0 < (fr a b).num ↔ 0 < a := by
  obtain ⟨g, g0, e1, e2⟩ := fr_parts (a := a) hb
  generalize (fr a b).num = n at *
  constructor
  · intro h
    rw [e1]
    exact Int.mul_pos h g0
  · intro h
    rw [e1] at h
    exact Int.pos_of_mul_pos_left h (by omega)
end Lib
end

section
set_option Elab.async false
set_option linter.all false
set_option maxRecDepth 10000
/-! k44: the program's functions. -/
namespace Lib
open DS PySem
def den_parted : Fn := dfun 2 2 (sRet (eCall 2 den_lowest (aCons (eOp dMul (eIx (eVar 0) (eC (.int 0))) (eIx (eVar 1) (eC (.int 1)))) (aCons (eOp dMul (eIx (eVar 0) (eC (.int 1))) (eIx (eVar 1) (eC (.int 0)))) aNil))))
def den_as_ratio : Fn := dfun 1 1 (sRet (eIfD (tTru (eIsi "int" (eVar 0))) (eTup (aCons (eVar 0) (aCons (eC (.int 1)) aNil))) (eVar 0)))
def den_up_weight : Fn := dfun 3 3 (sRet (eCall 2 den_parted (aCons (eCall 2 den_minus (aCons (eVar 2) (aCons (eVar 1) aNil))) (aCons (eCall 2 den_minus (aCons (eVar 0) (aCons (eVar 1) aNil))) aNil))))
def den_paper_prices : Fn := dfun 7 4 (sSeq (sSet 4 0 (eLst (aCons (eVar 1) aNil)) ([(1, 0)] ++ []))
  (sSeq (sFor (iRange1 (eVar 0)) [] (.nm 5)
  (sSet 4 0 (eOp dAdd (eLc (iSeq (eVar 4)) (.nm 6) tTrue (eCall 2 den_times (aCons (eVar 6) (aCons (eVar 3) aNil))) [6]) (eLst (aCons (eCall 2 den_times (aCons (eIx (eVar 4) (eUn dNeg (eC (.int 1)))) (aCons (eVar 2) aNil))) aNil))) (([(4, 1)] ++ ([(6, 0)] ++ ([(3, 0)] ++ []))) ++ (([(4, 1)] ++ ([(2, 0)] ++ [])) ++ []))))
  (sRet (eVar 4))))
def den_gain_of_use : Fn := dfun 4 3 (sSeq (sSet 3 0 (eIfD (tCmp dEq (eVar 2) (eC (.str "call"))) (eCall 2 den_minus (aCons (eVar 0) (aCons (eVar 1) aNil))) (eCall 2 den_minus (aCons (eVar 1) (aCons (eVar 0) aNil)))) (([(0, 0)] ++ ([(1, 0)] ++ [])) ++ ([(1, 0)] ++ ([(0, 0)] ++ []))))
  (sRet (eIfD (tCmp dGt (eIx (eVar 3) (eC (.int 0))) (eC (.int 0))) (eVar 3) (eTup (aCons (eC (.int 0)) (aCons (eC (.int 1)) aNil))))))
def den_step_back : Fn := dfun 8 4 (sSeq (sSet 4 0 (eCall 3 den_up_weight (aCons (eVar 1) (aCons (eVar 2) (aCons (eVar 3) aNil)))) ([(1, 0)] ++ ([(2, 0)] ++ ([(3, 0)] ++ []))))
  (sSeq (sSet 5 0 (eCall 2 den_minus (aCons (eTup (aCons (eC (.int 1)) (aCons (eC (.int 1)) aNil))) (aCons (eVar 4) aNil))) (([] ++ ([] ++ [])) ++ ([(4, 0)] ++ [])))
  (sRet (eLc (iZip2 (eVar 0) (eSl (eVar 0) (oSome (eC (.int 1))) oNone)) (.tp [(.nm 6), (.nm 7)]) tTrue (eCall 2 den_parted (aCons (eCall 2 den_plus (aCons (eCall 2 den_times (aCons (eVar 4) (aCons (eVar 7) aNil))) (aCons (eCall 2 den_times (aCons (eVar 5) (aCons (eVar 6) aNil))) aNil))) (aCons (eVar 3) aNil))) [6, 7]))))
def den_end_worths : Fn := dfun 7 6 (sRet (eLc (iSeq (eCall 4 den_paper_prices (aCons (eVar 0) (aCons (eCall 1 den_as_ratio (aCons (eVar 1) aNil)) (aCons (eVar 2) (aCons (eVar 3) aNil)))))) (.nm 6) tTrue (eCall 3 den_gain_of_use (aCons (eVar 6) (aCons (eCall 1 den_as_ratio (aCons (eVar 4) aNil)) (aCons (eVar 5) aNil)))) [6]))
def den_option_price : Fn := dfun 9 7 (sSeq (sSet 7 0 (eCall 6 den_end_worths (aCons (eVar 0) (aCons (eVar 1) (aCons (eVar 2) (aCons (eVar 3) (aCons (eVar 5) (aCons (eVar 6) aNil))))))) ([(0, 0)] ++ ([(1, 0)] ++ ([(2, 0)] ++ ([(3, 0)] ++ ([(5, 0)] ++ ([(6, 0)] ++ [])))))))
  (sSeq (sFor (iRange1 (eVar 0)) [] (.nm 8)
  (sSet 7 0 (eCall 4 den_step_back (aCons (eVar 7) (aCons (eVar 2) (aCons (eVar 3) (aCons (eVar 4) aNil))))) ([(7, 0)] ++ ([(2, 0)] ++ ([(3, 0)] ++ ([(4, 0)] ++ []))))))
  (sRet (eIx (eVar 7) (eC (.int 0))))))
def den_early_price : Fn := dfun 12 7 (sSeq (sSet 7 0 (eCall 6 den_end_worths (aCons (eVar 0) (aCons (eVar 1) (aCons (eVar 2) (aCons (eVar 3) (aCons (eVar 5) (aCons (eVar 6) aNil))))))) ([(0, 0)] ++ ([(1, 0)] ++ ([(2, 0)] ++ ([(3, 0)] ++ ([(5, 0)] ++ ([(6, 0)] ++ [])))))))
  (sSeq (sFor (iRange3 (eOp dSub (eVar 0) (eC (.int 1))) (eUn dNeg (eC (.int 1))) (eUn dNeg (eC (.int 1)))) [] (.nm 8)
  (sSeq (sSet 9 0 (eCall 6 den_end_worths (aCons (eVar 8) (aCons (eVar 1) (aCons (eVar 2) (aCons (eVar 3) (aCons (eVar 5) (aCons (eVar 6) aNil))))))) ([(8, 0)] ++ ([(1, 0)] ++ ([(2, 0)] ++ ([(3, 0)] ++ ([(5, 0)] ++ ([(6, 0)] ++ [])))))))
  (sSet 7 0 (eLc (iZip2 (eVar 9) (eCall 4 den_step_back (aCons (eVar 7) (aCons (eVar 2) (aCons (eVar 3) (aCons (eVar 4) aNil)))))) (.tp [(.nm 10), (.nm 11)]) tTrue (eCall 1 den_greatest (aCons (eTup (aCons (eVar 10) (aCons (eVar 11) aNil))) aNil)) [10, 11]) (([(9, 1)] ++ ([(7, 0)] ++ ([(2, 0)] ++ ([(3, 0)] ++ ([(4, 0)] ++ []))))) ++ (([(10, 0)] ++ ([(11, 0)] ++ [])) ++ [])))))
  (sRet (eIx (eVar 7) (eC (.int 0))))))
def den_copy_share : Fn := dfun 9 7 (sSeq (sIf (tCmp dEq (eVar 0) (eC (.int 0)))
  (sRet (eTup (aCons (eC (.int 0)) (aCons (eC (.int 1)) aNil))))
  sNil)
  (sSeq (sSet 7 0 (eCall 6 den_end_worths (aCons (eVar 0) (aCons (eVar 1) (aCons (eVar 2) (aCons (eVar 3) (aCons (eVar 5) (aCons (eVar 6) aNil))))))) ([(0, 0)] ++ ([(1, 0)] ++ ([(2, 0)] ++ ([(3, 0)] ++ ([(5, 0)] ++ ([(6, 0)] ++ [])))))))
  (sSeq (sFor (iRange1 (eOp dSub (eVar 0) (eC (.int 1)))) [] (.nm 8)
  (sSet 7 0 (eCall 4 den_step_back (aCons (eVar 7) (aCons (eVar 2) (aCons (eVar 3) (aCons (eVar 4) aNil))))) ([(7, 0)] ++ ([(2, 0)] ++ ([(3, 0)] ++ ([(4, 0)] ++ []))))))
  (sRet (eCall 2 den_parted (aCons (eCall 2 den_minus (aCons (eIx (eVar 7) (eC (.int 1))) (aCons (eIx (eVar 7) (eC (.int 0))) aNil))) (aCons (eCall 2 den_times (aCons (eCall 1 den_as_ratio (aCons (eVar 1) aNil)) (aCons (eCall 2 den_minus (aCons (eVar 2) (aCons (eVar 3) aNil))) aNil))) aNil)))))))
theorem Sm.pos {m : Nat} {q : Rat} (h : Sm m q) : 0 < m := by
  cases m with
  | zero =>
    have := h.2
    have := q.den_pos
    simp at *
    omega
  | succ m => omega
theorem parted_ok {p q : Rat} {m n : Nat} (hp : Sm m p) (hq : Sm n q) (h0 : 0 < q.num) (h : m + n ≤ 8000) : den_parted [rt p, rt q] = some (rt (p / q)) ∧ Sm (m + n) (p / q) := by
  have hm := hp.pos
  have hn := hq.pos
  have e : p / q = Rat.divInt (p.num * q.den) (p.den * q.num) := by
    have a1 := Rat.num_divInt_den p
    have a2 := Rat.num_divInt_den q
    have b1 := den_pos p
    have b2 := den_pos q
    have c1 := cast_ne b1
    have c2 := cast_ne b2
    have c3 := cast_ne h0
    rw [Rat.divInt_eq_div] at a1 a2
    have k : ((p.num : Rat) / ((p.den : Int) : Rat)) / ((q.num : Rat) / ((q.den : Int) : Rat)) = ((p.num : Rat) * ((q.den : Int) : Rat)) / (((p.den : Int) : Rat) * (q.num : Rat)) := by
      generalize (p.num : Rat) = A at *
      generalize (((p.den : Int)) : Rat) = B at *
      generalize (q.num : Rat) = C at *
      generalize (((q.den : Int)) : Rat) = E at *
      grind
    rw [a1, a2] at k
    rw [k, Rat.divInt_eq_div, Rat.intCast_mul, Rat.intCast_mul]
  have hd : (0 : Int) < p.den * q.num := Int.mul_pos (den_pos p) h0
  have b1 : (p.num * q.den).natAbs < 2 ^ (m + n) := natAbs_mul_lt hp.1 (by simpa using hq.2)
  have b2 : ((p.den : Int) * q.num).natAbs < 2 ^ (m + n) := natAbs_mul_lt (by simpa using hp.2) hq.1
  have m1 : mulOk p.num q.den = true := mulOk_big (m := m) (n := n) hp.1 (by simpa using hq.2) hm hn (by omega)
  have m2 : mulOk (p.den : Int) q.num = true := mulOk_big (m := m) (n := n) (by simpa using hp.2) hq.1 hm hn (by omega)
  refine ⟨?_, by rw [e]; exact Sm.divInt (n := n) hd b1 b2⟩
  have hl := lowest_ok (a := p.num * q.den) hd b2 (by omega)
  rw [← e] at hl
  exact dfun_ret [some (rt p), some (rt q)] [0, 0] rfl rfl rfl (sRet_ok (by simp only [eCall_2, eOp_a, eIx_a, eVar_0, eVar_s, eC_a, o1_s, o2_ss, rt_0, rt_1, dMul_i m1, dMul_i m2, hl]))
theorem as_ratio_int (i : Int) : den_as_ratio [.int i] = some (rt (i : Rat)) := by
  exact dfun_ret [some (.int i)] [0] rfl rfl rfl (sRet_ok (by simp [eIfD, eTup, sz, rt_int]))
theorem as_ratio_rt (q : Rat) : den_as_ratio [rt q] = some (rt q) := by
  refine dfun_ret [some (rt q)] [0] rfl rfl rfl (sRet_ok ?_)
  have e : rt q = .tuple [.int q.num, .int q.den] := rfl
  rw [e]
  simp [eIfD]
theorem sm_one1 : Sm 2 1 := ⟨by decide, by decide⟩
theorem rt_one1 : (.tuple [.int 1, .int 1] : D) = rt 1 := rfl
theorem lc_of {α : Type} {t : Tg} {fe : FE} {ρ : PEnv} (h g : α → D) : ∀ {l : List α}, (∀ a ∈ l, ∃ m, t.go (h a) = some m ∧ fe (setsD ρ m) = some (g a)) → lcGo t tTrue fe ρ (l.map h) = some (l.map g)
  | [], _ => rfl
  | a :: l, hh => by
    obtain ⟨m, e1, e2⟩ := hh a (.head _)
    have ih := lc_of h g (l := l) fun d' hd => hh d' (.tail _ hd)
    simp only [List.map_cons]
    unfold lcGo
    rw [e1]
    simp only [tTrue_a, e2, ih]
theorem eLc_of {α : Type} {fi : FA} {t : Tg} {fe : FE} {vs : List Nat} {ρ : PEnv} (h g : α → D) {l : List α} (hi : fi ρ = some (l.map h)) (hl : l.length ≤ 16777216) (hg : ∀ a ∈ l, ∃ m, t.go (h a) = some m ∧ fe (setsD (wipeD ρ vs) m) = some (g a)) :
    eLc fi t tTrue fe vs ρ = some (.list (l.map g)) := by
  unfold eLc
  rw [hi, o1_s]
  have : (l.map h).length ≤ sz := by rw [List.length_map]; exact hl
  rw [if_pos this, lc_of h g hg, o1_s]
namespace R4
variable {r : R4}
def U (r : R4) : Rat := fr r.z r.q
def Dn (r : R4) : Rat := fr r.x r.q
def Rr (r : R4) : Rat := fr r.y r.q
theorem Ok.U_sm (h : Ok r) : Sm 8 r.U := by
  have := h.x1; have := h.xy; have := h.yz; have := h.z14; have := h.q1; have := h.q6
  exact fr_sm (by omega) (by omega) (by omega)
theorem Ok.D_sm (h : Ok r) : Sm 8 r.Dn := by
  have := h.x1; have := h.xy; have := h.yz; have := h.z14; have := h.q1; have := h.q6
  exact fr_sm (by omega) (by omega) (by omega)
theorem Ok.R_sm (h : Ok r) : Sm 8 r.Rr := by
  have := h.x1; have := h.xy; have := h.yz; have := h.z14; have := h.q1; have := h.q6
  exact fr_sm (by omega) (by omega) (by omega)
theorem Ok.R_pos (h : Ok r) : 0 < r.Rr.num := (num_pos (by have := h.q1; omega)).mpr (by have := h.x1; have := h.xy; omega)
theorem Ok.UD (h : Ok r) : r.U - r.Dn = fr (r.z - r.x) r.q := by
  have q0 := cast_ne (show 0 < r.q by have := h.q1; omega)
  unfold U Dn
  rw [fr_div, fr_div, fr_div]
  push_cast
  grind
theorem Ok.UD_pos (h : Ok r) : 0 < (r.U - r.Dn).num := by
  rw [h.UD]
  exact (num_pos (by have := h.q1; omega)).mpr (by have := h.xy; have := h.yz; omega)
def Wt (r : R4) : Rat := (r.Rr - r.Dn) / (r.U - r.Dn)
theorem Ok.Wt_eq (h : Ok r) : r.Wt = ((r.y - r.x : Int) : Rat) / ((r.z - r.x : Int) : Rat) := by
  have q0 := cast_ne (show 0 < r.q by have := h.q1; omega)
  have z0 := cast_ne (show 0 < r.z - r.x by have := h.xy; have := h.yz; omega)
  unfold Wt
  rw [h.UD]
  unfold Rr Dn
  rw [fr_div, fr_div, fr_div]
  push_cast at *
  grind
theorem Ok.up_weight (h : Ok r) : den_up_weight [rt r.U, rt r.Dn, rt r.Rr] = some (rt r.Wt) ∧ Sm 34 r.Wt := by
  have a := minus_ok h.R_sm h.D_sm (by decide) (by decide) (by decide)
  have b := minus_ok h.U_sm h.D_sm (by decide) (by decide) (by decide)
  have c := parted_ok a.2 b.2 h.UD_pos (by decide)
  exact ⟨dfun_ret [some (rt r.U), some (rt r.Dn), some (rt r.Rr)] [0, 0, 0] rfl rfl rfl (sRet_ok (by simp only [eCall_2, eVar_0, eVar_s, o1_s, a.1, b.1, c.1]; rfl)), c.2⟩
/-- what a step back gives -/
theorem Ok.back_val (h : Ok r) {a1 a0 e : Int} (he : 0 < e) : (r.Wt * fr a1 (r.q * e) + (1 - r.Wt) * fr a0 (r.q * e)) / r.Rr = fr ((r.y - r.x) * a1 + (r.z - r.y) * a0) (e * r.M) := by
  have q0 := cast_ne (show 0 < r.q by have := h.q1; omega)
  have z0 := cast_ne (show 0 < r.z - r.x by have := h.xy; have := h.yz; omega)
  have y0 := cast_ne (show 0 < r.y by have := h.x1; have := h.xy; omega)
  have e0 := cast_ne he
  rw [h.Wt_eq]
  unfold Rr M
  rw [fr_div, fr_div, fr_div, fr_div]
  push_cast at *
  generalize (r.x : Rat) = X at *
  generalize (r.y : Rat) = Y at *
  generalize (r.z : Rat) = Z at *
  generalize (r.q : Rat) = Q at *
  generalize (e : Rat) = E at *
  generalize (a1 : Rat) = A1 at *
  generalize (a0 : Rat) = A0 at *
  grind
theorem Ok.step_back (h : Ok r) {m : Nat} {a : Nat → Int} {e : Int} (hm : m ≤ 1000) (he : 0 < e) (hs : ∀ k, k ≤ m → Sm 100 (fr (a k) (r.q * e))) :
    den_step_back [Ls (m + 1) fun k => fr (a k) (r.q * e), rt r.U, rt r.Dn, rt r.Rr] = some (Ls m fun k => fr ((r.y - r.x) * a (k + 1) + (r.z - r.y) * a k) (e * r.M)) := by
  have up := h.up_weight
  have ot := minus_ok sm_one1 up.2 (by decide) (by decide) (by decide)
  refine dfun_ret [some (Ls (m + 1) fun k => fr (a k) (r.q * e)), some (rt r.U), some (rt r.Dn), some (rt r.Rr), none, none, none, none] [0, 0, 0, 0, 0, 0, 0, 0] rfl rfl rfl ?_
  rw [sSeq_next (sSet_flat (d := rt r.Wt) (by simp only [eCall_3, eVar_0, eVar_s, o1_s, up.1]) rfl)]
  simp only [List.set_cons_zero, List.set_cons_succ]
  rw [sSeq_next (sSet_flat (d := rt (1 - r.Wt)) (by simp only [eCall_2, eTup, aCons_a, aNil_a, eC_a, eVar_0, eVar_s, o2_ss, o1_s, List.length_cons, List.length_nil, Nat.zero_add, Nat.reduceAdd, sz, Nat.reduceLeDiff, if_true, rt_one1, ot.1]) rfl)]
  simp only [List.set_cons_zero, List.set_cons_succ]
  refine sRet_ok (eLc_of (l := List.range m) (fun k => .tuple [rt (fr (a k) (r.q * e)), rt (fr (a (k + 1)) (r.q * e))]) (fun k => rt (fr ((r.y - r.x) * a (k + 1) + (r.z - r.y) * a k) (e * r.M))) ?_ (by simp; omega) fun k hk => ⟨[(6, rt (fr (a k) (r.q * e))), (7, rt (fr (a (k + 1)) (r.q * e)))], rfl, ?_⟩)
  · have c := Ls_cut (m := m) (f := fun k => fr (a k) (r.q * e))
    have z := Ls_zip (m := m + 1) (l := m) (f := fun k => fr (a k) (r.q * e)) (g := fun k => fr (a (k + 1)) (r.q * e)) (by omega)
    simp only [iZip2, eSl, oNone, oSome, eVar_0, eC_a, o1_s, c, o2_ss]
    simp only [Ls, seqOf_l, o2_ss, z]
  · have hk := List.mem_range.mp hk
    have t1 := times_ok up.2 (hs (k + 1) (by omega)) (by decide) (by decide) (by decide)
    have t2 := times_ok ot.2 (hs k (by omega)) (by decide) (by decide) (by decide)
    have t3 := plus_ok t1.2 t2.2 (by decide) (by decide) (by decide)
    have t4 := parted_ok t3.2 h.R_sm h.R_pos (by decide)
    have v := h.back_val (a1 := a (k + 1)) (a0 := a k) he
    rw [v] at t4
    simp only [setsD, wipeD, List.foldl_cons, List.foldl_nil, List.set_cons_zero, List.set_cons_succ, eCall_2, eVar_0, eVar_s, o1_s, t1.1, t2.1, t3.1, t4.1]
end R4
end Lib
end

section
set_option Elab.async false
set_option linter.all false
set_option maxRecDepth 10000
/-! k44: prices, gains, the three told numbers. -/
namespace Lib
open DS PySem
theorem dAdd_l {xs ys : List D} (h : xs.length + ys.length ≤ 16777216) : dAdd (.list xs) (.list ys) = some (.list (xs ++ ys)) := by
  show (if xs.length + ys.length ≤ sz then some (PyData.list (xs ++ ys)) else none) = _
  exact if_pos h
theorem Ls_snoc (m : Nat) (f : Nat → Rat) : (PyData.list (((List.range m).map fun k => rt (f k)) ++ [rt (f m)])) = Ls (m + 1) f := by
  unfold Ls
  rw [List.range_succ, List.map_append]
  rfl
def kd (sg : Int) : Str := if sg = 1 then Str.ofString "call" else Str.ofString "put"
theorem kd_call : dEq (.str (Str.ofString "call")) (.str (Str.ofString "call")) = some true := by decide +kernel
theorem kd_put : dEq (.str (Str.ofString "put")) (.str (Str.ofString "call")) = some false := by decide +kernel
namespace R4
variable {r : R4}
def prq (r : R4) (t k : Nat) : Rat := fr (r.pr t k) (r.q ^ t)
theorem Ok.prq_sm (h : Ok r) {t k : Nat} (hk : k ≤ t) (ht : t ≤ 6) : Sm 40 (r.prq t k) := by
  have a := h.pr_bd hk ht
  have b := h.q_bd ht
  exact fr_sm b.1 (by omega) (by omega)
theorem Ok.prq_down (h : Ok r) {t k : Nat} (hk : k ≤ t) : r.prq t k * r.Dn = r.prq (t + 1) k := by
  have q0 : 0 < r.q := by have := h.q1; omega
  have e : t + 1 - k = (t - k) + 1 := by omega
  unfold prq Dn pr
  rw [e, fr_div, fr_div, fr_div]
  have c := cast_ne q0
  have c2 := cast_ne (ipos t q0)
  push_cast at *
  rw [Rat.pow_succ, Rat.pow_succ]
  generalize ((r.q : Rat) ^ t) = Qt at *
  grind
theorem Ok.prq_up (h : Ok r) (t : Nat) : r.prq t t * r.U = r.prq (t + 1) (t + 1) := by
  have q0 : 0 < r.q := by have := h.q1; omega
  unfold prq U pr
  rw [Nat.sub_self, Nat.sub_self, fr_div, fr_div, fr_div]
  have c := cast_ne q0
  have c2 := cast_ne (ipos t q0)
  push_cast at *
  rw [Rat.pow_succ, Rat.pow_succ]
  generalize ((r.q : Rat) ^ t) = Qt at *
  grind
theorem Ok.prices (h : Ok r) {t : Nat} (ht : t ≤ 6) : den_paper_prices [.int t, rt (r.s : Rat), rt r.U, rt r.Dn] = some (Ls (t + 1) (r.prq t)) := by
  refine dfun_ret [some (.int t), some (rt (r.s : Rat)), some (rt r.U), some (rt r.Dn), none, none, none] [0, 0, 0, 0, 0, 0, 0] rfl rfl rfl ?_
  have e0 : (r.s : Rat) = r.prq 0 0 := by
    unfold prq pr
    simp
    exact (fr_int r.s).symm
  rw [sSeq_next (s' := ([some (.int t), some (rt (r.s : Rat)), some (rt r.U), some (rt r.Dn), some (Ls 1 (r.prq 0)), none, none], [0, 0, 0, 0, 0, 0, 0])) (by
    rw [sSet_next (d := Ls 1 (r.prq 0)) (by rw [← Ls_snoc]; simp [eLst, sz, e0])]
    rfl)]
  obtain ⟨s', e, x5, x6, rfl⟩ := for_rng (i := 5) (n := t) (lo := 0) (body := sSet 4 0 (eOp dAdd (eLc (iSeq (eVar 4)) (.nm 6) tTrue (eCall 2 den_times (aCons (eVar 6) (aCons (eVar 3) aNil))) [6]) (eLst (aCons (eCall 2 den_times (aCons (eIx (eVar 4) (eUn dNeg (eC (.int 1)))) (aCons (eVar 2) aNil))) aNil))) (([(4, 1)] ++ ([(6, 0)] ++ ([(3, 0)] ++ []))) ++ (([(4, 1)] ++ ([(2, 0)] ++ [])) ++ [])))
    (fun i s => ∃ x5 x6, s = ([some (.int t), some (rt (r.s : Rat)), some (rt r.U), some (rt r.Dn), some (Ls (i + 1) (r.prq i)), x5, x6], [0, 0, 0, 0, 0, 0, 0]))
    _ ⟨none, none, rfl⟩ (by
      rintro i _ hi ⟨x5, x6, rfl⟩
      refine ⟨_, ?_, some (.int (0 + i)), x6, rfl⟩
      rw [sSet_next (d := Ls (i + 1 + 1) (r.prq (i + 1))) (by
        have up := times_ok (h.prq_sm (t := i) (k := i) (Nat.le_refl _) (by omega)) h.U_sm (by decide) (by decide) (by decide)
        have l := eLc_of (fi := iSeq (eVar 4)) (t := .nm 6) (fe := eCall 2 den_times (aCons (eVar 6) (aCons (eVar 3) aNil))) (vs := [6]) (l := List.range (i + 1)) (ρ := [some (.int t), some (rt (r.s : Rat)), some (rt r.U), some (rt r.Dn), some (Ls (i + 1) (r.prq i)), some (.int (0 + i)), x6])
          (fun k => rt (r.prq i k)) (fun k => rt (r.prq (i + 1) k)) rfl (by simp; omega) fun k hk => ⟨[(6, rt (r.prq i k))], rfl, by
            have hk := List.mem_range.mp hk
            have t1 := times_ok (h.prq_sm (t := i) (k := k) (by omega) (by omega)) h.D_sm (by decide) (by decide) (by decide)
            rw [h.prq_down (by omega)] at t1
            simp only [setsD, wipeD, List.foldl_cons, List.foldl_nil, List.set_cons_zero, List.set_cons_succ, eCall_2, eVar_0, eVar_s, o1_s, t1.1]⟩
        rw [h.prq_up] at up
        have add := dAdd_l (xs := (List.range (i + 1)).map fun k => rt (r.prq (i + 1) k)) (ys := [rt (r.prq (i + 1) (i + 1))]) (by simp; omega)
        rw [Ls_snoc] at add
        simp only [eOp_a, List.set_cons_zero, List.set_cons_succ]
        rw [l]
        simp only [eLst, aCons_a, aNil_a, eCall_2, eIx_a, eUn_a, eC_a, o1_s, o2_ss, dNeg_i, eVar_0, eVar_s, Ls_last, up.1, List.length_cons, List.length_nil, Nat.zero_add, Nat.reduceAdd, sz, Nat.reduceLeDiff, if_true, add])]
      rfl)
  rw [sSeq_next (s' := _) (by
    rw [sFor_go (range1_ok (n := t) (by simp) (by omega))]
    exact e)]
  exact sRet_ok (by simp)
def gnq (r : R4) (t k : Nat) : Rat := fr (r.gn t k) (r.q ^ t)
theorem Ok.gnq_sm (h : Ok r) {t k : Nat} (hk : k ≤ t) (ht : t ≤ 6) : Sm 40 (r.gnq t k) := by
  have a := h.gn_bd hk ht
  have b := h.q_bd ht
  exact fr_sm b.1 (by omega) (by omega)
theorem Ok.gain (h : Ok r) {t k : Nat} (hk : k ≤ t) (ht : t ≤ 6) : den_gain_of_use [rt (r.prq t k), rt (r.K : Rat), .str (kd r.sg)] = some (rt (r.gnq t k)) := by
  have qb := h.q_bd ht
  have q0 := cast_ne qb.1
  have sK : Sm 8 (r.K : Rat) := by
    have := h.K0; have := h.K86
    rw [← fr_int]
    exact fr_sm (by decide) (by omega) (by omega)
  have fin : ∀ (d : Int) (c : Rat), c = fr d (r.q ^ t) → d = r.sg * (r.pr t k - r.K * r.q ^ t) → (sRet (eIfD (tCmp dGt (eIx (eVar 3) (eC (.int 0))) (eC (.int 0))) (eVar 3) (eTup (aCons (eC (.int 0)) (aCons (eC (.int 1)) aNil))))) ([some (rt (r.prq t k)), some (rt (r.K : Rat)), some (.str (kd r.sg)), some (rt c)], [0, 0, 0, 0]) = .ret (rt (r.gnq t k)) := by
    intro d c hc hd
    refine sRet_ok ?_
    have np := num_pos (a := d) qb.1
    rw [← hc] at np
    by_cases h0 : 0 < d
    · have e : r.gnq t k = c := by
        unfold gnq gn mx
        rw [← hd, if_pos h0, hc]
      have := np.mpr h0
      simp only [eIfD, tCmp_a, eIx_a, eVar_0, eVar_s, eC_a, o2_ss, rt_0, dGt_i, this, decide_true, e]
    · have e : r.gnq t k = 0 := by
        unfold gnq gn mx
        rw [← hd, if_neg h0, fr_div]
        push_cast
        grind
      have : ¬ 0 < c.num := fun z => h0 (np.mp z)
      simp only [eIfD, tCmp_a, eIx_a, eVar_0, eVar_s, eC_a, o2_ss, rt_0, dGt_i, this, decide_false, e, eTup, aCons_a, aNil_a, o1_s]
      rfl
  refine dfun_ret [some (rt (r.prq t k)), some (rt (r.K : Rat)), some (.str (kd r.sg)), none] [0, 0, 0, 0] rfl rfl rfl ?_
  rcases h.sg with e | e
  · have m := minus_ok (h.prq_sm hk ht) sK (by decide) (by decide) (by decide)
    have v : r.prq t k - (r.K : Rat) = fr (r.pr t k - r.K * r.q ^ t) (r.q ^ t) := by
      unfold prq
      rw [fr_div, fr_div]
      push_cast at *
      generalize ((r.q : Rat) ^ t) = Qt at *
      grind
    have kk : kd r.sg = Str.ofString "call" := by rw [e]; rfl
    rw [sSeq_next (s' := ([some (rt (r.prq t k)), some (rt (r.K : Rat)), some (.str (kd r.sg)), some (rt (r.prq t k - (r.K : Rat)))], [0, 0, 0, 0])) (by
      rw [sSet_flat (d := rt (r.prq t k - (r.K : Rat))) (by simp only [eIfD, tCmp_a, eVar_0, eVar_s, eC_a, o2_ss, kk, kd_call, eCall_2, o1_s, m.1]) rfl]
      rfl)]
    exact fin _ _ v (by rw [e]; omega)
  · have m := minus_ok sK (h.prq_sm hk ht) (by decide) (by decide) (by decide)
    have v : (r.K : Rat) - r.prq t k = fr (-(r.pr t k - r.K * r.q ^ t)) (r.q ^ t) := by
      unfold prq
      rw [fr_div, fr_div]
      push_cast at *
      generalize ((r.q : Rat) ^ t) = Qt at *
      grind
    have kk : kd r.sg = Str.ofString "put" := by rw [e]; rfl
    rw [sSeq_next (s' := ([some (rt (r.prq t k)), some (rt (r.K : Rat)), some (.str (kd r.sg)), some (rt ((r.K : Rat) - r.prq t k))], [0, 0, 0, 0])) (by
      rw [sSet_flat (d := rt ((r.K : Rat) - r.prq t k)) (by simp only [eIfD, tCmp_a, eVar_0, eVar_s, eC_a, o2_ss, kk, kd_put, eCall_2, o1_s, m.1]) rfl]
      rfl)]
    exact fin _ _ v (by rw [e]; omega)
theorem Ok.ends (h : Ok r) {t : Nat} (ht : t ≤ 6) : den_end_worths [.int t, .int r.s, rt r.U, rt r.Dn, .int r.K, .str (kd r.sg)] = some (Ls (t + 1) (r.gnq t)) := by
  refine dfun_ret [some (.int t), some (.int r.s), some (rt r.U), some (rt r.Dn), some (.int r.K), some (.str (kd r.sg)), none] [0, 0, 0, 0, 0, 0, 0] rfl rfl rfl ?_
  have p := h.prices ht
  refine sRet_ok (eLc_of (l := List.range (t + 1)) (fun k => rt (r.prq t k)) (fun k => rt (r.gnq t k)) ?_ (by simp; omega) fun k hk => ⟨[(6, rt (r.prq t k))], rfl, ?_⟩)
  · simp only [iSeq_a, eCall_4, eCall_1, eVar_0, eVar_s, o1_s, as_ratio_int, p, Ls, seqOf_l]
  · have g := h.gain (t := t) (k := k) (by have := List.mem_range.mp hk; omega) ht
    simp only [setsD, wipeD, List.foldl_cons, List.foldl_nil, List.set_cons_zero, List.set_cons_succ, eCall_3, eCall_1, eVar_0, eVar_s, o1_s, as_ratio_int, g]
end R4
end Lib
end

section
set_option Elab.async false
set_option linter.all false
set_option maxRecDepth 10000
/-! k44: option_price, early_price, copy_share. -/
namespace Lib
open DS PySem
theorem dn_get {lo : Int} {n k : Nat} {d : D} (h : (rngDn lo n)[k]? = some d) : k < n ∧ d = .int (lo - k) := by
  have hk : k < n := by
    have := (List.getElem?_eq_some_iff.mp h).1
    simpa [rngDn] using this
  refine ⟨hk, ?_⟩
  unfold rngDn at h
  rw [List.getElem?_map, List.getElem?_range hk] at h
  exact (Option.some.inj h).symm
theorem for_dn {i : Nat} {body : FS} {n : Nat} {lo : Int} (P : Nat → S → Prop) (s : S) (h0 : P 0 s)
    (st : ∀ (k : Nat) (s : S), k < n → P k s → ∃ s', body (s.1.set i (some (.int (lo - k))), s.2.set i 0) = .next s' ∧ P (k + 1) s') :
    ∃ s', forGo (.nm i) body (rngDn lo n) s = .next s' ∧ P n s' := by
  obtain ⟨s', e, h⟩ := for_inv (t := .nm i) (body := body) P (rngDn lo n) 0 s h0 (fun k d s hd hp => by
    obtain ⟨hk, rfl⟩ := dn_get hd
    rw [Nat.zero_add] at hp ⊢
    obtain ⟨s', e, h'⟩ := st k s hk hp
    exact ⟨[(i, .int (lo - k))], s', by simp [Tg.go], e, h'⟩)
  rw [Nat.zero_add] at h
  have e2 : (rngDn lo n).length = n := by simp [rngDn]
  rw [e2] at h
  exact ⟨s', e, h⟩
theorem range3_ok {f g h : FE} {ρ : PEnv} {i : Int} {n : Nat} (h1 : f ρ = some (.int i)) (h2 : g ρ = some (.int (-1))) (h3 : h ρ = some (.int (-1))) (hn : i = (n : Int) - 1) (b : n < 4611686018427387904) : iRange3 f g h ρ = some (rngDn i n) := by
  unfold iRange3
  rw [h1, h2, h3]
  have r1 : rngOk i (-1) = true := by
    unfold rngOk
    simp only [Bool.and_eq_true, decide_eq_true_eq]
    refine ⟨⟨⟨?_, ?_⟩, ?_⟩, ?_⟩ <;> omega
  have : (rngOk i (-1) && decide ((-1 : Int) = -1)) = true := by
    rw [r1]
    rfl
  show (if (rngOk i (-1) && decide ((-1 : Int) = -1)) = true then some (rngDn i (i - -1).toNat) else none) = _
  rw [if_pos this]
  have e : (i - -1).toNat = n := by omega
  rw [e]
theorem greatest_two {a b : Rat} {m n : Nat} (ha : Sm m a) (hb : Sm n b) (h1 : m + m ≤ 8000) (h2 : m + n ≤ 8000) : den_greatest [.tuple [rt a, rt b]] = some (rt (if a < b then b else a)) := by
  have hm := ha.pos
  have hn := hb.pos
  have l1 := is_less_ok ha ha hm hm h1
  have l2 := is_less_ok ha hb hm hn h2
  have irr : decide (a < a) = false := by simp [Rat.lt_irrefl]
  rw [irr] at l1
  refine dfun_ret [some (.tuple [rt a, rt b]), none, none] [0, 0, 0] rfl rfl rfl ?_
  rw [sSeq_next (sSet_flat (d := rt a) (by
    have : dIx (.tuple [rt a, rt b]) (.int 0) = some (rt a) := atI_0
    simp [this]) rfl)]
  simp only [List.set_cons_zero, List.set_cons_succ]
  have step : ∀ (c : Rat) (y : Option D), Sm m c → den_is_less [rt a, rt c] = some (.bool (decide (a < c))) → True := fun _ _ _ _ => trivial
  have s1 : sSet 1 0 (eIfD (tTru (eCall 2 den_is_less (aCons (eVar 1) (aCons (eVar 2) aNil)))) (eVar 2) (eVar 1)) ([(2, 0)] ++ [(1, 0)]) ([some (.tuple [rt a, rt b]), some (rt a), some (rt a)], [0, 0, 0]) = .next ([some (.tuple [rt a, rt b]), some (rt a), some (rt a)], [0, 0, 0]) := by
    rw [sSet_flat (d := rt a) (by simp only [eIfD, tTru_a, eCall_2, eVar_0, eVar_s, o1_s, l1, dTru_b]) rfl]
    rfl
  have s2 : sSet 1 0 (eIfD (tTru (eCall 2 den_is_less (aCons (eVar 1) (aCons (eVar 2) aNil)))) (eVar 2) (eVar 1)) ([(2, 0)] ++ [(1, 0)]) ([some (.tuple [rt a, rt b]), some (rt a), some (rt b)], [0, 0, 0]) = .next ([some (.tuple [rt a, rt b]), some (rt (if a < b then b else a)), some (rt b)], [0, 0, 0]) := by
    rw [sSet_flat (d := rt (if a < b then b else a)) (by
      by_cases hab : a < b
      · simp only [eIfD, tTru_a, eCall_2, eVar_0, eVar_s, o1_s, l2, dTru_b, hab, decide_true, if_true]
      · simp only [eIfD, tTru_a, eCall_2, eVar_0, eVar_s, o1_s, l2, dTru_b, hab, decide_false, if_false]) rfl]
    rfl
  rw [sSeq_next (s' := ([some (.tuple [rt a, rt b]), some (rt (if a < b then b else a)), some (rt b)], [0, 0, 0])) (by
    rw [sFor_go (ds := [rt a, rt b]) (by simp)]
    show (match sSet 1 0 (eIfD (tTru (eCall 2 den_is_less (aCons (eVar 1) (aCons (eVar 2) aNil)))) (eVar 2) (eVar 1)) ([(2, 0)] ++ [(1, 0)]) ([some (.tuple [rt a, rt b]), some (rt a), some (rt a)], [0, 0, 0]) with
        | .next s' => forGo (.nm 2) (sSet 1 0 (eIfD (tTru (eCall 2 den_is_less (aCons (eVar 1) (aCons (eVar 2) aNil)))) (eVar 2) (eVar 1)) ([(2, 0)] ++ [(1, 0)])) [rt b] s'
        | .cont s' => forGo (.nm 2) (sSet 1 0 (eIfD (tTru (eCall 2 den_is_less (aCons (eVar 1) (aCons (eVar 2) aNil)))) (eVar 2) (eVar 1)) ([(2, 0)] ++ [(1, 0)])) [rt b] s'
        | .brk s' => .next s'
        | .ret d => .ret d
        | .stuck => .stuck) = _
    rw [s1]
    show (match sSet 1 0 (eIfD (tTru (eCall 2 den_is_less (aCons (eVar 1) (aCons (eVar 2) aNil)))) (eVar 2) (eVar 1)) ([(2, 0)] ++ [(1, 0)]) ([some (.tuple [rt a, rt b]), some (rt a), some (rt b)], [0, 0, 0]) with
        | .next s' => Out.next s'
        | .cont s' => Out.next s'
        | .brk s' => .next s'
        | .ret d => .ret d
        | .stuck => .stuck) = _
    rw [s2])]
  exact sRet_ok (by simp)
namespace R4
variable {r : R4}
/-- the worths after j steps back -/
def oq (r : R4) (n j k : Nat) : Rat := fr (r.A n j k) (r.q ^ (n - j) * r.M ^ j)
def eq (r : R4) (n i k : Nat) : Rat := fr (r.B n i k) (r.q ^ (n - i) * r.M ^ i)
theorem Ok.oq_sm (h : Ok r) {n j k : Nat} (hn : n ≤ 6) (hj : k + j ≤ n) : Sm 100 (r.oq n j k) := by
  have a := h.A_bd hn hj
  have b := h.den_bd (t := n - j) (i := j) (by omega) (by omega)
  exact fr_sm b.1 (by omega) (by omega)
theorem Ok.eq_sm (h : Ok r) {n j k : Nat} (hn : n ≤ 6) (hj : k + j ≤ n) : Sm 100 (r.eq n j k) := by
  have a := h.B_lt hn hj
  have b := h.den_bd (t := n - j) (i := j) (by omega) (by omega)
  exact fr_sm b.1 (by omega) (by omega)
theorem oq_0 (n k : Nat) : r.oq n 0 k = r.gnq n k := by
  unfold oq gnq A itb
  simp
theorem eq_0 (n k : Nat) : r.eq n 0 k = r.gnq n k := by
  unfold eq gnq B
  simp
theorem den_split (h : Ok r) {n j : Nat} (hj : j < n) : r.q ^ (n - j) * r.M ^ j = r.q * (r.q ^ (n - (j + 1)) * r.M ^ j) ∧ r.q ^ (n - (j + 1)) * r.M ^ j * r.M = r.q ^ (n - (j + 1)) * r.M ^ (j + 1) := by
  have e : n - j = (n - (j + 1)) + 1 := by omega
  constructor
  · rw [e, Int.pow_succ]
    grind
  · rw [Int.pow_succ]
    grind
theorem Ok.back_o (h : Ok r) {n j : Nat} (hn : n ≤ 6) (hj : j < n) : den_step_back [Ls (n - j + 1) (r.oq n j), rt r.U, rt r.Dn, rt r.Rr] = some (Ls (n - (j + 1) + 1) (r.oq n (j + 1))) := by
  have ds := den_split h hj
  have e0 : 0 < r.q ^ (n - (j + 1)) * r.M ^ j := (h.den_bd (t := n - (j + 1)) (i := j) (by omega) (by omega)).1
  have b := h.step_back (m := n - j) (a := r.A n j) (e := r.q ^ (n - (j + 1)) * r.M ^ j) (by omega) e0 (fun k hk => by
    rw [← ds.1]
    exact h.oq_sm hn (by omega))
  rw [← ds.1] at b
  have e1 : n - (j + 1) + 1 = n - j := by omega
  rw [e1]
  have l1 : (Ls (n - j + 1) fun k => fr (r.A n j k) (r.q ^ (n - j) * r.M ^ j)) = Ls (n - j + 1) (r.oq n j) := rfl
  rw [l1] at b
  rw [b]
  congr 1
  refine Ls_congr fun k hk => ?_
  rw [ds.2]
  rfl
theorem Ok.option (h : Ok r) {n : Nat} (hn : n ≤ 6) : den_option_price [.int n, .int r.s, rt r.U, rt r.Dn, rt r.Rr, .int r.K, .str (kd r.sg)] = some (rt (r.oq n n 0)) := by
  refine dfun_ret [some (.int n), some (.int r.s), some (rt r.U), some (rt r.Dn), some (rt r.Rr), some (.int r.K), some (.str (kd r.sg)), none, none] [0, 0, 0, 0, 0, 0, 0, 0, 0] rfl rfl rfl ?_
  have en := h.ends (t := n) hn
  have e0 : Ls (n + 1) (r.gnq n) = Ls (n - 0 + 1) (r.oq n 0) := Ls_congr fun k _ => (oq_0 n k).symm
  rw [e0] at en
  rw [sSeq_next (s' := ([some (.int n), some (.int r.s), some (rt r.U), some (rt r.Dn), some (rt r.Rr), some (.int r.K), some (.str (kd r.sg)), some (Ls (n - 0 + 1) (r.oq n 0)), none], [0, 0, 0, 0, 0, 0, 0, 0, 0])) (by
    rw [sSet_next (d := Ls (n - 0 + 1) (r.oq n 0)) (by simp only [eCall_6, eVar_0, eVar_s, o1_s, en])]
    rfl)]
  obtain ⟨s', e, x8, rfl⟩ := for_rng (i := 8) (n := n) (lo := 0) (body := sSet 7 0 (eCall 4 den_step_back (aCons (eVar 7) (aCons (eVar 2) (aCons (eVar 3) (aCons (eVar 4) aNil))))) ([(7, 0)] ++ ([(2, 0)] ++ ([(3, 0)] ++ ([(4, 0)] ++ [])))))
    (fun j s => ∃ x8, s = ([some (.int n), some (.int r.s), some (rt r.U), some (rt r.Dn), some (rt r.Rr), some (.int r.K), some (.str (kd r.sg)), some (Ls (n - j + 1) (r.oq n j)), x8], [0, 0, 0, 0, 0, 0, 0, 0, 0]))
    _ ⟨none, rfl⟩ (by
      rintro j _ hj ⟨x8, rfl⟩
      refine ⟨_, ?_, some (.int (0 + j)), rfl⟩
      rw [sSet_next (d := Ls (n - (j + 1) + 1) (r.oq n (j + 1))) (by
        simp only [List.set_cons_zero, List.set_cons_succ, eCall_4, eVar_0, eVar_s, o1_s, h.back_o hn hj])]
      rfl)
  rw [sSeq_next (s' := _) (by
    rw [sFor_go (range1_ok (n := n) (by simp) (by omega))]
    exact e)]
  have ix := Ls_ix (m := n - n + 1) (j := 0) (f := r.oq n n) (by omega)
  exact sRet_ok (by simp only [eIx_a, eVar_0, eVar_s, eC_a, o2_ss]; exact ix)
theorem Ok.eq_next (h : Ok r) {n i k : Nat} (hn : n ≤ 6) (hi : i < n) (hk : k + (i + 1) ≤ n) : (if r.gnq (n - (i + 1)) k < fr ((r.y - r.x) * r.B n i (k + 1) + (r.z - r.y) * r.B n i k) (r.q ^ (n - (i + 1)) * r.M ^ (i + 1)) then fr ((r.y - r.x) * r.B n i (k + 1) + (r.z - r.y) * r.B n i k) (r.q ^ (n - (i + 1)) * r.M ^ (i + 1)) else r.gnq (n - (i + 1)) k) = r.eq n (i + 1) k := by
  have q := h.q_bd (t := n - (i + 1)) (by omega)
  have m := h.M_bd (i := i + 1) (by omega)
  have d := h.den_bd (t := n - (i + 1)) (i := i + 1) (by omega) (by omega)
  have g : r.gnq (n - (i + 1)) k = fr (r.gn (n - (i + 1)) k * r.M ^ (i + 1)) (r.q ^ (n - (i + 1)) * r.M ^ (i + 1)) := fr_eq q.1 d.1 (by grind)
  rw [g]
  have l := fr_lt (a := r.gn (n - (i + 1)) k * r.M ^ (i + 1)) (c := (r.y - r.x) * r.B n i (k + 1) + (r.z - r.y) * r.B n i k) d.1 d.1
  have l2 : r.gn (n - (i + 1)) k * r.M ^ (i + 1) * (r.q ^ (n - (i + 1)) * r.M ^ (i + 1)) < ((r.y - r.x) * r.B n i (k + 1) + (r.z - r.y) * r.B n i k) * (r.q ^ (n - (i + 1)) * r.M ^ (i + 1)) ↔ r.gn (n - (i + 1)) k * r.M ^ (i + 1) < (r.y - r.x) * r.B n i (k + 1) + (r.z - r.y) * r.B n i k := Int.mul_lt_mul_right d.1
  unfold eq
  simp only [B]
  by_cases c : r.gn (n - (i + 1)) k * r.M ^ (i + 1) < (r.y - r.x) * r.B n i (k + 1) + (r.z - r.y) * r.B n i k
  · rw [if_pos c, if_pos (l.mpr (l2.mpr c))]
  · rw [if_neg c, if_neg fun z => c (l2.mp (l.mp z))]
theorem Ok.back_e (h : Ok r) {n j : Nat} (hn : n ≤ 6) (hj : j < n) : den_step_back [Ls (n - j + 1) (r.eq n j), rt r.U, rt r.Dn, rt r.Rr] = some (Ls (n - j) fun k => fr ((r.y - r.x) * r.B n j (k + 1) + (r.z - r.y) * r.B n j k) (r.q ^ (n - (j + 1)) * r.M ^ (j + 1))) := by
  have ds := den_split h hj
  have e0 : 0 < r.q ^ (n - (j + 1)) * r.M ^ j := (h.den_bd (t := n - (j + 1)) (i := j) (by omega) (by omega)).1
  have b := h.step_back (m := n - j) (a := r.B n j) (e := r.q ^ (n - (j + 1)) * r.M ^ j) (by omega) e0 (fun k hk => by
    rw [← ds.1]
    exact h.eq_sm hn (by omega))
  rw [← ds.1, ds.2] at b
  exact b
theorem Ok.early (h : Ok r) {n : Nat} (hn : n ≤ 6) : den_early_price [.int n, .int r.s, rt r.U, rt r.Dn, rt r.Rr, .int r.K, .str (kd r.sg)] = some (rt (r.eq n n 0)) := by
  refine dfun_ret [some (.int n), some (.int r.s), some (rt r.U), some (rt r.Dn), some (rt r.Rr), some (.int r.K), some (.str (kd r.sg)), none, none, none, none, none] [0, 0, 0, 0, 0, 0, 0, 0, 0, 0, 0, 0] rfl rfl rfl ?_
  have en := h.ends (t := n) hn
  have e0 : Ls (n + 1) (r.gnq n) = Ls (n - 0 + 1) (r.eq n 0) := Ls_congr fun k _ => (eq_0 n k).symm
  rw [e0] at en
  rw [sSeq_next (s' := ([some (.int n), some (.int r.s), some (rt r.U), some (rt r.Dn), some (rt r.Rr), some (.int r.K), some (.str (kd r.sg)), some (Ls (n - 0 + 1) (r.eq n 0)), none, none, none, none], [0, 0, 0, 0, 0, 0, 0, 0, 0, 0, 0, 0])) (by
    rw [sSet_next (d := Ls (n - 0 + 1) (r.eq n 0)) (by simp only [eCall_6, eVar_0, eVar_s, o1_s, en])]
    rfl)]
  obtain ⟨s', e, x8, x9, x10, x11, rfl⟩ := for_dn (i := 8) (n := n) (lo := (n : Int) - 1) (body := sSeq (sSet 9 0 (eCall 6 den_end_worths (aCons (eVar 8) (aCons (eVar 1) (aCons (eVar 2) (aCons (eVar 3) (aCons (eVar 5) (aCons (eVar 6) aNil))))))) ([(8, 0)] ++ ([(1, 0)] ++ ([(2, 0)] ++ ([(3, 0)] ++ ([(5, 0)] ++ ([(6, 0)] ++ [])))))))
      (sSet 7 0 (eLc (iZip2 (eVar 9) (eCall 4 den_step_back (aCons (eVar 7) (aCons (eVar 2) (aCons (eVar 3) (aCons (eVar 4) aNil)))))) (.tp [(.nm 10), (.nm 11)]) tTrue (eCall 1 den_greatest (aCons (eTup (aCons (eVar 10) (aCons (eVar 11) aNil))) aNil)) [10, 11]) (([(9, 1)] ++ ([(7, 0)] ++ ([(2, 0)] ++ ([(3, 0)] ++ ([(4, 0)] ++ []))))) ++ (([(10, 0)] ++ ([(11, 0)] ++ [])) ++ []))))
    (fun j s => ∃ x8 x9 x10 x11, s = ([some (.int n), some (.int r.s), some (rt r.U), some (rt r.Dn), some (rt r.Rr), some (.int r.K), some (.str (kd r.sg)), some (Ls (n - j + 1) (r.eq n j)), x8, x9, x10, x11], [0, 0, 0, 0, 0, 0, 0, 0, 0, 0, 0, 0]))
    _ ⟨none, none, none, none, rfl⟩ (by
      rintro j _ hj ⟨x8, x9, x10, x11, rfl⟩
      have et : (n : Int) - 1 - j = ((n - (j + 1) : Nat) : Int) := by omega
      have en2 := h.ends (t := n - (j + 1)) (by omega)
      have e1 : n - (j + 1) + 1 = n - j := by omega
      rw [e1] at en2
      refine ⟨_, ?_, some (.int ((n : Int) - 1 - j)), some (Ls (n - j) (r.gnq (n - (j + 1)))), x10, x11, rfl⟩
      rw [sSeq_next (s' := ([some (.int n), some (.int r.s), some (rt r.U), some (rt r.Dn), some (rt r.Rr), some (.int r.K), some (.str (kd r.sg)), some (Ls (n - j + 1) (r.eq n j)), some (.int ((n : Int) - 1 - j)), some (Ls (n - j) (r.gnq (n - (j + 1)))), x10, x11], [0, 0, 0, 0, 0, 0, 0, 0, 0, 0, 0, 0])) (by
        rw [sSet_next (d := Ls (n - j) (r.gnq (n - (j + 1)))) (by
          rw [et]
          simp only [List.set_cons_zero, List.set_cons_succ, eCall_6, eVar_0, eVar_s, o1_s, en2])]
        rfl)]
      rw [e1]
      rw [sSet_next (d := Ls (n - j) (r.eq n (j + 1))) (eLc_of (l := List.range (n - j)) (fun k => .tuple [rt (r.gnq (n - (j + 1)) k), rt (fr ((r.y - r.x) * r.B n j (k + 1) + (r.z - r.y) * r.B n j k) (r.q ^ (n - (j + 1)) * r.M ^ (j + 1)))]) (fun k => rt (r.eq n (j + 1) k)) (by
          have z := Ls_zip (m := n - j) (l := n - j) (f := r.gnq (n - (j + 1))) (g := fun k => fr ((r.y - r.x) * r.B n j (k + 1) + (r.z - r.y) * r.B n j k) (r.q ^ (n - (j + 1)) * r.M ^ (j + 1))) (Nat.le_refl _)
          have b := h.back_e hn hj
          simp only [iZip2, eCall_4, eVar_0, eVar_s, o1_s, b, o2_ss]
          simp only [Ls, seqOf_l, o2_ss, z]) (by simp; omega) fun k hk => ⟨[(10, rt (r.gnq (n - (j + 1)) k)), (11, rt (fr ((r.y - r.x) * r.B n j (k + 1) + (r.z - r.y) * r.B n j k) (r.q ^ (n - (j + 1)) * r.M ^ (j + 1))))], rfl, by
          have hk := List.mem_range.mp hk
          have b1 := h.B_lt (n := n) (i := j) (k := k + 1) hn (by omega)
          have b2 := h.B_lt (n := n) (i := j) (k := k) hn (by omega)
          have d := h.den_bd (t := n - (j + 1)) (i := j + 1) (by omega) (by omega)
          have hx := h.xy
          have hy := h.yz
          have hz := h.zx
          have c1 : (r.y - r.x) * r.B n j (k + 1) ≤ 9 * 2 ^ 80 := Int.mul_le_mul (by omega) (by omega) (by omega) (by decide)
          have c2 : (r.z - r.y) * r.B n j k ≤ 9 * 2 ^ 80 := Int.mul_le_mul (by omega) (by omega) (by omega) (by decide)
          have c3 := Int.mul_nonneg (show 0 ≤ r.y - r.x by omega) b1.1
          have c4 := Int.mul_nonneg (show 0 ≤ r.z - r.y by omega) b2.1
          have sm : Sm 100 (fr ((r.y - r.x) * r.B n j (k + 1) + (r.z - r.y) * r.B n j k) (r.q ^ (n - (j + 1)) * r.M ^ (j + 1))) := fr_sm d.1 (by omega) (by omega)
          have g := greatest_two (h.gnq_sm (t := n - (j + 1)) (k := k) (by omega) (by omega)) sm (by decide) (by decide)
          rw [h.eq_next hn hj (by omega)] at g
          simp only [setsD, wipeD, List.foldl_cons, List.foldl_nil, List.set_cons_zero, List.set_cons_succ, eCall_1, eTup, aCons_a, aNil_a, eVar_0, eVar_s, o2_ss, o1_s, List.length_cons, List.length_nil, Nat.zero_add, Nat.reduceAdd, sz, Nat.reduceLeDiff, if_true, g]⟩)]
      rfl)
  rw [sSeq_next (s' := _) (by
    rw [sFor_go (range3_ok (i := (n : Int) - 1) (n := n) (by simp) (by simp) (by simp) rfl (by omega))]
    exact e)]
  have ix := Ls_ix (m := n - n + 1) (j := 0) (f := r.eq n n) (by omega)
  exact sRet_ok (by simp only [eIx_a, eVar_0, eVar_s, eC_a, o2_ss]; exact ix)
/-- the share that copies -/
def shq (r : R4) (n : Nat) : Rat := (r.oq n (n - 1) 1 - r.oq n (n - 1) 0) / ((r.s : Rat) * (r.U - r.Dn))
theorem Ok.share (h : Ok r) {n : Nat} (h1 : 1 ≤ n) (hn : n ≤ 6) : den_copy_share [.int n, .int r.s, rt r.U, rt r.Dn, rt r.Rr, .int r.K, .str (kd r.sg)] = some (rt (r.shq n)) := by
  refine dfun_ret [some (.int n), some (.int r.s), some (rt r.U), some (rt r.Dn), some (rt r.Rr), some (.int r.K), some (.str (kd r.sg)), none, none] [0, 0, 0, 0, 0, 0, 0, 0, 0] rfl rfl rfl ?_
  have en := h.ends (t := n) hn
  have e0 : Ls (n + 1) (r.gnq n) = Ls (n - 0 + 1) (r.oq n 0) := Ls_congr fun k _ => (oq_0 n k).symm
  rw [e0] at en
  rw [sSeq_next (s' := ([some (.int n), some (.int r.s), some (rt r.U), some (rt r.Dn), some (rt r.Rr), some (.int r.K), some (.str (kd r.sg)), none, none], [0, 0, 0, 0, 0, 0, 0, 0, 0])) (by
    rw [sIf_f (by simp; omega)]
    rfl)]
  rw [sSeq_next (s' := ([some (.int n), some (.int r.s), some (rt r.U), some (rt r.Dn), some (rt r.Rr), some (.int r.K), some (.str (kd r.sg)), some (Ls (n - 0 + 1) (r.oq n 0)), none], [0, 0, 0, 0, 0, 0, 0, 0, 0])) (by
    rw [sSet_next (d := Ls (n - 0 + 1) (r.oq n 0)) (by simp only [eCall_6, eVar_0, eVar_s, o1_s, en])]
    rfl)]
  obtain ⟨s', e, x8, rfl⟩ := for_rng (i := 8) (n := n - 1) (lo := 0) (body := sSet 7 0 (eCall 4 den_step_back (aCons (eVar 7) (aCons (eVar 2) (aCons (eVar 3) (aCons (eVar 4) aNil))))) ([(7, 0)] ++ ([(2, 0)] ++ ([(3, 0)] ++ ([(4, 0)] ++ [])))))
    (fun j s => ∃ x8, s = ([some (.int n), some (.int r.s), some (rt r.U), some (rt r.Dn), some (rt r.Rr), some (.int r.K), some (.str (kd r.sg)), some (Ls (n - j + 1) (r.oq n j)), x8], [0, 0, 0, 0, 0, 0, 0, 0, 0]))
    _ ⟨none, rfl⟩ (by
      rintro j _ hj ⟨x8, rfl⟩
      refine ⟨_, ?_, some (.int (0 + j)), rfl⟩
      rw [sSet_next (d := Ls (n - (j + 1) + 1) (r.oq n (j + 1))) (by
        simp only [List.set_cons_zero, List.set_cons_succ, eCall_4, eVar_0, eVar_s, o1_s, h.back_o (j := j) hn (show j < n by omega)])]
      rfl)
  rw [sSeq_next (s' := _) (by
    rw [sFor_go (range1_ok (n := n - 1) (by simp; omega) (by omega))]
    exact e)]
  have i0 : dIx (Ls (n - (n - 1) + 1) (r.oq n (n - 1))) (.int 0) = some (rt (r.oq n (n - 1) 0)) := Ls_ix (m := n - (n - 1) + 1) (j := 0) (f := r.oq n (n - 1)) (by omega)
  have i1 : dIx (Ls (n - (n - 1) + 1) (r.oq n (n - 1))) (.int 1) = some (rt (r.oq n (n - 1) 1)) := Ls_ix (m := n - (n - 1) + 1) (j := 1) (f := r.oq n (n - 1)) (by omega)
  have m1 := minus_ok (h.oq_sm (n := n) (j := n - 1) (k := 1) hn (by omega)) (h.oq_sm (n := n) (j := n - 1) (k := 0) hn (by omega)) (by decide) (by decide) (by decide)
  have m2 := minus_ok h.U_sm h.D_sm (by decide) (by decide) (by decide)
  have sS : Sm 8 (r.s : Rat) := by
    have := h.s1; have := h.s81
    rw [← fr_int]
    exact fr_sm (by decide) (by omega) (by omega)
  have t := times_ok sS m2.2 (by decide) (by decide) (by decide)
  have pos : 0 < ((r.s : Rat) * (r.U - r.Dn)).num := by
    have q0 := h.q1
    have e2 : (r.s : Rat) * (r.U - r.Dn) = fr (r.s * (r.z - r.x)) r.q := by
      rw [h.UD, fr_div, fr_div]
      push_cast
      grind
    rw [e2]
    exact (num_pos (by omega)).mpr (Int.mul_pos (by have := h.s1; omega) (by have := h.xy; have := h.yz; omega))
  have p := parted_ok m1.2 t.2 pos (by decide)
  exact sRet_ok (by simp only [eCall_2, eCall_1, eIx_a, eVar_0, eVar_s, eC_a, o2_ss, o1_s, i0, i1, m1.1, as_ratio_int, m2.1, t.1, p.1]; rfl)
end R4
end Lib
end

section
set_option Elab.async false
set_option linter.all false
set_option maxRecDepth 10000
/-! k44: the law's own functions. -/
namespace Lib
open DS PySem
def den__law_add : Fn := dfun 2 2 (sRet (eCall 2 den__law_ratio (aCons (eOp dAdd (eOp dMul (eIx (eVar 0) (eC (.int 0))) (eIx (eVar 1) (eC (.int 1)))) (eOp dMul (eIx (eVar 1) (eC (.int 0))) (eIx (eVar 0) (eC (.int 1))))) (aCons (eOp dMul (eIx (eVar 0) (eC (.int 1))) (eIx (eVar 1) (eC (.int 1)))) aNil))))
def den__law_under : Fn := dfun 2 2 (sRet (eB (tCmp dLt (eOp dMul (eIx (eVar 0) (eC (.int 0))) (eIx (eVar 1) (eC (.int 1)))) (eOp dMul (eIx (eVar 1) (eC (.int 0))) (eIx (eVar 0) (eC (.int 1)))))))
def den__law_dot : Fn := dfun 4 2 (sSeq (sSet 2 0 (eTup (aCons (eC (.int 0)) (aCons (eC (.int 1)) aNil))) ([] ++ ([] ++ [])))
  (sSeq (sFor (iRange1 (eCB (d1 dLen) (aCons (eVar 1) aNil))) [] (.nm 3)
  (sSet 2 0 (eCall 2 den__law_add (aCons (eVar 2) (aCons (eCall 2 den__law_ratio (aCons (eOp dMul (eIx (eIx (eVar 0) (eVar 3)) (eC (.int 0))) (eIx (eVar 1) (eVar 3))) (aCons (eIx (eIx (eVar 0) (eVar 3)) (eC (.int 1))) aNil))) aNil))) ([(2, 0)] ++ ((([(0, 3)] ++ [(1, 2)]) ++ ([(0, 2)] ++ [])) ++ []))))
  (sRet (eVar 2))))
def den__law_right : Fn := dfun 14 5 (sSeq (sTup (.tp [(.nm 5), (.nm 6), (.nm 7), (.nm 8), (.nm 9)]) (eVar 2) [(2, 0)])
  (sSeq (sTup (.tp [(.nm 10), (.nm 11)]) (eTup (aCons (eC (.int 0)) (aCons (eC (.int 1)) aNil))) ([] ++ ([] ++ [])))
  (sSeq (sFor (iRange1 (eOp dAdd (eVar 0) (eC (.int 1)))) [] (.nm 12)
  (sSeq (sSet 13 0 (eOp dSub (eOp dMul (eOp dMul (eVar 1) (eCall 2 den__law_power (aCons (eVar 7) (aCons (eVar 12) aNil)))) (eCall 2 den__law_power (aCons (eVar 5) (aCons (eOp dSub (eVar 0) (eVar 12)) aNil)))) (eOp dMul (eOp dMul (eVar 3) (eVar 9)) (eCall 2 den__law_power (aCons (eVar 8) (aCons (eVar 0) aNil))))) ((([(1, 1)] ++ ([(7, 0)] ++ ([(12, 0)] ++ []))) ++ ([(5, 0)] ++ (([(0, 1)] ++ [(12, 1)]) ++ []))) ++ (([(3, 1)] ++ [(9, 1)]) ++ ([(8, 0)] ++ ([(0, 0)] ++ [])))))
  (sSeq (sIf (tCmp dEq (eVar 4) (eC (.str "put")))
  (sSet 13 0 (eUn dNeg (eVar 13)) [])
  sNil)
  (sSeq (sAug 10 dAddI (eOp dMul (eOp dMul (eOp dMul (eVar 11) (eCall 2 den__law_power (aCons (eOp dSub (eVar 6) (eVar 5)) (aCons (eVar 12) aNil)))) (eCall 2 den__law_power (aCons (eOp dSub (eVar 7) (eVar 6)) (aCons (eOp dSub (eVar 0) (eVar 12)) aNil)))) (eCB (d2 dMax2) (aCons (eC (.int 0)) (aCons (eVar 13) aNil)))))
  (sSet 11 0 (eOp dFdiv (eOp dMul (eVar 11) (eOp dSub (eVar 0) (eVar 12))) (eOp dAdd (eVar 12) (eC (.int 1)))) (([(11, 1)] ++ ([(0, 1)] ++ [(12, 1)])) ++ ([(12, 1)] ++ [])))))))
  (sRet (eCall 2 den__law_ratio (aCons (eVar 10) (aCons (eOp dMul (eOp dMul (eVar 9) (eCall 2 den__law_power (aCons (eOp dSub (eVar 7) (eVar 5)) (aCons (eVar 0) aNil)))) (eCall 2 den__law_power (aCons (eVar 6) (aCons (eVar 0) aNil)))) aNil)))))))
def den__law_early : Fn := dfun 18 5 (sSeq (sTup (.tp [(.nm 5), (.nm 6), (.nm 7), (.nm 8), (.nm 9)]) (eVar 2) [(2, 0)])
  (sSeq (sSet 10 0 (eLst aNil) [])
  (sSeq (sFor (iRange3 (eVar 0) (eUn dNeg (eC (.int 1))) (eUn dNeg (eC (.int 1)))) [] (.nm 11)
  (sSeq (sSet 12 1 (eLst aNil) [])
  (sSeq (sFor (iRange1 (eOp dAdd (eVar 11) (eC (.int 1)))) [] (.nm 13)
  (sSeq (sSet 14 0 (eCall 2 den__law_power (aCons (eVar 8) (aCons (eVar 11) aNil))) ([(8, 0)] ++ ([(11, 0)] ++ [])))
  (sSeq (sSet 15 0 (eOp dSub (eOp dMul (eOp dMul (eVar 1) (eCall 2 den__law_power (aCons (eVar 7) (aCons (eVar 13) aNil)))) (eCall 2 den__law_power (aCons (eVar 5) (aCons (eOp dSub (eVar 11) (eVar 13)) aNil)))) (eOp dMul (eVar 3) (eVar 14))) ((([(1, 1)] ++ ([(7, 0)] ++ ([(13, 0)] ++ []))) ++ ([(5, 0)] ++ (([(11, 1)] ++ [(13, 1)]) ++ []))) ++ ([(3, 1)] ++ [(14, 1)])))
  (sSeq (sIf (tCmp dEq (eVar 4) (eC (.str "put")))
  (sSet 15 0 (eUn dNeg (eVar 15)) [])
  sNil)
  (sSeq (sSet 16 0 (eCall 2 den__law_ratio (aCons (eCB (d2 dMax2) (aCons (eC (.int 0)) (aCons (eVar 15) aNil))) (aCons (eVar 14) aNil))) ([] ++ ([(14, 0)] ++ [])))
  (sSeq (sIf (tCmp dLt (eVar 11) (eVar 0))
  (sSeq (sSet 17 0 (eCall 2 den__law_dot (aCons (eTup (aCons (eIx (eVar 10) (eOp dAdd (eVar 13) (eC (.int 1)))) (aCons (eIx (eVar 10) (eVar 13)) aNil))) (aCons (eTup (aCons (eOp dSub (eVar 6) (eVar 5)) (aCons (eOp dSub (eVar 7) (eVar 6)) aNil))) aNil))) (([(10, 1)] ++ ([(10, 1)] ++ [])) ++ ((([(6, 1)] ++ [(5, 1)]) ++ (([(7, 1)] ++ [(6, 1)]) ++ [])) ++ [])))
  (sSeq (sSet 17 0 (eCall 2 den__law_ratio (aCons (eOp dMul (eIx (eVar 17) (eC (.int 0))) (eVar 8)) (aCons (eOp dMul (eOp dMul (eIx (eVar 17) (eC (.int 1))) (eOp dSub (eVar 7) (eVar 5))) (eVar 6)) aNil))) (([(17, 2)] ++ [(8, 1)]) ++ ((([(17, 2)] ++ ([(7, 1)] ++ [(5, 1)])) ++ [(6, 1)]) ++ [])))
  (sIf (tTru (eCall 2 den__law_under (aCons (eVar 16) (aCons (eVar 17) aNil))))
  (sSet 16 0 (eVar 17) [(17, 0)])
  sNil)))
  sNil)
  (sApp 12 (eVar 16) [(16, 0)])))))))
  (sSet 10 0 (eVar 12) [(12, 0)]))))
  (sRet (eIx (eVar 10) (eC (.int 0)))))))
theorem ladd_ok {p q : Rat} {m n : Nat} (hp : Sm m p) (hq : Sm n q) (h : m + n ≤ 8000) : den__law_add [rt p, rt q] = some (rt (p + q)) ∧ Sm (m + n + 1) (p + q) := by
  have h0 := hp.pos
  have h1 := hq.pos
  have e : p + q = Rat.divInt (p.num * q.den + q.num * p.den) (p.den * q.den) := by
    conv => lhs; rw [← Rat.num_divInt_den p, ← Rat.num_divInt_den q]
    exact Rat.divInt_add_divInt _ _ (by have := den_pos p; omega) (by have := den_pos q; omega)
  have hd : (0 : Int) < p.den * q.den := Int.mul_pos (den_pos p) (den_pos q)
  have b2 : ((p.den : Int) * q.den).natAbs < 2 ^ (m + n) := natAbs_mul_lt (by simpa using hp.2) (by simpa using hq.2)
  have m1 : mulOk p.num q.den = true := mulOk_big (m := m) (n := n) hp.1 (by simpa using hq.2) h0 h1 (by omega)
  have m2 : mulOk q.num p.den = true := mulOk_big (m := n) (n := m) hq.1 (by simpa using hp.2) h1 h0 (by omega)
  have m3 : mulOk (p.den : Int) q.den = true := mulOk_big (m := m) (n := n) (by simpa using hp.2) (by simpa using hq.2) h0 h1 (by omega)
  have hl := ratio_ok (a := p.num * q.den + q.num * p.den) hd b2 (by omega)
  rw [← e] at hl
  refine ⟨dfun_ret [some (rt p), some (rt q)] [0, 0] rfl rfl rfl (sRet_ok (by simp only [eCall_2, eOp_a, eIx_a, eVar_0, eVar_s, eC_a, o1_s, o2_ss, rt_0, rt_1, dMul_i m1, dMul_i m2, dMul_i m3, dAdd_i, hl])), ?_⟩
  exact (plus_ok hp hq h0 h1 h).2
theorem lunder_ok {p q : Rat} {m n : Nat} (hp : Sm m p) (hq : Sm n q) (h : m + n ≤ 8000) : den__law_under [rt p, rt q] = some (.bool (decide (p < q))) := by
  have h0 := hp.pos
  have h1 := hq.pos
  have m1 : mulOk p.num q.den = true := mulOk_big (m := m) (n := n) hp.1 (by simpa using hq.2) h0 h1 (by omega)
  have m2 : mulOk q.num p.den = true := mulOk_big (m := n) (n := m) hq.1 (by simpa using hp.2) h1 h0 (by omega)
  exact dfun_ret [some (rt p), some (rt q)] [0, 0] rfl rfl rfl (sRet_ok (by simp [rt_0, rt_1, dMul_i m1, dMul_i m2, Rat.lt_iff]))
/-- a ratio times a number, lowest -/
theorem lscale_ok {p : Rat} {m : Nat} {a : Int} (hp : Sm m p) (ha : a.natAbs < 2 ^ m) (h : m + m ≤ 8000) : den__law_ratio [.int (p.num * a), .int p.den] = some (rt (p * a)) := by
  have e : p * (a : Rat) = Rat.divInt (p.num * a) p.den := by
    have b1 := den_pos p
    have c1 := cast_ne b1
    have a1 := Rat.num_divInt_den p
    rw [Rat.divInt_eq_div] at a1 ⊢
    have k : ((p.num : Rat) / ((p.den : Int) : Rat)) * (a : Rat) = ((p.num : Rat) * (a : Rat)) / ((p.den : Int) : Rat) := by
      generalize (p.num : Rat) = A at *
      generalize (((p.den : Int)) : Rat) = B at *
      generalize (a : Rat) = C at *
      grind
    rw [a1] at k
    rw [k, Rat.intCast_mul]
  rw [e]
  exact ratio_ok (k := m) (den_pos p) (by simpa using hp.2) (by omega)
theorem ldot_ok {p q : Rat} {m : Nat} {a b : Int} (hp : Sm m p) (hq : Sm m q) (ha : a.natAbs < 2 ^ m) (hb : b.natAbs < 2 ^ m) (h : m ≤ 1000) : den__law_dot [.tuple [rt p, rt q], .tuple [.int a, .int b]] = some (rt (0 + p * a + q * b)) := by
  have hm := hp.pos
  have s1 := lscale_ok hp ha (by omega)
  have s2 := lscale_ok hq hb (by omega)
  have mp : mulOk p.num a = true := mulOk_big (m := m) (n := m) hp.1 ha hm hm (by omega)
  have mq : mulOk q.num b = true := mulOk_big (m := m) (n := m) hq.1 hb hm hm (by omega)
  have sa : Sm m (a : Rat) := by
    rw [← fr_int]
    exact fr_sm (by decide) ha (by show 1 < 2 ^ m; exact Nat.one_lt_two_pow (by omega))
  have sb : Sm m (b : Rat) := by
    rw [← fr_int]
    exact fr_sm (by decide) hb (by show 1 < 2 ^ m; exact Nat.one_lt_two_pow (by omega))
  have tp := (times_ok hp sa hm hm (by omega)).2
  have tq := (times_ok hq sb hm hm (by omega)).2
  have z : Sm 1 (0 : Rat) := ⟨by decide, by decide⟩
  have a1 := ladd_ok z tp (by omega)
  have a2 := ladd_ok a1.2 tq (by omega)
  have i0 : dIx (.tuple [rt p, rt q]) (.int 0) = some (rt p) := atI_0
  have i1 : dIx (.tuple [rt p, rt q]) (.int 1) = some (rt q) := atI_1
  have j0 : dIx (.tuple [.int a, .int b]) (.int 0) = some (.int a) := atI_0
  have j1 : dIx (.tuple [.int a, .int b]) (.int 1) = some (.int b) := atI_1
  have z0 : (.tuple [.int 0, .int 1] : D) = rt 0 := rfl
  refine dfun_ret [some (.tuple [rt p, rt q]), some (.tuple [.int a, .int b]), none, none] [0, 0, 0, 0] rfl rfl rfl ?_
  rw [sSeq_next (s' := ([some (.tuple [rt p, rt q]), some (.tuple [.int a, .int b]), some (rt 0), none], [0, 0, 0, 0])) (by
    rw [sSet_next (d := rt 0) (by simp [eTup, sz, z0])]
    rfl)]
  have st1 : ∀ x, sSet 2 0 (eCall 2 den__law_add (aCons (eVar 2) (aCons (eCall 2 den__law_ratio (aCons (eOp dMul (eIx (eIx (eVar 0) (eVar 3)) (eC (.int 0))) (eIx (eVar 1) (eVar 3))) (aCons (eIx (eIx (eVar 0) (eVar 3)) (eC (.int 1))) aNil))) aNil))) ([(2, 0)] ++ ((([(0, 3)] ++ [(1, 2)]) ++ ([(0, 2)] ++ [])) ++ [])) ([some (.tuple [rt p, rt q]), some (.tuple [.int a, .int b]), some (rt 0), some (.int 0)], x) = .next ([some (.tuple [rt p, rt q]), some (.tuple [.int a, .int b]), some (rt (0 + p * a)), some (.int 0)], x.set 2 0) := fun x => by
    rw [sSet_flat (d := rt (0 + p * a)) (by simp only [eCall_2, eOp_a, eIx_a, eVar_0, eVar_s, eC_a, o1_s, o2_ss, i0, j0, rt_0, rt_1, dMul_i mp, s1, a1.1]) rfl]
    rfl
  have st2 : ∀ x, sSet 2 0 (eCall 2 den__law_add (aCons (eVar 2) (aCons (eCall 2 den__law_ratio (aCons (eOp dMul (eIx (eIx (eVar 0) (eVar 3)) (eC (.int 0))) (eIx (eVar 1) (eVar 3))) (aCons (eIx (eIx (eVar 0) (eVar 3)) (eC (.int 1))) aNil))) aNil))) ([(2, 0)] ++ ((([(0, 3)] ++ [(1, 2)]) ++ ([(0, 2)] ++ [])) ++ [])) ([some (.tuple [rt p, rt q]), some (.tuple [.int a, .int b]), some (rt (0 + p * a)), some (.int 1)], x) = .next ([some (.tuple [rt p, rt q]), some (.tuple [.int a, .int b]), some (rt (0 + p * a + q * b)), some (.int 1)], x.set 2 0) := fun x => by
    rw [sSet_flat (d := rt (0 + p * a + q * b)) (by simp only [eCall_2, eOp_a, eIx_a, eVar_0, eVar_s, eC_a, o1_s, o2_ss, i1, j1, rt_0, rt_1, dMul_i mq, s2, a2.1]) rfl]
    rfl
  rw [sSeq_next (s' := ([some (.tuple [rt p, rt q]), some (.tuple [.int a, .int b]), some (rt (0 + p * a + q * b)), some (.int 1)], [0, 0, 0, 0])) (by
    rw [sFor_go (range1_ok (n := 2) (by simp) (by omega))]
    obtain ⟨s', e, h'⟩ := for_rng (i := 3) (n := 2) (lo := 0) (body := sSet 2 0 (eCall 2 den__law_add (aCons (eVar 2) (aCons (eCall 2 den__law_ratio (aCons (eOp dMul (eIx (eIx (eVar 0) (eVar 3)) (eC (.int 0))) (eIx (eVar 1) (eVar 3))) (aCons (eIx (eIx (eVar 0) (eVar 3)) (eC (.int 1))) aNil))) aNil))) ([(2, 0)] ++ ((([(0, 3)] ++ [(1, 2)]) ++ ([(0, 2)] ++ [])) ++ [])))
      (fun k s => (k = 0 ∧ s = ([some (.tuple [rt p, rt q]), some (.tuple [.int a, .int b]), some (rt 0), none], [0, 0, 0, 0])) ∨ (k = 1 ∧ s = ([some (.tuple [rt p, rt q]), some (.tuple [.int a, .int b]), some (rt (0 + p * a)), some (.int 0)], [0, 0, 0, 0])) ∨ (k = 2 ∧ s = ([some (.tuple [rt p, rt q]), some (.tuple [.int a, .int b]), some (rt (0 + p * a + q * b)), some (.int 1)], [0, 0, 0, 0])))
      _ (.inl ⟨rfl, rfl⟩) (by
        rintro k _ hk (⟨rfl, rfl⟩ | ⟨rfl, rfl⟩ | ⟨rfl, rfl⟩)
        · exact ⟨_, st1 _, .inr (.inl ⟨rfl, rfl⟩)⟩
        · exact ⟨_, st2 _, .inr (.inr ⟨rfl, rfl⟩)⟩
        · omega)
    rcases h' with ⟨h', _⟩ | ⟨h', _⟩ | ⟨_, rfl⟩
    · omega
    · omega
    · exact e)]
  exact sRet_ok (by simp)
end Lib
end

section
set_option Elab.async false
set_option linter.all false
set_option maxRecDepth 10000
/-! k44: the law's own sum over the steps up. -/
namespace Lib
open DS PySem
theorem sTup_flat {t : Tg} {f : FE} {c : Esc} {ρ : PEnv} {L : List Nat} {d : D} {l : List (Nat × D)} (h : f ρ = some d) (h' : t.go d = some l) (hd : flat d = true) : sTup t f c (ρ, L) = .next (setsD ρ l, zeros L l) := by
  unfold sTup
  simp only [h, h', hd, if_true]
theorem sAug_next {i : Nat} {op : D → D → Option D} {f : FE} {ρ : PEnv} {L : List Nat} {x y d : D} (hi : eVar i ρ = some x) (hf : f ρ = some y) (ho : op x y = some d) : sAug i op f (ρ, L) = .next (ρ.set i (some d), L.set i 0) := by
  unfold sAug
  simp only [hi, hf, o2_ss, ho]
theorem dMax2_0 (i : Int) : d2 dMax2 [.int 0, .int i] = some (.int (mx i)) := rfl
theorem kd_cput : dEq (.str (Str.ofString "call")) (.str (Str.ofString "put")) = some false := by decide +kernel
theorem kd_pput : dEq (.str (Str.ofString "put")) (.str (Str.ofString "put")) = some true := by decide +kernel
theorem C_le : ∀ n k, C n k ≤ 2 ^ n
  | n, 0 => by rw [C_0]; exact Nat.one_le_two_pow
  | 0, k + 1 => by simp [C]
  | n + 1, k + 1 => by
    have h1 := C_le n k
    have h2 := C_le n (k + 1)
    show C n k + C n (k + 1) ≤ 2 ^ (n + 1)
    rw [Nat.pow_succ]; omega
def den_sign (i : Nat) (k : Nat) : FS := sIf (tCmp dEq (eVar k) (eC (.str "put"))) (sSet i 0 (eUn dNeg (eVar i)) []) sNil
namespace R4
variable {r : R4}
/-- the gain at k steps up, first and down told -/
def gg (r : R4) (first down : Int) (n k : Nat) : Int := mx (r.sg * (first * r.z ^ k * r.x ^ (n - k) - r.K * down * r.q ^ n))
theorem Ok.right (h : Ok r) {n : Nat} (hn : n ≤ 6) {first down : Int} (f1 : 1 ≤ first) (f2 : first ≤ 1200) (dn1 : 1 ≤ down) (dn2 : down ≤ 6) :
    den__law_right [.int n, .int first, .tuple [.int r.x, .int r.y, .int r.z, .int r.q, .int down], .int r.K, .str (kd r.sg)] = some (rt (fr (itb (r.y - r.x) (r.z - r.y) (r.gg first down n) n 0) (down * (r.z - r.x) ^ n * r.y ^ n))) := by
  have hx1 := h.x1; have hxy := h.xy; have hyz := h.yz; have hy9 := h.y9; have hz14 := h.z14; have hzx := h.zx; have hq1 := h.q1; have hq6 := h.q6; have hK0 := h.K0; have hK86 := h.K86
  have q6 := h.q_bd (t := n) hn
  -- numbers within 64 bits
  have pz : ∀ k : Nat, k ≤ 6 → 1 ≤ r.z ^ k ∧ r.z ^ k ≤ 14 ^ 6 := fun k hk => pow_bd (by omega) hz14 hk
  have px : ∀ k : Nat, k ≤ 6 → 1 ≤ r.x ^ k ∧ r.x ^ k ≤ 14 ^ 6 := fun k hk => pow_bd hx1 (by omega) hk
  have pa : ∀ k : Nat, k ≤ 6 → 1 ≤ (r.y - r.x) ^ k ∧ (r.y - r.x) ^ k ≤ 9 ^ 6 := fun k hk => pow_bd (by omega) (by omega) hk
  have pb : ∀ k : Nat, k ≤ 6 → 1 ≤ (r.z - r.y) ^ k ∧ (r.z - r.y) ^ k ≤ 9 ^ 6 := fun k hk => pow_bd (by omega) (by omega) hk
  have pc : ∀ k : Nat, k ≤ 6 → 1 ≤ (r.z - r.x) ^ k ∧ (r.z - r.x) ^ k ≤ 9 ^ 6 := fun k hk => pow_bd (by omega) hzx hk
  have py : ∀ k : Nat, k ≤ 6 → 1 ≤ r.y ^ k ∧ r.y ^ k ≤ 9 ^ 6 := fun k hk => pow_bd (by omega) hy9 hk
  have fz : ∀ k : Nat, k ≤ 6 → 0 < first * r.z ^ k ∧ first * r.z ^ k ≤ 1200 * 14 ^ 6 := fun k hk =>
    ⟨Int.mul_pos (by omega) (by have := pz k hk; omega), Int.mul_le_mul f2 (pz k hk).2 (by have := pz k hk; omega) (by omega)⟩
  have Kd : 0 ≤ r.K * down ∧ r.K * down ≤ 90 * 6 := ⟨Int.mul_nonneg hK0 (by omega), Int.mul_le_mul hK86 dn2 (by omega) (by omega)⟩
  refine dfun_ret [some (.int n), some (.int first), some (.tuple [.int r.x, .int r.y, .int r.z, .int r.q, .int down]), some (.int r.K), some (.str (kd r.sg)), none, none, none, none, none, none, none, none, none] [0, 0, 0, 0, 0, 0, 0, 0, 0, 0, 0, 0, 0, 0] rfl rfl rfl ?_
  rw [sSeq_next (sTup_flat (l := [(5, .int r.x), (6, .int r.y), (7, .int r.z), (8, .int r.q), (9, .int down)]) rfl rfl rfl)]
  simp only [setsD, zeros, List.foldl_cons, List.foldl_nil, List.set_cons_zero, List.set_cons_succ]
  rw [sSeq_next (sTup_flat (l := [(10, .int 0), (11, .int 1)]) (d := .tuple [.int 0, .int 1]) (by simp [eTup, sz]) rfl rfl)]
  simp only [setsD, zeros, List.foldl_cons, List.foldl_nil, List.set_cons_zero, List.set_cons_succ]
  obtain ⟨s', e, x12, x13, rfl⟩ := for_rng (i := 12) (n := n + 1) (lo := 0) (body := sSeq (sSet 13 0 (eOp dSub (eOp dMul (eOp dMul (eVar 1) (eCall 2 den__law_power (aCons (eVar 7) (aCons (eVar 12) aNil)))) (eCall 2 den__law_power (aCons (eVar 5) (aCons (eOp dSub (eVar 0) (eVar 12)) aNil)))) (eOp dMul (eOp dMul (eVar 3) (eVar 9)) (eCall 2 den__law_power (aCons (eVar 8) (aCons (eVar 0) aNil))))) ((([(1, 1)] ++ ([(7, 0)] ++ ([(12, 0)] ++ []))) ++ ([(5, 0)] ++ (([(0, 1)] ++ [(12, 1)]) ++ []))) ++ (([(3, 1)] ++ [(9, 1)]) ++ ([(8, 0)] ++ ([(0, 0)] ++ [])))))
      (sSeq (sIf (tCmp dEq (eVar 4) (eC (.str "put")))
      (sSet 13 0 (eUn dNeg (eVar 13)) [])
      sNil)
      (sSeq (sAug 10 dAddI (eOp dMul (eOp dMul (eOp dMul (eVar 11) (eCall 2 den__law_power (aCons (eOp dSub (eVar 6) (eVar 5)) (aCons (eVar 12) aNil)))) (eCall 2 den__law_power (aCons (eOp dSub (eVar 7) (eVar 6)) (aCons (eOp dSub (eVar 0) (eVar 12)) aNil)))) (eCB (d2 dMax2) (aCons (eC (.int 0)) (aCons (eVar 13) aNil)))))
      (sSet 11 0 (eOp dFdiv (eOp dMul (eVar 11) (eOp dSub (eVar 0) (eVar 12))) (eOp dAdd (eVar 12) (eC (.int 1)))) (([(11, 1)] ++ ([(0, 1)] ++ [(12, 1)])) ++ ([(12, 1)] ++ []))))))
    (fun k s => ∃ x12 x13, s = ([some (.int n), some (.int first), some (.tuple [.int r.x, .int r.y, .int r.z, .int r.q, .int down]), some (.int r.K), some (.str (kd r.sg)), some (.int r.x), some (.int r.y), some (.int r.z), some (.int r.q), some (.int down), some (.int (rsum (fun i => trm (r.y - r.x) (r.z - r.y) n i * r.gg first down n (0 + i)) k)), some (.int (C n k)), x12, x13], [0, 0, 0, 0, 0, 0, 0, 0, 0, 0, 0, 0, 0, 0]))
    ([some (.int n), some (.int first), some (.tuple [.int r.x, .int r.y, .int r.z, .int r.q, .int down]), some (.int r.K), some (.str (kd r.sg)), some (.int r.x), some (.int r.y), some (.int r.z), some (.int r.q), some (.int down), some (.int 0), some (.int 1), none, none], [0, 0, 0, 0, 0, 0, 0, 0, 0, 0, 0, 0, 0, 0]) ⟨none, none, by rw [C_0]; rfl⟩ (by
      rintro k _ hk ⟨x12, x13, rfl⟩
      have e0 : (0 : Int) + k = k := by omega
      have en : (n : Int) - k = ((n - k : Nat) : Int) := by omega
      have hC := C_le n k
      have hC2 : 2 ^ n ≤ 2 ^ 6 := Nat.pow_le_pow_right (by decide) hn
      have w1 := power_ok (b := r.z) (n := k) (by omega) (by omega)
      have w2 := power_ok (b := r.x) (n := n - k) (by omega) (by omega)
      have w3 := power_ok (b := r.q) (n := n) (by omega) (by omega)
      have w4 := power_ok (b := r.y - r.x) (n := k) (by omega) (by omega)
      have w5 := power_ok (b := r.z - r.y) (n := n - k) (by omega) (by omega)
      have fz' := fz k (by omega)
      have pa' := pa k (by omega)
      have pb' := pb (n - k) (by omega)
      have m1 : mulOk first (r.z ^ k) = true := mulOk_l (by omega)
      have m2 : mulOk (first * r.z ^ k) (r.x ^ (n - k)) = true := mulOk_l (by omega)
      have m3 : mulOk r.K down = true := mulOk_l (by omega)
      have m4 : mulOk (r.K * down) (r.q ^ n) = true := mulOk_l (by omega)
      have m5 : mulOk (C n k) ((r.y - r.x) ^ k) = true := mulOk_l (by omega)
      have c1 : 0 ≤ (C n k : Int) * (r.y - r.x) ^ k ∧ (C n k : Int) * (r.y - r.x) ^ k ≤ 2 ^ 6 * 9 ^ 6 := ⟨Int.mul_nonneg (by omega) (by omega), Int.mul_le_mul (by omega) pa'.2 (by omega) (by decide)⟩
      have m6 : mulOk ((C n k : Int) * (r.y - r.x) ^ k) ((r.z - r.y) ^ (n - k)) = true := mulOk_l (by omega)
      have c2 : 0 ≤ (C n k : Int) * (r.y - r.x) ^ k * (r.z - r.y) ^ (n - k) ∧ (C n k : Int) * (r.y - r.x) ^ k * (r.z - r.y) ^ (n - k) ≤ 2 ^ 6 * 9 ^ 6 * 9 ^ 6 := ⟨Int.mul_nonneg c1.1 (by omega), Int.mul_le_mul c1.2 pb'.2 (by omega) (by decide)⟩
      have m7 : ∀ g : Int, mulOk ((C n k : Int) * (r.y - r.x) ^ k * (r.z - r.y) ^ (n - k)) g = true := fun g => mulOk_l (by omega)
      have m8 : mulOk (C n k) ((n : Int) - k) = true := mulOk_l (by omega)
      have fd : fdivOk ((k : Int) + 1) = true := fdivOk_of (n := 10) (by omega) (by omega) (by decide) (by decide)
      refine ⟨_, ?_, some (.int (0 + k)), some (.int (r.sg * (first * r.z ^ k * r.x ^ (n - k) - r.K * down * r.q ^ n))), rfl⟩
      rw [sSeq_next (sSet_flat (d := .int (first * r.z ^ k * r.x ^ (n - k) - r.K * down * r.q ^ n)) (by
        simp only [List.set_cons_zero, List.set_cons_succ, eOp_a, eCall_2, eVar_0, eVar_s, o1_s, o2_ss, e0, dSub_i, en, w1, w2, w3, dMul_i m1, dMul_i m2, dMul_i m3, dMul_i m4]) rfl)]
      simp only [List.set_cons_zero, List.set_cons_succ]
      rw [sSeq_next (s' := ([some (.int n), some (.int first), some (.tuple [.int r.x, .int r.y, .int r.z, .int r.q, .int down]), some (.int r.K), some (.str (kd r.sg)), some (.int r.x), some (.int r.y), some (.int r.z), some (.int r.q), some (.int down), some (.int (rsum (fun i => trm (r.y - r.x) (r.z - r.y) n i * r.gg first down n (0 + i)) k)), some (.int (C n k)), some (.int (0 + k)), some (.int (r.sg * (first * r.z ^ k * r.x ^ (n - k) - r.K * down * r.q ^ n)))], [0, 0, 0, 0, 0, 0, 0, 0, 0, 0, 0, 0, 0, 0])) (by
        rcases h.sg with e | e
        · have kk : kd r.sg = Str.ofString "call" := by rw [e]; rfl
          rw [sIf_f (by simp only [tCmp_a, eVar_0, eVar_s, eC_a, o2_ss, kk]; exact kd_cput)]
          rw [e, Int.one_mul]
          rfl
        · have kk : kd r.sg = Str.ofString "put" := by rw [e]; rfl
          rw [sIf_t (by simp only [tCmp_a, eVar_0, eVar_s, eC_a, o2_ss, kk]; exact kd_pput)]
          have en1 : (-1 : Int) * (first * r.z ^ k * r.x ^ (n - k) - r.K * down * r.q ^ n) = -(first * r.z ^ k * r.x ^ (n - k) - r.K * down * r.q ^ n) := by omega
          rw [e, en1]
          rw [sSet_flat (d := .int (-(first * r.z ^ k * r.x ^ (n - k) - r.K * down * r.q ^ n))) (by simp only [eUn_a, eVar_0, eVar_s, o1_s, dNeg_i]) rfl]
          rfl)]
      rw [sSeq_next (sAug_next (x := .int (rsum (fun i => trm (r.y - r.x) (r.z - r.y) n i * r.gg first down n (0 + i)) k)) (y := .int (trm (r.y - r.x) (r.z - r.y) n k * r.gg first down n (0 + k))) (d := .int (rsum (fun i => trm (r.y - r.x) (r.z - r.y) n i * r.gg first down n (0 + i)) (k + 1))) rfl (by
        have ek : 0 + k = k := by omega
        simp only [eOp_a, eCall_2, eCB_a, aCons_a, aNil_a, eC_a, eVar_0, eVar_s, o1_s, o2_ss, e0, dSub_i, en, w4, w5, dMul_i m5, dMul_i m6, dMax2_0, dMul_i (m7 _), ek]
        rfl) rfl)]
      simp only [List.set_cons_zero, List.set_cons_succ]
      rw [sSet_flat (d := .int (C n (k + 1))) (by
        have := C_next (n := n) (k := k) (by omega)
        simp only [eOp_a, eVar_0, eVar_s, eC_a, o2_ss, e0, dSub_i, dMul_i m8, dAdd_i, dFdiv_i fd, this]) rfl]
      rfl)
  rw [sSeq_next (s' := _) (by
    rw [sFor_go (range1_ok (n := n + 1) (by simp) (by omega))]
    exact e)]
  have w6 := power_ok (b := r.z - r.x) (n := n) (by omega) (by omega)
  have w7 := power_ok (b := r.y) (n := n) (by omega) (by omega)
  have pc' := pc n hn
  have py' := py n hn
  have m9 : mulOk down ((r.z - r.x) ^ n) = true := mulOk_l (by omega)
  have c3 : 0 < down * (r.z - r.x) ^ n ∧ down * (r.z - r.x) ^ n ≤ 6 * 9 ^ 6 := ⟨Int.mul_pos (by omega) (by omega), Int.mul_le_mul dn2 pc'.2 (by omega) (by decide)⟩
  have m10 : mulOk (down * (r.z - r.x) ^ n) (r.y ^ n) = true := mulOk_l (by omega)
  have c4 : 0 < down * (r.z - r.x) ^ n * r.y ^ n ∧ down * (r.z - r.x) ^ n * r.y ^ n ≤ 6 * 9 ^ 6 * 9 ^ 6 := ⟨Int.mul_pos c3.1 (by omega), Int.mul_le_mul c3.2 py'.2 (by omega) (by decide)⟩
  have ra := ratio_ok (a := itb (r.y - r.x) (r.z - r.y) (r.gg first down n) n 0) (b := down * (r.z - r.x) ^ n * r.y ^ n) (k := 64) c4.1 (by omega) (by decide)
  have es := itb_sum (r.y - r.x) (r.z - r.y) (r.gg first down n) n 0
  rw [← es]
  exact sRet_ok (by simp only [eCall_2, eOp_a, eVar_0, eVar_s, o1_s, o2_ss, dSub_i, w6, w7, dMul_i m9, dMul_i m10, ra]; rfl)
theorem Ok.right_o (h : Ok r) {n : Nat} (hn : n ≤ 6) : den__law_right [.int n, .int r.s, .tuple [.int r.x, .int r.y, .int r.z, .int r.q, .int 1], .int r.K, .str (kd r.sg)] = some (rt (r.oq n n 0)) := by
  have h1 := h.s1; have h2 := h.s81
  rw [h.right hn (by omega) (by omega) (by omega) (by omega)]
  congr 2
  have e : r.gg r.s 1 n = r.gn n := by
    funext k
    unfold gg gn pr
    rw [Int.mul_one]
  have m := h.M_bd (i := n) hn
  rw [e]
  unfold oq A
  congr 1
  rw [Nat.sub_self, Int.pow_zero, Int.one_mul, Int.one_mul]
  unfold M
  rw [Int.mul_pow]
theorem M_pow (m : Nat) : r.M ^ m = (r.z - r.x) ^ m * r.y ^ m := by
  unfold M
  rw [Int.mul_pow]
theorem Ok.right_1 (h : Ok r) {m : Nat} (hm : m + 1 ≤ 6) : den__law_right [.int m, .int (r.s * r.z), .tuple [.int r.x, .int r.y, .int r.z, .int r.q, .int r.q], .int r.K, .str (kd r.sg)] = some (rt (r.oq (m + 1) m 1)) := by
  have h1 := h.s1; have h2 := h.s81; have h3 := h.z14; have h4 := h.q1; have h5 := h.q6; have h6 := h.x1; have h7 := h.xy; have h8 := h.yz
  have b1 : 0 < r.s * r.z := Int.mul_pos (by omega) (by omega)
  have b2 : r.s * r.z ≤ 81 * 14 := Int.mul_le_mul h2 h3 (by omega) (by omega)
  rw [h.right (n := m) (by omega) (by omega) (by omega) h4 h5]
  congr 2
  have e : r.gg (r.s * r.z) r.q m = fun k => r.gn (m + 1) (k + 1) := by
    funext k
    unfold gg gn pr
    have e1 : m + 1 - (k + 1) = m - k := by omega
    rw [e1, Int.pow_succ, Int.pow_succ]
    congr 2
    grind
  rw [e, itb_shift]
  unfold oq A
  congr 1
  have e2 : m + 1 - m = 1 := by omega
  rw [e2, M_pow, Int.pow_one, Int.mul_assoc]
theorem Ok.right_2 (h : Ok r) {m : Nat} (hm : m + 1 ≤ 6) : den__law_right [.int m, .int (r.s * r.x), .tuple [.int r.x, .int r.y, .int r.z, .int r.q, .int r.q], .int r.K, .str (kd r.sg)] = some (rt (r.oq (m + 1) m 0)) := by
  have h1 := h.s1; have h2 := h.s81; have h3 := h.z14; have h4 := h.q1; have h5 := h.q6; have h6 := h.x1; have h7 := h.xy; have h8 := h.yz
  have b1 : 0 < r.s * r.x := Int.mul_pos (by omega) (by omega)
  have b2 : r.s * r.x ≤ 81 * 14 := Int.mul_le_mul h2 (by omega) (by omega) (by omega)
  rw [h.right (n := m) (by omega) (by omega) (by omega) h4 h5]
  congr 2
  have e : ∀ k, k ≤ m → r.gg (r.s * r.x) r.q m k = r.gn (m + 1) k := fun k hk => by
    unfold gg gn pr
    have e1 : m + 1 - k = (m - k) + 1 := by omega
    rw [e1, Int.pow_succ, Int.pow_succ]
    congr 2
    grind
  rw [itb_congr e m 0 (by omega)]
  unfold oq A
  congr 1
  have e2 : m + 1 - m = 1 := by omega
  rw [e2, M_pow, Int.pow_one, Int.mul_assoc]
end R4
/-- a ratio times a over b, lowest -/
theorem lratio2_ok {p : Rat} {m : Nat} {a b : Int} (hp : Sm m p) (hb0 : 0 < b) (hb : b.natAbs < 2 ^ m) (h : m + m ≤ 8000) : den__law_ratio [.int (p.num * a), .int (p.den * b)] = some (rt (p * a / b)) := by
  have e : p * (a : Rat) / (b : Rat) = Rat.divInt (p.num * a) (p.den * b) := by
    have b1 := den_pos p
    have c1 := cast_ne b1
    have c2 := cast_ne hb0
    have a1 := Rat.num_divInt_den p
    rw [Rat.divInt_eq_div] at a1 ⊢
    have k : ((p.num : Rat) / ((p.den : Int) : Rat)) * (a : Rat) / (b : Rat) = ((p.num : Rat) * (a : Rat)) / (((p.den : Int) : Rat) * (b : Rat)) := by
      generalize (p.num : Rat) = A at *
      generalize (((p.den : Int)) : Rat) = B at *
      generalize (a : Rat) = C at *
      generalize (b : Rat) = E at *
      grind
    rw [a1] at k
    rw [k, Rat.intCast_mul, Rat.intCast_mul]
  rw [e]
  exact ratio_ok (k := m + m) (Int.mul_pos (den_pos p) hb0) (natAbs_mul_lt (by simpa using hp.2) hb) (by omega)
namespace R4
variable {r : R4}
theorem Ok.share_val (h : Ok r) (m : Nat) : (r.oq (m + 1) m 1 + -(r.oq (m + 1) m 0)) * (r.q : Rat) / ((r.s * (r.z - r.x) : Int) : Rat) = r.shq (m + 1) := by
  unfold shq
  have e : m + 1 - 1 = m := by omega
  rw [e, h.UD, fr_div]
  have q0 := cast_ne (show 0 < r.q by have := h.q1; omega)
  have s0 := cast_ne (show 0 < r.s by have := h.s1; omega)
  have z0 := cast_ne (show 0 < r.z - r.x by have := h.xy; have := h.yz; omega)
  push_cast at *
  generalize r.oq (m + 1) m 1 = A at *
  generalize r.oq (m + 1) m 0 = B at *
  grind
/-- one year of the law's own walk back -/
theorem Ok.keep_val (h : Ok r) {n i k : Nat} (hi : i < n) : (0 + r.eq n i (k + 1) * ((r.y - r.x : Int) : Rat) + r.eq n i k * ((r.z - r.y : Int) : Rat)) * (r.q : Rat) / (((r.z - r.x) * r.y : Int) : Rat) = fr ((r.y - r.x) * r.B n i (k + 1) + (r.z - r.y) * r.B n i k) (r.q ^ (n - (i + 1)) * r.M ^ (i + 1)) := by
  have ds := den_split h hi
  have q0 := cast_ne (show 0 < r.q by have := h.q1; omega)
  have y0 := cast_ne (show 0 < r.y by have := h.x1; have := h.xy; omega)
  have z0 := cast_ne (show 0 < r.z - r.x by have := h.xy; have := h.yz; omega)
  have qt : 0 < r.q ^ (n - (i + 1)) := ipos _ (by have := h.q1; omega)
  have mt : 0 < r.M ^ i := ipos _ (by unfold M; exact Int.mul_pos (by have := h.xy; have := h.yz; omega) (by have := h.x1; have := h.xy; omega))
  have e0 := cast_ne (Int.mul_pos qt mt)
  unfold eq
  rw [ds.1, ← ds.2]
  generalize r.q ^ (n - (i + 1)) * r.M ^ i = E at *
  unfold M
  rw [fr_div, fr_div, fr_div]
  push_cast at *
  generalize (r.B n i (k + 1) : Rat) = B1 at *
  generalize (r.B n i k : Rat) = B0 at *
  generalize (E : Rat) = E' at *
  generalize (r.q : Rat) = Q at *
  generalize (r.x : Rat) = X at *
  generalize (r.y : Rat) = Y at *
  generalize (r.z : Rat) = Z at *
  grind
end R4
end Lib
end

section
set_option Elab.async false
set_option linter.all false
set_option maxRecDepth 10000
/-! k44: the law's own walk back through the steps. -/
namespace Lib
open DS PySem
theorem Ls_snoc' (m : Nat) (f : Nat → Rat) : (PyData.list (((List.range m).map fun k => rt (f k)) ++ [rt (f m)])) = Ls (m + 1) f := Ls_snoc m f
namespace R4
variable {r : R4}
theorem Ok.learly (h : Ok r) {n : Nat} (hn : n ≤ 6) : den__law_early [.int n, .int r.s, .tuple [.int r.x, .int r.y, .int r.z, .int r.q, .int 1], .int r.K, .str (kd r.sg)] = some (rt (r.eq n n 0)) := by
  have hx1 := h.x1; have hxy := h.xy; have hyz := h.yz; have hy9 := h.y9; have hz14 := h.z14; have hzx := h.zx; have hq1 := h.q1; have hq6 := h.q6; have hK0 := h.K0; have hK86 := h.K86; have hs1 := h.s1; have hs81 := h.s81
  have pz : ∀ k : Nat, k ≤ 6 → 1 ≤ r.z ^ k ∧ r.z ^ k ≤ 14 ^ 6 := fun k hk => pow_bd (by omega) hz14 hk
  have fz : ∀ k : Nat, k ≤ 6 → 0 < r.s * r.z ^ k ∧ r.s * r.z ^ k ≤ 1200 * 14 ^ 6 := fun k hk =>
    ⟨Int.mul_pos (by omega) (by have := pz k hk; omega), Int.mul_le_mul (by omega) (pz k hk).2 (by have := pz k hk; omega) (by omega)⟩
  refine dfun_ret [some (.int n), some (.int r.s), some (.tuple [.int r.x, .int r.y, .int r.z, .int r.q, .int 1]), some (.int r.K), some (.str (kd r.sg)), none, none, none, none, none, none, none, none, none, none, none, none, none] [0, 0, 0, 0, 0, 0, 0, 0, 0, 0, 0, 0, 0, 0, 0, 0, 0, 0] rfl rfl rfl ?_
  rw [sSeq_next (sTup_flat (l := [(5, .int r.x), (6, .int r.y), (7, .int r.z), (8, .int r.q), (9, .int 1)]) rfl rfl rfl)]
  simp only [setsD, zeros, List.foldl_cons, List.foldl_nil, List.set_cons_zero, List.set_cons_succ]
  -- the worths before round i
  obtain ⟨Wd, hW0, hW⟩ : ∃ Wd : Nat → D, Wd 0 = .list [] ∧ ∀ i, Wd (i + 1) = Ls (n - i + 1) (r.eq n i) := ⟨fun i => match i with | 0 => .list [] | i + 1 => Ls (n - i + 1) (r.eq n i), rfl, fun _ => rfl⟩
  have hWf : ∀ i, flat (Wd i) = false := fun i => by
    cases i with
    | zero => rw [hW0]; rfl
    | succ i => rw [hW]; rfl
  rw [sSeq_next (s' := ([some (.int n), some (.int r.s), some (.tuple [.int r.x, .int r.y, .int r.z, .int r.q, .int 1]), some (.int r.K), some (.str (kd r.sg)), some (.int r.x), some (.int r.y), some (.int r.z), some (.int r.q), some (.int 1), some (Wd 0), none, none, none, none, none, none, none], [0, 0, 0, 0, 0, 0, 0, 0, 0, 0, 0, 0, 0, 0, 0, 0, 0, 0])) (by
    rw [sSet_next (d := .list []) (by simp [eLst, sz]), hW0]
    rfl)]
  obtain ⟨s', e, x11, x12, x13, x14, x15, x16, x17, rfl⟩ := for_dn (i := 11) (n := n + 1) (lo := (n : Int)) (body := sSeq (sSet 12 1 (eLst aNil) [])
  (sSeq (sFor (iRange1 (eOp dAdd (eVar 11) (eC (.int 1)))) [] (.nm 13)
  (sSeq (sSet 14 0 (eCall 2 den__law_power (aCons (eVar 8) (aCons (eVar 11) aNil))) ([(8, 0)] ++ ([(11, 0)] ++ [])))
  (sSeq (sSet 15 0 (eOp dSub (eOp dMul (eOp dMul (eVar 1) (eCall 2 den__law_power (aCons (eVar 7) (aCons (eVar 13) aNil)))) (eCall 2 den__law_power (aCons (eVar 5) (aCons (eOp dSub (eVar 11) (eVar 13)) aNil)))) (eOp dMul (eVar 3) (eVar 14))) ((([(1, 1)] ++ ([(7, 0)] ++ ([(13, 0)] ++ []))) ++ ([(5, 0)] ++ (([(11, 1)] ++ [(13, 1)]) ++ []))) ++ ([(3, 1)] ++ [(14, 1)])))
  (sSeq (sIf (tCmp dEq (eVar 4) (eC (.str "put")))
  (sSet 15 0 (eUn dNeg (eVar 15)) [])
  sNil)
  (sSeq (sSet 16 0 (eCall 2 den__law_ratio (aCons (eCB (d2 dMax2) (aCons (eC (.int 0)) (aCons (eVar 15) aNil))) (aCons (eVar 14) aNil))) ([] ++ ([(14, 0)] ++ [])))
  (sSeq (sIf (tCmp dLt (eVar 11) (eVar 0))
  (sSeq (sSet 17 0 (eCall 2 den__law_dot (aCons (eTup (aCons (eIx (eVar 10) (eOp dAdd (eVar 13) (eC (.int 1)))) (aCons (eIx (eVar 10) (eVar 13)) aNil))) (aCons (eTup (aCons (eOp dSub (eVar 6) (eVar 5)) (aCons (eOp dSub (eVar 7) (eVar 6)) aNil))) aNil))) (([(10, 1)] ++ ([(10, 1)] ++ [])) ++ ((([(6, 1)] ++ [(5, 1)]) ++ (([(7, 1)] ++ [(6, 1)]) ++ [])) ++ [])))
  (sSeq (sSet 17 0 (eCall 2 den__law_ratio (aCons (eOp dMul (eIx (eVar 17) (eC (.int 0))) (eVar 8)) (aCons (eOp dMul (eOp dMul (eIx (eVar 17) (eC (.int 1))) (eOp dSub (eVar 7) (eVar 5))) (eVar 6)) aNil))) (([(17, 2)] ++ [(8, 1)]) ++ ((([(17, 2)] ++ ([(7, 1)] ++ [(5, 1)])) ++ [(6, 1)]) ++ [])))
  (sIf (tTru (eCall 2 den__law_under (aCons (eVar 16) (aCons (eVar 17) aNil))))
  (sSet 16 0 (eVar 17) [(17, 0)])
  sNil)))
  sNil)
  (sApp 12 (eVar 16) [(16, 0)])))))))
  (sSet 10 0 (eVar 12) [(12, 0)])))
    (fun i s => ∃ x11 x12 x13 x14 x15 x16 x17, s = ([some (.int n), some (.int r.s), some (.tuple [.int r.x, .int r.y, .int r.z, .int r.q, .int 1]), some (.int r.K), some (.str (kd r.sg)), some (.int r.x), some (.int r.y), some (.int r.z), some (.int r.q), some (.int 1), some (Wd i), x11, x12, x13, x14, x15, x16, x17], [0, 0, 0, 0, 0, 0, 0, 0, 0, 0, 0, 0, 0, 0, 0, 0, 0, 0]))
    _ ⟨none, none, none, none, none, none, none, rfl⟩ (by
      rintro i _ hi ⟨x11, x12, x13, x14, x15, x16, x17, rfl⟩
      have et : (n : Int) - i = ((n - i : Nat) : Int) := by omega
      rw [et]
      simp only [List.set_cons_zero, List.set_cons_succ]
      rw [sSeq_next (s' := ([some (.int n), some (.int r.s), some (.tuple [.int r.x, .int r.y, .int r.z, .int r.q, .int 1]), some (.int r.K), some (.str (kd r.sg)), some (.int r.x), some (.int r.y), some (.int r.z), some (.int r.q), some (.int 1), some (Wd i), some (.int (n - i : Nat)), some (.list []), x13, x14, x15, x16, x17], [0, 0, 0, 0, 0, 0, 0, 0, 0, 0, 0, 0, 1, 0, 0, 0, 0, 0])) (by
        rw [sSet_next (d := .list []) (by simp [eLst, sz])]
        rfl)]
      obtain ⟨s', e, y13, y14, y15, y16, y17, rfl⟩ := for_rng (i := 13) (n := n - i + 1) (lo := 0) (body := (sSeq (sSet 14 0 (eCall 2 den__law_power (aCons (eVar 8) (aCons (eVar 11) aNil))) ([(8, 0)] ++ ([(11, 0)] ++ [])))
          (sSeq (sSet 15 0 (eOp dSub (eOp dMul (eOp dMul (eVar 1) (eCall 2 den__law_power (aCons (eVar 7) (aCons (eVar 13) aNil)))) (eCall 2 den__law_power (aCons (eVar 5) (aCons (eOp dSub (eVar 11) (eVar 13)) aNil)))) (eOp dMul (eVar 3) (eVar 14))) ((([(1, 1)] ++ ([(7, 0)] ++ ([(13, 0)] ++ []))) ++ ([(5, 0)] ++ (([(11, 1)] ++ [(13, 1)]) ++ []))) ++ ([(3, 1)] ++ [(14, 1)])))
          (sSeq (sIf (tCmp dEq (eVar 4) (eC (.str "put")))
          (sSet 15 0 (eUn dNeg (eVar 15)) [])
          sNil)
          (sSeq (sSet 16 0 (eCall 2 den__law_ratio (aCons (eCB (d2 dMax2) (aCons (eC (.int 0)) (aCons (eVar 15) aNil))) (aCons (eVar 14) aNil))) ([] ++ ([(14, 0)] ++ [])))
          (sSeq (sIf (tCmp dLt (eVar 11) (eVar 0))
          (sSeq (sSet 17 0 (eCall 2 den__law_dot (aCons (eTup (aCons (eIx (eVar 10) (eOp dAdd (eVar 13) (eC (.int 1)))) (aCons (eIx (eVar 10) (eVar 13)) aNil))) (aCons (eTup (aCons (eOp dSub (eVar 6) (eVar 5)) (aCons (eOp dSub (eVar 7) (eVar 6)) aNil))) aNil))) (([(10, 1)] ++ ([(10, 1)] ++ [])) ++ ((([(6, 1)] ++ [(5, 1)]) ++ (([(7, 1)] ++ [(6, 1)]) ++ [])) ++ [])))
          (sSeq (sSet 17 0 (eCall 2 den__law_ratio (aCons (eOp dMul (eIx (eVar 17) (eC (.int 0))) (eVar 8)) (aCons (eOp dMul (eOp dMul (eIx (eVar 17) (eC (.int 1))) (eOp dSub (eVar 7) (eVar 5))) (eVar 6)) aNil))) (([(17, 2)] ++ [(8, 1)]) ++ ((([(17, 2)] ++ ([(7, 1)] ++ [(5, 1)])) ++ [(6, 1)]) ++ [])))
          (sIf (tTru (eCall 2 den__law_under (aCons (eVar 16) (aCons (eVar 17) aNil))))
          (sSet 16 0 (eVar 17) [(17, 0)])
          sNil)))
          sNil)
          (sApp 12 (eVar 16) [(16, 0)])))))))
        (fun k s => ∃ y13 y14 y15 y16 y17, s = ([some (.int n), some (.int r.s), some (.tuple [.int r.x, .int r.y, .int r.z, .int r.q, .int 1]), some (.int r.K), some (.str (kd r.sg)), some (.int r.x), some (.int r.y), some (.int r.z), some (.int r.q), some (.int 1), some (Wd i), some (.int (n - i : Nat)), some (.list ((List.range k).map fun k => rt (r.eq n i k))), y13, y14, y15, y16, y17], [0, 0, 0, 0, 0, 0, 0, 0, 0, 0, 0, 0, 1, 0, 0, 0, 0, 0]))
        _ ⟨x13, x14, x15, x16, x17, rfl⟩ (by
          rintro k _ hk ⟨y13, y14, y15, y16, y17, rfl⟩
          have e0 : (0 : Int) + k = k := by omega
          rw [e0]
          simp only [List.set_cons_zero, List.set_cons_succ]
          have ek : ((n - i : Nat) : Int) - k = ((n - i - k : Nat) : Int) := by omega
          have w1 := power_ok (b := r.z) (n := k) (by omega) (by omega)
          have w2 := power_ok (b := r.x) (n := n - i - k) (by omega) (by omega)
          have w3 := power_ok (b := r.q) (n := n - i) (by omega) (by omega)
          have fz' := fz k (by omega)
          have m1 : mulOk r.s (r.z ^ k) = true := mulOk_l (by omega)
          have m2 : mulOk (r.s * r.z ^ k) (r.x ^ (n - i - k)) = true := mulOk_l (by omega)
          have m4 : mulOk r.K (r.q ^ (n - i)) = true := mulOk_l (by omega)
          have qb := h.q_bd (t := n - i) (by omega)
          have gb := h.gn_bd (t := n - i) (k := k) (by omega) (by omega)
          have g1 : r.sg * (r.pr (n - i) k - r.K * r.q ^ (n - i)) = r.sg * (r.s * r.z ^ k * r.x ^ (n - i - k) - r.K * r.q ^ (n - i)) := rfl
          rw [sSeq_next (sSet_flat (d := .int (r.q ^ (n - i))) (by simp only [eCall_2, eVar_0, eVar_s, o1_s, w3]) rfl)]
          simp only [List.set_cons_zero, List.set_cons_succ]
          rw [sSeq_next (sSet_flat (d := .int (r.s * r.z ^ k * r.x ^ (n - i - k) - r.K * r.q ^ (n - i))) (by
            simp only [eOp_a, eCall_2, eVar_0, eVar_s, o1_s, o2_ss, dSub_i, ek, w1, w2, dMul_i m1, dMul_i m2, dMul_i m4]) rfl)]
          simp only [List.set_cons_zero, List.set_cons_succ]
          rw [sSeq_next (s' := ([some (.int n), some (.int r.s), some (.tuple [.int r.x, .int r.y, .int r.z, .int r.q, .int 1]), some (.int r.K), some (.str (kd r.sg)), some (.int r.x), some (.int r.y), some (.int r.z), some (.int r.q), some (.int 1), some (Wd i), some (.int (n - i : Nat)), some (.list ((List.range k).map fun k => rt (r.eq n i k))), some (.int k), some (.int (r.q ^ (n - i))), some (.int (r.sg * (r.s * r.z ^ k * r.x ^ (n - i - k) - r.K * r.q ^ (n - i)))), y16, y17], [0, 0, 0, 0, 0, 0, 0, 0, 0, 0, 0, 0, 1, 0, 0, 0, 0, 0])) (by
            rcases h.sg with e | e
            · have kk : kd r.sg = Str.ofString "call" := by rw [e]; rfl
              rw [sIf_f (by simp only [tCmp_a, eVar_0, eVar_s, eC_a, o2_ss, kk]; exact kd_cput)]
              rw [e, Int.one_mul]
              rfl
            · have kk : kd r.sg = Str.ofString "put" := by rw [e]; rfl
              rw [sIf_t (by simp only [tCmp_a, eVar_0, eVar_s, eC_a, o2_ss, kk]; exact kd_pput)]
              have en1 : (-1 : Int) * (r.s * r.z ^ k * r.x ^ (n - i - k) - r.K * r.q ^ (n - i)) = -(r.s * r.z ^ k * r.x ^ (n - i - k) - r.K * r.q ^ (n - i)) := by omega
              rw [e, en1]
              rw [sSet_flat (d := .int (-(r.s * r.z ^ k * r.x ^ (n - i - k) - r.K * r.q ^ (n - i)))) (by simp only [eUn_a, eVar_0, eVar_s, o1_s, dNeg_i]) rfl]
              rfl)]
          have best := ratio_ok (a := r.gn (n - i) k) (b := r.q ^ (n - i)) (k := 64) qb.1 (by omega) (by decide)
          rw [sSeq_next (sSet_flat (d := rt (r.gnq (n - i) k)) (by
            simp only [eCall_2, eCB_a, aCons_a, aNil_a, eC_a, eVar_0, eVar_s, o1_s, o2_ss, dMax2_0]
            exact best) rfl)]
          simp only [List.set_cons_zero, List.set_cons_succ]
          -- the better of both
          obtain ⟨z17, hb⟩ : ∃ z17, (sIf (tCmp dLt (eVar 11) (eVar 0))
            (sSeq (sSet 17 0 (eCall 2 den__law_dot (aCons (eTup (aCons (eIx (eVar 10) (eOp dAdd (eVar 13) (eC (.int 1)))) (aCons (eIx (eVar 10) (eVar 13)) aNil))) (aCons (eTup (aCons (eOp dSub (eVar 6) (eVar 5)) (aCons (eOp dSub (eVar 7) (eVar 6)) aNil))) aNil))) (([(10, 1)] ++ ([(10, 1)] ++ [])) ++ ((([(6, 1)] ++ [(5, 1)]) ++ (([(7, 1)] ++ [(6, 1)]) ++ [])) ++ [])))
            (sSeq (sSet 17 0 (eCall 2 den__law_ratio (aCons (eOp dMul (eIx (eVar 17) (eC (.int 0))) (eVar 8)) (aCons (eOp dMul (eOp dMul (eIx (eVar 17) (eC (.int 1))) (eOp dSub (eVar 7) (eVar 5))) (eVar 6)) aNil))) (([(17, 2)] ++ [(8, 1)]) ++ ((([(17, 2)] ++ ([(7, 1)] ++ [(5, 1)])) ++ [(6, 1)]) ++ [])))
            (sIf (tTru (eCall 2 den__law_under (aCons (eVar 16) (aCons (eVar 17) aNil))))
            (sSet 16 0 (eVar 17) [(17, 0)])
            sNil)))
            sNil) ([some (.int n), some (.int r.s), some (.tuple [.int r.x, .int r.y, .int r.z, .int r.q, .int 1]), some (.int r.K), some (.str (kd r.sg)), some (.int r.x), some (.int r.y), some (.int r.z), some (.int r.q), some (.int 1), some (Wd i), some (.int (n - i : Nat)), some (.list ((List.range k).map fun k => rt (r.eq n i k))), some (.int k), some (.int (r.q ^ (n - i))), some (.int (r.sg * (r.s * r.z ^ k * r.x ^ (n - i - k) - r.K * r.q ^ (n - i)))), some (rt (r.gnq (n - i) k)), y17], [0, 0, 0, 0, 0, 0, 0, 0, 0, 0, 0, 0, 1, 0, 0, 0, 0, 0])
            = .next ([some (.int n), some (.int r.s), some (.tuple [.int r.x, .int r.y, .int r.z, .int r.q, .int 1]), some (.int r.K), some (.str (kd r.sg)), some (.int r.x), some (.int r.y), some (.int r.z), some (.int r.q), some (.int 1), some (Wd i), some (.int (n - i : Nat)), some (.list ((List.range k).map fun k => rt (r.eq n i k))), some (.int k), some (.int (r.q ^ (n - i))), some (.int (r.sg * (r.s * r.z ^ k * r.x ^ (n - i - k) - r.K * r.q ^ (n - i)))), some (rt (r.eq n i k)), z17], [0, 0, 0, 0, 0, 0, 0, 0, 0, 0, 0, 0, 1, 0, 0, 0, 0, 0]) := by
            cases i with
            | zero =>
              refine ⟨y17, ?_⟩
              rw [sIf_f (by simp)]
              rw [eq_0]
              rfl
            | succ i =>
              have hi' : i < n := by omega
              have kv := h.keep_val (n := n) (i := i) (k := k) hi'
              have s1 := h.eq_sm (n := n) (j := i) (k := k + 1) hn (by omega)
              have s2 := h.eq_sm (n := n) (j := i) (k := k) hn (by omega)
              have dt := ldot_ok s1 s2 (a := r.y - r.x) (b := r.z - r.y) (by omega) (by omega) (by decide)
              have i1 : dIx (Wd (i + 1)) (.int ((k : Int) + 1)) = some (rt (r.eq n i (k + 1))) := by
                rw [hW]
                exact Ls_ix (m := n - i + 1) (j := k + 1) (f := r.eq n i) (by omega)
              have i0 : dIx (Wd (i + 1)) (.int k) = some (rt (r.eq n i k)) := by
                rw [hW]
                exact Ls_ix (m := n - i + 1) (j := k) (f := r.eq n i) (by omega)
              -- what is kept, small enough
              have sa : Sm 8 ((r.y - r.x : Int) : Rat) := by rw [← fr_int]; exact fr_sm (by decide) (by omega) (by omega)
              have sb : Sm 8 ((r.z - r.y : Int) : Rat) := by rw [← fr_int]; exact fr_sm (by decide) (by omega) (by omega)
              have z : Sm 1 (0 : Rat) := ⟨by decide, by decide⟩
              have p1 := (plus_ok z (times_ok s1 sa (by decide) (by decide) (by decide)).2 (by decide) (by decide) (by decide)).2
              have p2 := (plus_ok p1 (times_ok s2 sb (by decide) (by decide) (by decide)).2 (by decide) (by decide) (by decide)).2
              have zy0 : 0 < (r.z - r.x) * r.y := Int.mul_pos (by omega) (by omega)
              have zy1 : (r.z - r.x) * r.y ≤ 9 * 9 := Int.mul_le_mul hzx hy9 (by omega) (by omega)
              have lr := lratio2_ok (a := r.q) (b := (r.z - r.x) * r.y) (p2.mono (show _ ≤ 300 by decide)) zy0 (by omega) (by decide)
              rw [kv] at lr
              have kq := h.eq_next (n := n) (i := i) (k := k) hn hi' (by omega)
              have bb1 := h.B_lt (n := n) (i := i) (k := k + 1) hn (by omega)
              have bb2 := h.B_lt (n := n) (i := i) (k := k) hn (by omega)
              have dd := h.den_bd (t := n - (i + 1)) (i := i + 1) (by omega) (by omega)
              have cc1 : (r.y - r.x) * r.B n i (k + 1) ≤ 9 * 2 ^ 80 := Int.mul_le_mul (by omega) (by omega) (by omega) (by decide)
              have cc2 : (r.z - r.y) * r.B n i k ≤ 9 * 2 ^ 80 := Int.mul_le_mul (by omega) (by omega) (by omega) (by decide)
              have cc3 := Int.mul_nonneg (show 0 ≤ r.y - r.x by omega) bb1.1
              have cc4 := Int.mul_nonneg (show 0 ≤ r.z - r.y by omega) bb2.1
              have smk : Sm 100 (fr ((r.y - r.x) * r.B n i (k + 1) + (r.z - r.y) * r.B n i k) (r.q ^ (n - (i + 1)) * r.M ^ (i + 1))) := fr_sm dd.1 (by omega) (by omega)
              have un := lunder_ok (h.gnq_sm (t := n - (i + 1)) (k := k) (by omega) (by omega)) smk (by decide)
              refine ⟨some (rt (fr ((r.y - r.x) * r.B n i (k + 1) + (r.z - r.y) * r.B n i k) (r.q ^ (n - (i + 1)) * r.M ^ (i + 1)))), ?_⟩
              rw [sIf_t (by simp; omega)]
              rw [sSeq_next (sSet_flat (d := rt (0 + r.eq n i (k + 1) * ((r.y - r.x : Int) : Rat) + r.eq n i k * ((r.z - r.y : Int) : Rat))) (by
                simp only [eCall_2, eTup, aCons_a, aNil_a, eIx_a, eOp_a, eC_a, eVar_0, eVar_s, o1_s, o2_ss, dAdd_i, dSub_i, i1, i0, List.length_cons, List.length_nil, Nat.zero_add, Nat.reduceAdd, sz, Nat.reduceLeDiff, if_true, dt]) rfl)]
              simp only [List.set_cons_zero, List.set_cons_succ]
              have mm1 : ∀ a : Int, mulOk a r.q = true := fun a => mulOk_r (by omega)
              have mm2 : ∀ a : Int, mulOk a (r.z - r.x) = true := fun a => mulOk_r (by omega)
              have mm3 : ∀ a : Int, mulOk a r.y = true := fun a => mulOk_r (by omega)
              rw [sSeq_next (sSet_flat (d := rt (fr ((r.y - r.x) * r.B n i (k + 1) + (r.z - r.y) * r.B n i k) (r.q ^ (n - (i + 1)) * r.M ^ (i + 1)))) (by
                simp only [eCall_2, eIx_a, eOp_a, eC_a, eVar_0, eVar_s, o1_s, o2_ss, rt_0, rt_1, dSub_i, dMul_i (mm1 _), dMul_i (mm2 _), dMul_i (mm3 _), Int.mul_assoc]
                exact lr) rfl)]
              simp only [List.set_cons_zero, List.set_cons_succ]
              rw [← kq]
              by_cases c : r.gnq (n - (i + 1)) k < fr ((r.y - r.x) * r.B n i (k + 1) + (r.z - r.y) * r.B n i k) (r.q ^ (n - (i + 1)) * r.M ^ (i + 1))
              · rw [sIf_t (by simp only [tTru_a, eCall_2, eVar_0, eVar_s, o1_s, un, dTru_b, c, decide_true])]
                rw [if_pos c]
                rw [sSet_flat (d := rt (fr ((r.y - r.x) * r.B n i (k + 1) + (r.z - r.y) * r.B n i k) (r.q ^ (n - (i + 1)) * r.M ^ (i + 1)))) (by simp only [eVar_0, eVar_s]) rfl]
                rfl
              · rw [sIf_f (by simp only [tTru_a, eCall_2, eVar_0, eVar_s, o1_s, un, dTru_b, c, decide_false])]
                rw [if_neg c]
                rfl
          rw [sSeq_next hb]
          refine ⟨_, ?_, some (.int k), some (.int (r.q ^ (n - i))), some (.int (r.sg * (r.s * r.z ^ k * r.x ^ (n - i - k) - r.K * r.q ^ (n - i)))), some (rt (r.eq n i k)), z17, rfl⟩
          rw [sApp_flat (d := rt (r.eq n i k)) (ds := (List.range k).map fun k => rt (r.eq n i k)) (by simp only [eVar_0, eVar_s]) rfl (by simp only [eVar_0, eVar_s]) (by simp; omega) rfl]
          rw [List.range_succ (n := k), List.map_append]
          rfl)
      rw [sSeq_next (s' := _) (by
        rw [sFor_go (range1_ok (n := n - i + 1) (by simp) (by omega))]
        exact e)]
      refine ⟨_, ?_, some (.int (n - i : Nat)), some (Ls (n - i + 1) (r.eq n i)), y13, y14, y15, y16, y17, rfl⟩
      rw [hW]
      rw [sSet_next (d := Ls (n - i + 1) (r.eq n i)) (by simp only [eVar_0, eVar_s]; rfl)]
      rfl)
  rw [sSeq_next (s' := _) (by
    rw [sFor_go (range3_ok (i := (n : Int)) (n := n + 1) (by simp) (by simp) (by simp) (by omega) (by omega))]
    exact e)]
  rw [hW]
  have ix := Ls_ix (m := n - n + 1) (j := 0) (f := r.eq n n) (by omega)
  exact sRet_ok (by simp only [eIx_a, eVar_0, eVar_s, eC_a, o2_ss]; exact ix)
end R4
end Lib
end

section
set_option Elab.async false
set_option linter.all false
set_option maxRecDepth 10000
/-! k44: what is asked of one right. -/
namespace Lib
open DS PySem
def den__law_asked : Fn := dfun 17 5 (sSeq (sTup (.tp [(.nm 5), (.nm 6), (.nm 7), (.nm 8), (.nm 9)]) (eVar 2) [(2, 0)])
  (sSeq (sPar3 10 11 12 (eCall 2 den__law_ratio (aCons (eVar 7) (aCons (eVar 8) aNil))) (eCall 2 den__law_ratio (aCons (eVar 5) (aCons (eVar 8) aNil))) (eCall 2 den__law_ratio (aCons (eVar 6) (aCons (eVar 8) aNil))) (([(7, 0)] ++ ([(8, 0)] ++ [])) ++ (([(5, 0)] ++ ([(8, 0)] ++ [])) ++ ([(6, 0)] ++ ([(8, 0)] ++ [])))))
  (sSeq (sIf (tNotD (tTru (eCall 2 (den__law_like 30) (aCons (eCall 7 den_option_price (aCons (eVar 0) (aCons (eVar 1) (aCons (eVar 10) (aCons (eVar 11) (aCons (eVar 12) (aCons (eVar 3) (aCons (eVar 4) aNil)))))))) (aCons (eCall 5 den__law_right (aCons (eVar 0) (aCons (eVar 1) (aCons (eVar 2) (aCons (eVar 3) (aCons (eVar 4) aNil)))))) aNil)))))
  (sRet (eC (.bool false)))
  sNil)
  (sSeq (sSet 13 0 (eTup (aCons (eVar 5) (aCons (eVar 6) (aCons (eVar 7) (aCons (eVar 8) (aCons (eVar 8) aNil)))))) ([(5, 0)] ++ ([(6, 0)] ++ ([(7, 0)] ++ ([(8, 0)] ++ ([(8, 0)] ++ []))))))
  (sSeq (sSet 14 0 (eCall 5 den__law_right (aCons (eOp dSub (eVar 0) (eC (.int 1))) (aCons (eOp dMul (eVar 1) (eVar 7)) (aCons (eVar 13) (aCons (eVar 3) (aCons (eVar 4) aNil)))))) (([(0, 1)] ++ []) ++ (([(1, 1)] ++ [(7, 1)]) ++ ([(13, 0)] ++ ([(3, 0)] ++ ([(4, 0)] ++ []))))))
  (sSeq (sSet 15 0 (eCall 5 den__law_right (aCons (eOp dSub (eVar 0) (eC (.int 1))) (aCons (eOp dMul (eVar 1) (eVar 5)) (aCons (eVar 13) (aCons (eVar 3) (aCons (eVar 4) aNil)))))) (([(0, 1)] ++ []) ++ (([(1, 1)] ++ [(5, 1)]) ++ ([(13, 0)] ++ ([(3, 0)] ++ ([(4, 0)] ++ []))))))
  (sSeq (sSet 16 0 (eCall 2 den__law_add (aCons (eVar 14) (aCons (eTup (aCons (eUn dNeg (eIx (eVar 15) (eC (.int 0)))) (aCons (eIx (eVar 15) (eC (.int 1))) aNil))) aNil))) ([(14, 0)] ++ (([] ++ ([(15, 1)] ++ [])) ++ [])))
  (sSeq (sSet 16 0 (eCall 2 den__law_ratio (aCons (eOp dMul (eIx (eVar 16) (eC (.int 0))) (eVar 8)) (aCons (eOp dMul (eOp dMul (eIx (eVar 16) (eC (.int 1))) (eVar 1)) (eOp dSub (eVar 7) (eVar 5))) aNil))) (([(16, 2)] ++ [(8, 1)]) ++ ((([(16, 2)] ++ [(1, 1)]) ++ ([(7, 1)] ++ [(5, 1)])) ++ [])))
  (sSeq (sIf (tNotD (tTru (eCall 2 (den__law_like 30) (aCons (eCall 7 den_copy_share (aCons (eVar 0) (aCons (eVar 1) (aCons (eVar 10) (aCons (eVar 11) (aCons (eVar 12) (aCons (eVar 3) (aCons (eVar 4) aNil)))))))) (aCons (eVar 16) aNil)))))
  (sRet (eC (.bool false)))
  sNil)
  (sRet (eCall 2 (den__law_like 30) (aCons (eCall 7 den_early_price (aCons (eVar 0) (aCons (eVar 1) (aCons (eVar 10) (aCons (eVar 11) (aCons (eVar 12) (aCons (eVar 3) (aCons (eVar 4) aNil)))))))) (aCons (eCall 5 den__law_early (aCons (eVar 0) (aCons (eVar 1) (aCons (eVar 2) (aCons (eVar 3) (aCons (eVar 4) aNil)))))) aNil)))))))))))))
/-- a part of a law that holds does nothing -/
theorem pass {f g : FE} {ρ : PEnv} {L : List Nat} {d : D} {n : Nat} (hf : f ρ = some d) (hg : g ρ = some d) (hp : pl n d = true) {G : Fn} (hG : G [d, d] = some (.bool true)) :
    sIf (tNotD (tTru (eCall 2 G (aCons f (aCons g aNil))))) (sRet (eC (.bool false))) sNil (ρ, L) = .next (ρ, L) := by
  rw [sIf_f (by simp only [tNotD_a, tTru_a, eCall_2, hf, hg, o1_s, hG, dTru_b]; rfl)]
  rfl
theorem pl30_rt (q : Rat) : pl 30 (rt q) = true := rfl
theorem like30_rt (q : Rat) : den__law_like 30 [rt q, rt q] = some (.bool true) := like_ok 30 _ (pl30_rt q)
theorem rt_neg (q : Rat) : (.tuple [.int (-q.num), .int q.den] : D) = rt (-q) := rfl
theorem Sm.neg {m : Nat} {q : Rat} (h : Sm m q) : Sm m (-q) := ⟨by rw [Rat.neg_num, Int.natAbs_neg]; exact h.1, h.2⟩
namespace R4
variable {r : R4}
theorem Ok.asked (h : Ok r) {n : Nat} (h1 : 1 ≤ n) (hn : n ≤ 6) : den__law_asked [.int n, .int r.s, .tuple [.int r.x, .int r.y, .int r.z, .int r.q, .int 1], .int r.K, .str (kd r.sg)] = some (.bool true) := by
  have hx1 := h.x1; have hxy := h.xy; have hyz := h.yz; have hy9 := h.y9; have hz14 := h.z14; have hzx := h.zx; have hq1 := h.q1; have hq6 := h.q6; have hs1 := h.s1; have hs81 := h.s81
  obtain ⟨m, rfl⟩ : ∃ m, n = m + 1 := ⟨n - 1, by omega⟩
  refine dfun_ret [some (.int (m + 1 : Nat)), some (.int r.s), some (.tuple [.int r.x, .int r.y, .int r.z, .int r.q, .int 1]), some (.int r.K), some (.str (kd r.sg)), none, none, none, none, none, none, none, none, none, none, none, none] [0, 0, 0, 0, 0, 0, 0, 0, 0, 0, 0, 0, 0, 0, 0, 0, 0] rfl rfl rfl ?_
  rw [sSeq_next (sTup_flat (l := [(5, .int r.x), (6, .int r.y), (7, .int r.z), (8, .int r.q), (9, .int 1)]) rfl rfl rfl)]
  simp only [setsD, zeros, List.foldl_cons, List.foldl_nil, List.set_cons_zero, List.set_cons_succ]
  have ru : den__law_ratio [.int r.z, .int r.q] = some (rt r.U) := ratio_ok (k := 10) (by omega) (by omega) (by decide)
  have rd : den__law_ratio [.int r.x, .int r.q] = some (rt r.Dn) := ratio_ok (k := 10) (by omega) (by omega) (by decide)
  have rr : den__law_ratio [.int r.y, .int r.q] = some (rt r.Rr) := ratio_ok (k := 10) (by omega) (by omega) (by decide)
  rw [sSeq_next (s' := ([some (.int (m + 1 : Nat)), some (.int r.s), some (.tuple [.int r.x, .int r.y, .int r.z, .int r.q, .int 1]), some (.int r.K), some (.str (kd r.sg)), some (.int r.x), some (.int r.y), some (.int r.z), some (.int r.q), some (.int 1), some (rt r.U), some (rt r.Dn), some (rt r.Rr), none, none, none, none], [0, 0, 0, 0, 0, 0, 0, 0, 0, 0, 0, 0, 0, 0, 0, 0, 0])) (by
    unfold sPar3
    simp only [eCall_2, eVar_0, eVar_s, o1_s, ru, rd, rr]
    rfl)]
  rw [sSeq_next (pass (d := rt (r.oq (m + 1) (m + 1) 0)) (n := 30)
    (by simp only [eCall_7, eVar_0, eVar_s, o1_s, h.option hn])
    (by simp only [eCall_5, eVar_0, eVar_s, o1_s, h.right_o hn]) (pl30_rt _) (like30_rt _))]
  rw [sSeq_next (sSet_flat (d := .tuple [.int r.x, .int r.y, .int r.z, .int r.q, .int r.q]) (by simp [eTup, sz]) rfl)]
  simp only [List.set_cons_zero, List.set_cons_succ]
  have em : ((m + 1 : Nat) : Int) - 1 = m := by omega
  have k1 : mulOk r.s r.z = true := mulOk_l (by omega)
  have k2 : mulOk r.s r.x = true := mulOk_l (by omega)
  rw [sSeq_next (sSet_flat (d := rt (r.oq (m + 1) m 1)) (by simp only [eCall_5, eOp_a, eC_a, eVar_0, eVar_s, o1_s, o2_ss, dSub_i, em, dMul_i k1, h.right_1 hn]) rfl)]
  simp only [List.set_cons_zero, List.set_cons_succ]
  rw [sSeq_next (sSet_flat (d := rt (r.oq (m + 1) m 0)) (by simp only [eCall_5, eOp_a, eC_a, eVar_0, eVar_s, o1_s, o2_ss, dSub_i, em, dMul_i k2, h.right_2 hn]) rfl)]
  simp only [List.set_cons_zero, List.set_cons_succ]
  have s1 := h.oq_sm (n := m + 1) (j := m) (k := 1) hn (by omega)
  have s0 := h.oq_sm (n := m + 1) (j := m) (k := 0) hn (by omega)
  have ad := ladd_ok s1 s0.neg (by decide)
  rw [sSeq_next (sSet_flat (d := rt (r.oq (m + 1) m 1 + -(r.oq (m + 1) m 0))) (by simp only [eCall_2, eTup, aCons_a, aNil_a, eIx_a, eUn_a, eC_a, eVar_0, eVar_s, o1_s, o2_ss, rt_0, rt_1, dNeg_i, List.length_cons, List.length_nil, Nat.zero_add, Nat.reduceAdd, sz, Nat.reduceLeDiff, if_true, rt_neg, ad.1]) rfl)]
  simp only [List.set_cons_zero, List.set_cons_succ]
  have b0 : 0 < r.s * (r.z - r.x) := Int.mul_pos (by omega) (by omega)
  have b1 : r.s * (r.z - r.x) ≤ 81 * 9 := Int.mul_le_mul hs81 hzx (by omega) (by omega)
  have lr := lratio2_ok (a := r.q) (b := r.s * (r.z - r.x)) (ad.2.mono (show _ ≤ 300 by decide)) b0 (by omega) (by decide)
  rw [h.share_val] at lr
  have mm1 : ∀ a : Int, mulOk a r.q = true := fun a => mulOk_r (by omega)
  have mm2 : ∀ a : Int, mulOk a r.s = true := fun a => mulOk_r (by omega)
  have mm3 : ∀ a : Int, mulOk a (r.z - r.x) = true := fun a => mulOk_r (by omega)
  rw [sSeq_next (sSet_flat (d := rt (r.shq (m + 1))) (by
    simp only [eCall_2, eIx_a, eOp_a, eC_a, eVar_0, eVar_s, o1_s, o2_ss, rt_0, rt_1, dSub_i, dMul_i (mm1 _), dMul_i (mm2 _), dMul_i (mm3 _), Int.mul_assoc]
    exact lr) rfl)]
  simp only [List.set_cons_zero, List.set_cons_succ]
  rw [sSeq_next (pass (d := rt (r.shq (m + 1))) (n := 30)
    (by simp only [eCall_7, eVar_0, eVar_s, o1_s, h.share h1 hn])
    (by simp only [eVar_0, eVar_s]) (pl30_rt _) (like30_rt _))]
  exact sRet_ok (by simp only [eCall_2, eCall_5, eCall_7, eVar_0, eVar_s, o1_s, h.early hn, h.learly hn, like30_rt])
end R4
end Lib
end

section
set_option Elab.async false
set_option linter.all false
set_option maxRecDepth 10000
/-! k44: the same rights as trees of choices. -/
namespace Lib
open DS PySem
def den_worth_of : Nat → Fn
  | 0 => fun _ => none
  | n + 1 => dfun 3 1 (sSeq (sIf (tTru (eIsi "int" (eVar 0)))
  (sRet (eTup (aCons (eVar 0) (aCons (eC (.int 1)) aNil))))
  sNil)
  (sSeq (sIf (tCmp dEq (eIx (eVar 0) (eC (.int 0))) (eC (.str "choose")))
  (sRet (eCall 1 den_greatest (aCons (eLc (iSeq (eIx (eVar 0) (eC (.int 1)))) (.nm 2) tTrue (eCall 1 (den_worth_of n) (aCons (eVar 2) aNil)) [2]) aNil)))
  sNil)
  (sRet (eCall 1 den_mean_of (aCons (eLc (iSeq (eIx (eVar 0) (eC (.int 1)))) (.tp [(.nm 1), (.nm 2)]) tTrue (eTup (aCons (eVar 1) (aCons (eCall 1 (den_worth_of n) (aCons (eVar 2) aNil)) aNil))) [1, 2]) aNil)))))
def den__law_tree : Nat → Fn
  | 0 => fun _ => none
  | n + 1 => dfun 15 6 (sSeq (sTup (.tp [(.nm 6), (.nm 7), (.nm 8), (.nm 9), (.nm 10)]) (eVar 2) [(2, 0)])
  (sSeq (sSet 11 0 (eOp dSub (eVar 1) (eVar 3)) ([(1, 1)] ++ [(3, 1)]))
  (sSeq (sIf (tCmp dEq (eVar 4) (eC (.str "put")))
  (sSet 11 0 (eUn dNeg (eVar 11)) [])
  sNil)
  (sSeq (sSet 11 0 (eCB (d2 dMax2) (aCons (eC (.int 0)) (aCons (eVar 11) aNil))) [])
  (sSeq (sIf (tCmp dEq (eVar 0) (eC (.int 0)))
  (sRet (eVar 11))
  sNil)
  (sSeq (sSet 12 0 (eCall 6 (den__law_tree n) (aCons (eOp dSub (eVar 0) (eC (.int 1))) (aCons (eOp dFdiv (eOp dMul (eVar 1) (eVar 8)) (eVar 9)) (aCons (eVar 2) (aCons (eVar 3) (aCons (eVar 4) (aCons (eVar 5) aNil))))))) (([(0, 1)] ++ []) ++ ((([(1, 1)] ++ [(8, 1)]) ++ [(9, 1)]) ++ ([(2, 0)] ++ ([(3, 0)] ++ ([(4, 0)] ++ ([(5, 0)] ++ [])))))))
  (sSeq (sSet 13 0 (eCall 6 (den__law_tree n) (aCons (eOp dSub (eVar 0) (eC (.int 1))) (aCons (eOp dFdiv (eOp dMul (eVar 1) (eVar 6)) (eVar 9)) (aCons (eVar 2) (aCons (eVar 3) (aCons (eVar 4) (aCons (eVar 5) aNil))))))) (([(0, 1)] ++ []) ++ ((([(1, 1)] ++ [(6, 1)]) ++ [(9, 1)]) ++ ([(2, 0)] ++ ([(3, 0)] ++ ([(4, 0)] ++ ([(5, 0)] ++ [])))))))
  (sSeq (sSet 14 0 (eTup (aCons (eC (.str "chance")) (aCons (eTup (aCons (eTup (aCons (eOp dSub (eVar 7) (eVar 6)) (aCons (eVar 12) aNil))) (aCons (eTup (aCons (eOp dSub (eVar 8) (eVar 7)) (aCons (eVar 13) aNil))) aNil))) aNil))) ([] ++ (((([(7, 1)] ++ [(6, 1)]) ++ ([(12, 0)] ++ [])) ++ ((([(8, 1)] ++ [(7, 1)]) ++ ([(13, 0)] ++ [])) ++ [])) ++ [])))
  (sSeq (sIf (tTru (eVar 5))
  (sRet (eTup (aCons (eC (.str "choose")) (aCons (eTup (aCons (eVar 11) (aCons (eVar 14) aNil))) aNil))))
  sNil)
  (sRet (eVar 14)))))))))))
theorem greatest_l {a b : Rat} {m n : Nat} (ha : Sm m a) (hb : Sm n b) (h1 : m + m ≤ 8000) (h2 : m + n ≤ 8000) : den_greatest [.list [rt a, rt b]] = some (rt (if a < b then b else a)) := by
  have hm := ha.pos
  have hn := hb.pos
  have l1 := is_less_ok ha ha hm hm h1
  have l2 := is_less_ok ha hb hm hn h2
  have irr : decide (a < a) = false := by simp [Rat.lt_irrefl]
  rw [irr] at l1
  refine dfun_ret [some (.list [rt a, rt b]), none, none] [0, 0, 0] rfl rfl rfl ?_
  rw [sSeq_next (sSet_flat (d := rt a) (by
    have : dIx (.list [rt a, rt b]) (.int 0) = some (rt a) := atI_0
    simp [this]) rfl)]
  simp only [List.set_cons_zero, List.set_cons_succ]
  have s1 : sSet 1 0 (eIfD (tTru (eCall 2 den_is_less (aCons (eVar 1) (aCons (eVar 2) aNil)))) (eVar 2) (eVar 1)) ([(2, 0)] ++ [(1, 0)]) ([some (.list [rt a, rt b]), some (rt a), some (rt a)], [0, 0, 0]) = .next ([some (.list [rt a, rt b]), some (rt a), some (rt a)], [0, 0, 0]) := by
    rw [sSet_flat (d := rt a) (by simp only [eIfD, tTru_a, eCall_2, eVar_0, eVar_s, o1_s, l1, dTru_b]) rfl]
    rfl
  have s2 : sSet 1 0 (eIfD (tTru (eCall 2 den_is_less (aCons (eVar 1) (aCons (eVar 2) aNil)))) (eVar 2) (eVar 1)) ([(2, 0)] ++ [(1, 0)]) ([some (.list [rt a, rt b]), some (rt a), some (rt b)], [0, 0, 0]) = .next ([some (.list [rt a, rt b]), some (rt (if a < b then b else a)), some (rt b)], [0, 0, 0]) := by
    rw [sSet_flat (d := rt (if a < b then b else a)) (by
      by_cases hab : a < b
      · simp only [eIfD, tTru_a, eCall_2, eVar_0, eVar_s, o1_s, l2, dTru_b, hab, decide_true, if_true]
      · simp only [eIfD, tTru_a, eCall_2, eVar_0, eVar_s, o1_s, l2, dTru_b, hab, decide_false, if_false]) rfl]
    rfl
  rw [sSeq_next (s' := ([some (.list [rt a, rt b]), some (rt (if a < b then b else a)), some (rt b)], [0, 0, 0])) (by
    rw [sFor_go (ds := [rt a, rt b]) (by simp)]
    show (match sSet 1 0 (eIfD (tTru (eCall 2 den_is_less (aCons (eVar 1) (aCons (eVar 2) aNil)))) (eVar 2) (eVar 1)) ([(2, 0)] ++ [(1, 0)]) ([some (.list [rt a, rt b]), some (rt a), some (rt a)], [0, 0, 0]) with
        | .next s' => forGo (.nm 2) (sSet 1 0 (eIfD (tTru (eCall 2 den_is_less (aCons (eVar 1) (aCons (eVar 2) aNil)))) (eVar 2) (eVar 1)) ([(2, 0)] ++ [(1, 0)])) [rt b] s'
        | .cont s' => forGo (.nm 2) (sSet 1 0 (eIfD (tTru (eCall 2 den_is_less (aCons (eVar 1) (aCons (eVar 2) aNil)))) (eVar 2) (eVar 1)) ([(2, 0)] ++ [(1, 0)])) [rt b] s'
        | .brk s' => .next s'
        | .ret d => .ret d
        | .stuck => .stuck) = _
    rw [s1]
    show (match sSet 1 0 (eIfD (tTru (eCall 2 den_is_less (aCons (eVar 1) (aCons (eVar 2) aNil)))) (eVar 2) (eVar 1)) ([(2, 0)] ++ [(1, 0)]) ([some (.list [rt a, rt b]), some (rt a), some (rt b)], [0, 0, 0]) with
        | .next s' => Out.next s'
        | .cont s' => Out.next s'
        | .brk s' => .next s'
        | .ret d => .ret d
        | .stuck => .stuck) = _
    rw [s2])]
  exact sRet_ok (by simp)
namespace R4
variable {r : R4}
def gi (r : R4) (p : Int) : Int := mx (r.sg * (p - r.K))
/-- the tree of chances above two trees -/
def ch (r : R4) (a b : D) : D := .tuple [.str "chance", .tuple [.tuple [.int (r.y - r.x), a], .tuple [.int (r.z - r.y), b]]]
def trd (r : R4) (early : Bool) : Nat → Int → D
  | 0, p => .int (r.gi p)
  | j + 1, p => if early = true then .tuple [.str "choose", .tuple [.int (r.gi p), r.ch (trd r early j (p * r.z / r.q)) (trd r early j (p * r.x / r.q))]] else r.ch (trd r early j (p * r.z / r.q)) (trd r early j (p * r.x / r.q))
theorem Ok.tree (h : Ok r) (early : Bool) : ∀ (j m : Nat) (p : Int), j < m → den__law_tree m [.int j, .int p, .tuple [.int r.x, .int r.y, .int r.z, .int r.q, .int 1], .int r.K, .str (kd r.sg), .bool early] = some (r.trd early j p) := by
  have hx1 := h.x1; have hxy := h.xy; have hyz := h.yz; have hz14 := h.z14; have hq1 := h.q1; have hq6 := h.q6
  intro j
  induction j with
  | zero =>
    intro m p hm
    obtain ⟨m, rfl⟩ : ∃ k, m = k + 1 := ⟨m - 1, by omega⟩
    unfold den__law_tree
    refine dfun_ret [some (.int 0), some (.int p), some (.tuple [.int r.x, .int r.y, .int r.z, .int r.q, .int 1]), some (.int r.K), some (.str (kd r.sg)), some (.bool early), none, none, none, none, none, none, none, none, none] [0, 0, 0, 0, 0, 0, 0, 0, 0, 0, 0, 0, 0, 0, 0] rfl rfl rfl ?_
    rw [sSeq_next (sTup_flat (l := [(6, .int r.x), (7, .int r.y), (8, .int r.z), (9, .int r.q), (10, .int 1)]) rfl rfl rfl)]
    simp only [setsD, zeros, List.foldl_cons, List.foldl_nil, List.set_cons_zero, List.set_cons_succ]
    rw [sSeq_next (sSet_flat (d := .int (p - r.K)) (by simp only [eOp_a, eVar_0, eVar_s, o2_ss, dSub_i]) rfl)]
    simp only [List.set_cons_zero, List.set_cons_succ]
    rw [sSeq_next (s' := ([some (.int 0), some (.int p), some (.tuple [.int r.x, .int r.y, .int r.z, .int r.q, .int 1]), some (.int r.K), some (.str (kd r.sg)), some (.bool early), some (.int r.x), some (.int r.y), some (.int r.z), some (.int r.q), some (.int 1), some (.int (r.sg * (p - r.K))), none, none, none], [0, 0, 0, 0, 0, 0, 0, 0, 0, 0, 0, 0, 0, 0, 0])) (by
      rcases h.sg with e | e
      · have kk : kd r.sg = Str.ofString "call" := by rw [e]; rfl
        rw [sIf_f (by simp only [tCmp_a, eVar_0, eVar_s, eC_a, o2_ss, kk]; exact kd_cput)]
        rw [e, Int.one_mul]
        rfl
      · have kk : kd r.sg = Str.ofString "put" := by rw [e]; rfl
        rw [sIf_t (by simp only [tCmp_a, eVar_0, eVar_s, eC_a, o2_ss, kk]; exact kd_pput)]
        have en1 : (-1 : Int) * (p - r.K) = -(p - r.K) := by omega
        rw [e, en1]
        rw [sSet_flat (d := .int (-(p - r.K))) (by simp only [eUn_a, eVar_0, eVar_s, o1_s, dNeg_i]) rfl]
        rfl)]
    rw [sSeq_next (sSet_flat (d := .int (r.gi p)) (by simp only [eCB_a, aCons_a, aNil_a, eC_a, eVar_0, eVar_s, o1_s, o2_ss, dMax2_0]; rfl) rfl)]
    simp only [List.set_cons_zero, List.set_cons_succ]
    rw [sSeq_ret (d := .int (r.gi p)) (by
      rw [sIf_t (by simp)]
      exact sRet_ok (by simp))]
    rfl
  | succ j ih =>
    intro m p hm
    obtain ⟨m, rfl⟩ : ∃ k, m = k + 1 := ⟨m - 1, by omega⟩
    have i1 := ih m (p * r.z / r.q) (by omega)
    have i2 := ih m (p * r.x / r.q) (by omega)
    have ej : ((j + 1 : Nat) : Int) - 1 = j := by omega
    have k1 : mulOk p r.z = true := mulOk_r (by omega)
    have k2 : mulOk p r.x = true := mulOk_r (by omega)
    have fq : fdivOk r.q = true := fdivOk_of (n := 10) (by omega) (by omega) (by decide) (by decide)
    unfold den__law_tree
    refine dfun_ret [some (.int (j + 1 : Nat)), some (.int p), some (.tuple [.int r.x, .int r.y, .int r.z, .int r.q, .int 1]), some (.int r.K), some (.str (kd r.sg)), some (.bool early), none, none, none, none, none, none, none, none, none] [0, 0, 0, 0, 0, 0, 0, 0, 0, 0, 0, 0, 0, 0, 0] rfl rfl rfl ?_
    rw [sSeq_next (sTup_flat (l := [(6, .int r.x), (7, .int r.y), (8, .int r.z), (9, .int r.q), (10, .int 1)]) rfl rfl rfl)]
    simp only [setsD, zeros, List.foldl_cons, List.foldl_nil, List.set_cons_zero, List.set_cons_succ]
    rw [sSeq_next (sSet_flat (d := .int (p - r.K)) (by simp only [eOp_a, eVar_0, eVar_s, o2_ss, dSub_i]) rfl)]
    simp only [List.set_cons_zero, List.set_cons_succ]
    rw [sSeq_next (s' := ([some (.int (j + 1 : Nat)), some (.int p), some (.tuple [.int r.x, .int r.y, .int r.z, .int r.q, .int 1]), some (.int r.K), some (.str (kd r.sg)), some (.bool early), some (.int r.x), some (.int r.y), some (.int r.z), some (.int r.q), some (.int 1), some (.int (r.sg * (p - r.K))), none, none, none], [0, 0, 0, 0, 0, 0, 0, 0, 0, 0, 0, 0, 0, 0, 0])) (by
      rcases h.sg with e | e
      · have kk : kd r.sg = Str.ofString "call" := by rw [e]; rfl
        rw [sIf_f (by simp only [tCmp_a, eVar_0, eVar_s, eC_a, o2_ss, kk]; exact kd_cput)]
        rw [e, Int.one_mul]
        rfl
      · have kk : kd r.sg = Str.ofString "put" := by rw [e]; rfl
        rw [sIf_t (by simp only [tCmp_a, eVar_0, eVar_s, eC_a, o2_ss, kk]; exact kd_pput)]
        have en1 : (-1 : Int) * (p - r.K) = -(p - r.K) := by omega
        rw [e, en1]
        rw [sSet_flat (d := .int (-(p - r.K))) (by simp only [eUn_a, eVar_0, eVar_s, o1_s, dNeg_i]) rfl]
        rfl)]
    rw [sSeq_next (sSet_flat (d := .int (r.gi p)) (by simp only [eCB_a, aCons_a, aNil_a, eC_a, eVar_0, eVar_s, o1_s, o2_ss, dMax2_0]; rfl) rfl)]
    simp only [List.set_cons_zero, List.set_cons_succ]
    rw [sSeq_next (s' := ([some (.int (j + 1 : Nat)), some (.int p), some (.tuple [.int r.x, .int r.y, .int r.z, .int r.q, .int 1]), some (.int r.K), some (.str (kd r.sg)), some (.bool early), some (.int r.x), some (.int r.y), some (.int r.z), some (.int r.q), some (.int 1), some (.int (r.gi p)), none, none, none], [0, 0, 0, 0, 0, 0, 0, 0, 0, 0, 0, 0, 0, 0, 0])) (by
      rw [sIf_f (by simp; omega)]
      rfl)]
    obtain ⟨L1, e1⟩ := sSet_any (i := 12) (l := 0) (c := (([(0, 1)] ++ []) ++ ((([(1, 1)] ++ [(8, 1)]) ++ [(9, 1)]) ++ ([(2, 0)] ++ ([(3, 0)] ++ ([(4, 0)] ++ ([(5, 0)] ++ []))))))) (d := r.trd early j (p * r.z / r.q))
      (f := eCall 6 (den__law_tree m) (aCons (eOp dSub (eVar 0) (eC (.int 1))) (aCons (eOp dFdiv (eOp dMul (eVar 1) (eVar 8)) (eVar 9)) (aCons (eVar 2) (aCons (eVar 3) (aCons (eVar 4) (aCons (eVar 5) aNil)))))))
      (ρ := [some (.int (j + 1 : Nat)), some (.int p), some (.tuple [.int r.x, .int r.y, .int r.z, .int r.q, .int 1]), some (.int r.K), some (.str (kd r.sg)), some (.bool early), some (.int r.x), some (.int r.y), some (.int r.z), some (.int r.q), some (.int 1), some (.int (r.gi p)), none, none, none]) (L := [0, 0, 0, 0, 0, 0, 0, 0, 0, 0, 0, 0, 0, 0, 0]) (by
        simp only [eCall_6, eOp_a, eC_a, eVar_0, eVar_s, o1_s, o2_ss, dSub_i, ej, dMul_i k1, dFdiv_i fq, i1])
    rw [sSeq_next e1]
    simp only [List.set_cons_zero, List.set_cons_succ]
    obtain ⟨L2, e2⟩ := sSet_any (i := 13) (l := 0) (c := (([(0, 1)] ++ []) ++ ((([(1, 1)] ++ [(6, 1)]) ++ [(9, 1)]) ++ ([(2, 0)] ++ ([(3, 0)] ++ ([(4, 0)] ++ ([(5, 0)] ++ []))))))) (d := r.trd early j (p * r.x / r.q))
      (f := eCall 6 (den__law_tree m) (aCons (eOp dSub (eVar 0) (eC (.int 1))) (aCons (eOp dFdiv (eOp dMul (eVar 1) (eVar 6)) (eVar 9)) (aCons (eVar 2) (aCons (eVar 3) (aCons (eVar 4) (aCons (eVar 5) aNil)))))))
      (ρ := [some (.int (j + 1 : Nat)), some (.int p), some (.tuple [.int r.x, .int r.y, .int r.z, .int r.q, .int 1]), some (.int r.K), some (.str (kd r.sg)), some (.bool early), some (.int r.x), some (.int r.y), some (.int r.z), some (.int r.q), some (.int 1), some (.int (r.gi p)), some (r.trd early j (p * r.z / r.q)), none, none]) (L := L1) (by
        simp only [eCall_6, eOp_a, eC_a, eVar_0, eVar_s, o1_s, o2_ss, dSub_i, ej, dMul_i k2, dFdiv_i fq, i2])
    rw [sSeq_next e2]
    simp only [List.set_cons_zero, List.set_cons_succ]
    have ev : (eTup (aCons (eC (.str "chance")) (aCons (eTup (aCons (eTup (aCons (eOp dSub (eVar 7) (eVar 6)) (aCons (eVar 12) aNil))) (aCons (eTup (aCons (eOp dSub (eVar 8) (eVar 7)) (aCons (eVar 13) aNil))) aNil))) aNil)))
        [some (.int (j + 1 : Nat)), some (.int p), some (.tuple [.int r.x, .int r.y, .int r.z, .int r.q, .int 1]), some (.int r.K), some (.str (kd r.sg)), some (.bool early), some (.int r.x), some (.int r.y), some (.int r.z), some (.int r.q), some (.int 1), some (.int (r.gi p)), some (r.trd early j (p * r.z / r.q)), some (r.trd early j (p * r.x / r.q)), none] = some (r.ch (r.trd early j (p * r.z / r.q)) (r.trd early j (p * r.x / r.q))) := by
      simp only [eTup, aCons_a, aNil_a, eC_a, eOp_a, eVar_0, eVar_s, o1_s, o2_ss, dSub_i, List.length_cons, List.length_nil, Nat.zero_add, Nat.reduceAdd, sz, Nat.reduceLeDiff, if_true, ch]
    obtain ⟨L3, e3⟩ := sSet_any (i := 14) (l := 0) (c := ([] ++ (((([(7, 1)] ++ [(6, 1)]) ++ ([(12, 0)] ++ [])) ++ ((([(8, 1)] ++ [(7, 1)]) ++ ([(13, 0)] ++ [])) ++ [])) ++ []))) (L := L2) ev
    rw [sSeq_next e3]
    simp only [List.set_cons_zero, List.set_cons_succ]
    cases early with
    | true =>
      rw [sSeq_ret (d := r.trd true (j + 1) p) (by
        rw [sIf_t (by simp)]
        exact sRet_ok (by simp only [eTup, aCons_a, aNil_a, eC_a, eVar_0, eVar_s, o1_s, o2_ss, List.length_cons, List.length_nil, Nat.zero_add, Nat.reduceAdd, sz, Nat.reduceLeDiff, if_true]; rfl))]
    | false =>
      rw [sSeq_next (by rw [sIf_f (by simp)]; rfl)]
      exact sRet_ok (by simp only [eVar_0, eVar_s]; rfl)
end R4
end Lib
end

section
set_option Elab.async false
set_option linter.all false
set_option maxRecDepth 10000
/-! k44: worths of the trees. -/
namespace Lib
open DS PySem
theorem dEq_cc : dEq (.str "chance") (.str "choose") = some false := by decide +kernel
theorem dEq_oo : dEq (.str "choose") (.str "choose") = some true := by decide +kernel
theorem worth_int (m : Nat) (i : Int) : den_worth_of (m + 1) [.int i] = some (rt (i : Rat)) := by
  unfold den_worth_of
  refine dfun_ret [some (.int i), none, none] [0, 0, 0] rfl rfl rfl ?_
  rw [sSeq_ret (d := rt (i : Rat)) (by
    rw [sIf_t (by simp)]
    exact sRet_ok (by simp [eTup, sz, rt_int]))]
namespace R4
variable {r : R4}
theorem Ok.mean2 (h : Ok r) {v1 v2 : Rat} (s1 : Sm 100 v1) (s2 : Sm 100 v2) : den_mean_of [.list [.tuple [.int (r.y - r.x), rt v1], .tuple [.int (r.z - r.y), rt v2]]] = some (rt (r.Wt * v1 + (1 - r.Wt) * v2)) := by
  have hx1 := h.x1; have hxy := h.xy; have hyz := h.yz; have hz14 := h.z14
  have me := (mean_ok (m := 100) (ps := [(r.y - r.x, v1), (r.z - r.y, v2)]) (by decide)
    (by intro p hp; simp at hp; rcases hp with rfl | rfl; exact s1; exact s2)
    (by intro p hp; simp at hp; rcases hp with rfl | rfl <;> simp <;> omega)
    (by simp; omega) (by simp; omega) (by show 1 + 2 * (100 + 100 + 1) ≤ 7000; decide)).1
  have e : r.y - r.x + (r.z - r.y + 0) = r.z - r.x := by omega
  have z0 := cast_ne (show 0 < r.z - r.x by omega)
  have v : mean [(r.y - r.x, v1), (r.z - r.y, v2)] = r.Wt * v1 + (1 - r.Wt) * v2 := by
    simp only [mean, List.map_cons, List.map_nil, List.sum_cons, List.sum_nil, e, List.foldl_cons, List.foldl_nil]
    rw [h.Wt_eq, Rat.divInt_eq_div, Rat.divInt_eq_div]
    push_cast at *
    grind
  rw [v] at me
  exact me
theorem Ok.worth_ch (h : Ok r) {m : Nat} {a b : D} {v1 v2 : Rat} (s1 : Sm 100 v1) (s2 : Sm 100 v2) (w1 : den_worth_of m [a] = some (rt v1)) (w2 : den_worth_of m [b] = some (rt v2)) : den_worth_of (m + 1) [r.ch a b] = some (rt (r.Wt * v1 + (1 - r.Wt) * v2)) := by
  have me := h.mean2 s1 s2
  unfold den_worth_of ch
  refine dfun_ret [some (.tuple [.str "chance", .tuple [.tuple [.int (r.y - r.x), a], .tuple [.int (r.z - r.y), b]]]), none, none] [0, 0, 0] rfl rfl rfl ?_
  rw [sSeq_next (s' := ([some (.tuple [.str "chance", .tuple [.tuple [.int (r.y - r.x), a], .tuple [.int (r.z - r.y), b]]]), none, none], [0, 0, 0])) (by
    rw [sIf_f (by simp)]
    rfl)]
  have i0 : dIx (.tuple [.str "chance", .tuple [.tuple [.int (r.y - r.x), a], .tuple [.int (r.z - r.y), b]]]) (.int 0) = some (.str "chance") := atI_0
  have i1 : dIx (.tuple [.str "chance", .tuple [.tuple [.int (r.y - r.x), a], .tuple [.int (r.z - r.y), b]]]) (.int 1) = some (.tuple [.tuple [.int (r.y - r.x), a], .tuple [.int (r.z - r.y), b]]) := atI_1
  rw [sSeq_next (s' := ([some (.tuple [.str "chance", .tuple [.tuple [.int (r.y - r.x), a], .tuple [.int (r.z - r.y), b]]]), none, none], [0, 0, 0])) (by
    rw [sIf_f (by simp only [tCmp_a, eIx_a, eVar_0, eC_a, o2_ss, i0, dEq_cc])]
    rfl)]
  have lc : eLc (iSeq (eIx (eVar 0) (eC (.int 1)))) (.tp [(.nm 1), (.nm 2)]) tTrue (eTup (aCons (eVar 1) (aCons (eCall 1 (den_worth_of m) (aCons (eVar 2) aNil)) aNil))) [1, 2] [some (.tuple [.str "chance", .tuple [.tuple [.int (r.y - r.x), a], .tuple [.int (r.z - r.y), b]]]), none, none] = some (.list [.tuple [.int (r.y - r.x), rt v1], .tuple [.int (r.z - r.y), rt v2]]) := by
    refine eLc_of (l := [(r.y - r.x, a, v1), (r.z - r.y, b, v2)]) (fun p => .tuple [.int p.1, p.2.1]) (fun p => .tuple [.int p.1, rt p.2.2]) ?_ (by simp) fun p hp => ⟨[(1, .int p.1), (2, p.2.1)], rfl, ?_⟩
    · simp only [iSeq_a, eIx_a, eVar_0, eC_a, o2_ss, o1_s, i1, seqOf_t, List.map_cons, List.map_nil]
    · simp only [List.mem_cons, List.not_mem_nil, or_false] at hp
      rcases hp with rfl | rfl
      · simp only [setsD, wipeD, List.foldl_cons, List.foldl_nil, List.set_cons_zero, List.set_cons_succ, eCall_1, eTup, aCons_a, aNil_a, eVar_0, eVar_s, o2_ss, o1_s, List.length_cons, List.length_nil, Nat.zero_add, Nat.reduceAdd, sz, Nat.reduceLeDiff, if_true, w1]
      · simp only [setsD, wipeD, List.foldl_cons, List.foldl_nil, List.set_cons_zero, List.set_cons_succ, eCall_1, eTup, aCons_a, aNil_a, eVar_0, eVar_s, o2_ss, o1_s, List.length_cons, List.length_nil, Nat.zero_add, Nat.reduceAdd, sz, Nat.reduceLeDiff, if_true, w2]
  exact sRet_ok (by simp only [eCall_1, lc, o1_s, me])
theorem worth_oo {m : Nat} {a b : D} {v1 v2 : Rat} (s1 : Sm 100 v1) (s2 : Sm 1000 v2) (w1 : den_worth_of m [a] = some (rt v1)) (w2 : den_worth_of m [b] = some (rt v2)) : den_worth_of (m + 1) [.tuple [.str "choose", .tuple [a, b]]] = some (rt (if v1 < v2 then v2 else v1)) := by
  have g := greatest_l s1 s2 (by decide) (by decide)
  unfold den_worth_of
  refine dfun_ret [some (.tuple [.str "choose", .tuple [a, b]]), none, none] [0, 0, 0] rfl rfl rfl ?_
  rw [sSeq_next (s' := ([some (.tuple [.str "choose", .tuple [a, b]]), none, none], [0, 0, 0])) (by
    rw [sIf_f (by simp)]
    rfl)]
  have i0 : dIx (.tuple [.str "choose", .tuple [a, b]]) (.int 0) = some (.str "choose") := atI_0
  have i1 : dIx (.tuple [.str "choose", .tuple [a, b]]) (.int 1) = some (.tuple [a, b]) := atI_1
  have lc : eLc (iSeq (eIx (eVar 0) (eC (.int 1)))) (.nm 2) tTrue (eCall 1 (den_worth_of m) (aCons (eVar 2) aNil)) [2] [some (.tuple [.str "choose", .tuple [a, b]]), none, none] = some (.list [rt v1, rt v2]) := by
    refine eLc_of (t := .nm 2) (l := [(a, v1), (b, v2)]) (fun p => p.1) (fun p => rt p.2) ?_ (by simp) fun p hp => ⟨[(2, p.1)], rfl, ?_⟩
    · simp only [iSeq_a, eIx_a, eVar_0, eC_a, o2_ss, o1_s, i1, seqOf_t, List.map_cons, List.map_nil]
    · simp only [List.mem_cons, List.not_mem_nil, or_false] at hp
      rcases hp with rfl | rfl
      · simp only [setsD, wipeD, List.foldl_cons, List.foldl_nil, List.set_cons_zero, List.set_cons_succ, eCall_1, eVar_0, eVar_s, o1_s, w1]
      · simp only [setsD, wipeD, List.foldl_cons, List.foldl_nil, List.set_cons_zero, List.set_cons_succ, eCall_1, eVar_0, eVar_s, o1_s, w2]
  rw [sSeq_ret (d := rt (if v1 < v2 then v2 else v1)) (by
    rw [sIf_t (by simp only [tCmp_a, eIx_a, eVar_0, eC_a, o2_ss, i0, dEq_oo])]
    exact sRet_ok (by simp only [eCall_1, lc, o1_s, g]))]
/-- money that does not grow, a price that is whole at each step -/
structure Whole (r : R4) (c : Int) (n : Nat) : Prop where
  yq : r.y = r.q
  s : r.s = c * r.q ^ n
def P (r : R4) (c : Int) (j k l : Nat) : Int := c * r.q ^ j * r.z ^ k * r.x ^ l
theorem Ok.P_up (h : Ok r) (c : Int) (j k l : Nat) : r.P c (j + 1) k l * r.z / r.q = r.P c j (k + 1) l := by
  have q0 : r.q ≠ 0 := by have := h.q1; omega
  have e : r.P c (j + 1) k l * r.z = r.P c j (k + 1) l * r.q := by
    unfold P
    rw [Int.pow_succ, Int.pow_succ]
    grind
  rw [e, Int.mul_ediv_cancel _ q0]
theorem Ok.P_dn (h : Ok r) (c : Int) (j k l : Nat) : r.P c (j + 1) k l * r.x / r.q = r.P c j k (l + 1) := by
  have q0 : r.q ≠ 0 := by have := h.q1; omega
  have e : r.P c (j + 1) k l * r.x = r.P c j k (l + 1) * r.q := by
    unfold P
    rw [Int.pow_succ, Int.pow_succ]
    grind
  rw [e, Int.mul_ediv_cancel _ q0]
theorem mx_mul {a b : Int} (hb : 0 < b) : mx (a * b) = mx a * b := by
  unfold mx
  by_cases h : 0 < a
  · rw [if_pos h, if_pos (Int.mul_pos h hb)]
  · have : ¬ 0 < a * b := fun z => h (Int.pos_of_mul_pos_left z (by omega))
    rw [if_neg h, if_neg this, Int.zero_mul]
/-- the gain as a whole number -/
theorem Ok.gain_int (h : Ok r) {c : Int} {j k l : Nat} (w : Whole r c (j + (k + l))) : r.gnq (k + l) k = ((r.gi (r.P c j k l) : Int) : Rat) := by
  have qp : 0 < r.q ^ (k + l) := ipos _ (by have := h.q1; omega)
  have e : r.gn (k + l) k = r.gi (r.P c j k l) * r.q ^ (k + l) := by
    unfold gn gi
    rw [← mx_mul qp]
    congr 1
    unfold pr P
    rw [w.s]
    have e1 : k + l - k = l := by omega
    rw [e1, Int.pow_add]
    grind
  unfold gnq
  rw [← fr_int]
  exact fr_eq qp (by decide) (by rw [e]; omega)
theorem Ok.Rr1 (h : Ok r) {c : Int} {n : Nat} (w : Whole r c n) : r.Rr = 1 := by
  unfold Rr
  rw [w.yq, fr_div]
  have q0 := cast_ne (show 0 < r.q by have := h.q1; omega)
  grind
theorem Ok.oq_next (h : Ok r) {c : Int} {n j k : Nat} (w : Whole r c n) (hj : j < n) : r.Wt * r.oq n j (k + 1) + (1 - r.Wt) * r.oq n j k = r.oq n (j + 1) k := by
  have ds := den_split h hj
  have qt : 0 < r.q ^ (n - (j + 1)) := ipos _ (by have := h.q1; omega)
  have mt : 0 < r.M ^ j := ipos _ (by unfold M; exact Int.mul_pos (by have := h.xy; have := h.yz; omega) (by have := h.x1; have := h.xy; omega))
  have b := h.back_val (a1 := r.A n j (k + 1)) (a0 := r.A n j k) (Int.mul_pos qt mt)
  rw [h.Rr1 w, ← ds.1, ds.2] at b
  have d1 : ∀ x : Rat, x / 1 = x := fun x => by grind
  rw [d1] at b
  exact b
theorem Ok.kept_val (h : Ok r) {c : Int} {n j k : Nat} (w : Whole r c n) (hj : j < n) : r.Wt * r.eq n j (k + 1) + (1 - r.Wt) * r.eq n j k = fr ((r.y - r.x) * r.B n j (k + 1) + (r.z - r.y) * r.B n j k) (r.q ^ (n - (j + 1)) * r.M ^ (j + 1)) := by
  have ds := den_split h hj
  have qt : 0 < r.q ^ (n - (j + 1)) := ipos _ (by have := h.q1; omega)
  have mt : 0 < r.M ^ j := ipos _ (by unfold M; exact Int.mul_pos (by have := h.xy; have := h.yz; omega) (by have := h.x1; have := h.xy; omega))
  have b := h.back_val (a1 := r.B n j (k + 1)) (a0 := r.B n j k) (Int.mul_pos qt mt)
  rw [h.Rr1 w, ← ds.1, ds.2] at b
  have d1 : ∀ x : Rat, x / 1 = x := fun x => by grind
  rw [d1] at b
  exact b
theorem Ok.kept_sm (h : Ok r) {n j k : Nat} (hn : n ≤ 6) (hj : k + (j + 1) ≤ n) : Sm 100 (fr ((r.y - r.x) * r.B n j (k + 1) + (r.z - r.y) * r.B n j k) (r.q ^ (n - (j + 1)) * r.M ^ (j + 1))) := by
  have hxy := h.xy; have hyz := h.yz; have hzx := h.zx
  have bb1 := h.B_lt (n := n) (i := j) (k := k + 1) hn (by omega)
  have bb2 := h.B_lt (n := n) (i := j) (k := k) hn (by omega)
  have dd := h.den_bd (t := n - (j + 1)) (i := j + 1) (by omega) (by omega)
  have cc1 : (r.y - r.x) * r.B n j (k + 1) ≤ 9 * 2 ^ 80 := Int.mul_le_mul (by omega) (by omega) (by omega) (by decide)
  have cc2 : (r.z - r.y) * r.B n j k ≤ 9 * 2 ^ 80 := Int.mul_le_mul (by omega) (by omega) (by omega) (by decide)
  have cc3 := Int.mul_nonneg (show 0 ≤ r.y - r.x by omega) bb1.1
  have cc4 := Int.mul_nonneg (show 0 ≤ r.z - r.y by omega) bb2.1
  exact fr_sm dd.1 (by omega) (by omega)
theorem Ok.worth_plain (h : Ok r) {c : Int} {n : Nat} (w : Whole r c n) (hn : n ≤ 6) : ∀ (j k l m : Nat), j + (k + l) = n → j < m → den_worth_of m [r.trd false j (r.P c j k l)] = some (rt (r.oq n j k))
  | 0, k, l, m, hj, hm => by
    obtain ⟨m, rfl⟩ : ∃ a, m = a + 1 := ⟨m - 1, by omega⟩
    have e : n = k + l := by omega
    subst e
    have g := h.gain_int (c := c) (j := 0) (k := k) (l := l) (by rw [Nat.zero_add]; exact w)
    rw [oq_0, g]
    exact worth_int m _
  | j + 1, k, l, m, hj, hm => by
    obtain ⟨m, rfl⟩ : ∃ a, m = a + 1 := ⟨m - 1, by omega⟩
    have i1 := h.worth_plain w hn j (k + 1) l m (by omega) (by omega)
    have i2 := h.worth_plain w hn j k (l + 1) m (by omega) (by omega)
    have e : r.trd false (j + 1) (r.P c (j + 1) k l) = r.ch (r.trd false j (r.P c j (k + 1) l)) (r.trd false j (r.P c j k (l + 1))) := by
      show r.ch _ _ = _
      rw [h.P_up, h.P_dn]
    rw [e, h.worth_ch (h.oq_sm hn (by omega)) (h.oq_sm hn (by omega)) i1 i2, h.oq_next w (by omega)]
theorem Ok.worth_early (h : Ok r) {c : Int} {n : Nat} (w : Whole r c n) (hn : n ≤ 6) : ∀ (j k l m : Nat), j + (k + l) = n → 2 * j < m → den_worth_of m [r.trd true j (r.P c j k l)] = some (rt (r.eq n j k))
  | 0, k, l, m, hj, hm => by
    obtain ⟨m, rfl⟩ : ∃ a, m = a + 1 := ⟨m - 1, by omega⟩
    have e : n = k + l := by omega
    subst e
    have g := h.gain_int (c := c) (j := 0) (k := k) (l := l) (by rw [Nat.zero_add]; exact w)
    rw [eq_0, g]
    exact worth_int m _
  | j + 1, k, l, m, hj, hm => by
    obtain ⟨m, rfl⟩ : ∃ a, m = a + 2 := ⟨m - 2, by omega⟩
    have i1 := h.worth_early w hn j (k + 1) l m (by omega) (by omega)
    have i2 := h.worth_early w hn j k (l + 1) m (by omega) (by omega)
    have e : r.trd true (j + 1) (r.P c (j + 1) k l) = .tuple [.str "choose", .tuple [.int (r.gi (r.P c (j + 1) k l)), r.ch (r.trd true j (r.P c j (k + 1) l)) (r.trd true j (r.P c j k (l + 1)))]] := by
      show PyData.tuple _ = _
      rw [h.P_up, h.P_dn]
    have wc := h.worth_ch (h.eq_sm hn (by omega)) (h.eq_sm hn (by omega)) i1 i2
    rw [h.kept_val w (by omega)] at wc
    have en : n - (j + 1) = k + l := by omega
    have g := h.gain_int (c := c) (j := j + 1) (k := k) (l := l) (by rw [hj]; exact w)
    have wi := worth_int m (r.gi (r.P c (j + 1) k l))
    rw [← g] at wi
    have nx := h.eq_next (n := n) (i := j) (k := k) hn (by omega) (by omega)
    rw [en] at nx wc
    have ks := h.kept_sm (n := n) (j := j) (k := k) hn (by omega)
    rw [en] at ks
    have oo := worth_oo ((h.gnq_sm (t := k + l) (k := k) (by omega) (by omega)).mono (by decide)) (ks.mono (by decide)) wi wc
    rw [nx] at oo
    rw [e]
    exact oo
end R4
end Lib
end

section
set_option Elab.async false
set_option linter.all false
set_option maxRecDepth 10000
/-! k44: the told best ways through a tree. -/
namespace Lib
open DS PySem
def den_choices_of : Nat → Fn
  | 0 => fun _ => none
  | n + 1 => dfun 5 1 (sSeq (sIf (tTru (eIsi "int" (eVar 0)))
  (sRet (eTup aNil))
  sNil)
  (sSeq (sIf (tCmp dEq (eIx (eVar 0) (eC (.int 0))) (eC (.str "choose")))
  (sSeq (sSet 1 0 (eLc (iSeq (eIx (eVar 0) (eC (.int 1)))) (.nm 3) tTrue (eCall 1 (den_worth_of 30) (aCons (eVar 3) aNil)) [3]) ([(0, 2)] ++ ([(3, 0)] ++ [])))
  (sSeq (sSet 2 0 (eOp dIndex (eVar 1) (eCall 1 den_greatest (aCons (eVar 1) aNil))) [])
  (sRet (eOp dAdd (eTup (aCons (eVar 2) aNil)) (eCall 1 (den_choices_of n) (aCons (eIx (eIx (eVar 0) (eC (.int 1))) (eVar 2)) aNil))))))
  sNil)
  (sRet (eCB (d1 dTuple) (aCons (eLc2 (iSeq (eIx (eVar 0) (eC (.int 1)))) (.tp [(.nm 4), (.nm 3)]) tTrue (iSeq (eCall 1 (den_choices_of n) (aCons (eVar 3) aNil))) (.nm 2) tTrue (eVar 2) [4, 3, 2] [2]) aNil)))))
theorem eqv_rt (p q : Rat) : PyData.eqv (rt p) (rt q) = decide (p = q) := by
  by_cases h : p = q
  · subst h
    simp [rt, PyData.eqv, PyData.eqvAll]
  · rw [decide_eq_false h]
    have : ¬ (p.num = q.num ∧ p.den = q.den) := fun ⟨a, b⟩ => h (Rat.ext a b)
    simp only [rt, PyData.eqv, PyData.eqvAll]
    by_cases a : p.num = q.num
    · have b : p.den ≠ q.den := fun b => this ⟨a, b⟩
      simp [a]
      omega
    · simp [a]
theorem dEq_rt (p q : Rat) : dEq (rt p) (rt q) = some (decide (p = q)) := by
  unfold dEq
  have hs : (SeqAt.shaped (rt p) && SeqAt.shaped (rt q)) = true := rfl
  rw [if_pos hs, eqv_rt]
theorem index_two (a b : Rat) : dIndex (.list [rt a, rt b]) (rt (if a < b then b else a)) = some (.int (if a < b then 1 else 0)) := by
  show (if (SeqAt.shaped (.list [rt a, rt b]) && SeqAt.shaped (rt (if a < b then b else a))) = true then (match [rt a, rt b].findIdx? fun z => PyData.eqv z (rt (if a < b then b else a)) with
    | some j => some (PyData.int (j : Nat))
    | none => none) else none) = _
  have hs : (SeqAt.shaped (.list [rt a, rt b]) && SeqAt.shaped (rt (if a < b then b else a))) = true := rfl
  rw [if_pos hs]
  by_cases h : a < b
  · have ne : a ≠ b := fun e => by rw [e] at h; exact Rat.lt_irrefl h
    simp only [if_pos h, List.findIdx?_cons, eqv_rt, ne, decide_false, decide_true]
    rfl
  · simp only [if_neg h, List.findIdx?_cons, eqv_rt, decide_true]
    rfl
theorem lc_copy {x0 x1 x3 x4 : Option D} : ∀ ds : List D, lcGo (.nm 2) tTrue (eVar 2) [x0, x1, none, x3, x4] ds = some ds
  | [] => rfl
  | d :: ds => by
    unfold lcGo
    simp only [Tg.go, tTrue_a]
    show (match eVar 2 [x0, x1, some d, x3, x4] with
      | none => none
      | some y => match lcGo (.nm 2) tTrue (eVar 2) [x0, x1, none, x3, x4] ds with
        | none => none
        | some ys => some (y :: ys)) = _
    rw [lc_copy ds]
    rfl
theorem ch_int (m : Nat) (i : Int) : den_choices_of (m + 1) [.int i] = some (.tuple []) := by
  unfold den_choices_of
  refine dfun_ret [some (.int i), none, none, none, none] [0, 0, 0, 0, 0] rfl rfl rfl ?_
  rw [sSeq_ret (d := .tuple []) (by
    rw [sIf_t (by simp)]
    exact sRet_ok (by simp [eTup, sz]))]
namespace R4
variable {r : R4}
theorem ch_ch {m : Nat} {a b : D} {is js : List D} (h1 : den_choices_of m [a] = some (.tuple is)) (h2 : den_choices_of m [b] = some (.tuple js)) (hl : is.length + js.length ≤ 1000) : den_choices_of (m + 1) [r.ch a b] = some (.tuple (is ++ js)) := by
  unfold den_choices_of ch
  refine dfun_ret [some (.tuple [.str "chance", .tuple [.tuple [.int (r.y - r.x), a], .tuple [.int (r.z - r.y), b]]]), none, none, none, none] [0, 0, 0, 0, 0] rfl rfl rfl ?_
  have i0 : dIx (.tuple [.str "chance", .tuple [.tuple [.int (r.y - r.x), a], .tuple [.int (r.z - r.y), b]]]) (.int 0) = some (.str "chance") := atI_0
  have i1 : dIx (.tuple [.str "chance", .tuple [.tuple [.int (r.y - r.x), a], .tuple [.int (r.z - r.y), b]]]) (.int 1) = some (.tuple [.tuple [.int (r.y - r.x), a], .tuple [.int (r.z - r.y), b]]) := atI_1
  generalize hT : (PyData.tuple [.str "chance", .tuple [.tuple [.int (r.y - r.x), a], .tuple [.int (r.z - r.y), b]]]) = T at *
  have nt : isTy T "int" = some false := by rw [← hT]; exact ty_tuple_int _
  rw [sSeq_next (s' := ([some T, none, none, none, none], [0, 0, 0, 0, 0])) (by
    rw [sIf_f (by simp only [tTru_a, eIsi_a, eVar_0, o1_s, nt, dTru_b])]
    rfl)]
  rw [sSeq_next (s' := ([some T, none, none, none, none], [0, 0, 0, 0, 0])) (by
    rw [sIf_f (by simp only [tCmp_a, eIx_a, eVar_0, eC_a, o2_ss, i0, dEq_cc])]
    rfl)]
  have inner : ∀ (w : Int) (kid : D) (ks : List D), den_choices_of m [kid] = some (.tuple ks) → inLc (iSeq (eCall 1 (den_choices_of m) (aCons (eVar 3) aNil))) (.nm 2) tTrue (eVar 2) [2] [some T, none, none, some kid, some (.int w)] = some ks := fun w kid ks hk => by
    unfold inLc
    simp only [iSeq_a, eCall_1, eVar_0, eVar_s, o1_s, hk, seqOf_t]
    exact lc_copy ks
  have g : eLc2 (iSeq (eIx (eVar 0) (eC (.int 1)))) (.tp [(.nm 4), (.nm 3)]) tTrue (iSeq (eCall 1 (den_choices_of m) (aCons (eVar 3) aNil))) (.nm 2) tTrue (eVar 2) [4, 3, 2] [2] [some T, none, none, none, none] = some (.list (is ++ js)) := by
    unfold eLc2
    simp only [iSeq_a, eIx_a, eVar_0, eC_a, o2_ss, o1_s, i1, seqOf_t]
    have w : wipeD [some T, none, none, none, none] [4, 3, 2] = [some T, none, none, none, none] := rfl
    rw [w]
    have lg : lc2Go (.tp [(.nm 4), (.nm 3)]) tTrue (inLc (iSeq (eCall 1 (den_choices_of m) (aCons (eVar 3) aNil))) (.nm 2) tTrue (eVar 2) [2]) [some T, none, none, none, none] [.tuple [.int (r.y - r.x), a], .tuple [.int (r.z - r.y), b]] = some (is ++ (js ++ [])) := by
      have g1 : Tg.go (.tp [(.nm 4), (.nm 3)]) (.tuple [.int (r.y - r.x), a]) = some [(4, .int (r.y - r.x)), (3, a)] := rfl
      have g2 : Tg.go (.tp [(.nm 4), (.nm 3)]) (.tuple [.int (r.z - r.y), b]) = some [(4, .int (r.z - r.y)), (3, b)] := rfl
      have s1 : setsD [some T, none, none, none, none] [(4, .int (r.y - r.x)), (3, a)] = [some T, none, none, some a, some (.int (r.y - r.x))] := rfl
      have s2 : setsD [some T, none, none, none, none] [(4, .int (r.z - r.y)), (3, b)] = [some T, none, none, some b, some (.int (r.z - r.y))] := rfl
      simp only [lc2Go, g1, g2, s1, s2, tTrue_a, inner _ _ _ h1, inner _ _ _ h2]
    rw [lg, o1_s, List.append_nil]
    rw [if_pos (by show _ ≤ 16777216; rw [List.length_append]; omega)]
  exact sRet_ok (by simp only [eCB_a, aCons_a, aNil_a, g, o2_ss, o1_s, d1_1, dTuple_l])
theorem ch_oo {m : Nat} {a b : D} {v1 v2 : Rat} {is js : List D} (s1 : Sm 100 v1) (s2 : Sm 1000 v2) (w1 : den_worth_of 30 [a] = some (rt v1)) (w2 : den_worth_of 30 [b] = some (rt v2))
    (h1 : den_choices_of m [a] = some (.tuple is)) (h2 : den_choices_of m [b] = some (.tuple js)) (l1 : is.length ≤ 1000) (l2 : js.length ≤ 1000) : den_choices_of (m + 1) [.tuple [.str "choose", .tuple [a, b]]] = some (.tuple (if v1 < v2 then .int 1 :: js else .int 0 :: is)) := by
  have g := greatest_l s1 s2 (by decide) (by decide)
  have ix := index_two v1 v2
  unfold den_choices_of
  refine dfun_ret [some (.tuple [.str "choose", .tuple [a, b]]), none, none, none, none] [0, 0, 0, 0, 0] rfl rfl rfl ?_
  have i0 : dIx (.tuple [.str "choose", .tuple [a, b]]) (.int 0) = some (.str "choose") := atI_0
  have i1 : dIx (.tuple [.str "choose", .tuple [a, b]]) (.int 1) = some (.tuple [a, b]) := atI_1
  generalize hT : (PyData.tuple [.str "choose", .tuple [a, b]]) = T at *
  have nt : isTy T "int" = some false := by rw [← hT]; exact ty_tuple_int _
  rw [sSeq_next (s' := ([some T, none, none, none, none], [0, 0, 0, 0, 0])) (by
    rw [sIf_f (by simp only [tTru_a, eIsi_a, eVar_0, o1_s, nt, dTru_b])]
    rfl)]
  have lc : eLc (iSeq (eIx (eVar 0) (eC (.int 1)))) (.nm 3) tTrue (eCall 1 (den_worth_of 30) (aCons (eVar 3) aNil)) [3] [some T, none, none, none, none] = some (.list [rt v1, rt v2]) := by
    refine eLc_of (t := .nm 3) (l := [(a, v1), (b, v2)]) (fun p => p.1) (fun p => rt p.2) ?_ (by simp) fun p hp => ⟨[(3, p.1)], rfl, ?_⟩
    · simp only [iSeq_a, eIx_a, eVar_0, eC_a, o2_ss, o1_s, i1, seqOf_t, List.map_cons, List.map_nil]
    · simp only [List.mem_cons, List.not_mem_nil, or_false] at hp
      rcases hp with rfl | rfl
      · simp only [setsD, wipeD, List.foldl_cons, List.foldl_nil, List.set_cons_zero, List.set_cons_succ, eCall_1, eVar_0, eVar_s, o1_s, w1]
      · simp only [setsD, wipeD, List.foldl_cons, List.foldl_nil, List.set_cons_zero, List.set_cons_succ, eCall_1, eVar_0, eVar_s, o1_s, w2]
  obtain ⟨L1, e1⟩ := sSet_any (i := 1) (l := 0) (c := ([(0, 2)] ++ ([(3, 0)] ++ []))) (L := [0, 0, 0, 0, 0]) lc
  obtain ⟨L2, e2⟩ := sSet_any (i := 2) (l := 0) (c := []) (L := L1) (d := .int (if v1 < v2 then 1 else 0)) (f := eOp dIndex (eVar 1) (eCall 1 den_greatest (aCons (eVar 1) aNil))) (ρ := [some T, some (.list [rt v1, rt v2]), none, none, none]) (by
    simp only [eOp_a, eCall_1, eVar_0, eVar_s, o1_s, g, o2_ss, ix])
  rw [sSeq_ret (d := .tuple (if v1 < v2 then .int 1 :: js else .int 0 :: is)) (by
    rw [sIf_t (by simp only [tCmp_a, eIx_a, eVar_0, eC_a, o2_ss, i0, dEq_oo])]
    rw [sSeq_next e1]
    simp only [List.set_cons_zero, List.set_cons_succ]
    rw [sSeq_next e2]
    simp only [List.set_cons_zero, List.set_cons_succ]
    refine sRet_ok ?_
    by_cases c : v1 < v2
    · have ib : dIx (.tuple [a, b]) (.int 1) = some b := atI_1
      have ad : dAdd (.tuple [.int 1]) (.tuple js) = some (.tuple (.int 1 :: js)) := by
        show (if ([PyData.int 1] : List D).length + js.length ≤ sz then some (PyData.tuple ([.int 1] ++ js)) else none) = _
        rw [if_pos (by show _ ≤ 16777216; simp; omega)]
        rfl
      simp only [if_pos c, eOp_a, eTup, aCons_a, aNil_a, eCall_1, eIx_a, eC_a, eVar_0, eVar_s, o1_s, o2_ss, i1, ib, h2, List.length_cons, List.length_nil, Nat.zero_add, Nat.reduceAdd, sz, Nat.reduceLeDiff, if_true, ad]
    · have ia : dIx (.tuple [a, b]) (.int 0) = some a := atI_0
      have ad : dAdd (.tuple [.int 0]) (.tuple is) = some (.tuple (.int 0 :: is)) := by
        show (if ([PyData.int 0] : List D).length + is.length ≤ sz then some (PyData.tuple ([.int 0] ++ is)) else none) = _
        rw [if_pos (by show _ ≤ 16777216; simp; omega)]
        rfl
      simp only [if_neg c, eOp_a, eTup, aCons_a, aNil_a, eCall_1, eIx_a, eC_a, eVar_0, eVar_s, o1_s, o2_ss, i1, ia, h1, List.length_cons, List.length_nil, Nat.zero_add, Nat.reduceAdd, sz, Nat.reduceLeDiff, if_true, ad])]
def Ints (ds : List D) : Prop := ∀ d ∈ ds, ∃ i : Int, d = .int i
/-- what keeping is worth at a node -/
def kp (r : R4) (n j k : Nat) : Rat := fr ((r.y - r.x) * r.B n j (k + 1) + (r.z - r.y) * r.B n j k) (r.q ^ (n - (j + 1)) * r.M ^ (j + 1))
theorem Ok.path (h : Ok r) {c : Int} {n : Nat} (w : Whole r c n) (hn : n ≤ 6) : ∀ (j k l m : Nat), j + (k + l) = n → 2 * j < m → ∃ ds, den_choices_of m [r.trd true j (r.P c j k l)] = some (.tuple ds) ∧ Ints ds ∧ ds.length + 1 ≤ 2 ^ j ∧
    ∀ i, j = i + 1 → (r.gnq (k + l) k < r.kp n i k → ∃ t, ds = .int 1 :: t) ∧ (¬ r.gnq (k + l) k < r.kp n i k → ds = [.int 0])
  | 0, k, l, m, hj, hm => by
    obtain ⟨m, rfl⟩ : ∃ a, m = a + 1 := ⟨m - 1, by omega⟩
    exact ⟨[], ch_int m _, fun d hd => by simp at hd, by simp, fun i hi => by omega⟩
  | j + 1, k, l, m, hj, hm => by
    obtain ⟨m, rfl⟩ : ∃ a, m = a + 2 := ⟨m - 2, by omega⟩
    obtain ⟨ds1, c1, n1, l1, _⟩ := h.path w hn j (k + 1) l m (by omega) (by omega)
    obtain ⟨ds2, c2, n2, l2, _⟩ := h.path w hn j k (l + 1) m (by omega) (by omega)
    have p6 : (2 : Nat) ^ (j + 1) ≤ 2 ^ 6 := Nat.pow_le_pow_right (by decide) (by omega)
    have p5 : (2 : Nat) ^ (j + 1) = 2 ^ j + 2 ^ j := by rw [Nat.pow_succ]; omega
    have i1 := h.worth_early w hn j (k + 1) l 29 (by omega) (by omega)
    have i2 := h.worth_early w hn j k (l + 1) 29 (by omega) (by omega)
    have e : r.trd true (j + 1) (r.P c (j + 1) k l) = .tuple [.str "choose", .tuple [.int (r.gi (r.P c (j + 1) k l)), r.ch (r.trd true j (r.P c j (k + 1) l)) (r.trd true j (r.P c j k (l + 1)))]] := by
      show PyData.tuple _ = _
      rw [h.P_up, h.P_dn]
    have wc := h.worth_ch (m := 29) (h.eq_sm hn (by omega)) (h.eq_sm hn (by omega)) i1 i2
    rw [h.kept_val w (by omega)] at wc
    have g := h.gain_int (c := c) (j := j + 1) (k := k) (l := l) (by rw [hj]; exact w)
    have wi := worth_int 29 (r.gi (r.P c (j + 1) k l))
    rw [← g] at wi
    have ks := h.kept_sm (n := n) (j := j) (k := k) hn (by omega)
    have cc := ch_ch (r := r) c1 c2 (by omega)
    have co := ch_oo (m := m + 1) ((h.gnq_sm (t := k + l) (k := k) (by omega) (by omega)).mono (by decide)) (ks.mono (by decide)) wi wc (ch_int m _) cc (by simp) (by simp; omega)
    rw [e]
    by_cases d : r.gnq (k + l) k < fr ((r.y - r.x) * r.B n j (k + 1) + (r.z - r.y) * r.B n j k) (r.q ^ (n - (j + 1)) * r.M ^ (j + 1))
    · rw [if_pos d] at co
      refine ⟨_, co, ?_, ?_, ?_⟩
      · intro x hx
        rcases List.mem_cons.mp hx with rfl | hx
        · exact ⟨1, rfl⟩
        · rcases List.mem_append.mp hx with hx | hx
          · exact n1 x hx
          · exact n2 x hx
      · simp only [List.length_cons, List.length_append]
        omega
      · intro i hi
        have : i = j := by omega
        subst this
        exact ⟨fun _ => ⟨_, rfl⟩, fun z => absurd d z⟩
    · rw [if_neg d] at co
      refine ⟨_, co, ?_, ?_, ?_⟩
      · intro x hx
        simp at hx
        exact ⟨0, hx⟩
      · simp only [List.length_cons, List.length_nil]
        have := Nat.one_le_two_pow (n := j)
        omega
      · intro i hi
        have : i = j := by omega
        subst this
        exact ⟨fun z => absurd z d, fun _ => rfl⟩
end R4
end Lib
end

section
set_option Elab.async false
set_option linter.all false
set_option maxRecDepth 100000
set_option maxHeartbeats 4000000
namespace Law
open PySem PySem.Spec PyProof.Rows L2 DS
def topS (i : Nat) : Stmt := PySem.Challenge.pw_planskept_k44_whole_rights_by_steps.main.body.getD i (.Pass ⟨0, 0, 0, 0⟩)
/-- what the top has written -/
structure Tp (K : PySem.W.Frag) (mg : Str → Option Value) (ad : Nat → Addr) (fo : Nat → FuncData) : Prop where
  F_divisor : Fun K "divisor" "divisor" (topS 1) (ad 0) (fo 0)
  b_divisor : Binds K (fo 0) ["first", "second"] []
  g_divisor : mg "divisor" = some (.ref (ad 0))
  F_lowest : Fun K "lowest" "lowest" (topS 2) (ad 1) (fo 1)
  b_lowest : Binds K (fo 1) ["a", "b"] []
  g_lowest : mg "lowest" = some (.ref (ad 1))
  F_plus : Fun K "plus" "plus" (topS 3) (ad 2) (fo 2)
  b_plus : Binds K (fo 2) ["first", "second"] []
  g_plus : mg "plus" = some (.ref (ad 2))
  F_minus : Fun K "minus" "minus" (topS 4) (ad 3) (fo 3)
  b_minus : Binds K (fo 3) ["first", "second"] []
  g_minus : mg "minus" = some (.ref (ad 3))
  F_times : Fun K "times" "times" (topS 5) (ad 4) (fo 4)
  b_times : Binds K (fo 4) ["first", "second"] []
  g_times : mg "times" = some (.ref (ad 4))
  F_parted : Fun K "parted" "parted" (topS 6) (ad 5) (fo 5)
  b_parted : Binds K (fo 5) ["first", "second"] []
  g_parted : mg "parted" = some (.ref (ad 5))
  F_is_less : Fun K "is_less" "is_less" (topS 7) (ad 6) (fo 6)
  b_is_less : Binds K (fo 6) ["first", "second"] []
  g_is_less : mg "is_less" = some (.ref (ad 6))
  F_total : Fun K "total" "total" (topS 8) (ad 7) (fo 7)
  b_total : Binds K (fo 7) ["ratios"] []
  g_total : mg "total" = some (.ref (ad 7))
  F_greatest : Fun K "greatest" "greatest" (topS 9) (ad 8) (fo 8)
  b_greatest : Binds K (fo 8) ["ratios"] []
  g_greatest : mg "greatest" = some (.ref (ad 8))
  F_as_ratio : Fun K "as_ratio" "as_ratio" (topS 11) (ad 9) (fo 9)
  b_as_ratio : Binds K (fo 9) ["number"] []
  g_as_ratio : mg "as_ratio" = some (.ref (ad 9))
  F_up_weight : Fun K "up_weight" "up_weight" (topS 13) (ad 10) (fo 10)
  b_up_weight : Binds K (fo 10) ["u", "d", "r"] []
  g_up_weight : mg "up_weight" = some (.ref (ad 10))
  F_paper_prices : Fun K "paper_prices" "paper_prices" (topS 14) (ad 11) (fo 11)
  b_paper_prices : Binds K (fo 11) ["steps", "s", "u", "d"] []
  g_paper_prices : mg "paper_prices" = some (.ref (ad 11))
  F_gain_of_use : Fun K "gain_of_use" "gain_of_use" (topS 15) (ad 12) (fo 12)
  b_gain_of_use : Binds K (fo 12) ["price", "strike", "kind"] []
  g_gain_of_use : mg "gain_of_use" = some (.ref (ad 12))
  F_step_back : Fun K "step_back" "step_back" (topS 16) (ad 13) (fo 13)
  b_step_back : Binds K (fo 13) ["worths", "u", "d", "r"] []
  g_step_back : mg "step_back" = some (.ref (ad 13))
  F_end_worths : Fun K "end_worths" "end_worths" (topS 17) (ad 14) (fo 14)
  b_end_worths : Binds K (fo 14) ["n", "s", "u", "d", "strike", "kind"] []
  g_end_worths : mg "end_worths" = some (.ref (ad 14))
  F_option_price : Fun K "option_price" "option_price" (topS 18) (ad 15) (fo 15)
  b_option_price : Binds K (fo 15) ["n", "s", "u", "d", "r", "strike", "kind"] []
  g_option_price : mg "option_price" = some (.ref (ad 15))
  F_early_price : Fun K "early_price" "early_price" (topS 19) (ad 16) (fo 16)
  b_early_price : Binds K (fo 16) ["n", "s", "u", "d", "r", "strike", "kind"] []
  g_early_price : mg "early_price" = some (.ref (ad 16))
  F_copy_share : Fun K "copy_share" "copy_share" (topS 20) (ad 17) (fo 17)
  b_copy_share : Binds K (fo 17) ["n", "s", "u", "d", "r", "strike", "kind"] []
  g_copy_share : mg "copy_share" = some (.ref (ad 17))
  F_mean_of : Fun K "mean_of" "mean_of" (topS 22) (ad 18) (fo 18)
  b_mean_of : Binds K (fo 18) ["pairs"] []
  g_mean_of : mg "mean_of" = some (.ref (ad 18))
  F_worth_of : Fun K "worth_of" "worth_of" (topS 23) (ad 19) (fo 19)
  b_worth_of : Binds K (fo 19) ["tree"] []
  g_worth_of : mg "worth_of" = some (.ref (ad 19))
  F_choices_of : Fun K "choices_of" "choices_of" (topS 24) (ad 20) (fo 20)
  b_choices_of : Binds K (fo 20) ["tree"] []
  g_choices_of : mg "choices_of" = some (.ref (ad 20))
  F__law_mixed : Fun K "_law_mixed" "_law_mixed" (topS 26) (ad 21) (fo 21)
  b__law_mixed : Binds K (fo 21) ["script", "k"] []
  g__law_mixed : mg "_law_mixed" = some (.ref (ad 21))
  F__law_row : Fun K "_law_row" "_law_row" (topS 27) (ad 22) (fo 22)
  b__law_row : Binds K (fo 22) ["script", "many"] []
  g__law_row : mg "_law_row" = some (.ref (ad 22))
  F__law_is_int : Fun K "_law_is_int" "_law_is_int" (topS 28) (ad 23) (fo 23)
  b__law_is_int : Binds K (fo 23) ["value"] []
  g__law_is_int : mg "_law_is_int" = some (.ref (ad 23))
  F__law_like : Fun K "_law_like" "_law_like" (topS 29) (ad 24) (fo 24)
  b__law_like : Binds K (fo 24) ["value", "due"] []
  g__law_like : mg "_law_like" = some (.ref (ad 24))
  F__law_common : Fun K "_law_common" "_law_common" (topS 30) (ad 25) (fo 25)
  b__law_common : Binds K (fo 25) ["first", "second"] []
  g__law_common : mg "_law_common" = some (.ref (ad 25))
  F__law_ratio : Fun K "_law_ratio" "_law_ratio" (topS 31) (ad 26) (fo 26)
  b__law_ratio : Binds K (fo 26) ["a", "b"] []
  g__law_ratio : mg "_law_ratio" = some (.ref (ad 26))
  F__law_add : Fun K "_law_add" "_law_add" (topS 32) (ad 27) (fo 27)
  b__law_add : Binds K (fo 27) ["x", "y"] []
  g__law_add : mg "_law_add" = some (.ref (ad 27))
  F__law_under : Fun K "_law_under" "_law_under" (topS 33) (ad 28) (fo 28)
  b__law_under : Binds K (fo 28) ["x", "y"] []
  g__law_under : mg "_law_under" = some (.ref (ad 28))
  F__law_dot : Fun K "_law_dot" "_law_dot" (topS 34) (ad 29) (fo 29)
  b__law_dot : Binds K (fo 29) ["ratios", "numbers"] []
  g__law_dot : mg "_law_dot" = some (.ref (ad 29))
  F__law_power : Fun K "_law_power" "_law_power" (topS 35) (ad 30) (fo 30)
  b__law_power : Binds K (fo 30) ["base", "n"] []
  g__law_power : mg "_law_power" = some (.ref (ad 30))
  F__law_right : Fun K "_law_right" "_law_right" (topS 36) (ad 31) (fo 31)
  b__law_right : Binds K (fo 31) ["n", "first", "steps", "strike", "kind"] []
  g__law_right : mg "_law_right" = some (.ref (ad 31))
  F__law_early : Fun K "_law_early" "_law_early" (topS 37) (ad 32) (fo 32)
  b__law_early : Binds K (fo 32) ["n", "first", "steps", "strike", "kind"] []
  g__law_early : mg "_law_early" = some (.ref (ad 32))
  F__law_tree : Fun K "_law_tree" "_law_tree" (topS 38) (ad 33) (fo 33)
  b__law_tree : Binds K (fo 33) ["n", "price", "steps", "strike", "kind", "early"] []
  g__law_tree : mg "_law_tree" = some (.ref (ad 33))
  F__law_asked : Fun K "_law_asked" "_law_asked" (topS 39) (ad 34) (fo 34)
  b__law_asked : Binds K (fo 34) ["n", "price", "steps", "strike", "kind"] []
  g__law_asked : mg "_law_asked" = some (.ref (ad 34))
  F_law : Fun K "law" "law" (topS 40) (ad 35) (fo 35)
  b_law : Binds K (fo 35) ["script"] []
  g_law : mg "law" = some (.ref (ad 35))
  z_abs : mg "abs" = none
  z_all : mg "all" = none
  z_bool : mg "bool" = none
  z_int : mg "int" = none
  z_isinstance : mg "isinstance" = none
  z_len : mg "len" = none
  z_max : mg "max" = none
  z_range : mg "range" = none
  z_str : mg "str" = none
  z_sum : mg "sum" = none
  z_tuple : mg "tuple" = none
  z_zip : mg "zip" = none
theorem sc_divisor : FnScope ["first", "second"] ["first", "second"] (defScope (topS 1)) := ⟨rfl, rfl, rfl, by decide +kernel, rfl, by decide +kernel, by decide +kernel⟩
def den_divisor : Fn := dfun 2 2 (sSeq (sPar 0 1 (eCB (d1 dAbs) (aCons (eVar 0) aNil)) (eCB (d1 dAbs) (aCons (eVar 1) aNil)) ([] ++ []))
  (sSeq (sWhile 100000 (tCmp dGt (eVar 1) (eC (.int 0)))
  (sPar 0 1 (eVar 1) (eOp dMod (eVar 0) (eVar 1)) ([(1, 0)] ++ ([(0, 1)] ++ [(1, 1)]))))
  (sRet (eVar 0))))
theorem ok_divisor {P : Program} {w : World} {K : PySem.W.Frag} {mg : Str → Option Value} {base : Heap} {ad : Nat → Addr} {fo : Nat → FuncData} (T : Tp K mg ad fo) : FnOk P w K mg base CX0 1 (ad 0) (fo 0) ["first", "second"] (spD K 2 den_divisor) :=
  fun_den (k := 0) T.F_divisor sc_divisor rfl rfl (by decide) fun cdv A outer s H E hr =>
  (ss_cons (ss_par 0 1 rfl sc_divisor.nd (qe_bF call_abs cf_abs (by rfl) T.z_abs (by decide +kernel) (qa_cons (qv 0) qa_nil)) (qe_bF call_abs cf_abs (by rfl) T.z_abs (by decide +kernel) (qa_cons (qv 1) qa_nil)) (by rfl))
  (ss_cons (ss_while 100000 PassesOwn.never (qt_cmp (op_gtA (hu_of64 hr)) oc_gt (qv 1) qint (nomark _))
  (ss_one (ss_par 0 1 rfl sc_divisor.nd (qv 1) (qe_mod (qv 0) (qv 1)) (by rfl))))
  (ss_one (ss_ret (qv 0)))))
theorem sc_lowest : FnScope ["a", "b", "common"] ["a", "b"] (defScope (topS 2)) := ⟨rfl, rfl, rfl, by decide +kernel, rfl, by decide +kernel, by decide +kernel⟩
def den_lowest : Fn := dfun 3 2 (sSeq (sSet 2 0 (eIfD (tCmp dGt (eVar 1) (eC (.int 0))) (eCall 2 den_divisor (aCons (eVar 0) (aCons (eVar 1) aNil))) (eUn dNeg (eCall 2 den_divisor (aCons (eVar 0) (aCons (eVar 1) aNil))))) (([(0, 0)] ++ ([(1, 0)] ++ [])) ++ []))
  (sRet (eTup (aCons (eOp dFdiv (eVar 0) (eVar 2)) (aCons (eOp dFdiv (eVar 1) (eVar 2)) aNil)))))
theorem ok_lowest {P : Program} {w : World} {K : PySem.W.Frag} {mg : Str → Option Value} {base : Heap} {ad : Nat → Addr} {fo : Nat → FuncData} (T : Tp K mg ad fo) : FnOk P w K mg base CX0 2 (ad 1) (fo 1) ["a", "b"] (spD K 2 den_lowest) :=
  fun_den (k := 1) T.F_lowest sc_lowest rfl rfl (by decide) fun cdv A outer s H E hr =>
  (ss_cons (ss_set 2 0 sc_lowest.nd (qe_if (qt_cmp (op_gtA (hu_of64 hr)) oc_gt (qv 1) qint (nomark _)) (qe_call (ok_divisor T) (hr.mono (by decide)) (by rfl) T.g_divisor T.F_divisor.kp T.b_divisor (qa_cons (qv 0) (qa_cons (qv 1) qa_nil))) (qe_neg (qe_call (ok_divisor T) (hr.mono (by decide)) (by rfl) T.g_divisor T.F_divisor.kp T.b_divisor (qa_cons (qv 0) (qa_cons (qv 1) qa_nil))))))
  (ss_one (ss_ret (qe_tup (qa_cons (qe_fdiv (qv 0) (qv 2)) (qa_cons (qe_fdiv (qv 1) (qv 2)) qa_nil))))))
theorem sc_plus : FnScope ["first", "second"] ["first", "second"] (defScope (topS 3)) := ⟨rfl, rfl, rfl, by decide +kernel, rfl, by decide +kernel, by decide +kernel⟩
def den_plus : Fn := dfun 2 2 (sRet (eCall 2 den_lowest (aCons (eOp dAdd (eOp dMul (eIx (eVar 0) (eC (.int 0))) (eIx (eVar 1) (eC (.int 1)))) (eOp dMul (eIx (eVar 1) (eC (.int 0))) (eIx (eVar 0) (eC (.int 1))))) (aCons (eOp dMul (eIx (eVar 0) (eC (.int 1))) (eIx (eVar 1) (eC (.int 1)))) aNil))))
theorem ok_plus {P : Program} {w : World} {K : PySem.W.Frag} {mg : Str → Option Value} {base : Heap} {ad : Nat → Addr} {fo : Nat → FuncData} (T : Tp K mg ad fo) : FnOk P w K mg base CX0 3 (ad 2) (fo 2) ["first", "second"] (spD K 2 den_plus) :=
  fun_den (k := 2) T.F_plus sc_plus rfl rfl (by decide) fun cdv A outer s H E hr =>
  (ss_one (ss_ret (qe_call (ok_lowest T) (hr.mono (by decide)) (by rfl) T.g_lowest T.F_lowest.kp T.b_lowest (qa_cons (qe_add (qe_mul (qe_ix (qv 0) qint (fun _ _ => rfl)) (qe_ix (qv 1) qint (fun _ _ => rfl))) (qe_mul (qe_ix (qv 1) qint (fun _ _ => rfl)) (qe_ix (qv 0) qint (fun _ _ => rfl)))) (qa_cons (qe_mul (qe_ix (qv 0) qint (fun _ _ => rfl)) (qe_ix (qv 1) qint (fun _ _ => rfl))) qa_nil)))))
theorem sc_minus : FnScope ["first", "second"] ["first", "second"] (defScope (topS 4)) := ⟨rfl, rfl, rfl, by decide +kernel, rfl, by decide +kernel, by decide +kernel⟩
def den_minus : Fn := dfun 2 2 (sRet (eCall 2 den_lowest (aCons (eOp dSub (eOp dMul (eIx (eVar 0) (eC (.int 0))) (eIx (eVar 1) (eC (.int 1)))) (eOp dMul (eIx (eVar 1) (eC (.int 0))) (eIx (eVar 0) (eC (.int 1))))) (aCons (eOp dMul (eIx (eVar 0) (eC (.int 1))) (eIx (eVar 1) (eC (.int 1)))) aNil))))
theorem ok_minus {P : Program} {w : World} {K : PySem.W.Frag} {mg : Str → Option Value} {base : Heap} {ad : Nat → Addr} {fo : Nat → FuncData} (T : Tp K mg ad fo) : FnOk P w K mg base CX0 3 (ad 3) (fo 3) ["first", "second"] (spD K 2 den_minus) :=
  fun_den (k := 2) T.F_minus sc_minus rfl rfl (by decide) fun cdv A outer s H E hr =>
  (ss_one (ss_ret (qe_call (ok_lowest T) (hr.mono (by decide)) (by rfl) T.g_lowest T.F_lowest.kp T.b_lowest (qa_cons (qe_sub (qe_mul (qe_ix (qv 0) qint (fun _ _ => rfl)) (qe_ix (qv 1) qint (fun _ _ => rfl))) (qe_mul (qe_ix (qv 1) qint (fun _ _ => rfl)) (qe_ix (qv 0) qint (fun _ _ => rfl)))) (qa_cons (qe_mul (qe_ix (qv 0) qint (fun _ _ => rfl)) (qe_ix (qv 1) qint (fun _ _ => rfl))) qa_nil)))))
theorem sc_times : FnScope ["first", "second"] ["first", "second"] (defScope (topS 5)) := ⟨rfl, rfl, rfl, by decide +kernel, rfl, by decide +kernel, by decide +kernel⟩
def den_times : Fn := dfun 2 2 (sRet (eCall 2 den_lowest (aCons (eOp dMul (eIx (eVar 0) (eC (.int 0))) (eIx (eVar 1) (eC (.int 0)))) (aCons (eOp dMul (eIx (eVar 0) (eC (.int 1))) (eIx (eVar 1) (eC (.int 1)))) aNil))))
theorem ok_times {P : Program} {w : World} {K : PySem.W.Frag} {mg : Str → Option Value} {base : Heap} {ad : Nat → Addr} {fo : Nat → FuncData} (T : Tp K mg ad fo) : FnOk P w K mg base CX0 3 (ad 4) (fo 4) ["first", "second"] (spD K 2 den_times) :=
  fun_den (k := 2) T.F_times sc_times rfl rfl (by decide) fun cdv A outer s H E hr =>
  (ss_one (ss_ret (qe_call (ok_lowest T) (hr.mono (by decide)) (by rfl) T.g_lowest T.F_lowest.kp T.b_lowest (qa_cons (qe_mul (qe_ix (qv 0) qint (fun _ _ => rfl)) (qe_ix (qv 1) qint (fun _ _ => rfl))) (qa_cons (qe_mul (qe_ix (qv 0) qint (fun _ _ => rfl)) (qe_ix (qv 1) qint (fun _ _ => rfl))) qa_nil)))))
theorem sc_parted : FnScope ["first", "second"] ["first", "second"] (defScope (topS 6)) := ⟨rfl, rfl, rfl, by decide +kernel, rfl, by decide +kernel, by decide +kernel⟩
def den_parted : Fn := dfun 2 2 (sRet (eCall 2 den_lowest (aCons (eOp dMul (eIx (eVar 0) (eC (.int 0))) (eIx (eVar 1) (eC (.int 1)))) (aCons (eOp dMul (eIx (eVar 0) (eC (.int 1))) (eIx (eVar 1) (eC (.int 0)))) aNil))))
theorem ok_parted {P : Program} {w : World} {K : PySem.W.Frag} {mg : Str → Option Value} {base : Heap} {ad : Nat → Addr} {fo : Nat → FuncData} (T : Tp K mg ad fo) : FnOk P w K mg base CX0 3 (ad 5) (fo 5) ["first", "second"] (spD K 2 den_parted) :=
  fun_den (k := 2) T.F_parted sc_parted rfl rfl (by decide) fun cdv A outer s H E hr =>
  (ss_one (ss_ret (qe_call (ok_lowest T) (hr.mono (by decide)) (by rfl) T.g_lowest T.F_lowest.kp T.b_lowest (qa_cons (qe_mul (qe_ix (qv 0) qint (fun _ _ => rfl)) (qe_ix (qv 1) qint (fun _ _ => rfl))) (qa_cons (qe_mul (qe_ix (qv 0) qint (fun _ _ => rfl)) (qe_ix (qv 1) qint (fun _ _ => rfl))) qa_nil)))))
theorem sc_is_less : FnScope ["first", "second"] ["first", "second"] (defScope (topS 7)) := ⟨rfl, rfl, rfl, by decide +kernel, rfl, by decide +kernel, by decide +kernel⟩
def den_is_less : Fn := dfun 2 2 (sRet (eB (tCmp dLt (eOp dMul (eIx (eVar 0) (eC (.int 0))) (eIx (eVar 1) (eC (.int 1)))) (eOp dMul (eIx (eVar 1) (eC (.int 0))) (eIx (eVar 0) (eC (.int 1)))))))
theorem ok_is_less {P : Program} {w : World} {K : PySem.W.Frag} {mg : Str → Option Value} {base : Heap} {ad : Nat → Addr} {fo : Nat → FuncData} (T : Tp K mg ad fo) : FnOk P w K mg base CX0 1 (ad 6) (fo 6) ["first", "second"] (spD K 2 den_is_less) :=
  fun_den (k := 0) T.F_is_less sc_is_less rfl rfl (by decide) fun cdv A outer s H E hr =>
  (ss_one (ss_ret (qe_cmp (op_ltA (hu_of64 hr)) oc_lt (qe_mul (qe_ix (qv 0) qint (fun _ _ => rfl)) (qe_ix (qv 1) qint (fun _ _ => rfl))) (qe_mul (qe_ix (qv 1) qint (fun _ _ => rfl)) (qe_ix (qv 0) qint (fun _ _ => rfl))) (nomark _))))
theorem sc_total : FnScope ["ratios", "found", "ratio"] ["ratios"] (defScope (topS 8)) := ⟨rfl, rfl, rfl, by decide +kernel, rfl, by decide +kernel, by decide +kernel⟩
def den_total : Fn := dfun 3 1 (sSeq (sSet 1 0 (eTup (aCons (eC (.int 0)) (aCons (eC (.int 1)) aNil))) ([] ++ ([] ++ [])))
  (sSeq (sFor (iSeq (eVar 0)) [(0, 0)] (.nm 2)
  (sSet 1 0 (eCall 2 den_plus (aCons (eVar 1) (aCons (eVar 2) aNil))) ([(1, 0)] ++ ([(2, 0)] ++ []))))
  (sRet (eVar 1))))
theorem ok_total {P : Program} {w : World} {K : PySem.W.Frag} {mg : Str → Option Value} {base : Heap} {ad : Nat → Addr} {fo : Nat → FuncData} (T : Tp K mg ad fo) : FnOk P w K mg base CX0 4 (ad 7) (fo 7) ["ratios"] (spD K 1 den_total) :=
  fun_den (k := 3) T.F_total sc_total rfl rfl (by decide) fun cdv A outer s H E hr =>
  (ss_cons (ss_set 1 0 sc_total.nd (qe_tup (qa_cons qint (qa_cons qint qa_nil))))
  (ss_cons (ss_for PassesOwn.never rfl (qi_seq (qv 0)) (gg 2 sc_total.nd)
  (ss_one (ss_set 1 0 sc_total.nd (qe_call (ok_plus T) (hr.mono (by decide)) (by rfl) T.g_plus T.F_plus.kp T.b_plus (qa_cons (qv 1) (qa_cons (qv 2) qa_nil))))))
  (ss_one (ss_ret (qv 1)))))
theorem sc_greatest : FnScope ["ratios", "found", "ratio"] ["ratios"] (defScope (topS 9)) := ⟨rfl, rfl, rfl, by decide +kernel, rfl, by decide +kernel, by decide +kernel⟩
def den_greatest : Fn := dfun 3 1 (sSeq (sSet 1 0 (eIx (eVar 0) (eC (.int 0))) [(0, 1)])
  (sSeq (sFor (iSeq (eVar 0)) [(0, 0)] (.nm 2)
  (sSet 1 0 (eIfD (tTru (eCall 2 den_is_less (aCons (eVar 1) (aCons (eVar 2) aNil)))) (eVar 2) (eVar 1)) ([(2, 0)] ++ [(1, 0)])))
  (sRet (eVar 1))))
theorem ok_greatest {P : Program} {w : World} {K : PySem.W.Frag} {mg : Str → Option Value} {base : Heap} {ad : Nat → Addr} {fo : Nat → FuncData} (T : Tp K mg ad fo) : FnOk P w K mg base CX0 2 (ad 8) (fo 8) ["ratios"] (spD K 1 den_greatest) :=
  fun_den (k := 1) T.F_greatest sc_greatest rfl rfl (by decide) fun cdv A outer s H E hr =>
  (ss_cons (ss_set 1 0 sc_greatest.nd (qe_ix (qv 0) qint (fun _ _ => rfl)))
  (ss_cons (ss_for PassesOwn.never rfl (qi_seq (qv 0)) (gg 2 sc_greatest.nd)
  (ss_one (ss_set 1 0 sc_greatest.nd (qe_if (qt_tru (qe_call (ok_is_less T) (hr.mono (by decide)) (by rfl) T.g_is_less T.F_is_less.kp T.b_is_less (qa_cons (qv 1) (qa_cons (qv 2) qa_nil))) (by intro _; rfl)) (qv 2) (qv 1)))))
  (ss_one (ss_ret (qv 1)))))
theorem sc_as_ratio : FnScope ["number"] ["number"] (defScope (topS 11)) := ⟨rfl, rfl, rfl, by decide +kernel, rfl, by decide +kernel, by decide +kernel⟩
def den_as_ratio : Fn := dfun 1 1 (sRet (eIfD (tTru (eIsi "int" (eVar 0))) (eTup (aCons (eVar 0) (aCons (eC (.int 1)) aNil))) (eVar 0)))
theorem ok_as_ratio {P : Program} {w : World} {K : PySem.W.Frag} {mg : Str → Option Value} {base : Heap} {ad : Nat → Addr} {fo : Nat → FuncData} (T : Tp K mg ad fo) : FnOk P w K mg base CX0 1 (ad 9) (fo 9) ["number"] (spD K 1 den_as_ratio) :=
  fun_den (k := 0) T.F_as_ratio sc_as_ratio rfl rfl (by decide) fun cdv A outer s H E hr =>
  (ss_one (ss_ret (qe_if (qt_tru (qe_isi (by rfl) T.z_isinstance (qv 0) (by rfl) T.z_int (by decide +kernel)) (by intro _; rfl)) (qe_tup (qa_cons (qv 0) (qa_cons qint qa_nil))) (qv 0))))
theorem sc_up_weight : FnScope ["u", "d", "r"] ["u", "d", "r"] (defScope (topS 13)) := ⟨rfl, rfl, rfl, by decide +kernel, rfl, by decide +kernel, by decide +kernel⟩
def den_up_weight : Fn := dfun 3 3 (sRet (eCall 2 den_parted (aCons (eCall 2 den_minus (aCons (eVar 2) (aCons (eVar 1) aNil))) (aCons (eCall 2 den_minus (aCons (eVar 0) (aCons (eVar 1) aNil))) aNil))))
theorem ok_up_weight {P : Program} {w : World} {K : PySem.W.Frag} {mg : Str → Option Value} {base : Heap} {ad : Nat → Addr} {fo : Nat → FuncData} (T : Tp K mg ad fo) : FnOk P w K mg base CX0 4 (ad 10) (fo 10) ["u", "d", "r"] (spD K 3 den_up_weight) :=
  fun_den (k := 3) T.F_up_weight sc_up_weight rfl rfl (by decide) fun cdv A outer s H E hr =>
  (ss_one (ss_ret (qe_call (ok_parted T) (hr.mono (by decide)) (by rfl) T.g_parted T.F_parted.kp T.b_parted (qa_cons (qe_call (ok_minus T) (hr.mono (by decide)) (by rfl) T.g_minus T.F_minus.kp T.b_minus (qa_cons (qv 2) (qa_cons (qv 1) qa_nil))) (qa_cons (qe_call (ok_minus T) (hr.mono (by decide)) (by rfl) T.g_minus T.F_minus.kp T.b_minus (qa_cons (qv 0) (qa_cons (qv 1) qa_nil))) qa_nil)))))
theorem sc_paper_prices : FnScope ["steps", "s", "u", "d", "prices", "_", "price"] ["steps", "s", "u", "d"] (defScope (topS 14)) := ⟨rfl, rfl, rfl, by decide +kernel, rfl, by decide +kernel, by decide +kernel⟩
def den_paper_prices : Fn := dfun 7 4 (sSeq (sSet 4 0 (eLst (aCons (eVar 1) aNil)) ([(1, 0)] ++ []))
  (sSeq (sFor (iRange1 (eVar 0)) [] (.nm 5)
  (sSet 4 0 (eOp dAdd (eLc (iSeq (eVar 4)) (.nm 6) tTrue (eCall 2 den_times (aCons (eVar 6) (aCons (eVar 3) aNil))) [6]) (eLst (aCons (eCall 2 den_times (aCons (eIx (eVar 4) (eUn dNeg (eC (.int 1)))) (aCons (eVar 2) aNil))) aNil))) (([(4, 1)] ++ ([(6, 0)] ++ ([(3, 0)] ++ []))) ++ (([(4, 1)] ++ ([(2, 0)] ++ [])) ++ []))))
  (sRet (eVar 4))))
theorem ok_paper_prices {P : Program} {w : World} {K : PySem.W.Frag} {mg : Str → Option Value} {base : Heap} {ad : Nat → Addr} {fo : Nat → FuncData} (T : Tp K mg ad fo) : FnOk P w K mg base CX0 4 (ad 11) (fo 11) ["steps", "s", "u", "d"] (spD K 4 den_paper_prices) :=
  fun_den (k := 3) T.F_paper_prices sc_paper_prices rfl rfl (by decide) fun cdv A outer s H E hr =>
  (ss_cons (ss_set 4 0 sc_paper_prices.nd (qe_lst (qa_cons (qv 1) qa_nil)))
  (ss_cons (ss_for PassesOwn.never rfl (qi_range1 (by rfl) T.z_range (qv 0)) (gg 5 sc_paper_prices.nd)
  (ss_one (ss_set 4 0 sc_paper_prices.nd (qe_add (qe_lc (own := [("price", 6)]) rfl sc_paper_prices.nd (qi_seq (qv 4)) (blkOk_by (own := [("price", 6)]) (N := ["steps", "s", "u", "d", "prices", "_", "price"]) (sc := (defScope (topS 14))) (by decide +kernel)) (fun _ _ _ _ _ => (gg 6 sc_paper_prices.nd)) (fun _ _ _ _ _ => qts_nil) (fun _ _ _ _ _ => (qe_call (ok_times T) (hr.mono (by decide)) (by rfl) T.g_times T.F_times.kp T.b_times (qa_cons (qv 6) (qa_cons (qv 3) qa_nil))))) (qe_lst (qa_cons (qe_call (ok_times T) (hr.mono (by decide)) (by rfl) T.g_times T.F_times.kp T.b_times (qa_cons (qe_ix (qv 4) (qe_neg qint) (fun _ _ => rfl)) (qa_cons (qv 2) qa_nil))) qa_nil))))))
  (ss_one (ss_ret (qv 4)))))
theorem sc_gain_of_use : FnScope ["price", "strike", "kind", "gain"] ["price", "strike", "kind"] (defScope (topS 15)) := ⟨rfl, rfl, rfl, by decide +kernel, rfl, by decide +kernel, by decide +kernel⟩
def den_gain_of_use : Fn := dfun 4 3 (sSeq (sSet 3 0 (eIfD (tCmp dEq (eVar 2) (eC (.str "call"))) (eCall 2 den_minus (aCons (eVar 0) (aCons (eVar 1) aNil))) (eCall 2 den_minus (aCons (eVar 1) (aCons (eVar 0) aNil)))) (([(0, 0)] ++ ([(1, 0)] ++ [])) ++ ([(1, 0)] ++ ([(0, 0)] ++ []))))
  (sRet (eIfD (tCmp dGt (eIx (eVar 3) (eC (.int 0))) (eC (.int 0))) (eVar 3) (eTup (aCons (eC (.int 0)) (aCons (eC (.int 1)) aNil))))))
theorem ok_gain_of_use {P : Program} {w : World} {K : PySem.W.Frag} {mg : Str → Option Value} {base : Heap} {ad : Nat → Addr} {fo : Nat → FuncData} (T : Tp K mg ad fo) : FnOk P w K mg base CX0 4 (ad 12) (fo 12) ["price", "strike", "kind"] (spD K 3 den_gain_of_use) :=
  fun_den (k := 3) T.F_gain_of_use sc_gain_of_use rfl rfl (by decide) fun cdv A outer s H E hr =>
  (ss_cons (ss_set 3 0 sc_gain_of_use.nd (qe_if (qt_cmp (op_eqD (hu_of64 hr)) oc_eq (qv 2) qstr (nomark _)) (qe_call (ok_minus T) (hr.mono (by decide)) (by rfl) T.g_minus T.F_minus.kp T.b_minus (qa_cons (qv 0) (qa_cons (qv 1) qa_nil))) (qe_call (ok_minus T) (hr.mono (by decide)) (by rfl) T.g_minus T.F_minus.kp T.b_minus (qa_cons (qv 1) (qa_cons (qv 0) qa_nil)))))
  (ss_one (ss_ret (qe_if (qt_cmp (op_gtA (hu_of64 hr)) oc_gt (qe_ix (qv 3) qint (fun _ _ => rfl)) qint (nomark _)) (qv 3) (qe_tup (qa_cons qint (qa_cons qint qa_nil)))))))
theorem sc_step_back : FnScope ["worths", "u", "d", "r", "weight", "other", "low", "high"] ["worths", "u", "d", "r"] (defScope (topS 16)) := ⟨rfl, rfl, rfl, by decide +kernel, rfl, by decide +kernel, by decide +kernel⟩
def den_step_back : Fn := dfun 8 4 (sSeq (sSet 4 0 (eCall 3 den_up_weight (aCons (eVar 1) (aCons (eVar 2) (aCons (eVar 3) aNil)))) ([(1, 0)] ++ ([(2, 0)] ++ ([(3, 0)] ++ []))))
  (sSeq (sSet 5 0 (eCall 2 den_minus (aCons (eTup (aCons (eC (.int 1)) (aCons (eC (.int 1)) aNil))) (aCons (eVar 4) aNil))) (([] ++ ([] ++ [])) ++ ([(4, 0)] ++ [])))
  (sRet (eLc (iZip2 (eVar 0) (eSl (eVar 0) (oSome (eC (.int 1))) oNone)) (.tp [(.nm 6), (.nm 7)]) tTrue (eCall 2 den_parted (aCons (eCall 2 den_plus (aCons (eCall 2 den_times (aCons (eVar 4) (aCons (eVar 7) aNil))) (aCons (eCall 2 den_times (aCons (eVar 5) (aCons (eVar 6) aNil))) aNil))) (aCons (eVar 3) aNil))) [6, 7]))))
theorem ok_step_back {P : Program} {w : World} {K : PySem.W.Frag} {mg : Str → Option Value} {base : Heap} {ad : Nat → Addr} {fo : Nat → FuncData} (T : Tp K mg ad fo) : FnOk P w K mg base CX0 5 (ad 13) (fo 13) ["worths", "u", "d", "r"] (spD K 4 den_step_back) :=
  fun_den (k := 4) T.F_step_back sc_step_back rfl rfl (by decide) fun cdv A outer s H E hr =>
  (ss_cons (ss_set 4 0 sc_step_back.nd (qe_call (ok_up_weight T) (hr.mono (by decide)) (by rfl) T.g_up_weight T.F_up_weight.kp T.b_up_weight (qa_cons (qv 1) (qa_cons (qv 2) (qa_cons (qv 3) qa_nil)))))
  (ss_cons (ss_set 5 0 sc_step_back.nd (qe_call (ok_minus T) (hr.mono (by decide)) (by rfl) T.g_minus T.F_minus.kp T.b_minus (qa_cons (qe_tup (qa_cons qint (qa_cons qint qa_nil))) (qa_cons (qv 4) qa_nil))))
  (ss_one (ss_ret (qe_lc (own := [("low", 6), ("high", 7)]) rfl sc_step_back.nd (qi_zip (by rfl) T.z_zip (qv 0) (qe_sl (qv 0) (qo_some qint) qo_none)) (blkOk_by (own := [("low", 6), ("high", 7)]) (N := ["worths", "u", "d", "r", "weight", "other", "low", "high"]) (sc := (defScope (topS 16))) (by decide +kernel)) (fun _ _ _ _ _ => (gg_tup rfl (ggs_cons (gg 6 sc_step_back.nd) (ggs_cons (gg 7 sc_step_back.nd) ggs_nil)))) (fun _ _ _ _ _ => qts_nil) (fun _ _ _ _ _ => (qe_call (ok_parted T) (hr.mono (by decide)) (by rfl) T.g_parted T.F_parted.kp T.b_parted (qa_cons (qe_call (ok_plus T) (hr.mono (by decide)) (by rfl) T.g_plus T.F_plus.kp T.b_plus (qa_cons (qe_call (ok_times T) (hr.mono (by decide)) (by rfl) T.g_times T.F_times.kp T.b_times (qa_cons (qv 4) (qa_cons (qv 7) qa_nil))) (qa_cons (qe_call (ok_times T) (hr.mono (by decide)) (by rfl) T.g_times T.F_times.kp T.b_times (qa_cons (qv 5) (qa_cons (qv 6) qa_nil))) qa_nil))) (qa_cons (qv 3) qa_nil)))))))))
theorem sc_end_worths : FnScope ["n", "s", "u", "d", "strike", "kind", "price"] ["n", "s", "u", "d", "strike", "kind"] (defScope (topS 17)) := ⟨rfl, rfl, rfl, by decide +kernel, rfl, by decide +kernel, by decide +kernel⟩
def den_end_worths : Fn := dfun 7 6 (sRet (eLc (iSeq (eCall 4 den_paper_prices (aCons (eVar 0) (aCons (eCall 1 den_as_ratio (aCons (eVar 1) aNil)) (aCons (eVar 2) (aCons (eVar 3) aNil)))))) (.nm 6) tTrue (eCall 3 den_gain_of_use (aCons (eVar 6) (aCons (eCall 1 den_as_ratio (aCons (eVar 4) aNil)) (aCons (eVar 5) aNil)))) [6]))
theorem ok_end_worths {P : Program} {w : World} {K : PySem.W.Frag} {mg : Str → Option Value} {base : Heap} {ad : Nat → Addr} {fo : Nat → FuncData} (T : Tp K mg ad fo) : FnOk P w K mg base CX0 5 (ad 14) (fo 14) ["n", "s", "u", "d", "strike", "kind"] (spD K 6 den_end_worths) :=
  fun_den (k := 4) T.F_end_worths sc_end_worths rfl rfl (by decide) fun cdv A outer s H E hr =>
  (ss_one (ss_ret (qe_lc (own := [("price", 6)]) rfl sc_end_worths.nd (qi_seq (qe_call (ok_paper_prices T) (hr.mono (by decide)) (by rfl) T.g_paper_prices T.F_paper_prices.kp T.b_paper_prices (qa_cons (qv 0) (qa_cons (qe_call (ok_as_ratio T) (hr.mono (by decide)) (by rfl) T.g_as_ratio T.F_as_ratio.kp T.b_as_ratio (qa_cons (qv 1) qa_nil)) (qa_cons (qv 2) (qa_cons (qv 3) qa_nil)))))) (blkOk_by (own := [("price", 6)]) (N := ["n", "s", "u", "d", "strike", "kind", "price"]) (sc := (defScope (topS 17))) (by decide +kernel)) (fun _ _ _ _ _ => (gg 6 sc_end_worths.nd)) (fun _ _ _ _ _ => qts_nil) (fun _ _ _ _ _ => (qe_call (ok_gain_of_use T) (hr.mono (by decide)) (by rfl) T.g_gain_of_use T.F_gain_of_use.kp T.b_gain_of_use (qa_cons (qv 6) (qa_cons (qe_call (ok_as_ratio T) (hr.mono (by decide)) (by rfl) T.g_as_ratio T.F_as_ratio.kp T.b_as_ratio (qa_cons (qv 4) qa_nil)) (qa_cons (qv 5) qa_nil))))))))
theorem sc_option_price : FnScope ["n", "s", "u", "d", "r", "strike", "kind", "worths", "_"] ["n", "s", "u", "d", "r", "strike", "kind"] (defScope (topS 18)) := ⟨rfl, rfl, rfl, by decide +kernel, rfl, by decide +kernel, by decide +kernel⟩
def den_option_price : Fn := dfun 9 7 (sSeq (sSet 7 0 (eCall 6 den_end_worths (aCons (eVar 0) (aCons (eVar 1) (aCons (eVar 2) (aCons (eVar 3) (aCons (eVar 5) (aCons (eVar 6) aNil))))))) ([(0, 0)] ++ ([(1, 0)] ++ ([(2, 0)] ++ ([(3, 0)] ++ ([(5, 0)] ++ ([(6, 0)] ++ [])))))))
  (sSeq (sFor (iRange1 (eVar 0)) [] (.nm 8)
  (sSet 7 0 (eCall 4 den_step_back (aCons (eVar 7) (aCons (eVar 2) (aCons (eVar 3) (aCons (eVar 4) aNil))))) ([(7, 0)] ++ ([(2, 0)] ++ ([(3, 0)] ++ ([(4, 0)] ++ []))))))
  (sRet (eIx (eVar 7) (eC (.int 0))))))
theorem ok_option_price {P : Program} {w : World} {K : PySem.W.Frag} {mg : Str → Option Value} {base : Heap} {ad : Nat → Addr} {fo : Nat → FuncData} (T : Tp K mg ad fo) : FnOk P w K mg base CX0 6 (ad 15) (fo 15) ["n", "s", "u", "d", "r", "strike", "kind"] (spD K 7 den_option_price) :=
  fun_den (k := 5) T.F_option_price sc_option_price rfl rfl (by decide) fun cdv A outer s H E hr =>
  (ss_cons (ss_set 7 0 sc_option_price.nd (qe_call (ok_end_worths T) (hr.mono (by decide)) (by rfl) T.g_end_worths T.F_end_worths.kp T.b_end_worths (qa_cons (qv 0) (qa_cons (qv 1) (qa_cons (qv 2) (qa_cons (qv 3) (qa_cons (qv 5) (qa_cons (qv 6) qa_nil))))))))
  (ss_cons (ss_for PassesOwn.never rfl (qi_range1 (by rfl) T.z_range (qv 0)) (gg 8 sc_option_price.nd)
  (ss_one (ss_set 7 0 sc_option_price.nd (qe_call (ok_step_back T) (hr.mono (by decide)) (by rfl) T.g_step_back T.F_step_back.kp T.b_step_back (qa_cons (qv 7) (qa_cons (qv 2) (qa_cons (qv 3) (qa_cons (qv 4) qa_nil))))))))
  (ss_one (ss_ret (qe_ix (qv 7) qint (fun _ _ => rfl))))))
theorem sc_early_price : FnScope ["n", "s", "u", "d", "r", "strike", "kind", "worths", "step", "uses", "use", "kept"] ["n", "s", "u", "d", "r", "strike", "kind"] (defScope (topS 19)) := ⟨rfl, rfl, rfl, by decide +kernel, rfl, by decide +kernel, by decide +kernel⟩
def den_early_price : Fn := dfun 12 7 (sSeq (sSet 7 0 (eCall 6 den_end_worths (aCons (eVar 0) (aCons (eVar 1) (aCons (eVar 2) (aCons (eVar 3) (aCons (eVar 5) (aCons (eVar 6) aNil))))))) ([(0, 0)] ++ ([(1, 0)] ++ ([(2, 0)] ++ ([(3, 0)] ++ ([(5, 0)] ++ ([(6, 0)] ++ [])))))))
  (sSeq (sFor (iRange3 (eOp dSub (eVar 0) (eC (.int 1))) (eUn dNeg (eC (.int 1))) (eUn dNeg (eC (.int 1)))) [] (.nm 8)
  (sSeq (sSet 9 0 (eCall 6 den_end_worths (aCons (eVar 8) (aCons (eVar 1) (aCons (eVar 2) (aCons (eVar 3) (aCons (eVar 5) (aCons (eVar 6) aNil))))))) ([(8, 0)] ++ ([(1, 0)] ++ ([(2, 0)] ++ ([(3, 0)] ++ ([(5, 0)] ++ ([(6, 0)] ++ [])))))))
  (sSet 7 0 (eLc (iZip2 (eVar 9) (eCall 4 den_step_back (aCons (eVar 7) (aCons (eVar 2) (aCons (eVar 3) (aCons (eVar 4) aNil)))))) (.tp [(.nm 10), (.nm 11)]) tTrue (eCall 1 den_greatest (aCons (eTup (aCons (eVar 10) (aCons (eVar 11) aNil))) aNil)) [10, 11]) (([(9, 1)] ++ ([(7, 0)] ++ ([(2, 0)] ++ ([(3, 0)] ++ ([(4, 0)] ++ []))))) ++ (([(10, 0)] ++ ([(11, 0)] ++ [])) ++ [])))))
  (sRet (eIx (eVar 7) (eC (.int 0))))))
theorem ok_early_price {P : Program} {w : World} {K : PySem.W.Frag} {mg : Str → Option Value} {base : Heap} {ad : Nat → Addr} {fo : Nat → FuncData} (T : Tp K mg ad fo) : FnOk P w K mg base CX0 6 (ad 16) (fo 16) ["n", "s", "u", "d", "r", "strike", "kind"] (spD K 7 den_early_price) :=
  fun_den (k := 5) T.F_early_price sc_early_price rfl rfl (by decide) fun cdv A outer s H E hr =>
  (ss_cons (ss_set 7 0 sc_early_price.nd (qe_call (ok_end_worths T) (hr.mono (by decide)) (by rfl) T.g_end_worths T.F_end_worths.kp T.b_end_worths (qa_cons (qv 0) (qa_cons (qv 1) (qa_cons (qv 2) (qa_cons (qv 3) (qa_cons (qv 5) (qa_cons (qv 6) qa_nil))))))))
  (ss_cons (ss_for PassesOwn.never rfl (qi_range3 (by rfl) T.z_range (qe_sub (qv 0) qint) (qe_neg qint) (qe_neg qint)) (gg 8 sc_early_price.nd)
  (ss_cons (ss_set 9 0 sc_early_price.nd (qe_call (ok_end_worths T) (hr.mono (by decide)) (by rfl) T.g_end_worths T.F_end_worths.kp T.b_end_worths (qa_cons (qv 8) (qa_cons (qv 1) (qa_cons (qv 2) (qa_cons (qv 3) (qa_cons (qv 5) (qa_cons (qv 6) qa_nil))))))))
  (ss_one (ss_setLc 7 0 (own := [("use", 10), ("kept", 11)]) rfl sc_early_price.nd (qi_zip (by rfl) T.z_zip (qv 9) (qe_call (ok_step_back T) (hr.mono (by decide)) (by rfl) T.g_step_back T.F_step_back.kp T.b_step_back (qa_cons (qv 7) (qa_cons (qv 2) (qa_cons (qv 3) (qa_cons (qv 4) qa_nil)))))) (blkOk_by (own := [("use", 10), ("kept", 11)]) (N := ["n", "s", "u", "d", "r", "strike", "kind", "worths", "step", "uses", "use", "kept"]) (sc := (defScope (topS 19))) (by decide +kernel)) (fun _ _ _ _ _ => (gg_tup rfl (ggs_cons (gg 10 sc_early_price.nd) (ggs_cons (gg 11 sc_early_price.nd) ggs_nil)))) (fun _ _ _ _ _ => qts_nil) (fun _ _ _ _ _ => (qe_call (ok_greatest T) (hr.mono (by decide)) (by rfl) T.g_greatest T.F_greatest.kp T.b_greatest (qa_cons (qe_tup (qa_cons (qv 10) (qa_cons (qv 11) qa_nil))) qa_nil)))))))
  (ss_one (ss_ret (qe_ix (qv 7) qint (fun _ _ => rfl))))))
theorem sc_copy_share : FnScope ["n", "s", "u", "d", "r", "strike", "kind", "worths", "_"] ["n", "s", "u", "d", "r", "strike", "kind"] (defScope (topS 20)) := ⟨rfl, rfl, rfl, by decide +kernel, rfl, by decide +kernel, by decide +kernel⟩
def den_copy_share : Fn := dfun 9 7 (sSeq (sIf (tCmp dEq (eVar 0) (eC (.int 0)))
  (sRet (eTup (aCons (eC (.int 0)) (aCons (eC (.int 1)) aNil))))
  sNil)
  (sSeq (sSet 7 0 (eCall 6 den_end_worths (aCons (eVar 0) (aCons (eVar 1) (aCons (eVar 2) (aCons (eVar 3) (aCons (eVar 5) (aCons (eVar 6) aNil))))))) ([(0, 0)] ++ ([(1, 0)] ++ ([(2, 0)] ++ ([(3, 0)] ++ ([(5, 0)] ++ ([(6, 0)] ++ [])))))))
  (sSeq (sFor (iRange1 (eOp dSub (eVar 0) (eC (.int 1)))) [] (.nm 8)
  (sSet 7 0 (eCall 4 den_step_back (aCons (eVar 7) (aCons (eVar 2) (aCons (eVar 3) (aCons (eVar 4) aNil))))) ([(7, 0)] ++ ([(2, 0)] ++ ([(3, 0)] ++ ([(4, 0)] ++ []))))))
  (sRet (eCall 2 den_parted (aCons (eCall 2 den_minus (aCons (eIx (eVar 7) (eC (.int 1))) (aCons (eIx (eVar 7) (eC (.int 0))) aNil))) (aCons (eCall 2 den_times (aCons (eCall 1 den_as_ratio (aCons (eVar 1) aNil)) (aCons (eCall 2 den_minus (aCons (eVar 2) (aCons (eVar 3) aNil))) aNil))) aNil)))))))
theorem ok_copy_share {P : Program} {w : World} {K : PySem.W.Frag} {mg : Str → Option Value} {base : Heap} {ad : Nat → Addr} {fo : Nat → FuncData} (T : Tp K mg ad fo) : FnOk P w K mg base CX0 6 (ad 17) (fo 17) ["n", "s", "u", "d", "r", "strike", "kind"] (spD K 7 den_copy_share) :=
  fun_den (k := 5) T.F_copy_share sc_copy_share rfl rfl (by decide) fun cdv A outer s H E hr =>
  (ss_cons (ss_if (qt_cmp (op_eqD (hu_of64 hr)) oc_eq (qv 0) qint (nomark _))
  (ss_one (ss_ret (qe_tup (qa_cons qint (qa_cons qint qa_nil)))))
  ss_nil)
  (ss_cons (ss_set 7 0 sc_copy_share.nd (qe_call (ok_end_worths T) (hr.mono (by decide)) (by rfl) T.g_end_worths T.F_end_worths.kp T.b_end_worths (qa_cons (qv 0) (qa_cons (qv 1) (qa_cons (qv 2) (qa_cons (qv 3) (qa_cons (qv 5) (qa_cons (qv 6) qa_nil))))))))
  (ss_cons (ss_for PassesOwn.never rfl (qi_range1 (by rfl) T.z_range (qe_sub (qv 0) qint)) (gg 8 sc_copy_share.nd)
  (ss_one (ss_set 7 0 sc_copy_share.nd (qe_call (ok_step_back T) (hr.mono (by decide)) (by rfl) T.g_step_back T.F_step_back.kp T.b_step_back (qa_cons (qv 7) (qa_cons (qv 2) (qa_cons (qv 3) (qa_cons (qv 4) qa_nil))))))))
  (ss_one (ss_ret (qe_call (ok_parted T) (hr.mono (by decide)) (by rfl) T.g_parted T.F_parted.kp T.b_parted (qa_cons (qe_call (ok_minus T) (hr.mono (by decide)) (by rfl) T.g_minus T.F_minus.kp T.b_minus (qa_cons (qe_ix (qv 7) qint (fun _ _ => rfl)) (qa_cons (qe_ix (qv 7) qint (fun _ _ => rfl)) qa_nil))) (qa_cons (qe_call (ok_times T) (hr.mono (by decide)) (by rfl) T.g_times T.F_times.kp T.b_times (qa_cons (qe_call (ok_as_ratio T) (hr.mono (by decide)) (by rfl) T.g_as_ratio T.F_as_ratio.kp T.b_as_ratio (qa_cons (qv 1) qa_nil)) (qa_cons (qe_call (ok_minus T) (hr.mono (by decide)) (by rfl) T.g_minus T.F_minus.kp T.b_minus (qa_cons (qv 2) (qa_cons (qv 3) qa_nil))) qa_nil))) qa_nil))))))))
theorem sc_mean_of : FnScope ["pairs", "whole", "weight", "number"] ["pairs"] (defScope (topS 22)) := ⟨rfl, rfl, rfl, by decide +kernel, rfl, by decide +kernel, by decide +kernel⟩
def den_mean_of : Fn := dfun 4 1 (sSeq (sSet 1 0 (eCB (d1 dSum) (aCons (eLc (iSeq (eVar 0)) (.tp [(.nm 2), (.nm 3)]) tTrue (eVar 2) [2, 3]) aNil)) [])
  (sRet (eCall 1 den_total (aCons (eLc (iSeq (eVar 0)) (.tp [(.nm 2), (.nm 3)]) tTrue (eCall 2 den_times (aCons (eVar 3) (aCons (eCall 2 den_lowest (aCons (eVar 2) (aCons (eVar 1) aNil))) aNil))) [2, 3]) aNil))))
theorem ok_mean_of {P : Program} {w : World} {K : PySem.W.Frag} {mg : Str → Option Value} {base : Heap} {ad : Nat → Addr} {fo : Nat → FuncData} (T : Tp K mg ad fo) : FnOk P w K mg base CX0 5 (ad 18) (fo 18) ["pairs"] (spD K 1 den_mean_of) :=
  fun_den (k := 4) T.F_mean_of sc_mean_of rfl rfl (by decide) fun cdv A outer s H E hr =>
  (ss_cons (ss_set 1 0 sc_mean_of.nd (qe_bF (cr_sum rfl) cf_sum (by rfl) T.z_sum (by decide +kernel) (qa_cons (qe_lc (own := [("weight", 2), ("number", 3)]) rfl sc_mean_of.nd (qi_seq (qv 0)) (blkOk_by (own := [("weight", 2), ("number", 3)]) (N := ["pairs", "whole", "weight", "number"]) (sc := (defScope (topS 22))) (by decide +kernel)) (fun _ _ _ _ _ => (gg_tup rfl (ggs_cons (gg 2 sc_mean_of.nd) (ggs_cons (gg 3 sc_mean_of.nd) ggs_nil)))) (fun _ _ _ _ _ => qts_nil) (fun _ _ _ _ _ => (qv 2))) qa_nil)))
  (ss_one (ss_ret (qe_call (ok_total T) (hr.mono (by decide)) (by rfl) T.g_total T.F_total.kp T.b_total (qa_cons (qe_lc (own := [("weight", 2), ("number", 3)]) rfl sc_mean_of.nd (qi_seq (qv 0)) (blkOk_by (own := [("weight", 2), ("number", 3)]) (N := ["pairs", "whole", "weight", "number"]) (sc := (defScope (topS 22))) (by decide +kernel)) (fun _ _ _ _ _ => (gg_tup rfl (ggs_cons (gg 2 sc_mean_of.nd) (ggs_cons (gg 3 sc_mean_of.nd) ggs_nil)))) (fun _ _ _ _ _ => qts_nil) (fun _ _ _ _ _ => (qe_call (ok_times T) (hr.mono (by decide)) (by rfl) T.g_times T.F_times.kp T.b_times (qa_cons (qv 3) (qa_cons (qe_call (ok_lowest T) (hr.mono (by decide)) (by rfl) T.g_lowest T.F_lowest.kp T.b_lowest (qa_cons (qv 2) (qa_cons (qv 1) qa_nil))) qa_nil))))) qa_nil)))))
theorem sc_worth_of : FnScope ["tree", "weight", "kid"] ["tree"] (defScope (topS 23)) := ⟨rfl, rfl, rfl, by decide +kernel, rfl, by decide +kernel, by decide +kernel⟩
def den_worth_of : Nat → Fn
  | 0 => fun _ => none
  | n + 1 => dfun 3 1 (sSeq (sIf (tTru (eIsi "int" (eVar 0)))
  (sRet (eTup (aCons (eVar 0) (aCons (eC (.int 1)) aNil))))
  sNil)
  (sSeq (sIf (tCmp dEq (eIx (eVar 0) (eC (.int 0))) (eC (.str "choose")))
  (sRet (eCall 1 den_greatest (aCons (eLc (iSeq (eIx (eVar 0) (eC (.int 1)))) (.nm 2) tTrue (eCall 1 (den_worth_of n) (aCons (eVar 2) aNil)) [2]) aNil)))
  sNil)
  (sRet (eCall 1 den_mean_of (aCons (eLc (iSeq (eIx (eVar 0) (eC (.int 1)))) (.tp [(.nm 1), (.nm 2)]) tTrue (eTup (aCons (eVar 1) (aCons (eCall 1 (den_worth_of n) (aCons (eVar 2) aNil)) aNil))) [1, 2]) aNil)))))
theorem ok_worth_of {P : Program} {w : World} {K : PySem.W.Frag} {mg : Str → Option Value} {base : Heap} {ad : Nat → Addr} {fo : Nat → FuncData} (T : Tp K mg ad fo) : ∀ n : Nat, FnOk P w K mg base CX0 (6 + n) (ad 19) (fo 19) ["tree"] (spD K 1 (den_worth_of n))
  | 0 => fun_none (k := 5) T.F_worth_of sc_worth_of rfl
  | n + 1 => have ih := ok_worth_of (P := P) (w := w) (base := base) T n
    fun_den (k := 6 + n) T.F_worth_of sc_worth_of rfl rfl (by decide) fun cdv A outer s H E hr =>
  (ss_cons (ss_if (qt_tru (qe_isi (by rfl) T.z_isinstance (qv 0) (by rfl) T.z_int (by decide +kernel)) (by intro _; rfl))
  (ss_one (ss_ret (qe_tup (qa_cons (qv 0) (qa_cons qint qa_nil)))))
  ss_nil)
  (ss_cons (ss_if (qt_cmp (op_eqD (hu_of64 hr)) oc_eq (qe_ix (qv 0) qint (fun _ _ => rfl)) qstr (nomark _))
  (ss_one (ss_ret (qe_call (ok_greatest T) (hr.mono (Nat.le_trans (by decide) (Nat.le_add_right 6 n))) (by rfl) T.g_greatest T.F_greatest.kp T.b_greatest (qa_cons (qe_lc (own := [("kid", 2)]) rfl sc_worth_of.nd (qi_seq (qe_ix (qv 0) qint (fun _ _ => rfl))) (blkOk_by (own := [("kid", 2)]) (N := ["tree", "weight", "kid"]) (sc := (defScope (topS 23))) (by decide +kernel)) (fun _ _ _ _ _ => (gg 2 sc_worth_of.nd)) (fun _ _ _ _ _ => qts_nil) (fun _ _ _ _ _ => (qe_call ih (hr.mono (Nat.le_refl _)) (by rfl) T.g_worth_of T.F_worth_of.kp T.b_worth_of (qa_cons (qv 2) qa_nil)))) qa_nil))))
  ss_nil)
  (ss_one (ss_ret (qe_call (ok_mean_of T) (hr.mono (Nat.le_trans (by decide) (Nat.le_add_right 6 n))) (by rfl) T.g_mean_of T.F_mean_of.kp T.b_mean_of (qa_cons (qe_lc (own := [("weight", 1), ("kid", 2)]) rfl sc_worth_of.nd (qi_seq (qe_ix (qv 0) qint (fun _ _ => rfl))) (blkOk_by (own := [("weight", 1), ("kid", 2)]) (N := ["tree", "weight", "kid"]) (sc := (defScope (topS 23))) (by decide +kernel)) (fun _ _ _ _ _ => (gg_tup rfl (ggs_cons (gg 1 sc_worth_of.nd) (ggs_cons (gg 2 sc_worth_of.nd) ggs_nil)))) (fun _ _ _ _ _ => qts_nil) (fun _ _ _ _ _ => (qe_tup (qa_cons (qv 1) (qa_cons (qe_call ih (hr.mono (Nat.le_refl _)) (by rfl) T.g_worth_of T.F_worth_of.kp T.b_worth_of (qa_cons (qv 2) qa_nil)) qa_nil))))) qa_nil))))))
theorem sc_choices_of : FnScope ["tree", "worths", "place", "kid", "weight"] ["tree"] (defScope (topS 24)) := ⟨rfl, rfl, rfl, by decide +kernel, rfl, by decide +kernel, by decide +kernel⟩
def den_choices_of : Nat → Fn
  | 0 => fun _ => none
  | n + 1 => dfun 5 1 (sSeq (sIf (tTru (eIsi "int" (eVar 0)))
  (sRet (eTup aNil))
  sNil)
  (sSeq (sIf (tCmp dEq (eIx (eVar 0) (eC (.int 0))) (eC (.str "choose")))
  (sSeq (sSet 1 0 (eLc (iSeq (eIx (eVar 0) (eC (.int 1)))) (.nm 3) tTrue (eCall 1 (den_worth_of 30) (aCons (eVar 3) aNil)) [3]) ([(0, 2)] ++ ([(3, 0)] ++ [])))
  (sSeq (sSet 2 0 (eOp dIndex (eVar 1) (eCall 1 den_greatest (aCons (eVar 1) aNil))) [])
  (sRet (eOp dAdd (eTup (aCons (eVar 2) aNil)) (eCall 1 (den_choices_of n) (aCons (eIx (eIx (eVar 0) (eC (.int 1))) (eVar 2)) aNil))))))
  sNil)
  (sRet (eCB (d1 dTuple) (aCons (eLc2 (iSeq (eIx (eVar 0) (eC (.int 1)))) (.tp [(.nm 4), (.nm 3)]) tTrue (iSeq (eCall 1 (den_choices_of n) (aCons (eVar 3) aNil))) (.nm 2) tTrue (eVar 2) [4, 3, 2] [2]) aNil)))))
theorem ok_choices_of {P : Program} {w : World} {K : PySem.W.Frag} {mg : Str → Option Value} {base : Heap} {ad : Nat → Addr} {fo : Nat → FuncData} (T : Tp K mg ad fo) : ∀ n : Nat, FnOk P w K mg base CX0 (37 + n) (ad 20) (fo 20) ["tree"] (spD K 1 (den_choices_of n))
  | 0 => fun_none (k := 36) T.F_choices_of sc_choices_of rfl
  | n + 1 => have ih := ok_choices_of (P := P) (w := w) (base := base) T n
    fun_den (k := 37 + n) T.F_choices_of sc_choices_of rfl rfl (by decide) fun cdv A outer s H E hr =>
  (ss_cons (ss_if (qt_tru (qe_isi (by rfl) T.z_isinstance (qv 0) (by rfl) T.z_int (by decide +kernel)) (by intro _; rfl))
  (ss_one (ss_ret (qe_tup qa_nil)))
  ss_nil)
  (ss_cons (ss_if (qt_cmp (op_eqD (hu_of64 hr)) oc_eq (qe_ix (qv 0) qint (fun _ _ => rfl)) qstr (nomark _))
  (ss_cons (ss_setLc 1 0 (own := [("kid", 3)]) rfl sc_choices_of.nd (qi_seq (qe_ix (qv 0) qint (fun _ _ => rfl))) (blkOk_by (own := [("kid", 3)]) (N := ["tree", "worths", "place", "kid", "weight"]) (sc := (defScope (topS 24))) (by decide +kernel)) (fun _ _ _ _ _ => (gg 3 sc_choices_of.nd)) (fun _ _ _ _ _ => qts_nil) (fun _ _ _ _ _ => (qe_call (ok_worth_of T 30) (hr.mono (Nat.le_trans (by decide) (Nat.le_add_right 37 n))) (by rfl) T.g_worth_of T.F_worth_of.kp T.b_worth_of (qa_cons (qv 3) qa_nil))))
  (ss_cons (ss_set 2 0 sc_choices_of.nd (qe_m1F mf_index (pe_bm PySem.F.plainAttrs_list PySem.F.slot_list_index PySem.F.type_list_index (mt_indexD (hu2_of hr)) (qv 1) (pa_cons (qe_call (ok_greatest T) (hr.mono (Nat.le_trans (by decide) (Nat.le_add_right 37 n))) (by rfl) T.g_greatest T.F_greatest.kp T.b_greatest (qa_cons (qv 1) qa_nil)) pa_nil))))
  (ss_one (ss_ret (qe_add (qe_tup (qa_cons (qv 2) qa_nil)) (qe_call ih (hr.mono (Nat.le_refl _)) (by rfl) T.g_choices_of T.F_choices_of.kp T.b_choices_of (qa_cons (qe_ix (qe_ix (qv 0) qint (fun _ _ => rfl)) (qv 2) (fun _ _ => rfl)) qa_nil)))))))
  ss_nil)
  (ss_one (ss_ret (qe_tD call_tuple_of cd_tuple (by rfl) T.z_tuple (by decide +kernel) (qa_cons (qe_lc2 (own := [("weight", 4), ("kid", 3), ("place", 2)]) (vs1 := [2]) rfl sc_choices_of.nd (qi_seq (qe_ix (qv 0) qint (fun _ _ => rfl))) (blkOk_by (own := [("weight", 4), ("kid", 3), ("place", 2)]) (N := ["tree", "worths", "place", "kid", "weight"]) (sc := (defScope (topS 24))) (by decide +kernel)) (by rfl) (fun _ _ _ _ _ => (gg_tup rfl (ggs_cons (gg 4 sc_choices_of.nd) (ggs_cons (gg 3 sc_choices_of.nd) ggs_nil)))) (fun _ _ _ _ _ => qts_nil) (fun _ _ _ _ _ => (qi_seq (qe_call ih (hr.mono (Nat.le_refl _)) (by rfl) T.g_choices_of T.F_choices_of.kp T.b_choices_of (qa_cons (qv 3) qa_nil)))) (fun _ _ _ _ _ => (gg 2 sc_choices_of.nd)) (fun _ _ _ _ _ => qts_nil) (fun _ _ _ _ _ => (qv 2))) qa_nil))))))
theorem sc__law_mixed : FnScope ["script", "k", "cell", "first", "second", "third"] ["script", "k"] (defScope (topS 26)) := ⟨rfl, rfl, rfl, by decide +kernel, rfl, by decide +kernel, by decide +kernel⟩
def den__law_mixed : Fn := dfun 6 2 (sSeq (sSet 2 0 (eC (.int 0)) [])
  (sSeq (sIf (tCmp dGt (eCB (d1 dLen) (aCons (eVar 0) aNil)) (eC (.int 0)))
  (sSet 2 0 (eIx (eVar 0) (eOp dMod (eVar 1) (eCB (d1 dLen) (aCons (eVar 0) aNil)))) [(0, 1)])
  sNil)
  (sSeq (sSet 3 0 (eOp dMod (eCB (d1 dInt) (aCons (eOp dAdd (eOp dAdd (eOp dMul (eVar 2) (eC (.int 48271))) (eOp dMul (eVar 1) (eC (.int 69621)))) (eC (.int 8191))) aNil)) (eC (.int 2147483647))) ([] ++ []))
  (sSeq (sSet 4 0 (eOp dMod (eCB (d1 dInt) (aCons (eOp dAdd (eOp dAdd (eOp dMul (eVar 3) (eVar 3)) (eOp dFdiv (eVar 3) (eC (.int 7)))) (eOp dMul (eVar 1) (eC (.int 16807)))) aNil)) (eC (.int 2147483629))) ([] ++ []))
  (sSeq (sSet 5 0 (eOp dMod (eCB (d1 dInt) (aCons (eOp dAdd (eOp dAdd (eOp dMul (eVar 4) (eVar 4)) (eOp dFdiv (eVar 4) (eC (.int 11)))) (eC (.int 40692))) aNil)) (eC (.int 2147483563))) ([] ++ []))
  (sRet (eOp dMod (eOp dFdiv (eVar 5) (eC (.int 5))) (eC (.int 1000003)))))))))
theorem ok__law_mixed {P : Program} {w : World} {K : PySem.W.Frag} {mg : Str → Option Value} {base : Heap} {ad : Nat → Addr} {fo : Nat → FuncData} (T : Tp K mg ad fo) : FnOk P w K mg base CX0 1 (ad 21) (fo 21) ["script", "k"] (spD K 2 den__law_mixed) :=
  fun_den (k := 0) T.F__law_mixed sc__law_mixed rfl rfl (by decide) fun cdv A outer s H E hr =>
  (ss_cons (ss_set 2 0 sc__law_mixed.nd qint)
  (ss_cons (ss_if (qt_cmp (op_gtA (hu_of64 hr)) oc_gt (qe_bF call_len_seq cf_len (by rfl) T.z_len (by decide +kernel) (qa_cons (qv 0) qa_nil)) qint (nomark _))
  (ss_one (ss_set 2 0 sc__law_mixed.nd (qe_ix (qv 0) (qe_mod (qv 1) (qe_bF call_len_seq cf_len (by rfl) T.z_len (by decide +kernel) (qa_cons (qv 0) qa_nil))) (fun _ _ => rfl))))
  ss_nil)
  (ss_cons (ss_set 3 0 sc__law_mixed.nd (qe_mod (qe_tF call_int1 cf_int (by rfl) T.z_int (by decide +kernel) (qa_cons (qe_add (qe_add (qe_mul (qv 2) qint) (qe_mul (qv 1) qint)) qint) qa_nil)) qint))
  (ss_cons (ss_set 4 0 sc__law_mixed.nd (qe_mod (qe_tF call_int1 cf_int (by rfl) T.z_int (by decide +kernel) (qa_cons (qe_add (qe_add (qe_mul (qv 3) (qv 3)) (qe_fdiv (qv 3) qint)) (qe_mul (qv 1) qint)) qa_nil)) qint))
  (ss_cons (ss_set 5 0 sc__law_mixed.nd (qe_mod (qe_tF call_int1 cf_int (by rfl) T.z_int (by decide +kernel) (qa_cons (qe_add (qe_add (qe_mul (qv 4) (qv 4)) (qe_fdiv (qv 4) qint)) qint) qa_nil)) qint))
  (ss_one (ss_ret (qe_mod (qe_fdiv (qv 5) qint) qint))))))))
theorem sc__law_row : FnScope ["script", "many", "big", "row", "k"] ["script", "many"] (defScope (topS 27)) := ⟨rfl, rfl, rfl, by decide +kernel, rfl, by decide +kernel, by decide +kernel⟩
def den__law_row : Fn := dfun 5 2 (sSeq (sSet 2 0 (eC (.int 0)) [])
  (sSeq (sIf (tAndD (tCmp dGt (eCB (d1 dLen) (aCons (eVar 0) aNil)) (eC (.int 0))) (tCmp dGe (eIx (eVar 0) (eC (.int 0))) (eOp dPow (eC (.int 10)) (eC (.int 18)))))
  (sSet 2 0 (eIx (eVar 0) (eC (.int 0))) [(0, 1)])
  sNil)
  (sSeq (sSet 3 1 (eLst aNil) [])
  (sSeq (sFor (iRange1 (eVar 1)) [] (.nm 4)
  (sIf (tCmp dGt (eVar 2) (eC (.int 0)))
  (sSeq (sApp 3 (eOp dMod (eCB (d1 dInt) (aCons (eVar 2) aNil)) (eC (.int 1000))) ([] ++ []))
  (sSet 2 0 (eOp dFdiv (eVar 2) (eC (.int 1000))) ([(2, 1)] ++ [])))
  (sApp 3 (eCall 2 den__law_mixed (aCons (eVar 0) (aCons (eVar 4) aNil))) ([(0, 0)] ++ ([(4, 0)] ++ [])))))
  (sRet (eVar 3))))))
theorem ok__law_row {P : Program} {w : World} {K : PySem.W.Frag} {mg : Str → Option Value} {base : Heap} {ad : Nat → Addr} {fo : Nat → FuncData} (T : Tp K mg ad fo) : FnOk P w K mg base CX0 2 (ad 22) (fo 22) ["script", "many"] (spD K 2 den__law_row) :=
  fun_den (k := 1) T.F__law_row sc__law_row rfl rfl (by decide) fun cdv A outer s H E hr =>
  (ss_cons (ss_set 2 0 sc__law_row.nd qint)
  (ss_cons (ss_if (PW.pt (qw_and (qt_cmp (op_gtA (hu_of64 hr)) oc_gt (qe_bF call_len_seq cf_len (by rfl) T.z_len (by decide +kernel) (qa_cons (qv 0) qa_nil)) qint (nomark _)) (qw_and1 (qt_cmp (op_geA (hu_of64 hr)) oc_ge (qe_ix (qv 0) qint (fun _ _ => rfl)) (qe_pow qint qint) (nomark _)))))
  (ss_one (ss_set 2 0 sc__law_row.nd (qe_ix (qv 0) qint (fun _ _ => rfl))))
  ss_nil)
  (ss_cons (ss_set 3 1 sc__law_row.nd (qe_lst qa_nil))
  (ss_cons (ss_for PassesOwn.never rfl (qi_range1 (by rfl) T.z_range (qv 1)) (gg 4 sc__law_row.nd)
  (ss_one (ss_if (qt_cmp (op_gtA (hu_of64 hr)) oc_gt (qv 2) qint (nomark _))
  (ss_cons (ss_app 3 (ps_expr (pe_bm PySem.F.plainAttrs_list PySem.F.slot_list_append PySem.F.type_list_append mt_append (pv 3) (pa_cons (qe_mod (qe_tF call_int1 cf_int (by rfl) T.z_int (by decide +kernel) (qa_cons (qv 2) qa_nil)) qint) pa_nil))))
  (ss_one (ss_set 2 0 sc__law_row.nd (qe_fdiv (qv 2) qint))))
  (ss_one (ss_app 3 (ps_expr (pe_bm PySem.F.plainAttrs_list PySem.F.slot_list_append PySem.F.type_list_append mt_append (pv 3) (pa_cons (qe_call (ok__law_mixed T) (hr.mono (by decide)) (by rfl) T.g__law_mixed T.F__law_mixed.kp T.b__law_mixed (qa_cons (qv 0) (qa_cons (qv 4) qa_nil))) pa_nil))))))))
  (ss_one (ss_ret (qv 3)))))))
theorem sc__law_is_int : FnScope ["value"] ["value"] (defScope (topS 28)) := ⟨rfl, rfl, rfl, by decide +kernel, rfl, by decide +kernel, by decide +kernel⟩
def den__law_is_int : Fn := dfun 1 1 (sRet (eAndD (eIsi "int" (eVar 0)) (eB (tNotD (tTru (eIsi "bool" (eVar 0)))))))
theorem ok__law_is_int {P : Program} {w : World} {K : PySem.W.Frag} {mg : Str → Option Value} {base : Heap} {ad : Nat → Addr} {fo : Nat → FuncData} (T : Tp K mg ad fo) : FnOk P w K mg base CX0 1 (ad 23) (fo 23) ["value"] (spD K 1 den__law_is_int) :=
  fun_den (k := 0) T.F__law_is_int sc__law_is_int rfl rfl (by decide) fun cdv A outer s H E hr =>
  (ss_one (ss_ret (qe_and (qe_isi (by rfl) T.z_isinstance (qv 0) (by rfl) T.z_int (by decide +kernel)) (qe_one (qe_not (qe_isi (by rfl) T.z_isinstance (qv 0) (by rfl) T.z_bool (by decide +kernel)))))))
theorem sc__law_like : FnScope ["value", "due", "k"] ["value", "due"] (defScope (topS 29)) := ⟨rfl, rfl, rfl, by decide +kernel, rfl, by decide +kernel, by decide +kernel⟩
def den__law_like : Nat → Fn
  | 0 => fun _ => none
  | n + 1 => dfun 3 2 (sSeq (sIf (tIsND (eVar 1))
  (sRet (eIsN (eVar 0)))
  sNil)
  (sSeq (sIf (tTru (eIsi "bool" (eVar 1)))
  (sRet (eAndD (eIsi "bool" (eVar 0)) (eB (tCmp dEq (eVar 0) (eVar 1)))))
  sNil)
  (sSeq (sIf (tTru (eIsi "tuple" (eVar 1)))
  (sSeq (sIf (tOrD (tNotD (tTru (eIsi "tuple" (eVar 0)))) (tCmp dNe (eCB (d1 dLen) (aCons (eVar 0) aNil)) (eCB (d1 dLen) (aCons (eVar 1) aNil))))
  (sRet (eC (.bool false)))
  sNil)
  (sRet (eCB (d1 dAll) (aCons (eLc (iRange1 (eCB (d1 dLen) (aCons (eVar 1) aNil))) (.nm 2) tTrue (eCall 2 (den__law_like n) (aCons (eIx (eVar 0) (eVar 2)) (aCons (eIx (eVar 1) (eVar 2)) aNil))) [2]) aNil))))
  sNil)
  (sSeq (sIf (tTru (eIsi "str" (eVar 1)))
  (sRet (eAndD (eIsi "str" (eVar 0)) (eB (tCmp dEq (eVar 0) (eVar 1)))))
  sNil)
  (sRet (eAndD (eCall 1 den__law_is_int (aCons (eVar 0) aNil)) (eB (tCmp dEq (eVar 0) (eVar 1)))))))))
theorem ok__law_like {P : Program} {w : World} {K : PySem.W.Frag} {mg : Str → Option Value} {base : Heap} {ad : Nat → Addr} {fo : Nat → FuncData} (T : Tp K mg ad fo) : ∀ n : Nat, FnOk P w K mg base CX0 (2 + n) (ad 24) (fo 24) ["value", "due"] (spD K 2 (den__law_like n))
  | 0 => fun_none (k := 1) T.F__law_like sc__law_like rfl
  | n + 1 => have ih := ok__law_like (P := P) (w := w) (base := base) T n
    fun_den (k := 2 + n) T.F__law_like sc__law_like rfl rfl (by decide) fun cdv A outer s H E hr =>
  (ss_cons (ss_if (qt_isN (qv 1))
  (ss_one (ss_ret (qe_isN (qv 0))))
  ss_nil)
  (ss_cons (ss_if (qt_tru (qe_isi (by rfl) T.z_isinstance (qv 1) (by rfl) T.z_bool (by decide +kernel)) (by intro _; rfl))
  (ss_one (ss_ret (qe_and (qe_isi (by rfl) T.z_isinstance (qv 0) (by rfl) T.z_bool (by decide +kernel)) (qe_one (qe_cmp (op_eqD (hu_of64 hr)) oc_eq (qv 0) (qv 1) (nomark _))))))
  ss_nil)
  (ss_cons (ss_if (qt_tru (qe_isi (by rfl) T.z_isinstance (qv 1) (by rfl) T.z_tuple (by decide +kernel)) (by intro _; rfl))
  (ss_cons (ss_if (PW.pt (qw_or (qt_not (qt_tru (qe_isi (by rfl) T.z_isinstance (qv 0) (by rfl) T.z_tuple (by decide +kernel)) (by intro _; rfl))) (qw_or1 (qt_cmp (op_neD (hu_of64 hr)) oc_ne (qe_bF call_len_seq cf_len (by rfl) T.z_len (by decide +kernel) (qa_cons (qv 0) qa_nil)) (qe_bF call_len_seq cf_len (by rfl) T.z_len (by decide +kernel) (qa_cons (qv 1) qa_nil)) (nomark _)))))
  (ss_one (ss_ret qbl))
  ss_nil)
  (ss_one (ss_ret (qe_bF (cr_all rfl) cf_all (by rfl) T.z_all (by decide +kernel) (qa_cons (qe_lc (own := [("k", 2)]) rfl sc__law_like.nd (qi_range1 (by rfl) T.z_range (qe_bF call_len_seq cf_len (by rfl) T.z_len (by decide +kernel) (qa_cons (qv 1) qa_nil))) (blkOk_by (own := [("k", 2)]) (N := ["value", "due", "k"]) (sc := (defScope (topS 29))) (by decide +kernel)) (fun _ _ _ _ _ => (gg 2 sc__law_like.nd)) (fun _ _ _ _ _ => qts_nil) (fun _ _ _ _ _ => (qe_call ih (hr.mono (Nat.le_refl _)) (by rfl) T.g__law_like T.F__law_like.kp T.b__law_like (qa_cons (qe_ix (qv 0) (qv 2) (fun _ _ => rfl)) (qa_cons (qe_ix (qv 1) (qv 2) (fun _ _ => rfl)) qa_nil))))) qa_nil)))))
  ss_nil)
  (ss_cons (ss_if (qt_tru (qe_isi (by rfl) T.z_isinstance (qv 1) (by rfl) T.z_str (by decide +kernel)) (by intro _; rfl))
  (ss_one (ss_ret (qe_and (qe_isi (by rfl) T.z_isinstance (qv 0) (by rfl) T.z_str (by decide +kernel)) (qe_one (qe_cmp (op_eqD (hu_of64 hr)) oc_eq (qv 0) (qv 1) (nomark _))))))
  ss_nil)
  (ss_one (ss_ret (qe_and (qe_call (ok__law_is_int T) (hr.mono (Nat.le_trans (by decide) (Nat.le_add_right 2 n))) (by rfl) T.g__law_is_int T.F__law_is_int.kp T.b__law_is_int (qa_cons (qv 0) qa_nil)) (qe_one (qe_cmp (op_eqD (hu_of64 hr)) oc_eq (qv 0) (qv 1) (nomark _))))))))))
theorem sc__law_common : FnScope ["first", "second"] ["first", "second"] (defScope (topS 30)) := ⟨rfl, rfl, rfl, by decide +kernel, rfl, by decide +kernel, by decide +kernel⟩
def den__law_common : Fn := dfun 2 2 (sSeq (sPar 0 1 (eCB (d1 dAbs) (aCons (eVar 0) aNil)) (eCB (d1 dAbs) (aCons (eVar 1) aNil)) ([] ++ []))
  (sSeq (sWhile 100000 (tCmp dGt (eVar 1) (eC (.int 0)))
  (sPar 0 1 (eVar 1) (eOp dMod (eCB (d1 dInt) (aCons (eVar 0) aNil)) (eVar 1)) ([(1, 0)] ++ ([] ++ [(1, 1)]))))
  (sRet (eVar 0))))
theorem ok__law_common {P : Program} {w : World} {K : PySem.W.Frag} {mg : Str → Option Value} {base : Heap} {ad : Nat → Addr} {fo : Nat → FuncData} (T : Tp K mg ad fo) : FnOk P w K mg base CX0 1 (ad 25) (fo 25) ["first", "second"] (spD K 2 den__law_common) :=
  fun_den (k := 0) T.F__law_common sc__law_common rfl rfl (by decide) fun cdv A outer s H E hr =>
  (ss_cons (ss_par 0 1 rfl sc__law_common.nd (qe_bF call_abs cf_abs (by rfl) T.z_abs (by decide +kernel) (qa_cons (qv 0) qa_nil)) (qe_bF call_abs cf_abs (by rfl) T.z_abs (by decide +kernel) (qa_cons (qv 1) qa_nil)) (by rfl))
  (ss_cons (ss_while 100000 PassesOwn.never (qt_cmp (op_gtA (hu_of64 hr)) oc_gt (qv 1) qint (nomark _))
  (ss_one (ss_par 0 1 rfl sc__law_common.nd (qv 1) (qe_mod (qe_tF call_int1 cf_int (by rfl) T.z_int (by decide +kernel) (qa_cons (qv 0) qa_nil)) (qv 1)) (by rfl))))
  (ss_one (ss_ret (qv 0)))))
theorem sc__law_ratio : FnScope ["a", "b", "shared"] ["a", "b"] (defScope (topS 31)) := ⟨rfl, rfl, rfl, by decide +kernel, rfl, by decide +kernel, by decide +kernel⟩
def den__law_ratio : Fn := dfun 3 2 (sSeq (sSet 2 0 (eCall 2 den__law_common (aCons (eVar 0) (aCons (eVar 1) aNil))) ([(0, 0)] ++ ([(1, 0)] ++ [])))
  (sSeq (sIf (tCmp dLt (eVar 1) (eC (.int 0)))
  (sSet 2 0 (eUn dNeg (eVar 2)) [])
  sNil)
  (sRet (eTup (aCons (eOp dFdiv (eVar 0) (eVar 2)) (aCons (eOp dFdiv (eVar 1) (eVar 2)) aNil))))))
theorem ok__law_ratio {P : Program} {w : World} {K : PySem.W.Frag} {mg : Str → Option Value} {base : Heap} {ad : Nat → Addr} {fo : Nat → FuncData} (T : Tp K mg ad fo) : FnOk P w K mg base CX0 2 (ad 26) (fo 26) ["a", "b"] (spD K 2 den__law_ratio) :=
  fun_den (k := 1) T.F__law_ratio sc__law_ratio rfl rfl (by decide) fun cdv A outer s H E hr =>
  (ss_cons (ss_set 2 0 sc__law_ratio.nd (qe_call (ok__law_common T) (hr.mono (by decide)) (by rfl) T.g__law_common T.F__law_common.kp T.b__law_common (qa_cons (qv 0) (qa_cons (qv 1) qa_nil))))
  (ss_cons (ss_if (qt_cmp (op_ltA (hu_of64 hr)) oc_lt (qv 1) qint (nomark _))
  (ss_one (ss_set 2 0 sc__law_ratio.nd (qe_neg (qv 2))))
  ss_nil)
  (ss_one (ss_ret (qe_tup (qa_cons (qe_fdiv (qv 0) (qv 2)) (qa_cons (qe_fdiv (qv 1) (qv 2)) qa_nil)))))))
theorem sc__law_add : FnScope ["x", "y"] ["x", "y"] (defScope (topS 32)) := ⟨rfl, rfl, rfl, by decide +kernel, rfl, by decide +kernel, by decide +kernel⟩
def den__law_add : Fn := dfun 2 2 (sRet (eCall 2 den__law_ratio (aCons (eOp dAdd (eOp dMul (eIx (eVar 0) (eC (.int 0))) (eIx (eVar 1) (eC (.int 1)))) (eOp dMul (eIx (eVar 1) (eC (.int 0))) (eIx (eVar 0) (eC (.int 1))))) (aCons (eOp dMul (eIx (eVar 0) (eC (.int 1))) (eIx (eVar 1) (eC (.int 1)))) aNil))))
theorem ok__law_add {P : Program} {w : World} {K : PySem.W.Frag} {mg : Str → Option Value} {base : Heap} {ad : Nat → Addr} {fo : Nat → FuncData} (T : Tp K mg ad fo) : FnOk P w K mg base CX0 3 (ad 27) (fo 27) ["x", "y"] (spD K 2 den__law_add) :=
  fun_den (k := 2) T.F__law_add sc__law_add rfl rfl (by decide) fun cdv A outer s H E hr =>
  (ss_one (ss_ret (qe_call (ok__law_ratio T) (hr.mono (by decide)) (by rfl) T.g__law_ratio T.F__law_ratio.kp T.b__law_ratio (qa_cons (qe_add (qe_mul (qe_ix (qv 0) qint (fun _ _ => rfl)) (qe_ix (qv 1) qint (fun _ _ => rfl))) (qe_mul (qe_ix (qv 1) qint (fun _ _ => rfl)) (qe_ix (qv 0) qint (fun _ _ => rfl)))) (qa_cons (qe_mul (qe_ix (qv 0) qint (fun _ _ => rfl)) (qe_ix (qv 1) qint (fun _ _ => rfl))) qa_nil)))))
theorem sc__law_under : FnScope ["x", "y"] ["x", "y"] (defScope (topS 33)) := ⟨rfl, rfl, rfl, by decide +kernel, rfl, by decide +kernel, by decide +kernel⟩
def den__law_under : Fn := dfun 2 2 (sRet (eB (tCmp dLt (eOp dMul (eIx (eVar 0) (eC (.int 0))) (eIx (eVar 1) (eC (.int 1)))) (eOp dMul (eIx (eVar 1) (eC (.int 0))) (eIx (eVar 0) (eC (.int 1)))))))
theorem ok__law_under {P : Program} {w : World} {K : PySem.W.Frag} {mg : Str → Option Value} {base : Heap} {ad : Nat → Addr} {fo : Nat → FuncData} (T : Tp K mg ad fo) : FnOk P w K mg base CX0 1 (ad 28) (fo 28) ["x", "y"] (spD K 2 den__law_under) :=
  fun_den (k := 0) T.F__law_under sc__law_under rfl rfl (by decide) fun cdv A outer s H E hr =>
  (ss_one (ss_ret (qe_cmp (op_ltA (hu_of64 hr)) oc_lt (qe_mul (qe_ix (qv 0) qint (fun _ _ => rfl)) (qe_ix (qv 1) qint (fun _ _ => rfl))) (qe_mul (qe_ix (qv 1) qint (fun _ _ => rfl)) (qe_ix (qv 0) qint (fun _ _ => rfl))) (nomark _))))
theorem sc__law_dot : FnScope ["ratios", "numbers", "total_v", "k"] ["ratios", "numbers"] (defScope (topS 34)) := ⟨rfl, rfl, rfl, by decide +kernel, rfl, by decide +kernel, by decide +kernel⟩
def den__law_dot : Fn := dfun 4 2 (sSeq (sSet 2 0 (eTup (aCons (eC (.int 0)) (aCons (eC (.int 1)) aNil))) ([] ++ ([] ++ [])))
  (sSeq (sFor (iRange1 (eCB (d1 dLen) (aCons (eVar 1) aNil))) [] (.nm 3)
  (sSet 2 0 (eCall 2 den__law_add (aCons (eVar 2) (aCons (eCall 2 den__law_ratio (aCons (eOp dMul (eIx (eIx (eVar 0) (eVar 3)) (eC (.int 0))) (eIx (eVar 1) (eVar 3))) (aCons (eIx (eIx (eVar 0) (eVar 3)) (eC (.int 1))) aNil))) aNil))) ([(2, 0)] ++ ((([(0, 3)] ++ [(1, 2)]) ++ ([(0, 2)] ++ [])) ++ []))))
  (sRet (eVar 2))))
theorem ok__law_dot {P : Program} {w : World} {K : PySem.W.Frag} {mg : Str → Option Value} {base : Heap} {ad : Nat → Addr} {fo : Nat → FuncData} (T : Tp K mg ad fo) : FnOk P w K mg base CX0 4 (ad 29) (fo 29) ["ratios", "numbers"] (spD K 2 den__law_dot) :=
  fun_den (k := 3) T.F__law_dot sc__law_dot rfl rfl (by decide) fun cdv A outer s H E hr =>
  (ss_cons (ss_set 2 0 sc__law_dot.nd (qe_tup (qa_cons qint (qa_cons qint qa_nil))))
  (ss_cons (ss_for PassesOwn.never rfl (qi_range1 (by rfl) T.z_range (qe_bF call_len_seq cf_len (by rfl) T.z_len (by decide +kernel) (qa_cons (qv 1) qa_nil))) (gg 3 sc__law_dot.nd)
  (ss_one (ss_set 2 0 sc__law_dot.nd (qe_call (ok__law_add T) (hr.mono (by decide)) (by rfl) T.g__law_add T.F__law_add.kp T.b__law_add (qa_cons (qv 2) (qa_cons (qe_call (ok__law_ratio T) (hr.mono (by decide)) (by rfl) T.g__law_ratio T.F__law_ratio.kp T.b__law_ratio (qa_cons (qe_mul (qe_ix (qe_ix (qv 0) (qv 3) (fun _ _ => rfl)) qint (fun _ _ => rfl)) (qe_ix (qv 1) (qv 3) (fun _ _ => rfl))) (qa_cons (qe_ix (qe_ix (qv 0) (qv 3) (fun _ _ => rfl)) qint (fun _ _ => rfl)) qa_nil))) qa_nil))))))
  (ss_one (ss_ret (qv 2)))))
theorem sc__law_power : FnScope ["base", "n", "found", "turn"] ["base", "n"] (defScope (topS 35)) := ⟨rfl, rfl, rfl, by decide +kernel, rfl, by decide +kernel, by decide +kernel⟩
def den__law_power : Fn := dfun 4 2 (sSeq (sSet 2 0 (eC (.int 1)) [])
  (sSeq (sFor (iRange1 (eVar 1)) [] (.nm 3)
  (sSet 2 0 (eOp dMul (eVar 2) (eVar 0)) ([(2, 1)] ++ [(0, 1)])))
  (sRet (eVar 2))))
theorem ok__law_power {P : Program} {w : World} {K : PySem.W.Frag} {mg : Str → Option Value} {base : Heap} {ad : Nat → Addr} {fo : Nat → FuncData} (T : Tp K mg ad fo) : FnOk P w K mg base CX0 1 (ad 30) (fo 30) ["base", "n"] (spD K 2 den__law_power) :=
  fun_den (k := 0) T.F__law_power sc__law_power rfl rfl (by decide) fun cdv A outer s H E hr =>
  (ss_cons (ss_set 2 0 sc__law_power.nd qint)
  (ss_cons (ss_for PassesOwn.never rfl (qi_range1 (by rfl) T.z_range (qv 1)) (gg 3 sc__law_power.nd)
  (ss_one (ss_set 2 0 sc__law_power.nd (qe_mul (qv 2) (qv 0)))))
  (ss_one (ss_ret (qv 2)))))
theorem sc__law_right : FnScope ["n", "first", "steps", "strike", "kind", "x", "y", "z", "q", "down", "total_v", "ways", "k", "gain"] ["n", "first", "steps", "strike", "kind"] (defScope (topS 36)) := ⟨rfl, rfl, rfl, by decide +kernel, rfl, by decide +kernel, by decide +kernel⟩
def den__law_right : Fn := dfun 14 5 (sSeq (sTup (.tp [(.nm 5), (.nm 6), (.nm 7), (.nm 8), (.nm 9)]) (eVar 2) [(2, 0)])
  (sSeq (sTup (.tp [(.nm 10), (.nm 11)]) (eTup (aCons (eC (.int 0)) (aCons (eC (.int 1)) aNil))) ([] ++ ([] ++ [])))
  (sSeq (sFor (iRange1 (eOp dAdd (eVar 0) (eC (.int 1)))) [] (.nm 12)
  (sSeq (sSet 13 0 (eOp dSub (eOp dMul (eOp dMul (eVar 1) (eCall 2 den__law_power (aCons (eVar 7) (aCons (eVar 12) aNil)))) (eCall 2 den__law_power (aCons (eVar 5) (aCons (eOp dSub (eVar 0) (eVar 12)) aNil)))) (eOp dMul (eOp dMul (eVar 3) (eVar 9)) (eCall 2 den__law_power (aCons (eVar 8) (aCons (eVar 0) aNil))))) ((([(1, 1)] ++ ([(7, 0)] ++ ([(12, 0)] ++ []))) ++ ([(5, 0)] ++ (([(0, 1)] ++ [(12, 1)]) ++ []))) ++ (([(3, 1)] ++ [(9, 1)]) ++ ([(8, 0)] ++ ([(0, 0)] ++ [])))))
  (sSeq (sIf (tCmp dEq (eVar 4) (eC (.str "put")))
  (sSet 13 0 (eUn dNeg (eVar 13)) [])
  sNil)
  (sSeq (sAug 10 dAddI (eOp dMul (eOp dMul (eOp dMul (eVar 11) (eCall 2 den__law_power (aCons (eOp dSub (eVar 6) (eVar 5)) (aCons (eVar 12) aNil)))) (eCall 2 den__law_power (aCons (eOp dSub (eVar 7) (eVar 6)) (aCons (eOp dSub (eVar 0) (eVar 12)) aNil)))) (eCB (d2 dMax2) (aCons (eC (.int 0)) (aCons (eVar 13) aNil)))))
  (sSet 11 0 (eOp dFdiv (eOp dMul (eVar 11) (eOp dSub (eVar 0) (eVar 12))) (eOp dAdd (eVar 12) (eC (.int 1)))) (([(11, 1)] ++ ([(0, 1)] ++ [(12, 1)])) ++ ([(12, 1)] ++ [])))))))
  (sRet (eCall 2 den__law_ratio (aCons (eVar 10) (aCons (eOp dMul (eOp dMul (eVar 9) (eCall 2 den__law_power (aCons (eOp dSub (eVar 7) (eVar 5)) (aCons (eVar 0) aNil)))) (eCall 2 den__law_power (aCons (eVar 6) (aCons (eVar 0) aNil)))) aNil)))))))
theorem ok__law_right {P : Program} {w : World} {K : PySem.W.Frag} {mg : Str → Option Value} {base : Heap} {ad : Nat → Addr} {fo : Nat → FuncData} (T : Tp K mg ad fo) : FnOk P w K mg base CX0 3 (ad 31) (fo 31) ["n", "first", "steps", "strike", "kind"] (spD K 5 den__law_right) :=
  fun_den (k := 2) T.F__law_right sc__law_right rfl rfl (by decide) fun cdv A outer s H E hr =>
  (ss_cons (ss_tup (qv 2) (gg_tup rfl (ggs_cons (gg 5 sc__law_right.nd) (ggs_cons (gg 6 sc__law_right.nd) (ggs_cons (gg 7 sc__law_right.nd) (ggs_cons (gg 8 sc__law_right.nd) (ggs_cons (gg 9 sc__law_right.nd) ggs_nil)))))))
  (ss_cons (ss_tup (qe_tup (qa_cons qint (qa_cons qint qa_nil))) (gg_tup rfl (ggs_cons (gg 10 sc__law_right.nd) (ggs_cons (gg 11 sc__law_right.nd) ggs_nil))))
  (ss_cons (ss_for PassesOwn.never rfl (qi_range1 (by rfl) T.z_range (qe_add (qv 0) qint)) (gg 12 sc__law_right.nd)
  (ss_cons (ss_set 13 0 sc__law_right.nd (qe_sub (qe_mul (qe_mul (qv 1) (qe_call (ok__law_power T) (hr.mono (by decide)) (by rfl) T.g__law_power T.F__law_power.kp T.b__law_power (qa_cons (qv 7) (qa_cons (qv 12) qa_nil)))) (qe_call (ok__law_power T) (hr.mono (by decide)) (by rfl) T.g__law_power T.F__law_power.kp T.b__law_power (qa_cons (qv 5) (qa_cons (qe_sub (qv 0) (qv 12)) qa_nil)))) (qe_mul (qe_mul (qv 3) (qv 9)) (qe_call (ok__law_power T) (hr.mono (by decide)) (by rfl) T.g__law_power T.F__law_power.kp T.b__law_power (qa_cons (qv 8) (qa_cons (qv 0) qa_nil))))))
  (ss_cons (ss_if (qt_cmp (op_eqD (hu_of64 hr)) oc_eq (qv 4) qstr (nomark _))
  (ss_one (ss_set 13 0 sc__law_right.nd (qe_neg (qv 13))))
  ss_nil)
  (ss_cons (ss_augAdd 10 sc__law_right.nd (qe_mul (qe_mul (qe_mul (qv 11) (qe_call (ok__law_power T) (hr.mono (by decide)) (by rfl) T.g__law_power T.F__law_power.kp T.b__law_power (qa_cons (qe_sub (qv 6) (qv 5)) (qa_cons (qv 12) qa_nil)))) (qe_call (ok__law_power T) (hr.mono (by decide)) (by rfl) T.g__law_power T.F__law_power.kp T.b__law_power (qa_cons (qe_sub (qv 7) (qv 6)) (qa_cons (qe_sub (qv 0) (qv 12)) qa_nil)))) (qe_bF (call_max2 rfl) cf_max2 (by rfl) T.z_max (by decide +kernel) (qa_cons qint (qa_cons (qv 13) qa_nil)))))
  (ss_one (ss_set 11 0 sc__law_right.nd (qe_fdiv (qe_mul (qv 11) (qe_sub (qv 0) (qv 12))) (qe_add (qv 12) qint))))))))
  (ss_one (ss_ret (qe_call (ok__law_ratio T) (hr.mono (by decide)) (by rfl) T.g__law_ratio T.F__law_ratio.kp T.b__law_ratio (qa_cons (qv 10) (qa_cons (qe_mul (qe_mul (qv 9) (qe_call (ok__law_power T) (hr.mono (by decide)) (by rfl) T.g__law_power T.F__law_power.kp T.b__law_power (qa_cons (qe_sub (qv 7) (qv 5)) (qa_cons (qv 0) qa_nil)))) (qe_call (ok__law_power T) (hr.mono (by decide)) (by rfl) T.g__law_power T.F__law_power.kp T.b__law_power (qa_cons (qv 6) (qa_cons (qv 0) qa_nil)))) qa_nil))))))))
theorem sc__law_early : FnScope ["n", "first", "steps", "strike", "kind", "x", "y", "z", "q", "down", "worths", "step", "grown", "k", "wide", "gain", "best", "kept"] ["n", "first", "steps", "strike", "kind"] (defScope (topS 37)) := ⟨rfl, rfl, rfl, by decide +kernel, rfl, by decide +kernel, by decide +kernel⟩
def den__law_early : Fn := dfun 18 5 (sSeq (sTup (.tp [(.nm 5), (.nm 6), (.nm 7), (.nm 8), (.nm 9)]) (eVar 2) [(2, 0)])
  (sSeq (sSet 10 0 (eLst aNil) [])
  (sSeq (sFor (iRange3 (eVar 0) (eUn dNeg (eC (.int 1))) (eUn dNeg (eC (.int 1)))) [] (.nm 11)
  (sSeq (sSet 12 1 (eLst aNil) [])
  (sSeq (sFor (iRange1 (eOp dAdd (eVar 11) (eC (.int 1)))) [] (.nm 13)
  (sSeq (sSet 14 0 (eCall 2 den__law_power (aCons (eVar 8) (aCons (eVar 11) aNil))) ([(8, 0)] ++ ([(11, 0)] ++ [])))
  (sSeq (sSet 15 0 (eOp dSub (eOp dMul (eOp dMul (eVar 1) (eCall 2 den__law_power (aCons (eVar 7) (aCons (eVar 13) aNil)))) (eCall 2 den__law_power (aCons (eVar 5) (aCons (eOp dSub (eVar 11) (eVar 13)) aNil)))) (eOp dMul (eVar 3) (eVar 14))) ((([(1, 1)] ++ ([(7, 0)] ++ ([(13, 0)] ++ []))) ++ ([(5, 0)] ++ (([(11, 1)] ++ [(13, 1)]) ++ []))) ++ ([(3, 1)] ++ [(14, 1)])))
  (sSeq (sIf (tCmp dEq (eVar 4) (eC (.str "put")))
  (sSet 15 0 (eUn dNeg (eVar 15)) [])
  sNil)
  (sSeq (sSet 16 0 (eCall 2 den__law_ratio (aCons (eCB (d2 dMax2) (aCons (eC (.int 0)) (aCons (eVar 15) aNil))) (aCons (eVar 14) aNil))) ([] ++ ([(14, 0)] ++ [])))
  (sSeq (sIf (tCmp dLt (eVar 11) (eVar 0))
  (sSeq (sSet 17 0 (eCall 2 den__law_dot (aCons (eTup (aCons (eIx (eVar 10) (eOp dAdd (eVar 13) (eC (.int 1)))) (aCons (eIx (eVar 10) (eVar 13)) aNil))) (aCons (eTup (aCons (eOp dSub (eVar 6) (eVar 5)) (aCons (eOp dSub (eVar 7) (eVar 6)) aNil))) aNil))) (([(10, 1)] ++ ([(10, 1)] ++ [])) ++ ((([(6, 1)] ++ [(5, 1)]) ++ (([(7, 1)] ++ [(6, 1)]) ++ [])) ++ [])))
  (sSeq (sSet 17 0 (eCall 2 den__law_ratio (aCons (eOp dMul (eIx (eVar 17) (eC (.int 0))) (eVar 8)) (aCons (eOp dMul (eOp dMul (eIx (eVar 17) (eC (.int 1))) (eOp dSub (eVar 7) (eVar 5))) (eVar 6)) aNil))) (([(17, 2)] ++ [(8, 1)]) ++ ((([(17, 2)] ++ ([(7, 1)] ++ [(5, 1)])) ++ [(6, 1)]) ++ [])))
  (sIf (tTru (eCall 2 den__law_under (aCons (eVar 16) (aCons (eVar 17) aNil))))
  (sSet 16 0 (eVar 17) [(17, 0)])
  sNil)))
  sNil)
  (sApp 12 (eVar 16) [(16, 0)])))))))
  (sSet 10 0 (eVar 12) [(12, 0)]))))
  (sRet (eIx (eVar 10) (eC (.int 0)))))))
theorem ok__law_early {P : Program} {w : World} {K : PySem.W.Frag} {mg : Str → Option Value} {base : Heap} {ad : Nat → Addr} {fo : Nat → FuncData} (T : Tp K mg ad fo) : FnOk P w K mg base CX0 5 (ad 32) (fo 32) ["n", "first", "steps", "strike", "kind"] (spD K 5 den__law_early) :=
  fun_den (k := 4) T.F__law_early sc__law_early rfl rfl (by decide) fun cdv A outer s H E hr =>
  (ss_cons (ss_tup (qv 2) (gg_tup rfl (ggs_cons (gg 5 sc__law_early.nd) (ggs_cons (gg 6 sc__law_early.nd) (ggs_cons (gg 7 sc__law_early.nd) (ggs_cons (gg 8 sc__law_early.nd) (ggs_cons (gg 9 sc__law_early.nd) ggs_nil)))))))
  (ss_cons (ss_set 10 0 sc__law_early.nd (qe_lst qa_nil))
  (ss_cons (ss_for PassesOwn.never rfl (qi_range3 (by rfl) T.z_range (qv 0) (qe_neg qint) (qe_neg qint)) (gg 11 sc__law_early.nd)
  (ss_cons (ss_set 12 1 sc__law_early.nd (qe_lst qa_nil))
  (ss_cons (ss_for PassesOwn.never rfl (qi_range1 (by rfl) T.z_range (qe_add (qv 11) qint)) (gg 13 sc__law_early.nd)
  (ss_cons (ss_set 14 0 sc__law_early.nd (qe_call (ok__law_power T) (hr.mono (by decide)) (by rfl) T.g__law_power T.F__law_power.kp T.b__law_power (qa_cons (qv 8) (qa_cons (qv 11) qa_nil))))
  (ss_cons (ss_set 15 0 sc__law_early.nd (qe_sub (qe_mul (qe_mul (qv 1) (qe_call (ok__law_power T) (hr.mono (by decide)) (by rfl) T.g__law_power T.F__law_power.kp T.b__law_power (qa_cons (qv 7) (qa_cons (qv 13) qa_nil)))) (qe_call (ok__law_power T) (hr.mono (by decide)) (by rfl) T.g__law_power T.F__law_power.kp T.b__law_power (qa_cons (qv 5) (qa_cons (qe_sub (qv 11) (qv 13)) qa_nil)))) (qe_mul (qv 3) (qv 14))))
  (ss_cons (ss_if (qt_cmp (op_eqD (hu_of64 hr)) oc_eq (qv 4) qstr (nomark _))
  (ss_one (ss_set 15 0 sc__law_early.nd (qe_neg (qv 15))))
  ss_nil)
  (ss_cons (ss_set 16 0 sc__law_early.nd (qe_call (ok__law_ratio T) (hr.mono (by decide)) (by rfl) T.g__law_ratio T.F__law_ratio.kp T.b__law_ratio (qa_cons (qe_bF (call_max2 rfl) cf_max2 (by rfl) T.z_max (by decide +kernel) (qa_cons qint (qa_cons (qv 15) qa_nil))) (qa_cons (qv 14) qa_nil))))
  (ss_cons (ss_if (qt_cmp (op_ltA (hu_of64 hr)) oc_lt (qv 11) (qv 0) (nomark _))
  (ss_cons (ss_set 17 0 sc__law_early.nd (qe_call (ok__law_dot T) (hr.mono (by decide)) (by rfl) T.g__law_dot T.F__law_dot.kp T.b__law_dot (qa_cons (qe_tup (qa_cons (qe_ix (qv 10) (qe_add (qv 13) qint) (fun _ _ => rfl)) (qa_cons (qe_ix (qv 10) (qv 13) (fun _ _ => rfl)) qa_nil))) (qa_cons (qe_tup (qa_cons (qe_sub (qv 6) (qv 5)) (qa_cons (qe_sub (qv 7) (qv 6)) qa_nil))) qa_nil))))
  (ss_cons (ss_set 17 0 sc__law_early.nd (qe_call (ok__law_ratio T) (hr.mono (by decide)) (by rfl) T.g__law_ratio T.F__law_ratio.kp T.b__law_ratio (qa_cons (qe_mul (qe_ix (qv 17) qint (fun _ _ => rfl)) (qv 8)) (qa_cons (qe_mul (qe_mul (qe_ix (qv 17) qint (fun _ _ => rfl)) (qe_sub (qv 7) (qv 5))) (qv 6)) qa_nil))))
  (ss_one (ss_if (qt_tru (qe_call (ok__law_under T) (hr.mono (by decide)) (by rfl) T.g__law_under T.F__law_under.kp T.b__law_under (qa_cons (qv 16) (qa_cons (qv 17) qa_nil))) (by intro _; rfl))
  (ss_one (ss_set 16 0 sc__law_early.nd (qv 17)))
  ss_nil))))
  ss_nil)
  (ss_one (ss_app 12 (ps_expr (pe_bm PySem.F.plainAttrs_list PySem.F.slot_list_append PySem.F.type_list_append mt_append (pv 12) (pa_cons (qv 16) pa_nil)))))))))))
  (ss_one (ss_set 10 0 sc__law_early.nd (qv 12))))))
  (ss_one (ss_ret (qe_ix (qv 10) qint (fun _ _ => rfl)))))))
theorem sc__law_tree : FnScope ["n", "price", "steps", "strike", "kind", "early", "x", "y", "z", "q", "down", "gain", "over", "under", "tree"] ["n", "price", "steps", "strike", "kind", "early"] (defScope (topS 38)) := ⟨rfl, rfl, rfl, by decide +kernel, rfl, by decide +kernel, by decide +kernel⟩
def den__law_tree : Nat → Fn
  | 0 => fun _ => none
  | n + 1 => dfun 15 6 (sSeq (sTup (.tp [(.nm 6), (.nm 7), (.nm 8), (.nm 9), (.nm 10)]) (eVar 2) [(2, 0)])
  (sSeq (sSet 11 0 (eOp dSub (eVar 1) (eVar 3)) ([(1, 1)] ++ [(3, 1)]))
  (sSeq (sIf (tCmp dEq (eVar 4) (eC (.str "put")))
  (sSet 11 0 (eUn dNeg (eVar 11)) [])
  sNil)
  (sSeq (sSet 11 0 (eCB (d2 dMax2) (aCons (eC (.int 0)) (aCons (eVar 11) aNil))) [])
  (sSeq (sIf (tCmp dEq (eVar 0) (eC (.int 0)))
  (sRet (eVar 11))
  sNil)
  (sSeq (sSet 12 0 (eCall 6 (den__law_tree n) (aCons (eOp dSub (eVar 0) (eC (.int 1))) (aCons (eOp dFdiv (eOp dMul (eVar 1) (eVar 8)) (eVar 9)) (aCons (eVar 2) (aCons (eVar 3) (aCons (eVar 4) (aCons (eVar 5) aNil))))))) (([(0, 1)] ++ []) ++ ((([(1, 1)] ++ [(8, 1)]) ++ [(9, 1)]) ++ ([(2, 0)] ++ ([(3, 0)] ++ ([(4, 0)] ++ ([(5, 0)] ++ [])))))))
  (sSeq (sSet 13 0 (eCall 6 (den__law_tree n) (aCons (eOp dSub (eVar 0) (eC (.int 1))) (aCons (eOp dFdiv (eOp dMul (eVar 1) (eVar 6)) (eVar 9)) (aCons (eVar 2) (aCons (eVar 3) (aCons (eVar 4) (aCons (eVar 5) aNil))))))) (([(0, 1)] ++ []) ++ ((([(1, 1)] ++ [(6, 1)]) ++ [(9, 1)]) ++ ([(2, 0)] ++ ([(3, 0)] ++ ([(4, 0)] ++ ([(5, 0)] ++ [])))))))
  (sSeq (sSet 14 0 (eTup (aCons (eC (.str "chance")) (aCons (eTup (aCons (eTup (aCons (eOp dSub (eVar 7) (eVar 6)) (aCons (eVar 12) aNil))) (aCons (eTup (aCons (eOp dSub (eVar 8) (eVar 7)) (aCons (eVar 13) aNil))) aNil))) aNil))) ([] ++ (((([(7, 1)] ++ [(6, 1)]) ++ ([(12, 0)] ++ [])) ++ ((([(8, 1)] ++ [(7, 1)]) ++ ([(13, 0)] ++ [])) ++ [])) ++ [])))
  (sSeq (sIf (tTru (eVar 5))
  (sRet (eTup (aCons (eC (.str "choose")) (aCons (eTup (aCons (eVar 11) (aCons (eVar 14) aNil))) aNil))))
  sNil)
  (sRet (eVar 14)))))))))))
theorem ok__law_tree {P : Program} {w : World} {K : PySem.W.Frag} {mg : Str → Option Value} {base : Heap} {ad : Nat → Addr} {fo : Nat → FuncData} (T : Tp K mg ad fo) : ∀ n : Nat, FnOk P w K mg base CX0 (1 + n) (ad 33) (fo 33) ["n", "price", "steps", "strike", "kind", "early"] (spD K 6 (den__law_tree n))
  | 0 => fun_none (k := 0) T.F__law_tree sc__law_tree rfl
  | n + 1 => have ih := ok__law_tree (P := P) (w := w) (base := base) T n
    fun_den (k := 1 + n) T.F__law_tree sc__law_tree rfl rfl (by decide) fun cdv A outer s H E hr =>
  (ss_cons (ss_tup (qv 2) (gg_tup rfl (ggs_cons (gg 6 sc__law_tree.nd) (ggs_cons (gg 7 sc__law_tree.nd) (ggs_cons (gg 8 sc__law_tree.nd) (ggs_cons (gg 9 sc__law_tree.nd) (ggs_cons (gg 10 sc__law_tree.nd) ggs_nil)))))))
  (ss_cons (ss_set 11 0 sc__law_tree.nd (qe_sub (qv 1) (qv 3)))
  (ss_cons (ss_if (qt_cmp (op_eqD (hu_of64 hr)) oc_eq (qv 4) qstr (nomark _))
  (ss_one (ss_set 11 0 sc__law_tree.nd (qe_neg (qv 11))))
  ss_nil)
  (ss_cons (ss_set 11 0 sc__law_tree.nd (qe_bF (call_max2 rfl) cf_max2 (by rfl) T.z_max (by decide +kernel) (qa_cons qint (qa_cons (qv 11) qa_nil))))
  (ss_cons (ss_if (qt_cmp (op_eqD (hu_of64 hr)) oc_eq (qv 0) qint (nomark _))
  (ss_one (ss_ret (qv 11)))
  ss_nil)
  (ss_cons (ss_set 12 0 sc__law_tree.nd (qe_call ih (hr.mono (Nat.le_refl _)) (by rfl) T.g__law_tree T.F__law_tree.kp T.b__law_tree (qa_cons (qe_sub (qv 0) qint) (qa_cons (qe_fdiv (qe_mul (qv 1) (qv 8)) (qv 9)) (qa_cons (qv 2) (qa_cons (qv 3) (qa_cons (qv 4) (qa_cons (qv 5) qa_nil))))))))
  (ss_cons (ss_set 13 0 sc__law_tree.nd (qe_call ih (hr.mono (Nat.le_refl _)) (by rfl) T.g__law_tree T.F__law_tree.kp T.b__law_tree (qa_cons (qe_sub (qv 0) qint) (qa_cons (qe_fdiv (qe_mul (qv 1) (qv 6)) (qv 9)) (qa_cons (qv 2) (qa_cons (qv 3) (qa_cons (qv 4) (qa_cons (qv 5) qa_nil))))))))
  (ss_cons (ss_set 14 0 sc__law_tree.nd (qe_tup (qa_cons qstr (qa_cons (qe_tup (qa_cons (qe_tup (qa_cons (qe_sub (qv 7) (qv 6)) (qa_cons (qv 12) qa_nil))) (qa_cons (qe_tup (qa_cons (qe_sub (qv 8) (qv 7)) (qa_cons (qv 13) qa_nil))) qa_nil))) qa_nil))))
  (ss_cons (ss_if (qt_tru (qv 5) (by intro _; rfl))
  (ss_one (ss_ret (qe_tup (qa_cons qstr (qa_cons (qe_tup (qa_cons (qv 11) (qa_cons (qv 14) qa_nil))) qa_nil)))))
  ss_nil)
  (ss_one (ss_ret (qv 14))))))))))))
theorem sc__law_asked : FnScope ["n", "price", "steps", "strike", "kind", "x", "y", "z", "q", "down", "up", "under", "rate", "later", "above", "below", "share"] ["n", "price", "steps", "strike", "kind"] (defScope (topS 39)) := ⟨rfl, rfl, rfl, by decide +kernel, rfl, by decide +kernel, by decide +kernel⟩
def den__law_asked : Fn := dfun 17 5 (sSeq (sTup (.tp [(.nm 5), (.nm 6), (.nm 7), (.nm 8), (.nm 9)]) (eVar 2) [(2, 0)])
  (sSeq (sPar3 10 11 12 (eCall 2 den__law_ratio (aCons (eVar 7) (aCons (eVar 8) aNil))) (eCall 2 den__law_ratio (aCons (eVar 5) (aCons (eVar 8) aNil))) (eCall 2 den__law_ratio (aCons (eVar 6) (aCons (eVar 8) aNil))) (([(7, 0)] ++ ([(8, 0)] ++ [])) ++ (([(5, 0)] ++ ([(8, 0)] ++ [])) ++ ([(6, 0)] ++ ([(8, 0)] ++ [])))))
  (sSeq (sIf (tNotD (tTru (eCall 2 (den__law_like 30) (aCons (eCall 7 den_option_price (aCons (eVar 0) (aCons (eVar 1) (aCons (eVar 10) (aCons (eVar 11) (aCons (eVar 12) (aCons (eVar 3) (aCons (eVar 4) aNil)))))))) (aCons (eCall 5 den__law_right (aCons (eVar 0) (aCons (eVar 1) (aCons (eVar 2) (aCons (eVar 3) (aCons (eVar 4) aNil)))))) aNil)))))
  (sRet (eC (.bool false)))
  sNil)
  (sSeq (sSet 13 0 (eTup (aCons (eVar 5) (aCons (eVar 6) (aCons (eVar 7) (aCons (eVar 8) (aCons (eVar 8) aNil)))))) ([(5, 0)] ++ ([(6, 0)] ++ ([(7, 0)] ++ ([(8, 0)] ++ ([(8, 0)] ++ []))))))
  (sSeq (sSet 14 0 (eCall 5 den__law_right (aCons (eOp dSub (eVar 0) (eC (.int 1))) (aCons (eOp dMul (eVar 1) (eVar 7)) (aCons (eVar 13) (aCons (eVar 3) (aCons (eVar 4) aNil)))))) (([(0, 1)] ++ []) ++ (([(1, 1)] ++ [(7, 1)]) ++ ([(13, 0)] ++ ([(3, 0)] ++ ([(4, 0)] ++ []))))))
  (sSeq (sSet 15 0 (eCall 5 den__law_right (aCons (eOp dSub (eVar 0) (eC (.int 1))) (aCons (eOp dMul (eVar 1) (eVar 5)) (aCons (eVar 13) (aCons (eVar 3) (aCons (eVar 4) aNil)))))) (([(0, 1)] ++ []) ++ (([(1, 1)] ++ [(5, 1)]) ++ ([(13, 0)] ++ ([(3, 0)] ++ ([(4, 0)] ++ []))))))
  (sSeq (sSet 16 0 (eCall 2 den__law_add (aCons (eVar 14) (aCons (eTup (aCons (eUn dNeg (eIx (eVar 15) (eC (.int 0)))) (aCons (eIx (eVar 15) (eC (.int 1))) aNil))) aNil))) ([(14, 0)] ++ (([] ++ ([(15, 1)] ++ [])) ++ [])))
  (sSeq (sSet 16 0 (eCall 2 den__law_ratio (aCons (eOp dMul (eIx (eVar 16) (eC (.int 0))) (eVar 8)) (aCons (eOp dMul (eOp dMul (eIx (eVar 16) (eC (.int 1))) (eVar 1)) (eOp dSub (eVar 7) (eVar 5))) aNil))) (([(16, 2)] ++ [(8, 1)]) ++ ((([(16, 2)] ++ [(1, 1)]) ++ ([(7, 1)] ++ [(5, 1)])) ++ [])))
  (sSeq (sIf (tNotD (tTru (eCall 2 (den__law_like 30) (aCons (eCall 7 den_copy_share (aCons (eVar 0) (aCons (eVar 1) (aCons (eVar 10) (aCons (eVar 11) (aCons (eVar 12) (aCons (eVar 3) (aCons (eVar 4) aNil)))))))) (aCons (eVar 16) aNil)))))
  (sRet (eC (.bool false)))
  sNil)
  (sRet (eCall 2 (den__law_like 30) (aCons (eCall 7 den_early_price (aCons (eVar 0) (aCons (eVar 1) (aCons (eVar 10) (aCons (eVar 11) (aCons (eVar 12) (aCons (eVar 3) (aCons (eVar 4) aNil)))))))) (aCons (eCall 5 den__law_early (aCons (eVar 0) (aCons (eVar 1) (aCons (eVar 2) (aCons (eVar 3) (aCons (eVar 4) aNil)))))) aNil)))))))))))))
theorem ok__law_asked {P : Program} {w : World} {K : PySem.W.Frag} {mg : Str → Option Value} {base : Heap} {ad : Nat → Addr} {fo : Nat → FuncData} (T : Tp K mg ad fo) : FnOk P w K mg base CX0 33 (ad 34) (fo 34) ["n", "price", "steps", "strike", "kind"] (spD K 5 den__law_asked) :=
  fun_den (k := 32) T.F__law_asked sc__law_asked rfl rfl (by decide) fun cdv A outer s H E hr =>
  (ss_cons (ss_tup (qv 2) (gg_tup rfl (ggs_cons (gg 5 sc__law_asked.nd) (ggs_cons (gg 6 sc__law_asked.nd) (ggs_cons (gg 7 sc__law_asked.nd) (ggs_cons (gg 8 sc__law_asked.nd) (ggs_cons (gg 9 sc__law_asked.nd) ggs_nil)))))))
  (ss_cons (ss_par3 10 11 12 rfl sc__law_asked.nd (qe_call (ok__law_ratio T) (hr.mono (by decide)) (by rfl) T.g__law_ratio T.F__law_ratio.kp T.b__law_ratio (qa_cons (qv 7) (qa_cons (qv 8) qa_nil))) (qe_call (ok__law_ratio T) (hr.mono (by decide)) (by rfl) T.g__law_ratio T.F__law_ratio.kp T.b__law_ratio (qa_cons (qv 5) (qa_cons (qv 8) qa_nil))) (qe_call (ok__law_ratio T) (hr.mono (by decide)) (by rfl) T.g__law_ratio T.F__law_ratio.kp T.b__law_ratio (qa_cons (qv 6) (qa_cons (qv 8) qa_nil))) (by rfl))
  (ss_cons (ss_if (qt_not (qt_tru (qe_call (ok__law_like T 30) (hr.mono (by decide)) (by rfl) T.g__law_like T.F__law_like.kp T.b__law_like (qa_cons (qe_call (ok_option_price T) (hr.mono (by decide)) (by rfl) T.g_option_price T.F_option_price.kp T.b_option_price (qa_cons (qv 0) (qa_cons (qv 1) (qa_cons (qv 10) (qa_cons (qv 11) (qa_cons (qv 12) (qa_cons (qv 3) (qa_cons (qv 4) qa_nil)))))))) (qa_cons (qe_call (ok__law_right T) (hr.mono (by decide)) (by rfl) T.g__law_right T.F__law_right.kp T.b__law_right (qa_cons (qv 0) (qa_cons (qv 1) (qa_cons (qv 2) (qa_cons (qv 3) (qa_cons (qv 4) qa_nil)))))) qa_nil))) (by intro _; rfl)))
  (ss_one (ss_ret qbl))
  ss_nil)
  (ss_cons (ss_set 13 0 sc__law_asked.nd (qe_tup (qa_cons (qv 5) (qa_cons (qv 6) (qa_cons (qv 7) (qa_cons (qv 8) (qa_cons (qv 8) qa_nil)))))))
  (ss_cons (ss_set 14 0 sc__law_asked.nd (qe_call (ok__law_right T) (hr.mono (by decide)) (by rfl) T.g__law_right T.F__law_right.kp T.b__law_right (qa_cons (qe_sub (qv 0) qint) (qa_cons (qe_mul (qv 1) (qv 7)) (qa_cons (qv 13) (qa_cons (qv 3) (qa_cons (qv 4) qa_nil)))))))
  (ss_cons (ss_set 15 0 sc__law_asked.nd (qe_call (ok__law_right T) (hr.mono (by decide)) (by rfl) T.g__law_right T.F__law_right.kp T.b__law_right (qa_cons (qe_sub (qv 0) qint) (qa_cons (qe_mul (qv 1) (qv 5)) (qa_cons (qv 13) (qa_cons (qv 3) (qa_cons (qv 4) qa_nil)))))))
  (ss_cons (ss_set 16 0 sc__law_asked.nd (qe_call (ok__law_add T) (hr.mono (by decide)) (by rfl) T.g__law_add T.F__law_add.kp T.b__law_add (qa_cons (qv 14) (qa_cons (qe_tup (qa_cons (qe_neg (qe_ix (qv 15) qint (fun _ _ => rfl))) (qa_cons (qe_ix (qv 15) qint (fun _ _ => rfl)) qa_nil))) qa_nil))))
  (ss_cons (ss_set 16 0 sc__law_asked.nd (qe_call (ok__law_ratio T) (hr.mono (by decide)) (by rfl) T.g__law_ratio T.F__law_ratio.kp T.b__law_ratio (qa_cons (qe_mul (qe_ix (qv 16) qint (fun _ _ => rfl)) (qv 8)) (qa_cons (qe_mul (qe_mul (qe_ix (qv 16) qint (fun _ _ => rfl)) (qv 1)) (qe_sub (qv 7) (qv 5))) qa_nil))))
  (ss_cons (ss_if (qt_not (qt_tru (qe_call (ok__law_like T 30) (hr.mono (by decide)) (by rfl) T.g__law_like T.F__law_like.kp T.b__law_like (qa_cons (qe_call (ok_copy_share T) (hr.mono (by decide)) (by rfl) T.g_copy_share T.F_copy_share.kp T.b_copy_share (qa_cons (qv 0) (qa_cons (qv 1) (qa_cons (qv 10) (qa_cons (qv 11) (qa_cons (qv 12) (qa_cons (qv 3) (qa_cons (qv 4) qa_nil)))))))) (qa_cons (qv 16) qa_nil))) (by intro _; rfl)))
  (ss_one (ss_ret qbl))
  ss_nil)
  (ss_one (ss_ret (qe_call (ok__law_like T 30) (hr.mono (by decide)) (by rfl) T.g__law_like T.F__law_like.kp T.b__law_like (qa_cons (qe_call (ok_early_price T) (hr.mono (by decide)) (by rfl) T.g_early_price T.F_early_price.kp T.b_early_price (qa_cons (qv 0) (qa_cons (qv 1) (qa_cons (qv 10) (qa_cons (qv 11) (qa_cons (qv 12) (qa_cons (qv 3) (qa_cons (qv 4) qa_nil)))))))) (qa_cons (qe_call (ok__law_early T) (hr.mono (by decide)) (by rfl) T.g__law_early T.F__law_early.kp T.b__law_early (qa_cons (qv 0) (qa_cons (qv 1) (qa_cons (qv 2) (qa_cons (qv 3) (qa_cons (qv 4) qa_nil)))))) qa_nil))))))))))))))
theorem sc_law : FnScope ["script", "row", "n", "price", "x", "y", "z", "steps", "strike", "kind", "q", "worth", "tree", "plain", "path", "one"] ["script"] (defScope (topS 40)) := ⟨rfl, rfl, rfl, by decide +kernel, rfl, by decide +kernel, by decide +kernel⟩
def den_law : Fn := dfun 16 1 (sSeq (sSet 1 0 (eCall 2 den__law_row (aCons (eVar 0) (aCons (eC (.int 16)) aNil))) ([(0, 0)] ++ ([] ++ [])))
  (sSeq (sPar 2 3 (eOp dAdd (eC (.int 1)) (eOp dMod (eCB (d1 dInt) (aCons (eIx (eVar 1) (eC (.int 0))) aNil)) (eC (.int 6)))) (eOp dAdd (eC (.int 1)) (eOp dMod (eCB (d1 dInt) (aCons (eIx (eVar 1) (eC (.int 1))) aNil)) (eC (.int 30)))) (([] ++ ([] ++ [])) ++ ([] ++ ([] ++ []))))
  (sSeq (sSet 4 0 (eOp dAdd (eC (.int 1)) (eOp dMod (eCB (d1 dInt) (aCons (eIx (eVar 1) (eC (.int 2))) aNil)) (eC (.int 5)))) ([] ++ ([] ++ [])))
  (sSeq (sSet 5 0 (eOp dAdd (eOp dAdd (eVar 4) (eC (.int 1))) (eOp dMod (eCB (d1 dInt) (aCons (eIx (eVar 1) (eC (.int 3))) aNil)) (eC (.int 4)))) (([(4, 1)] ++ []) ++ ([] ++ [])))
  (sSeq (sSet 6 0 (eOp dAdd (eOp dAdd (eVar 5) (eC (.int 1))) (eOp dMod (eCB (d1 dInt) (aCons (eIx (eVar 1) (eC (.int 4))) aNil)) (eC (.int 5)))) (([(5, 1)] ++ []) ++ ([] ++ [])))
  (sSeq (sSet 7 0 (eTup (aCons (eVar 4) (aCons (eVar 5) (aCons (eVar 6) (aCons (eOp dAdd (eC (.int 1)) (eOp dMod (eCB (d1 dInt) (aCons (eIx (eVar 1) (eC (.int 5))) aNil)) (eC (.int 6)))) (aCons (eC (.int 1)) aNil)))))) ([(4, 0)] ++ ([(5, 0)] ++ ([(6, 0)] ++ (([] ++ ([] ++ [])) ++ ([] ++ []))))))
  (sSeq (sSet 8 0 (eOp dMod (eCB (d1 dInt) (aCons (eIx (eVar 1) (eC (.int 6))) aNil)) (eIx (eTup (aCons (eC (.int 61)) (aCons (eOp dAdd (eVar 3) (eC (.int 3))) aNil))) (eOp dMod (eCB (d1 dInt) (aCons (eIx (eVar 1) (eC (.int 7))) aNil)) (eC (.int 2))))) ([] ++ ([] ++ (([(3, 1)] ++ []) ++ []))))
  (sSeq (sFor (iSeq (eTup (aCons (eC (.str "call")) (aCons (eC (.str "put")) aNil)))) ([] ++ ([] ++ [])) (.nm 9)
  (sIf (tNotD (tTru (eCall 5 den__law_asked (aCons (eVar 2) (aCons (eVar 3) (aCons (eVar 7) (aCons (eVar 8) (aCons (eVar 9) aNil))))))))
  (sRet (eC (.bool false)))
  sNil))
  (sSeq (sSet 10 0 (eOp dAdd (eC (.int 2)) (eOp dMod (eCB (d1 dInt) (aCons (eIx (eVar 1) (eC (.int 8))) aNil)) (eC (.int 2)))) ([] ++ ([] ++ [])))
  (sSeq (sSet 7 0 (eTup (aCons (eOp dAdd (eC (.int 1)) (eOp dMod (eCB (d1 dInt) (aCons (eIx (eVar 1) (eC (.int 9))) aNil)) (eOp dSub (eVar 10) (eC (.int 1))))) (aCons (eVar 10) (aCons (eOp dAdd (eOp dAdd (eVar 10) (eC (.int 1))) (eOp dMod (eCB (d1 dInt) (aCons (eIx (eVar 1) (eC (.int 10))) aNil)) (eC (.int 3)))) (aCons (eVar 10) (aCons (eC (.int 1)) aNil)))))) (([] ++ ([] ++ ([(10, 1)] ++ []))) ++ ([(10, 0)] ++ ((([(10, 1)] ++ []) ++ ([] ++ [])) ++ ([(10, 0)] ++ ([] ++ []))))))
  (sSeq (sSet 2 0 (eOp dAdd (eC (.int 1)) (eOp dMod (eCB (d1 dInt) (aCons (eIx (eVar 1) (eC (.int 11))) aNil)) (eC (.int 3)))) ([] ++ ([] ++ [])))
  (sSeq (sSet 3 0 (eOp dMul (eCall 2 den__law_power (aCons (eVar 10) (aCons (eVar 2) aNil))) (eOp dAdd (eC (.int 1)) (eOp dMod (eCB (d1 dInt) (aCons (eIx (eVar 1) (eC (.int 12))) aNil)) (eC (.int 3))))) (([(10, 0)] ++ ([(2, 0)] ++ [])) ++ ([] ++ ([] ++ []))))
  (sSeq (sSet 8 0 (eOp dMod (eCB (d1 dInt) (aCons (eIx (eVar 1) (eC (.int 13))) aNil)) (eOp dAdd (eVar 3) (eC (.int 6)))) ([] ++ ([(3, 1)] ++ [])))
  (sSeq (sFor (iSeq (eTup (aCons (eC (.str "call")) (aCons (eC (.str "put")) aNil)))) ([] ++ ([] ++ [])) (.nm 9)
  (sSeq (sIf (tNotD (tTru (eCall 5 den__law_asked (aCons (eVar 2) (aCons (eVar 3) (aCons (eVar 7) (aCons (eVar 8) (aCons (eVar 9) aNil))))))))
  (sRet (eC (.bool false)))
  sNil)
  (sSeq (sSet 11 0 (eCall 5 den__law_early (aCons (eVar 2) (aCons (eVar 3) (aCons (eVar 7) (aCons (eVar 8) (aCons (eVar 9) aNil)))))) ([(2, 0)] ++ ([(3, 0)] ++ ([(7, 0)] ++ ([(8, 0)] ++ ([(9, 0)] ++ []))))))
  (sSeq (sSet 12 0 (eCall 6 (den__law_tree 30) (aCons (eVar 2) (aCons (eVar 3) (aCons (eVar 7) (aCons (eVar 8) (aCons (eVar 9) (aCons (eC (.bool true)) aNil))))))) ([(2, 0)] ++ ([(3, 0)] ++ ([(7, 0)] ++ ([(8, 0)] ++ ([(9, 0)] ++ ([] ++ [])))))))
  (sSeq (sSet 13 0 (eCall 6 (den__law_tree 30) (aCons (eVar 2) (aCons (eVar 3) (aCons (eVar 7) (aCons (eVar 8) (aCons (eVar 9) (aCons (eC (.bool false)) aNil))))))) ([(2, 0)] ++ ([(3, 0)] ++ ([(7, 0)] ++ ([(8, 0)] ++ ([(9, 0)] ++ ([] ++ [])))))))
  (sSeq (sIf (tNotD (tTru (eCall 2 (den__law_like 30) (aCons (eTup (aCons (eCall 1 (den_worth_of 30) (aCons (eVar 12) aNil)) (aCons (eCall 1 (den_worth_of 30) (aCons (eVar 13) aNil)) aNil))) (aCons (eTup (aCons (eVar 11) (aCons (eCall 5 den__law_right (aCons (eVar 2) (aCons (eVar 3) (aCons (eVar 7) (aCons (eVar 8) (aCons (eVar 9) aNil)))))) aNil))) aNil)))))
  (sRet (eC (.bool false)))
  sNil)
  (sSeq (sSet 14 0 (eCall 1 (den_choices_of 30) (aCons (eVar 12) aNil)) ([(12, 0)] ++ []))
  (sSeq (sIf (tOrD (tNotD (tTru (eIsi "tuple" (eVar 14)))) (tNotD (tTru (eCB (d1 dAll) (aCons (eLc (iSeq (eVar 14)) (.nm 15) tTrue (eCall 1 den__law_is_int (aCons (eVar 15) aNil)) [15]) aNil)))))
  (sRet (eC (.bool false)))
  sNil)
  (sSeq (sIf (tAndD (tCmp dEq (eVar 11) (eTup (aCons (eIx (eIx (eVar 12) (eC (.int 1))) (eC (.int 0))) (aCons (eC (.int 1)) aNil)))) (tCmp dNe (eVar 14) (eTup (aCons (eC (.int 0)) aNil))))
  (sRet (eC (.bool false)))
  sNil)
  (sIf (tAndD (tCmp dNe (eVar 11) (eTup (aCons (eIx (eIx (eVar 12) (eC (.int 1))) (eC (.int 0))) (aCons (eC (.int 1)) aNil)))) (tCmp dNe (eSl (eVar 14) oNone (oSome (eC (.int 1)))) (eTup (aCons (eC (.int 1)) aNil))))
  (sRet (eC (.bool false)))
  sNil))))))))))
  (sRet (eC (.bool true)))))))))))))))))
theorem ok_law {P : Program} {w : World} {K : PySem.W.Frag} {mg : Str → Option Value} {base : Heap} {ad : Nat → Addr} {fo : Nat → FuncData} (T : Tp K mg ad fo) : FnOk P w K mg base CX0 68 (ad 35) (fo 35) ["script"] (spD K 1 den_law) :=
  fun_den (k := 67) T.F_law sc_law rfl rfl (by decide) fun cdv A outer s H E hr =>
  (ss_cons (ss_set 1 0 sc_law.nd (qe_call (ok__law_row T) (hr.mono (by decide)) (by rfl) T.g__law_row T.F__law_row.kp T.b__law_row (qa_cons (qv 0) (qa_cons qint qa_nil))))
  (ss_cons (ss_par 2 3 rfl sc_law.nd (qe_add qint (qe_mod (qe_tF call_int1 cf_int (by rfl) T.z_int (by decide +kernel) (qa_cons (qe_ix (qv 1) qint (fun _ _ => rfl)) qa_nil)) qint)) (qe_add qint (qe_mod (qe_tF call_int1 cf_int (by rfl) T.z_int (by decide +kernel) (qa_cons (qe_ix (qv 1) qint (fun _ _ => rfl)) qa_nil)) qint)) (by rfl))
  (ss_cons (ss_set 4 0 sc_law.nd (qe_add qint (qe_mod (qe_tF call_int1 cf_int (by rfl) T.z_int (by decide +kernel) (qa_cons (qe_ix (qv 1) qint (fun _ _ => rfl)) qa_nil)) qint)))
  (ss_cons (ss_set 5 0 sc_law.nd (qe_add (qe_add (qv 4) qint) (qe_mod (qe_tF call_int1 cf_int (by rfl) T.z_int (by decide +kernel) (qa_cons (qe_ix (qv 1) qint (fun _ _ => rfl)) qa_nil)) qint)))
  (ss_cons (ss_set 6 0 sc_law.nd (qe_add (qe_add (qv 5) qint) (qe_mod (qe_tF call_int1 cf_int (by rfl) T.z_int (by decide +kernel) (qa_cons (qe_ix (qv 1) qint (fun _ _ => rfl)) qa_nil)) qint)))
  (ss_cons (ss_set 7 0 sc_law.nd (qe_tup (qa_cons (qv 4) (qa_cons (qv 5) (qa_cons (qv 6) (qa_cons (qe_add qint (qe_mod (qe_tF call_int1 cf_int (by rfl) T.z_int (by decide +kernel) (qa_cons (qe_ix (qv 1) qint (fun _ _ => rfl)) qa_nil)) qint)) (qa_cons qint qa_nil)))))))
  (ss_cons (ss_set 8 0 sc_law.nd (qe_mod (qe_tF call_int1 cf_int (by rfl) T.z_int (by decide +kernel) (qa_cons (qe_ix (qv 1) qint (fun _ _ => rfl)) qa_nil)) (qe_ix (qe_tup (qa_cons qint (qa_cons (qe_add (qv 3) qint) qa_nil))) (qe_mod (qe_tF call_int1 cf_int (by rfl) T.z_int (by decide +kernel) (qa_cons (qe_ix (qv 1) qint (fun _ _ => rfl)) qa_nil)) qint) (fun _ _ => rfl))))
  (ss_cons (ss_for PassesOwn.never rfl (qi_seq (qe_tup (qa_cons qstr (qa_cons qstr qa_nil)))) (gg 9 sc_law.nd)
  (ss_one (ss_if (qt_not (qt_tru (qe_call (ok__law_asked T) (hr.mono (by decide)) (by rfl) T.g__law_asked T.F__law_asked.kp T.b__law_asked (qa_cons (qv 2) (qa_cons (qv 3) (qa_cons (qv 7) (qa_cons (qv 8) (qa_cons (qv 9) qa_nil)))))) (by intro _; rfl)))
  (ss_one (ss_ret qbl))
  ss_nil)))
  (ss_cons (ss_set 10 0 sc_law.nd (qe_add qint (qe_mod (qe_tF call_int1 cf_int (by rfl) T.z_int (by decide +kernel) (qa_cons (qe_ix (qv 1) qint (fun _ _ => rfl)) qa_nil)) qint)))
  (ss_cons (ss_set 7 0 sc_law.nd (qe_tup (qa_cons (qe_add qint (qe_mod (qe_tF call_int1 cf_int (by rfl) T.z_int (by decide +kernel) (qa_cons (qe_ix (qv 1) qint (fun _ _ => rfl)) qa_nil)) (qe_sub (qv 10) qint))) (qa_cons (qv 10) (qa_cons (qe_add (qe_add (qv 10) qint) (qe_mod (qe_tF call_int1 cf_int (by rfl) T.z_int (by decide +kernel) (qa_cons (qe_ix (qv 1) qint (fun _ _ => rfl)) qa_nil)) qint)) (qa_cons (qv 10) (qa_cons qint qa_nil)))))))
  (ss_cons (ss_set 2 0 sc_law.nd (qe_add qint (qe_mod (qe_tF call_int1 cf_int (by rfl) T.z_int (by decide +kernel) (qa_cons (qe_ix (qv 1) qint (fun _ _ => rfl)) qa_nil)) qint)))
  (ss_cons (ss_set 3 0 sc_law.nd (qe_mul (qe_call (ok__law_power T) (hr.mono (by decide)) (by rfl) T.g__law_power T.F__law_power.kp T.b__law_power (qa_cons (qv 10) (qa_cons (qv 2) qa_nil))) (qe_add qint (qe_mod (qe_tF call_int1 cf_int (by rfl) T.z_int (by decide +kernel) (qa_cons (qe_ix (qv 1) qint (fun _ _ => rfl)) qa_nil)) qint))))
  (ss_cons (ss_set 8 0 sc_law.nd (qe_mod (qe_tF call_int1 cf_int (by rfl) T.z_int (by decide +kernel) (qa_cons (qe_ix (qv 1) qint (fun _ _ => rfl)) qa_nil)) (qe_add (qv 3) qint)))
  (ss_cons (ss_for PassesOwn.never rfl (qi_seq (qe_tup (qa_cons qstr (qa_cons qstr qa_nil)))) (gg 9 sc_law.nd)
  (ss_cons (ss_if (qt_not (qt_tru (qe_call (ok__law_asked T) (hr.mono (by decide)) (by rfl) T.g__law_asked T.F__law_asked.kp T.b__law_asked (qa_cons (qv 2) (qa_cons (qv 3) (qa_cons (qv 7) (qa_cons (qv 8) (qa_cons (qv 9) qa_nil)))))) (by intro _; rfl)))
  (ss_one (ss_ret qbl))
  ss_nil)
  (ss_cons (ss_set 11 0 sc_law.nd (qe_call (ok__law_early T) (hr.mono (by decide)) (by rfl) T.g__law_early T.F__law_early.kp T.b__law_early (qa_cons (qv 2) (qa_cons (qv 3) (qa_cons (qv 7) (qa_cons (qv 8) (qa_cons (qv 9) qa_nil)))))))
  (ss_cons (ss_set 12 0 sc_law.nd (qe_call (ok__law_tree T 30) (hr.mono (by decide)) (by rfl) T.g__law_tree T.F__law_tree.kp T.b__law_tree (qa_cons (qv 2) (qa_cons (qv 3) (qa_cons (qv 7) (qa_cons (qv 8) (qa_cons (qv 9) (qa_cons qbl qa_nil))))))))
  (ss_cons (ss_set 13 0 sc_law.nd (qe_call (ok__law_tree T 30) (hr.mono (by decide)) (by rfl) T.g__law_tree T.F__law_tree.kp T.b__law_tree (qa_cons (qv 2) (qa_cons (qv 3) (qa_cons (qv 7) (qa_cons (qv 8) (qa_cons (qv 9) (qa_cons qbl qa_nil))))))))
  (ss_cons (ss_if (qt_not (qt_tru (qe_call (ok__law_like T 30) (hr.mono (by decide)) (by rfl) T.g__law_like T.F__law_like.kp T.b__law_like (qa_cons (qe_tup (qa_cons (qe_call (ok_worth_of T 30) (hr.mono (by decide)) (by rfl) T.g_worth_of T.F_worth_of.kp T.b_worth_of (qa_cons (qv 12) qa_nil)) (qa_cons (qe_call (ok_worth_of T 30) (hr.mono (by decide)) (by rfl) T.g_worth_of T.F_worth_of.kp T.b_worth_of (qa_cons (qv 13) qa_nil)) qa_nil))) (qa_cons (qe_tup (qa_cons (qv 11) (qa_cons (qe_call (ok__law_right T) (hr.mono (by decide)) (by rfl) T.g__law_right T.F__law_right.kp T.b__law_right (qa_cons (qv 2) (qa_cons (qv 3) (qa_cons (qv 7) (qa_cons (qv 8) (qa_cons (qv 9) qa_nil)))))) qa_nil))) qa_nil))) (by intro _; rfl)))
  (ss_one (ss_ret qbl))
  ss_nil)
  (ss_cons (ss_set 14 0 sc_law.nd (qe_call (ok_choices_of T 30) (hr.mono (by decide)) (by rfl) T.g_choices_of T.F_choices_of.kp T.b_choices_of (qa_cons (qv 12) qa_nil)))
  (ss_cons (ss_if (PW.pt (qw_or (qt_not (qt_tru (qe_isi (by rfl) T.z_isinstance (qv 14) (by rfl) T.z_tuple (by decide +kernel)) (by intro _; rfl))) (qw_or1 (qt_not (qt_tru (qe_bF (cr_all rfl) cf_all (by rfl) T.z_all (by decide +kernel) (qa_cons (qe_lc (own := [("one", 15)]) rfl sc_law.nd (qi_seq (qv 14)) (blkOk_by (own := [("one", 15)]) (N := ["script", "row", "n", "price", "x", "y", "z", "steps", "strike", "kind", "q", "worth", "tree", "plain", "path", "one"]) (sc := (defScope (topS 40))) (by decide +kernel)) (fun _ _ _ _ _ => (gg 15 sc_law.nd)) (fun _ _ _ _ _ => qts_nil) (fun _ _ _ _ _ => (qe_call (ok__law_is_int T) (hr.mono (by decide)) (by rfl) T.g__law_is_int T.F__law_is_int.kp T.b__law_is_int (qa_cons (qv 15) qa_nil)))) qa_nil)) (by intro _; rfl))))))
  (ss_one (ss_ret qbl))
  ss_nil)
  (ss_cons (ss_if (PW.pt (qw_and (qt_cmp (op_eqD (hu_of64 hr)) oc_eq (qv 11) (qe_tup (qa_cons (qe_ix (qe_ix (qv 12) qint (fun _ _ => rfl)) qint (fun _ _ => rfl)) (qa_cons qint qa_nil))) (nomark _)) (qw_and1 (qt_cmp (op_neD (hu_of64 hr)) oc_ne (qv 14) (qe_tup (qa_cons qint qa_nil)) (nomark _)))))
  (ss_one (ss_ret qbl))
  ss_nil)
  (ss_one (ss_if (PW.pt (qw_and (qt_cmp (op_neD (hu_of64 hr)) oc_ne (qv 11) (qe_tup (qa_cons (qe_ix (qe_ix (qv 12) qint (fun _ _ => rfl)) qint (fun _ _ => rfl)) (qa_cons qint qa_nil))) (nomark _)) (qw_and1 (qt_cmp (op_neD (hu_of64 hr)) oc_ne (qe_sl (qv 14) qo_none (qo_some qint)) (qe_tup (qa_cons qint qa_nil)) (nomark _)))))
  (ss_one (ss_ret qbl))
  ss_nil)))))))))))
  (ss_one (ss_ret qbl))))))))))))))))
end Law
end

section
set_option Elab.async false
set_option linter.all false
set_option maxRecDepth 10000
namespace Law
open DS Lib PySem
theorem row_eq : den__law_row = Lib.den__law_row := rfl
theorem like_eq : den__law_like 30 = Lib.den__law_like 30 := rfl
theorem asked_eq : den__law_asked = Lib.den__law_asked := rfl
theorem early_eq : den__law_early = Lib.den__law_early := rfl
theorem right_eq : den__law_right = Lib.den__law_right := rfl
theorem tree_eq : den__law_tree 30 = Lib.den__law_tree 30 := rfl
theorem worth_eq : den_worth_of 30 = Lib.den_worth_of 30 := rfl
theorem choices_eq : den_choices_of 30 = Lib.den_choices_of 30 := rfl
theorem is_int_eq : den__law_is_int = Lib.den__law_is_int := rfl
theorem power_eq : den__law_power = Lib.den__law_power := rfl
theorem for_two {i : Nat} {body : FS} {a b : D} {ρ : PEnv} {L : List Nat} {s1 s2 : S} (h1 : body (ρ.set i (some a), L.set i 0) = .next s1) (h2 : body (s1.1.set i (some b), s1.2.set i 0) = .next s2) : forGo (.nm i) body [a, b] (ρ, L) = .next s2 := by
  unfold forGo
  simp only [Tg.go]
  show (match body (ρ.set i (some a), L.set i 0) with
    | .next s' => forGo (.nm i) body [b] s'
    | .cont s' => forGo (.nm i) body [b] s'
    | .brk s' => .next s'
    | .ret d => .ret d
    | .stuck => .stuck) = _
  rw [h1]
  unfold forGo
  simp only [Tg.go]
  show (match body (s1.1.set i (some b), s1.2.set i 0) with
    | .next s' => forGo (.nm i) body [] s'
    | .cont s' => forGo (.nm i) body [] s'
    | .brk s' => .next s'
    | .ret d => .ret d
    | .stuck => .stuck) = _
  rw [h2]
  rfl
theorem dNe_rt (p q : Rat) : dNe (rt p) (rt q) = some (!decide (p = q)) := by
  unfold dNe
  have hs : (SeqAt.shaped (rt p) && SeqAt.shaped (rt q)) = true := rfl
  rw [if_pos hs, eqv_rt]
theorem dNe_0 : dNe (.tuple [.int 0]) (.tuple [.int 0]) = some false := by
  unfold dNe
  rw [if_pos (by decide +kernel)]
  simp [PyData.eqv, PyData.eqvAll]
theorem dNe_1 : dNe (.tuple [.int 1]) (.tuple [.int 1]) = some false := by
  unfold dNe
  rw [if_pos (by decide +kernel)]
  simp [PyData.eqv, PyData.eqvAll]
theorem slice_1 (a : D) (t : List D) : dSlice none (some 1) (.tuple (a :: t)) = some (.tuple [a]) := by
  show some (PyData.tuple (cutD _ _ _)) = _
  unfold cutD
  have e1 : _root_.HT.sIx (a :: t).length (a :: t).length (some 1) = 1 := by
    have := _root_.HT.sIx_nat (a :: t).length (a :: t).length 1
    rw [show ((1 : Nat) : Int) = 1 from rfl] at this
    rw [this]
    simp
  rw [e1, _root_.HT.sIx_none]
  rfl
/-- what the law asks of a right of whole prices, one kind -/
def body2 : FS := (sSeq (sIf (tNotD (tTru (eCall 5 den__law_asked (aCons (eVar 2) (aCons (eVar 3) (aCons (eVar 7) (aCons (eVar 8) (aCons (eVar 9) aNil))))))))
  (sRet (eC (.bool false)))
  sNil)
  (sSeq (sSet 11 0 (eCall 5 den__law_early (aCons (eVar 2) (aCons (eVar 3) (aCons (eVar 7) (aCons (eVar 8) (aCons (eVar 9) aNil)))))) ([(2, 0)] ++ ([(3, 0)] ++ ([(7, 0)] ++ ([(8, 0)] ++ ([(9, 0)] ++ []))))))
  (sSeq (sSet 12 0 (eCall 6 (den__law_tree 30) (aCons (eVar 2) (aCons (eVar 3) (aCons (eVar 7) (aCons (eVar 8) (aCons (eVar 9) (aCons (eC (.bool true)) aNil))))))) ([(2, 0)] ++ ([(3, 0)] ++ ([(7, 0)] ++ ([(8, 0)] ++ ([(9, 0)] ++ ([] ++ [])))))))
  (sSeq (sSet 13 0 (eCall 6 (den__law_tree 30) (aCons (eVar 2) (aCons (eVar 3) (aCons (eVar 7) (aCons (eVar 8) (aCons (eVar 9) (aCons (eC (.bool false)) aNil))))))) ([(2, 0)] ++ ([(3, 0)] ++ ([(7, 0)] ++ ([(8, 0)] ++ ([(9, 0)] ++ ([] ++ [])))))))
  (sSeq (sIf (tNotD (tTru (eCall 2 (den__law_like 30) (aCons (eTup (aCons (eCall 1 (den_worth_of 30) (aCons (eVar 12) aNil)) (aCons (eCall 1 (den_worth_of 30) (aCons (eVar 13) aNil)) aNil))) (aCons (eTup (aCons (eVar 11) (aCons (eCall 5 den__law_right (aCons (eVar 2) (aCons (eVar 3) (aCons (eVar 7) (aCons (eVar 8) (aCons (eVar 9) aNil)))))) aNil))) aNil)))))
  (sRet (eC (.bool false)))
  sNil)
  (sSeq (sSet 14 0 (eCall 1 (den_choices_of 30) (aCons (eVar 12) aNil)) ([(12, 0)] ++ []))
  (sSeq (sIf (tOrD (tNotD (tTru (eIsi "tuple" (eVar 14)))) (tNotD (tTru (eCB (d1 dAll) (aCons (eLc (iSeq (eVar 14)) (.nm 15) tTrue (eCall 1 den__law_is_int (aCons (eVar 15) aNil)) [15]) aNil)))))
  (sRet (eC (.bool false)))
  sNil)
  (sSeq (sIf (tAndD (tCmp dEq (eVar 11) (eTup (aCons (eIx (eIx (eVar 12) (eC (.int 1))) (eC (.int 0))) (aCons (eC (.int 1)) aNil)))) (tCmp dNe (eVar 14) (eTup (aCons (eC (.int 0)) aNil))))
  (sRet (eC (.bool false)))
  sNil)
  (sIf (tAndD (tCmp dNe (eVar 11) (eTup (aCons (eIx (eIx (eVar 12) (eC (.int 1))) (eC (.int 0))) (aCons (eC (.int 1)) aNil)))) (tCmp dNe (eSl (eVar 14) oNone (oSome (eC (.int 1)))) (eTup (aCons (eC (.int 1)) aNil))))
  (sRet (eC (.bool false)))
  sNil)))))))))
theorem body2_ok {r : R4} (h : r.Ok) {c : Int} {n : Nat} (w : R4.Whole r c n) (h1 : 1 ≤ n) (hn : n ≤ 6) (a0 a1 a4 a5 a6 a10 x11 x12 x13 x14 x15 : Option D) (L : List Nat) :
    ∃ y11 y12 y13 y14 L', body2 ([a0, a1, some (.int n), some (.int r.s), a4, a5, a6, some (.tuple [.int r.x, .int r.y, .int r.z, .int r.q, .int 1]), some (.int r.K), some (.str (kd r.sg)), a10, x11, x12, x13, x14, x15], L) =
      .next ([a0, a1, some (.int n), some (.int r.s), a4, a5, a6, some (.tuple [.int r.x, .int r.y, .int r.z, .int r.q, .int 1]), some (.int r.K), some (.str (kd r.sg)), a10, y11, y12, y13, y14, x15], L') := by
  obtain ⟨j, rfl⟩ : ∃ j, n = j + 1 := ⟨n - 1, by omega⟩
  have hP : r.P c (j + 1) 0 0 = r.s := by
    unfold R4.P
    rw [Int.pow_zero, Int.pow_zero, w.s, Int.mul_one, Int.mul_one]
  have we := h.worth_early w hn (j + 1) 0 0 30 (by omega) (by omega)
  have wp := h.worth_plain w hn (j + 1) 0 0 30 (by omega) (by omega)
  obtain ⟨ds, hd, hi, hl, hh⟩ := h.path w hn (j + 1) 0 0 30 (by omega) (by omega)
  obtain ⟨hh1, hh2⟩ := hh j rfl
  have g := h.gain_int (c := c) (j := j + 1) (k := 0) (l := 0) w
  have nx := h.eq_next (n := j + 1) (i := j) (k := 0) hn (by omega) (by omega)
  rw [hP] at we wp hd g
  have e0 : j + 1 - (j + 1) = 0 + 0 := by omega
  rw [e0] at nx
  have dlen : ds.length ≤ 1000 := by
    have : (2 : Nat) ^ (j + 1) ≤ 2 ^ 6 := Nat.pow_le_pow_right (by decide) hn
    omega
  have tr : r.trd true (j + 1) r.s = .tuple [.str "choose", .tuple [.int (r.gi r.s), r.ch (r.trd true j (r.s * r.z / r.q)) (r.trd true j (r.s * r.x / r.q))]] := rfl
  have t1 := h.tree true (j + 1) 30 r.s (by omega)
  have t2 := h.tree false (j + 1) 30 r.s (by omega)
  unfold body2
  rw [sSeq_next (by
    rw [sIf_f (by simp only [tNotD_a, tTru_a, eCall_5, eVar_0, eVar_s, o1_s, asked_eq, h.asked h1 hn, dTru_b]; rfl)]
    rfl)]
  obtain ⟨L1, e1⟩ := sSet_any (i := 11) (l := 0) (c := ([(2, 0)] ++ ([(3, 0)] ++ ([(7, 0)] ++ ([(8, 0)] ++ ([(9, 0)] ++ [])))))) (d := rt (r.eq (j + 1) (j + 1) 0)) (f := eCall 5 den__law_early (aCons (eVar 2) (aCons (eVar 3) (aCons (eVar 7) (aCons (eVar 8) (aCons (eVar 9) aNil))))))
    (ρ := [a0, a1, some (.int (j + 1 : Nat)), some (.int r.s), a4, a5, a6, some (.tuple [.int r.x, .int r.y, .int r.z, .int r.q, .int 1]), some (.int r.K), some (.str (kd r.sg)), a10, x11, x12, x13, x14, x15]) (L := L) (by
      simp only [eCall_5, eVar_0, eVar_s, o1_s, early_eq, h.learly hn])
  rw [sSeq_next e1]
  simp only [List.set_cons_zero, List.set_cons_succ]
  obtain ⟨L2, e2⟩ := sSet_any (i := 12) (l := 0) (c := ([(2, 0)] ++ ([(3, 0)] ++ ([(7, 0)] ++ ([(8, 0)] ++ ([(9, 0)] ++ ([] ++ []))))))) (d := r.trd true (j + 1) r.s) (f := eCall 6 (den__law_tree 30) (aCons (eVar 2) (aCons (eVar 3) (aCons (eVar 7) (aCons (eVar 8) (aCons (eVar 9) (aCons (eC (.bool true)) aNil)))))))
    (ρ := [a0, a1, some (.int (j + 1 : Nat)), some (.int r.s), a4, a5, a6, some (.tuple [.int r.x, .int r.y, .int r.z, .int r.q, .int 1]), some (.int r.K), some (.str (kd r.sg)), a10, some (rt (r.eq (j + 1) (j + 1) 0)), x12, x13, x14, x15]) (L := L1) (by
      simp only [eCall_6, eC_a, eVar_0, eVar_s, o1_s, tree_eq, t1])
  rw [sSeq_next e2]
  simp only [List.set_cons_zero, List.set_cons_succ]
  obtain ⟨L3, e3⟩ := sSet_any (i := 13) (l := 0) (c := ([(2, 0)] ++ ([(3, 0)] ++ ([(7, 0)] ++ ([(8, 0)] ++ ([(9, 0)] ++ ([] ++ []))))))) (d := r.trd false (j + 1) r.s) (f := eCall 6 (den__law_tree 30) (aCons (eVar 2) (aCons (eVar 3) (aCons (eVar 7) (aCons (eVar 8) (aCons (eVar 9) (aCons (eC (.bool false)) aNil)))))))
    (ρ := [a0, a1, some (.int (j + 1 : Nat)), some (.int r.s), a4, a5, a6, some (.tuple [.int r.x, .int r.y, .int r.z, .int r.q, .int 1]), some (.int r.K), some (.str (kd r.sg)), a10, some (rt (r.eq (j + 1) (j + 1) 0)), some (r.trd true (j + 1) r.s), x13, x14, x15]) (L := L2) (by
      simp only [eCall_6, eC_a, eVar_0, eVar_s, o1_s, tree_eq, t2])
  rw [sSeq_next e3]
  simp only [List.set_cons_zero, List.set_cons_succ]
  have ro := h.right_o hn
  rw [sSeq_next (pass (d := .tuple [rt (r.eq (j + 1) (j + 1) 0), rt (r.oq (j + 1) (j + 1) 0)]) (n := 30)
    (by simp only [eTup, aCons_a, aNil_a, eCall_1, eVar_0, eVar_s, o1_s, o2_ss, worth_eq, we, wp, List.length_cons, List.length_nil, Nat.zero_add, Nat.reduceAdd, sz, Nat.reduceLeDiff, if_true])
    (by simp only [eTup, aCons_a, aNil_a, eCall_5, eVar_0, eVar_s, o1_s, o2_ss, right_eq, ro, List.length_cons, List.length_nil, Nat.zero_add, Nat.reduceAdd, sz, Nat.reduceLeDiff, if_true])
    rfl (by rw [like_eq]; exact like_ok 30 _ rfl))]
  obtain ⟨L4, e4⟩ := sSet_any (i := 14) (l := 0) (c := ([(12, 0)] ++ [])) (d := .tuple ds) (f := eCall 1 (den_choices_of 30) (aCons (eVar 12) aNil))
    (ρ := [a0, a1, some (.int (j + 1 : Nat)), some (.int r.s), a4, a5, a6, some (.tuple [.int r.x, .int r.y, .int r.z, .int r.q, .int 1]), some (.int r.K), some (.str (kd r.sg)), a10, some (rt (r.eq (j + 1) (j + 1) 0)), some (r.trd true (j + 1) r.s), some (r.trd false (j + 1) r.s), x14, x15]) (L := L3) (by
      simp only [eCall_1, eVar_0, eVar_s, o1_s, choices_eq, hd])
  rw [sSeq_next e4]
  simp only [List.set_cons_zero, List.set_cons_succ]
  generalize hρ : ([a0, a1, some (PyData.int (j + 1 : Nat)), some (.int r.s), a4, a5, a6, some (.tuple [.int r.x, .int r.y, .int r.z, .int r.q, .int 1]), some (.int r.K), some (.str (kd r.sg)), a10, some (rt (r.eq (j + 1) (j + 1) 0)), some (r.trd true (j + 1) r.s), some (r.trd false (j + 1) r.s), some (.tuple ds), x15] : PEnv) = ρ
  have v11 : eVar 11 ρ = some (rt (r.eq (j + 1) (j + 1) 0)) := by rw [← hρ]; rfl
  have v12 : eVar 12 ρ = some (r.trd true (j + 1) r.s) := by rw [← hρ]; rfl
  have v14 : eVar 14 ρ = some (.tuple ds) := by rw [← hρ]; rfl
  have lc : eLc (iSeq (eVar 14)) (.nm 15) tTrue (eCall 1 den__law_is_int (aCons (eVar 15) aNil)) [15] ρ = some (.list (ds.map fun _ => .bool true)) := by
    refine eLc_of (t := .nm 15) (l := ds) id (fun _ => .bool true) (by simp only [iSeq_a, v14, o1_s, seqOf_t, List.map_id]) (by omega) fun d hd' => ⟨[(15, d)], rfl, ?_⟩
    obtain ⟨i, rfl⟩ := hi d hd'
    rw [← hρ]
    simp only [setsD, wipeD, List.foldl_cons, List.foldl_nil, List.set_cons_zero, List.set_cons_succ, eCall_1, eVar_0, eVar_s, o1_s, is_int_eq, is_int_ok]
  rw [sSeq_next (by
    rw [sIf_f (by
      have ha := all_true ds
      simp only [tOrD, tNotD_a, tTru_a, eIsi_a, eCB_a, aCons_a, aNil_a, v14, o1_s, ty_tuple_tuple, dTru_b, lc, o2_ss, d1_1, ha]
      rfl)]
    rfl)]
  have i1 : dIx (r.trd true (j + 1) r.s) (.int 1) = some (.tuple [.int (r.gi r.s), r.ch (r.trd true j (r.s * r.z / r.q)) (r.trd true j (r.s * r.x / r.q))]) := by rw [tr]; exact atI_1
  have i0 : dIx (.tuple [.int (r.gi r.s), r.ch (r.trd true j (r.s * r.z / r.q)) (r.trd true j (r.s * r.x / r.q))]) (.int 0) = some (.int (r.gi r.s)) := atI_0
  have ge : (eTup (aCons (eIx (eIx (eVar 12) (eC (.int 1))) (eC (.int 0))) (aCons (eC (.int 1)) aNil))) ρ = some (rt ((r.gi r.s : Int) : Rat)) := by
    simp only [eTup, aCons_a, aNil_a, eIx_a, eC_a, v12, i1, i0, o2_ss, o1_s, List.length_cons, List.length_nil, Nat.zero_add, Nat.reduceAdd, sz, Nat.reduceLeDiff, if_true]
    rfl
  have g1 : (eTup (aCons (eC (.int 1)) aNil)) ρ = some (.tuple [.int 1]) := by simp [eTup, sz]
  have g0 : (eTup (aCons (eC (.int 0)) aNil)) ρ = some (.tuple [.int 0]) := by simp [eTup, sz]
  have n0 : r.gnq (0 + 0) 0 = r.gnq 0 0 := rfl
  by_cases cs : r.gnq (0 + 0) 0 < r.kp (j + 1) j 0
  · obtain ⟨t, ht⟩ := hh1 cs
    have kpe : r.kp (j + 1) j 0 = r.eq (j + 1) (j + 1) 0 := by
      rw [← nx]
      have cs' := cs
      unfold R4.kp at cs' ⊢
      rw [e0] at cs' ⊢
      rw [if_pos cs']
    have ne : r.eq (j + 1) (j + 1) 0 ≠ ((r.gi r.s : Int) : Rat) := fun z => by
      rw [← kpe, ← g] at z
      rw [z] at cs
      exact Rat.lt_irrefl cs
    rw [sSeq_next (by
      rw [sIf_f (by simp only [tAndD, tCmp_a, v11, ge, o2_ss, dEq_rt, ne, decide_false])]
      rfl)]
    have sl : (eSl (eVar 14) oNone (oSome (eC (.int 1)))) ρ = some (.tuple [.int 1]) := by
      simp only [eSl, oNone, oSome, eC_a, o1_s, v14, ht]
      exact slice_1 _ _
    rw [sIf_f (by simp only [tAndD, tCmp_a, v11, ge, o2_ss, dNe_rt, ne, decide_false, sl, g1, dNe_1]; rfl)]
    exact ⟨_, _, _, _, _, by rw [← hρ]; rfl⟩
  · have ht := hh2 cs
    have eqe : r.eq (j + 1) (j + 1) 0 = ((r.gi r.s : Int) : Rat) := by
      rw [← g, ← nx]
      have cs' := cs
      unfold R4.kp at cs'
      rw [e0] at cs'
      rw [if_neg cs']
    rw [sSeq_next (by
      rw [sIf_f (by simp only [tAndD, tCmp_a, v11, v14, ge, o2_ss, dEq_rt, eqe, decide_true, ht, g0, dNe_0])]
      rfl)]
    rw [sIf_f (by simp only [tAndD, tCmp_a, v11, ge, o2_ss, dNe_rt, eqe, decide_true]; rfl)]
    exact ⟨_, _, _, _, _, by rw [← hρ]; rfl⟩
theorem kd_1 : kd 1 = Str.ofString "call" := rfl
theorem kd_2 : kd (-1) = Str.ofString "put" := rfl
def body1 : FS := (sIf (tNotD (tTru (eCall 5 den__law_asked (aCons (eVar 2) (aCons (eVar 3) (aCons (eVar 7) (aCons (eVar 8) (aCons (eVar 9) aNil))))))))
  (sRet (eC (.bool false)))
  sNil)
theorem body1_ok {r : R4} (h : r.Ok) {n : Nat} (h1 : 1 ≤ n) (hn : n ≤ 6) (a0 a1 a4 a5 a6 x10 x11 x12 x13 x14 x15 : Option D) (L : List Nat) :
    body1 ([a0, a1, some (.int n), some (.int r.s), a4, a5, a6, some (.tuple [.int r.x, .int r.y, .int r.z, .int r.q, .int 1]), some (.int r.K), some (.str (kd r.sg)), x10, x11, x12, x13, x14, x15], L) =
      .next ([a0, a1, some (.int n), some (.int r.s), a4, a5, a6, some (.tuple [.int r.x, .int r.y, .int r.z, .int r.q, .int 1]), some (.int r.K), some (.str (kd r.sg)), x10, x11, x12, x13, x14, x15], L) := by
  unfold body1
  rw [sIf_f (by simp only [tNotD_a, tTru_a, eCall_5, eVar_0, eVar_s, o1_s, asked_eq, h.asked h1 hn, dTru_b]; rfl)]
  rfl
theorem main (ns : List Int) (hl : ns.length ≤ 63) : den_law [scr ns] = some (.bool true) := by
  obtain ⟨r, r0, hr⟩ := row_fn ns 16 (by decide)
  have ix : ∀ k : Nat, k < 16 → dIx (.list ((List.range 16).map fun k => .int (r k))) (.int k) = some (.int (r k)) := fun k hk => map_ix (g := fun k => PyData.int (r k)) hk
  have i0 : dIx (.list ((List.range 16).map fun k => .int (r k))) (.int 0) = some (.int (r 0)) := ix 0 (by decide)
  have i1 : dIx (.list ((List.range 16).map fun k => .int (r k))) (.int 1) = some (.int (r 1)) := ix 1 (by decide)
  have i2 : dIx (.list ((List.range 16).map fun k => .int (r k))) (.int 2) = some (.int (r 2)) := ix 2 (by decide)
  have i3 : dIx (.list ((List.range 16).map fun k => .int (r k))) (.int 3) = some (.int (r 3)) := ix 3 (by decide)
  have i4 : dIx (.list ((List.range 16).map fun k => .int (r k))) (.int 4) = some (.int (r 4)) := ix 4 (by decide)
  have i5 : dIx (.list ((List.range 16).map fun k => .int (r k))) (.int 5) = some (.int (r 5)) := ix 5 (by decide)
  have i6 : dIx (.list ((List.range 16).map fun k => .int (r k))) (.int 6) = some (.int (r 6)) := ix 6 (by decide)
  have i7 : dIx (.list ((List.range 16).map fun k => .int (r k))) (.int 7) = some (.int (r 7)) := ix 7 (by decide)
  have i8 : dIx (.list ((List.range 16).map fun k => .int (r k))) (.int 8) = some (.int (r 8)) := ix 8 (by decide)
  have i9 : dIx (.list ((List.range 16).map fun k => .int (r k))) (.int 9) = some (.int (r 9)) := ix 9 (by decide)
  have i10 : dIx (.list ((List.range 16).map fun k => .int (r k))) (.int 10) = some (.int (r 10)) := ix 10 (by decide)
  have i11 : dIx (.list ((List.range 16).map fun k => .int (r k))) (.int 11) = some (.int (r 11)) := ix 11 (by decide)
  have i12 : dIx (.list ((List.range 16).map fun k => .int (r k))) (.int 12) = some (.int (r 12)) := ix 12 (by decide)
  have i13 : dIx (.list ((List.range 16).map fun k => .int (r k))) (.int 13) = some (.int (r 13)) := ix 13 (by decide)
  clear ix
  unfold den_law
  refine dfun_ret [some (scr ns), none, none, none, none, none, none, none, none, none, none, none, none, none, none, none] [0, 0, 0, 0, 0, 0, 0, 0, 0, 0, 0, 0, 0, 0, 0, 0] rfl rfl rfl ?_
  rw [sSeq_next (s' := ([some (scr ns), some (.list ((List.range 16).map fun k => .int (r k))), none, none, none, none, none, none, none, none, none, none, none, none, none, none], [0, 0, 0, 0, 0, 0, 0, 0, 0, 0, 0, 0, 0, 0, 0, 0])) (by
    rw [sSet_next (d := .list ((List.range 16).map fun k => .int (r k))) (by simp only [eCall_2, eVar_0, eC_a, o1_s, row_eq]; exact hr)]
    rfl)]
  generalize (PyData.list ((List.range 16).map fun k => PyData.int (r k))) = R at *
  obtain ⟨n, hn⟩ : ∃ n : Nat, 1 + r 0 % 6 = (n : Int) := ⟨(1 + r 0 % 6).toNat, by omega⟩
  obtain ⟨p, hp⟩ : ∃ p : Int, 1 + r 1 % 30 = p := ⟨_, rfl⟩
  have n1 : 1 ≤ n ∧ n ≤ 6 := by omega
  have p1 : 1 ≤ p ∧ p ≤ 30 := by omega
  rw [sSeq_next (sPar_flat (d := .int n) (e := .int p) (by simp [i0, dMod_i (j := 6) (by decide), hn]) (by simp [i1, dMod_i (j := 30) (by decide), hp]) rfl rfl)]
  simp only [List.set_cons_zero, List.set_cons_succ]
  obtain ⟨x, hx⟩ : ∃ x : Int, 1 + r 2 % 5 = x := ⟨_, rfl⟩
  rw [sSeq_next (sSet_flat (d := .int x) (by simp [i2, dMod_i (j := 5) (by decide), hx]) rfl)]
  simp only [List.set_cons_zero, List.set_cons_succ]
  obtain ⟨y, hy⟩ : ∃ y : Int, x + 1 + r 3 % 4 = y := ⟨_, rfl⟩
  rw [sSeq_next (sSet_flat (d := .int y) (by simp [i3, dMod_i (j := 4) (by decide), hy]) rfl)]
  simp only [List.set_cons_zero, List.set_cons_succ]
  obtain ⟨z, hz⟩ : ∃ z : Int, y + 1 + r 4 % 5 = z := ⟨_, rfl⟩
  rw [sSeq_next (sSet_flat (d := .int z) (by simp [i4, dMod_i (j := 5) (by decide), hz]) rfl)]
  simp only [List.set_cons_zero, List.set_cons_succ]
  obtain ⟨q, hq⟩ : ∃ q : Int, 1 + r 5 % 6 = q := ⟨_, rfl⟩
  rw [sSeq_next (sSet_flat (d := .tuple [.int x, .int y, .int z, .int q, .int 1]) (by simp [eTup, sz, i5, dMod_i (j := 6) (by decide), hq]) rfl)]
  simp only [List.set_cons_zero, List.set_cons_succ]
  obtain ⟨K, hK, hKe⟩ : ∃ K : Int, (0 ≤ K ∧ K ≤ 60) ∧ (eOp dMod (eCB (d1 dInt) (aCons (eIx (eVar 1) (eC (.int 6))) aNil)) (eIx (eTup (aCons (eC (.int 61)) (aCons (eOp dAdd (eVar 3) (eC (.int 3))) aNil))) (eOp dMod (eCB (d1 dInt) (aCons (eIx (eVar 1) (eC (.int 7))) aNil)) (eC (.int 2)))))
      [some (scr ns), some R, some (.int n), some (.int p), some (.int x), some (.int y), some (.int z), some (.tuple [.int x, .int y, .int z, .int q, .int 1]), none, none, none, none, none, none, none, none] = some (.int K) := by
    have h7 : r 7 % 2 = 0 ∨ r 7 % 2 = 1 := by omega
    have t0 : dIx (.tuple [.int 61, .int (p + 3)]) (.int 0) = some (.int 61) := atI_0
    have t1 : dIx (.tuple [.int 61, .int (p + 3)]) (.int 1) = some (.int (p + 3)) := atI_1
    rcases h7 with e | e
    · refine ⟨r 6 % 61, by omega, ?_⟩
      simp [eTup, sz, i6, i7, dMod_i (j := 2) (by decide), e, t0, dMod_i (j := 61) (by decide)]
    · have h0 := Int.emod_nonneg (r 6) (show p + 3 ≠ 0 by omega)
      have h1 := Int.emod_lt_of_pos (r 6) (show 0 < p + 3 by omega)
      refine ⟨r 6 % (p + 3), by omega, ?_⟩
      simp [eTup, sz, i6, i7, dMod_i (j := 2) (by decide), e, t1, dMod_i (j := p + 3) (by omega)]
  rw [sSeq_next (sSet_flat (d := .int K) hKe rfl)]
  simp only [List.set_cons_zero, List.set_cons_succ]
  have kinds : (iSeq (eTup (aCons (eC (.str "call")) (aCons (eC (.str "put")) aNil)))) = fun _ => some [.str (kd 1), .str (kd (-1))] := by
    funext ρ
    simp [eTup, sz]
    exact ⟨rfl, rfl⟩
  have ok1 : ∀ sg : Int, sg = 1 ∨ sg = -1 → R4.Ok ⟨x, y, z, q, p, K, sg⟩ := fun sg hs =>
    ⟨by show 1 ≤ x; omega, by show x < y; omega, by show y < z; omega, by show y ≤ 9; omega, by show z ≤ 14; omega, by show z - x ≤ 9; omega, by show 1 ≤ q; omega, by show q ≤ 6; omega, by show 1 ≤ p; omega, by show p ≤ 81; omega, by show 0 ≤ K; omega, by show K ≤ 90; omega, hs⟩
  rw [sSeq_next (s' := ([some (scr ns), some R, some (.int n), some (.int p), some (.int x), some (.int y), some (.int z), some (.tuple [.int x, .int y, .int z, .int q, .int 1]), some (.int K), some (.str (kd (-1))), none, none, none, none, none, none], [0, 0, 0, 0, 0, 0, 0, 0, 0, 0, 0, 0, 0, 0, 0, 0])) (by
    rw [sFor_go (ds := [.str (kd 1), .str (kd (-1))]) (by rw [kinds])]
    exact for_two (body1_ok (ok1 1 (.inl rfl)) n1.1 n1.2 _ _ _ _ _ _ _ _ _ _ _ _) (body1_ok (ok1 (-1) (.inr rfl)) n1.1 n1.2 _ _ _ _ _ _ _ _ _ _ _ _))]
  -- whole prices
  obtain ⟨b, hb⟩ : ∃ b : Int, 2 + r 8 % 2 = b := ⟨_, rfl⟩
  have b1 : 2 ≤ b ∧ b ≤ 3 := by omega
  rw [sSeq_next (sSet_flat (d := .int b) (by simp [i8, dMod_i (j := 2) (by decide), hb]) rfl)]
  simp only [List.set_cons_zero, List.set_cons_succ]
  obtain ⟨u, hu⟩ : ∃ u : Int, 1 + r 9 % (b - 1) = u := ⟨_, rfl⟩
  have u1 : 1 ≤ u ∧ u < b := by
    have := Int.emod_nonneg (r 9) (show b - 1 ≠ 0 by omega)
    have := Int.emod_lt_of_pos (r 9) (show 0 < b - 1 by omega)
    omega
  obtain ⟨v, hv⟩ : ∃ v : Int, b + 1 + r 10 % 3 = v := ⟨_, rfl⟩
  rw [sSeq_next (sSet_flat (d := .tuple [.int u, .int b, .int v, .int b, .int 1]) (by simp [eTup, sz, i9, i10, dMod_i (j := b - 1) (by omega), dMod_i (j := 3) (by decide), hu, hv]) rfl)]
  simp only [List.set_cons_zero, List.set_cons_succ]
  obtain ⟨m, hm⟩ : ∃ m : Nat, 1 + r 11 % 3 = (m : Int) := ⟨(1 + r 11 % 3).toNat, by omega⟩
  have m1 : 1 ≤ m ∧ m ≤ 3 := by omega
  rw [sSeq_next (sSet_flat (d := .int m) (by simp [i11, dMod_i (j := 3) (by decide), hm]) rfl)]
  simp only [List.set_cons_zero, List.set_cons_succ]
  obtain ⟨c, hc⟩ : ∃ c : Int, 1 + r 12 % 3 = c := ⟨_, rfl⟩
  have c1 : 1 ≤ c ∧ c ≤ 3 := by omega
  have pw := power_ok (b := b) (n := m) (by omega) (by omega)
  have pb := R4.pow_bd (a := b) (b := 3) (k := m) (m := 3) (by omega) (by omega) m1.2
  have mk : mulOk (b ^ m) c = true := mulOk_r (by omega)
  have s1 : 1 ≤ b ^ m * c ∧ b ^ m * c ≤ 81 := by
    have := Int.mul_pos (show 0 < b ^ m by omega) (show 0 < c by omega)
    have := Int.mul_le_mul (show b ^ m ≤ 27 by omega) c1.2 (by omega) (by omega)
    omega
  rw [sSeq_next (sSet_flat (d := .int (b ^ m * c)) (by simp only [eOp_a, eCall_2, eCB_a, aCons_a, aNil_a, eIx_a, eC_a, eVar_0, eVar_s, o1_s, o2_ss, power_eq, pw, i12, d1_1, dInt_i, dMod_i (j := 3) (by decide), dAdd_i, hc, dMul_i mk]) rfl)]
  simp only [List.set_cons_zero, List.set_cons_succ]
  obtain ⟨J, hJ⟩ : ∃ J : Int, r 13 % (b ^ m * c + 6) = J := ⟨_, rfl⟩
  have J1 : 0 ≤ J ∧ J ≤ 86 := by
    have := Int.emod_nonneg (r 13) (show b ^ m * c + 6 ≠ 0 by omega)
    have := Int.emod_lt_of_pos (r 13) (show 0 < b ^ m * c + 6 by omega)
    omega
  rw [sSeq_next (sSet_flat (d := .int J) (by simp only [eOp_a, eCB_a, aCons_a, aNil_a, eIx_a, eC_a, eVar_0, eVar_s, o1_s, o2_ss, i13, d1_1, dInt_i, dAdd_i, dMod_i (j := b ^ m * c + 6) (by omega), hJ]) rfl)]
  simp only [List.set_cons_zero, List.set_cons_succ]
  have ok2 : ∀ sg : Int, sg = 1 ∨ sg = -1 → R4.Ok ⟨u, b, v, b, b ^ m * c, J, sg⟩ := fun sg hs =>
    ⟨by show 1 ≤ u; omega, by show u < b; omega, by show b < v; omega, by show b ≤ 9; omega, by show v ≤ 14; omega, by show v - u ≤ 9; omega, by show 1 ≤ b; omega, by show b ≤ 6; omega, by show 1 ≤ b ^ m * c; omega, by show b ^ m * c ≤ 81; omega, by show 0 ≤ J; omega, by show J ≤ 90; omega, hs⟩
  have wh : ∀ sg : Int, R4.Whole ⟨u, b, v, b, b ^ m * c, J, sg⟩ c m := fun sg => ⟨rfl, Int.mul_comm _ _⟩
  obtain ⟨y11, y12, y13, y14, L1, e1⟩ := body2_ok (ok2 1 (.inl rfl)) (wh 1) m1.1 (by omega) (some (scr ns)) (some R) (some (.int x)) (some (.int y)) (some (.int z)) (some (.int b)) none none none none none [0, 0, 0, 0, 0, 0, 0, 0, 0, 0, 0, 0, 0, 0, 0, 0]
  obtain ⟨z11, z12, z13, z14, L2, e2⟩ := body2_ok (ok2 (-1) (.inr rfl)) (wh (-1)) m1.1 (by omega) (some (scr ns)) (some R) (some (.int x)) (some (.int y)) (some (.int z)) (some (.int b)) y11 y12 y13 y14 none (L1.set 9 0)
  rw [sSeq_next (by
    rw [sFor_go (ds := [.str (kd 1), .str (kd (-1))]) (by rw [kinds])]
    exact for_two e1 e2)]
  exact sRet_ok rfl
end Law
end

section
set_option Elab.async false
set_option linter.all false
set_option maxRecDepth 100000
set_option maxHeartbeats 4000000
namespace Law
open PySem PySem.Spec PyProof.Rows L2 DS
theorem all_mk {w : World} {K : PySem.W.Frag} {h : Heap} {mg : Str → Option Value} {fa : Addr} (X : K.In h) (G : h.Ns mainGlobals mg) (hfa : mg "law" = some (.ref fa))
  {f0 : Addr} {od0 an0 : Option Addr} {sl0 : Array (Option Value)} {oc0 kV0 dc0 pm0 cd0 ct0 : Value}
  {f1 : Addr} {od1 an1 : Option Addr} {sl1 : Array (Option Value)} {oc1 kV1 dc1 pm1 cd1 ct1 : Value}
  {f2 : Addr} {od2 an2 : Option Addr} {sl2 : Array (Option Value)} {oc2 kV2 dc2 pm2 cd2 ct2 : Value}
  {f3 : Addr} {od3 an3 : Option Addr} {sl3 : Array (Option Value)} {oc3 kV3 dc3 pm3 cd3 ct3 : Value}
  {f4 : Addr} {od4 an4 : Option Addr} {sl4 : Array (Option Value)} {oc4 kV4 dc4 pm4 cd4 ct4 : Value}
  {f5 : Addr} {od5 an5 : Option Addr} {sl5 : Array (Option Value)} {oc5 kV5 dc5 pm5 cd5 ct5 : Value}
  {f6 : Addr} {od6 an6 : Option Addr} {sl6 : Array (Option Value)} {oc6 kV6 dc6 pm6 cd6 ct6 : Value}
  {f7 : Addr} {od7 an7 : Option Addr} {sl7 : Array (Option Value)} {oc7 kV7 dc7 pm7 cd7 ct7 : Value}
  {f8 : Addr} {od8 an8 : Option Addr} {sl8 : Array (Option Value)} {oc8 kV8 dc8 pm8 cd8 ct8 : Value}
  {f9 : Addr} {od9 an9 : Option Addr} {sl9 : Array (Option Value)} {oc9 kV9 dc9 pm9 cd9 ct9 : Value}
  {f10 : Addr} {od10 an10 : Option Addr} {sl10 : Array (Option Value)} {oc10 kV10 dc10 pm10 cd10 ct10 : Value}
  {f11 : Addr} {od11 an11 : Option Addr} {sl11 : Array (Option Value)} {oc11 kV11 dc11 pm11 cd11 ct11 : Value}
  {f12 : Addr} {od12 an12 : Option Addr} {sl12 : Array (Option Value)} {oc12 kV12 dc12 pm12 cd12 ct12 : Value}
  {f13 : Addr} {od13 an13 : Option Addr} {sl13 : Array (Option Value)} {oc13 kV13 dc13 pm13 cd13 ct13 : Value}
  {f14 : Addr} {od14 an14 : Option Addr} {sl14 : Array (Option Value)} {oc14 kV14 dc14 pm14 cd14 ct14 : Value}
  {f15 : Addr} {od15 an15 : Option Addr} {sl15 : Array (Option Value)} {oc15 kV15 dc15 pm15 cd15 ct15 : Value}
  {f16 : Addr} {od16 an16 : Option Addr} {sl16 : Array (Option Value)} {oc16 kV16 dc16 pm16 cd16 ct16 : Value}
  {f17 : Addr} {od17 an17 : Option Addr} {sl17 : Array (Option Value)} {oc17 kV17 dc17 pm17 cd17 ct17 : Value}
  {f18 : Addr} {od18 an18 : Option Addr} {sl18 : Array (Option Value)} {oc18 kV18 dc18 pm18 cd18 ct18 : Value}
  {f19 : Addr} {od19 an19 : Option Addr} {sl19 : Array (Option Value)} {oc19 kV19 dc19 pm19 cd19 ct19 : Value}
  {f20 : Addr} {od20 an20 : Option Addr} {sl20 : Array (Option Value)} {oc20 kV20 dc20 pm20 cd20 ct20 : Value}
  {f21 : Addr} {od21 an21 : Option Addr} {sl21 : Array (Option Value)} {oc21 kV21 dc21 pm21 cd21 ct21 : Value}
  {f22 : Addr} {od22 an22 : Option Addr} {sl22 : Array (Option Value)} {oc22 kV22 dc22 pm22 cd22 ct22 : Value}
  {f23 : Addr} {od23 an23 : Option Addr} {sl23 : Array (Option Value)} {oc23 kV23 dc23 pm23 cd23 ct23 : Value}
  {f24 : Addr} {od24 an24 : Option Addr} {sl24 : Array (Option Value)} {oc24 kV24 dc24 pm24 cd24 ct24 : Value}
  {f25 : Addr} {od25 an25 : Option Addr} {sl25 : Array (Option Value)} {oc25 kV25 dc25 pm25 cd25 ct25 : Value}
  {f26 : Addr} {od26 an26 : Option Addr} {sl26 : Array (Option Value)} {oc26 kV26 dc26 pm26 cd26 ct26 : Value}
  {f27 : Addr} {od27 an27 : Option Addr} {sl27 : Array (Option Value)} {oc27 kV27 dc27 pm27 cd27 ct27 : Value}
  {f28 : Addr} {od28 an28 : Option Addr} {sl28 : Array (Option Value)} {oc28 kV28 dc28 pm28 cd28 ct28 : Value}
  {f29 : Addr} {od29 an29 : Option Addr} {sl29 : Array (Option Value)} {oc29 kV29 dc29 pm29 cd29 ct29 : Value}
  {f30 : Addr} {od30 an30 : Option Addr} {sl30 : Array (Option Value)} {oc30 kV30 dc30 pm30 cd30 ct30 : Value}
  {f31 : Addr} {od31 an31 : Option Addr} {sl31 : Array (Option Value)} {oc31 kV31 dc31 pm31 cd31 ct31 : Value}
  {f32 : Addr} {od32 an32 : Option Addr} {sl32 : Array (Option Value)} {oc32 kV32 dc32 pm32 cd32 ct32 : Value}
  {f33 : Addr} {od33 an33 : Option Addr} {sl33 : Array (Option Value)} {oc33 kV33 dc33 pm33 cd33 ct33 : Value}
  {f34 : Addr} {od34 an34 : Option Addr} {sl34 : Array (Option Value)} {oc34 kV34 dc34 pm34 cd34 ct34 : Value}
  {f35 : Addr} {od35 an35 : Option Addr} {sl35 : Array (Option Value)} {oc35 kV35 dc35 pm35 cd35 ct35 : Value}
  (a0 : PySem.W.nsIn K mainGlobals "divisor" = some (some (.ref f0))) (l0 : K.lookup f0 = some ⟨oc0, od0, .func (PySem.W.fnOf "divisor" "divisor" (defArgs (topS 1)) (defBody (topS 1)) (defScope (topS 1)) .none kV0 dc0 pm0 an0 cd0 ct0), sl0⟩) (c0 : PySem.W.codeIn K cd0 "divisor" = true) (k0 : PySem.W.keepIn K (.ref f0) = true)
  (a1 : PySem.W.nsIn K mainGlobals "lowest" = some (some (.ref f1))) (l1 : K.lookup f1 = some ⟨oc1, od1, .func (PySem.W.fnOf "lowest" "lowest" (defArgs (topS 2)) (defBody (topS 2)) (defScope (topS 2)) .none kV1 dc1 pm1 an1 cd1 ct1), sl1⟩) (c1 : PySem.W.codeIn K cd1 "lowest" = true) (k1 : PySem.W.keepIn K (.ref f1) = true)
  (a2 : PySem.W.nsIn K mainGlobals "plus" = some (some (.ref f2))) (l2 : K.lookup f2 = some ⟨oc2, od2, .func (PySem.W.fnOf "plus" "plus" (defArgs (topS 3)) (defBody (topS 3)) (defScope (topS 3)) .none kV2 dc2 pm2 an2 cd2 ct2), sl2⟩) (c2 : PySem.W.codeIn K cd2 "plus" = true) (k2 : PySem.W.keepIn K (.ref f2) = true)
  (a3 : PySem.W.nsIn K mainGlobals "minus" = some (some (.ref f3))) (l3 : K.lookup f3 = some ⟨oc3, od3, .func (PySem.W.fnOf "minus" "minus" (defArgs (topS 4)) (defBody (topS 4)) (defScope (topS 4)) .none kV3 dc3 pm3 an3 cd3 ct3), sl3⟩) (c3 : PySem.W.codeIn K cd3 "minus" = true) (k3 : PySem.W.keepIn K (.ref f3) = true)
  (a4 : PySem.W.nsIn K mainGlobals "times" = some (some (.ref f4))) (l4 : K.lookup f4 = some ⟨oc4, od4, .func (PySem.W.fnOf "times" "times" (defArgs (topS 5)) (defBody (topS 5)) (defScope (topS 5)) .none kV4 dc4 pm4 an4 cd4 ct4), sl4⟩) (c4 : PySem.W.codeIn K cd4 "times" = true) (k4 : PySem.W.keepIn K (.ref f4) = true)
  (a5 : PySem.W.nsIn K mainGlobals "parted" = some (some (.ref f5))) (l5 : K.lookup f5 = some ⟨oc5, od5, .func (PySem.W.fnOf "parted" "parted" (defArgs (topS 6)) (defBody (topS 6)) (defScope (topS 6)) .none kV5 dc5 pm5 an5 cd5 ct5), sl5⟩) (c5 : PySem.W.codeIn K cd5 "parted" = true) (k5 : PySem.W.keepIn K (.ref f5) = true)
  (a6 : PySem.W.nsIn K mainGlobals "is_less" = some (some (.ref f6))) (l6 : K.lookup f6 = some ⟨oc6, od6, .func (PySem.W.fnOf "is_less" "is_less" (defArgs (topS 7)) (defBody (topS 7)) (defScope (topS 7)) .none kV6 dc6 pm6 an6 cd6 ct6), sl6⟩) (c6 : PySem.W.codeIn K cd6 "is_less" = true) (k6 : PySem.W.keepIn K (.ref f6) = true)
  (a7 : PySem.W.nsIn K mainGlobals "total" = some (some (.ref f7))) (l7 : K.lookup f7 = some ⟨oc7, od7, .func (PySem.W.fnOf "total" "total" (defArgs (topS 8)) (defBody (topS 8)) (defScope (topS 8)) .none kV7 dc7 pm7 an7 cd7 ct7), sl7⟩) (c7 : PySem.W.codeIn K cd7 "total" = true) (k7 : PySem.W.keepIn K (.ref f7) = true)
  (a8 : PySem.W.nsIn K mainGlobals "greatest" = some (some (.ref f8))) (l8 : K.lookup f8 = some ⟨oc8, od8, .func (PySem.W.fnOf "greatest" "greatest" (defArgs (topS 9)) (defBody (topS 9)) (defScope (topS 9)) .none kV8 dc8 pm8 an8 cd8 ct8), sl8⟩) (c8 : PySem.W.codeIn K cd8 "greatest" = true) (k8 : PySem.W.keepIn K (.ref f8) = true)
  (a9 : PySem.W.nsIn K mainGlobals "as_ratio" = some (some (.ref f9))) (l9 : K.lookup f9 = some ⟨oc9, od9, .func (PySem.W.fnOf "as_ratio" "as_ratio" (defArgs (topS 11)) (defBody (topS 11)) (defScope (topS 11)) .none kV9 dc9 pm9 an9 cd9 ct9), sl9⟩) (c9 : PySem.W.codeIn K cd9 "as_ratio" = true) (k9 : PySem.W.keepIn K (.ref f9) = true)
  (a10 : PySem.W.nsIn K mainGlobals "up_weight" = some (some (.ref f10))) (l10 : K.lookup f10 = some ⟨oc10, od10, .func (PySem.W.fnOf "up_weight" "up_weight" (defArgs (topS 13)) (defBody (topS 13)) (defScope (topS 13)) .none kV10 dc10 pm10 an10 cd10 ct10), sl10⟩) (c10 : PySem.W.codeIn K cd10 "up_weight" = true) (k10 : PySem.W.keepIn K (.ref f10) = true)
  (a11 : PySem.W.nsIn K mainGlobals "paper_prices" = some (some (.ref f11))) (l11 : K.lookup f11 = some ⟨oc11, od11, .func (PySem.W.fnOf "paper_prices" "paper_prices" (defArgs (topS 14)) (defBody (topS 14)) (defScope (topS 14)) .none kV11 dc11 pm11 an11 cd11 ct11), sl11⟩) (c11 : PySem.W.codeIn K cd11 "paper_prices" = true) (k11 : PySem.W.keepIn K (.ref f11) = true)
  (a12 : PySem.W.nsIn K mainGlobals "gain_of_use" = some (some (.ref f12))) (l12 : K.lookup f12 = some ⟨oc12, od12, .func (PySem.W.fnOf "gain_of_use" "gain_of_use" (defArgs (topS 15)) (defBody (topS 15)) (defScope (topS 15)) .none kV12 dc12 pm12 an12 cd12 ct12), sl12⟩) (c12 : PySem.W.codeIn K cd12 "gain_of_use" = true) (k12 : PySem.W.keepIn K (.ref f12) = true)
  (a13 : PySem.W.nsIn K mainGlobals "step_back" = some (some (.ref f13))) (l13 : K.lookup f13 = some ⟨oc13, od13, .func (PySem.W.fnOf "step_back" "step_back" (defArgs (topS 16)) (defBody (topS 16)) (defScope (topS 16)) .none kV13 dc13 pm13 an13 cd13 ct13), sl13⟩) (c13 : PySem.W.codeIn K cd13 "step_back" = true) (k13 : PySem.W.keepIn K (.ref f13) = true)
  (a14 : PySem.W.nsIn K mainGlobals "end_worths" = some (some (.ref f14))) (l14 : K.lookup f14 = some ⟨oc14, od14, .func (PySem.W.fnOf "end_worths" "end_worths" (defArgs (topS 17)) (defBody (topS 17)) (defScope (topS 17)) .none kV14 dc14 pm14 an14 cd14 ct14), sl14⟩) (c14 : PySem.W.codeIn K cd14 "end_worths" = true) (k14 : PySem.W.keepIn K (.ref f14) = true)
  (a15 : PySem.W.nsIn K mainGlobals "option_price" = some (some (.ref f15))) (l15 : K.lookup f15 = some ⟨oc15, od15, .func (PySem.W.fnOf "option_price" "option_price" (defArgs (topS 18)) (defBody (topS 18)) (defScope (topS 18)) .none kV15 dc15 pm15 an15 cd15 ct15), sl15⟩) (c15 : PySem.W.codeIn K cd15 "option_price" = true) (k15 : PySem.W.keepIn K (.ref f15) = true)
  (a16 : PySem.W.nsIn K mainGlobals "early_price" = some (some (.ref f16))) (l16 : K.lookup f16 = some ⟨oc16, od16, .func (PySem.W.fnOf "early_price" "early_price" (defArgs (topS 19)) (defBody (topS 19)) (defScope (topS 19)) .none kV16 dc16 pm16 an16 cd16 ct16), sl16⟩) (c16 : PySem.W.codeIn K cd16 "early_price" = true) (k16 : PySem.W.keepIn K (.ref f16) = true)
  (a17 : PySem.W.nsIn K mainGlobals "copy_share" = some (some (.ref f17))) (l17 : K.lookup f17 = some ⟨oc17, od17, .func (PySem.W.fnOf "copy_share" "copy_share" (defArgs (topS 20)) (defBody (topS 20)) (defScope (topS 20)) .none kV17 dc17 pm17 an17 cd17 ct17), sl17⟩) (c17 : PySem.W.codeIn K cd17 "copy_share" = true) (k17 : PySem.W.keepIn K (.ref f17) = true)
  (a18 : PySem.W.nsIn K mainGlobals "mean_of" = some (some (.ref f18))) (l18 : K.lookup f18 = some ⟨oc18, od18, .func (PySem.W.fnOf "mean_of" "mean_of" (defArgs (topS 22)) (defBody (topS 22)) (defScope (topS 22)) .none kV18 dc18 pm18 an18 cd18 ct18), sl18⟩) (c18 : PySem.W.codeIn K cd18 "mean_of" = true) (k18 : PySem.W.keepIn K (.ref f18) = true)
  (a19 : PySem.W.nsIn K mainGlobals "worth_of" = some (some (.ref f19))) (l19 : K.lookup f19 = some ⟨oc19, od19, .func (PySem.W.fnOf "worth_of" "worth_of" (defArgs (topS 23)) (defBody (topS 23)) (defScope (topS 23)) .none kV19 dc19 pm19 an19 cd19 ct19), sl19⟩) (c19 : PySem.W.codeIn K cd19 "worth_of" = true) (k19 : PySem.W.keepIn K (.ref f19) = true)
  (a20 : PySem.W.nsIn K mainGlobals "choices_of" = some (some (.ref f20))) (l20 : K.lookup f20 = some ⟨oc20, od20, .func (PySem.W.fnOf "choices_of" "choices_of" (defArgs (topS 24)) (defBody (topS 24)) (defScope (topS 24)) .none kV20 dc20 pm20 an20 cd20 ct20), sl20⟩) (c20 : PySem.W.codeIn K cd20 "choices_of" = true) (k20 : PySem.W.keepIn K (.ref f20) = true)
  (a21 : PySem.W.nsIn K mainGlobals "_law_mixed" = some (some (.ref f21))) (l21 : K.lookup f21 = some ⟨oc21, od21, .func (PySem.W.fnOf "_law_mixed" "_law_mixed" (defArgs (topS 26)) (defBody (topS 26)) (defScope (topS 26)) .none kV21 dc21 pm21 an21 cd21 ct21), sl21⟩) (c21 : PySem.W.codeIn K cd21 "_law_mixed" = true) (k21 : PySem.W.keepIn K (.ref f21) = true)
  (a22 : PySem.W.nsIn K mainGlobals "_law_row" = some (some (.ref f22))) (l22 : K.lookup f22 = some ⟨oc22, od22, .func (PySem.W.fnOf "_law_row" "_law_row" (defArgs (topS 27)) (defBody (topS 27)) (defScope (topS 27)) .none kV22 dc22 pm22 an22 cd22 ct22), sl22⟩) (c22 : PySem.W.codeIn K cd22 "_law_row" = true) (k22 : PySem.W.keepIn K (.ref f22) = true)
  (a23 : PySem.W.nsIn K mainGlobals "_law_is_int" = some (some (.ref f23))) (l23 : K.lookup f23 = some ⟨oc23, od23, .func (PySem.W.fnOf "_law_is_int" "_law_is_int" (defArgs (topS 28)) (defBody (topS 28)) (defScope (topS 28)) .none kV23 dc23 pm23 an23 cd23 ct23), sl23⟩) (c23 : PySem.W.codeIn K cd23 "_law_is_int" = true) (k23 : PySem.W.keepIn K (.ref f23) = true)
  (a24 : PySem.W.nsIn K mainGlobals "_law_like" = some (some (.ref f24))) (l24 : K.lookup f24 = some ⟨oc24, od24, .func (PySem.W.fnOf "_law_like" "_law_like" (defArgs (topS 29)) (defBody (topS 29)) (defScope (topS 29)) .none kV24 dc24 pm24 an24 cd24 ct24), sl24⟩) (c24 : PySem.W.codeIn K cd24 "_law_like" = true) (k24 : PySem.W.keepIn K (.ref f24) = true)
  (a25 : PySem.W.nsIn K mainGlobals "_law_common" = some (some (.ref f25))) (l25 : K.lookup f25 = some ⟨oc25, od25, .func (PySem.W.fnOf "_law_common" "_law_common" (defArgs (topS 30)) (defBody (topS 30)) (defScope (topS 30)) .none kV25 dc25 pm25 an25 cd25 ct25), sl25⟩) (c25 : PySem.W.codeIn K cd25 "_law_common" = true) (k25 : PySem.W.keepIn K (.ref f25) = true)
  (a26 : PySem.W.nsIn K mainGlobals "_law_ratio" = some (some (.ref f26))) (l26 : K.lookup f26 = some ⟨oc26, od26, .func (PySem.W.fnOf "_law_ratio" "_law_ratio" (defArgs (topS 31)) (defBody (topS 31)) (defScope (topS 31)) .none kV26 dc26 pm26 an26 cd26 ct26), sl26⟩) (c26 : PySem.W.codeIn K cd26 "_law_ratio" = true) (k26 : PySem.W.keepIn K (.ref f26) = true)
  (a27 : PySem.W.nsIn K mainGlobals "_law_add" = some (some (.ref f27))) (l27 : K.lookup f27 = some ⟨oc27, od27, .func (PySem.W.fnOf "_law_add" "_law_add" (defArgs (topS 32)) (defBody (topS 32)) (defScope (topS 32)) .none kV27 dc27 pm27 an27 cd27 ct27), sl27⟩) (c27 : PySem.W.codeIn K cd27 "_law_add" = true) (k27 : PySem.W.keepIn K (.ref f27) = true)
  (a28 : PySem.W.nsIn K mainGlobals "_law_under" = some (some (.ref f28))) (l28 : K.lookup f28 = some ⟨oc28, od28, .func (PySem.W.fnOf "_law_under" "_law_under" (defArgs (topS 33)) (defBody (topS 33)) (defScope (topS 33)) .none kV28 dc28 pm28 an28 cd28 ct28), sl28⟩) (c28 : PySem.W.codeIn K cd28 "_law_under" = true) (k28 : PySem.W.keepIn K (.ref f28) = true)
  (a29 : PySem.W.nsIn K mainGlobals "_law_dot" = some (some (.ref f29))) (l29 : K.lookup f29 = some ⟨oc29, od29, .func (PySem.W.fnOf "_law_dot" "_law_dot" (defArgs (topS 34)) (defBody (topS 34)) (defScope (topS 34)) .none kV29 dc29 pm29 an29 cd29 ct29), sl29⟩) (c29 : PySem.W.codeIn K cd29 "_law_dot" = true) (k29 : PySem.W.keepIn K (.ref f29) = true)
  (a30 : PySem.W.nsIn K mainGlobals "_law_power" = some (some (.ref f30))) (l30 : K.lookup f30 = some ⟨oc30, od30, .func (PySem.W.fnOf "_law_power" "_law_power" (defArgs (topS 35)) (defBody (topS 35)) (defScope (topS 35)) .none kV30 dc30 pm30 an30 cd30 ct30), sl30⟩) (c30 : PySem.W.codeIn K cd30 "_law_power" = true) (k30 : PySem.W.keepIn K (.ref f30) = true)
  (a31 : PySem.W.nsIn K mainGlobals "_law_right" = some (some (.ref f31))) (l31 : K.lookup f31 = some ⟨oc31, od31, .func (PySem.W.fnOf "_law_right" "_law_right" (defArgs (topS 36)) (defBody (topS 36)) (defScope (topS 36)) .none kV31 dc31 pm31 an31 cd31 ct31), sl31⟩) (c31 : PySem.W.codeIn K cd31 "_law_right" = true) (k31 : PySem.W.keepIn K (.ref f31) = true)
  (a32 : PySem.W.nsIn K mainGlobals "_law_early" = some (some (.ref f32))) (l32 : K.lookup f32 = some ⟨oc32, od32, .func (PySem.W.fnOf "_law_early" "_law_early" (defArgs (topS 37)) (defBody (topS 37)) (defScope (topS 37)) .none kV32 dc32 pm32 an32 cd32 ct32), sl32⟩) (c32 : PySem.W.codeIn K cd32 "_law_early" = true) (k32 : PySem.W.keepIn K (.ref f32) = true)
  (a33 : PySem.W.nsIn K mainGlobals "_law_tree" = some (some (.ref f33))) (l33 : K.lookup f33 = some ⟨oc33, od33, .func (PySem.W.fnOf "_law_tree" "_law_tree" (defArgs (topS 38)) (defBody (topS 38)) (defScope (topS 38)) .none kV33 dc33 pm33 an33 cd33 ct33), sl33⟩) (c33 : PySem.W.codeIn K cd33 "_law_tree" = true) (k33 : PySem.W.keepIn K (.ref f33) = true)
  (a34 : PySem.W.nsIn K mainGlobals "_law_asked" = some (some (.ref f34))) (l34 : K.lookup f34 = some ⟨oc34, od34, .func (PySem.W.fnOf "_law_asked" "_law_asked" (defArgs (topS 39)) (defBody (topS 39)) (defScope (topS 39)) .none kV34 dc34 pm34 an34 cd34 ct34), sl34⟩) (c34 : PySem.W.codeIn K cd34 "_law_asked" = true) (k34 : PySem.W.keepIn K (.ref f34) = true)
  (a35 : PySem.W.nsIn K mainGlobals "law" = some (some (.ref f35))) (l35 : K.lookup f35 = some ⟨oc35, od35, .func (PySem.W.fnOf "law" "law" (defArgs (topS 40)) (defBody (topS 40)) (defScope (topS 40)) .none kV35 dc35 pm35 an35 cd35 ct35), sl35⟩) (c35 : PySem.W.codeIn K cd35 "law" = true) (k35 : PySem.W.keepIn K (.ref f35) = true)
  (z_abs : PySem.W.nsIn K mainGlobals "abs" = some none)
  (z_all : PySem.W.nsIn K mainGlobals "all" = some none)
  (z_bool : PySem.W.nsIn K mainGlobals "bool" = some none)
  (z_int : PySem.W.nsIn K mainGlobals "int" = some none)
  (z_isinstance : PySem.W.nsIn K mainGlobals "isinstance" = some none)
  (z_len : PySem.W.nsIn K mainGlobals "len" = some none)
  (z_max : PySem.W.nsIn K mainGlobals "max" = some none)
  (z_range : PySem.W.nsIn K mainGlobals "range" = some none)
  (z_str : PySem.W.nsIn K mainGlobals "str" = some none)
  (z_sum : PySem.W.nsIn K mainGlobals "sum" = some none)
  (z_tuple : PySem.W.nsIn K mainGlobals "tuple" = some none)
  (z_zip : PySem.W.nsIn K mainGlobals "zip" = some none) :
  ∃ fd : FuncData, (∀ (s : Shared) (v : Value), BindsTo s fd ⟨[v], []⟩ [("script", v)]) ∧ ∀ base : Heap, K.In base → base.Ns mainGlobals mg → FnOk PySem.Challenge.rw_planskept_k44_whole_rights_by_steps.prog w K mg base CX0 68 fa fd ["script"] (spD K 1 den_law) := by
  have e : f35 = fa := by
    have e := hfa.symm.trans (PySem.W.mg_of X G a35)
    cases e
    rfl
  subst e
  have T : Tp K mg (fun i => match i with | 0 => f0 | 1 => f1 | 2 => f2 | 3 => f3 | 4 => f4 | 5 => f5 | 6 => f6 | 7 => f7 | 8 => f8 | 9 => f9 | 10 => f10 | 11 => f11 | 12 => f12 | 13 => f13 | 14 => f14 | 15 => f15 | 16 => f16 | 17 => f17 | 18 => f18 | 19 => f19 | 20 => f20 | 21 => f21 | 22 => f22 | 23 => f23 | 24 => f24 | 25 => f25 | 26 => f26 | 27 => f27 | 28 => f28 | 29 => f29 | 30 => f30 | 31 => f31 | 32 => f32 | 33 => f33 | 34 => f34 | _ => f35) (fun i => match i with | 0 => PySem.W.fnOf "divisor" "divisor" (defArgs (topS 1)) (defBody (topS 1)) (defScope (topS 1)) .none kV0 dc0 pm0 an0 cd0 ct0 | 1 => PySem.W.fnOf "lowest" "lowest" (defArgs (topS 2)) (defBody (topS 2)) (defScope (topS 2)) .none kV1 dc1 pm1 an1 cd1 ct1 | 2 => PySem.W.fnOf "plus" "plus" (defArgs (topS 3)) (defBody (topS 3)) (defScope (topS 3)) .none kV2 dc2 pm2 an2 cd2 ct2 | 3 => PySem.W.fnOf "minus" "minus" (defArgs (topS 4)) (defBody (topS 4)) (defScope (topS 4)) .none kV3 dc3 pm3 an3 cd3 ct3 | 4 => PySem.W.fnOf "times" "times" (defArgs (topS 5)) (defBody (topS 5)) (defScope (topS 5)) .none kV4 dc4 pm4 an4 cd4 ct4 | 5 => PySem.W.fnOf "parted" "parted" (defArgs (topS 6)) (defBody (topS 6)) (defScope (topS 6)) .none kV5 dc5 pm5 an5 cd5 ct5 | 6 => PySem.W.fnOf "is_less" "is_less" (defArgs (topS 7)) (defBody (topS 7)) (defScope (topS 7)) .none kV6 dc6 pm6 an6 cd6 ct6 | 7 => PySem.W.fnOf "total" "total" (defArgs (topS 8)) (defBody (topS 8)) (defScope (topS 8)) .none kV7 dc7 pm7 an7 cd7 ct7 | 8 => PySem.W.fnOf "greatest" "greatest" (defArgs (topS 9)) (defBody (topS 9)) (defScope (topS 9)) .none kV8 dc8 pm8 an8 cd8 ct8 | 9 => PySem.W.fnOf "as_ratio" "as_ratio" (defArgs (topS 11)) (defBody (topS 11)) (defScope (topS 11)) .none kV9 dc9 pm9 an9 cd9 ct9 | 10 => PySem.W.fnOf "up_weight" "up_weight" (defArgs (topS 13)) (defBody (topS 13)) (defScope (topS 13)) .none kV10 dc10 pm10 an10 cd10 ct10 | 11 => PySem.W.fnOf "paper_prices" "paper_prices" (defArgs (topS 14)) (defBody (topS 14)) (defScope (topS 14)) .none kV11 dc11 pm11 an11 cd11 ct11 | 12 => PySem.W.fnOf "gain_of_use" "gain_of_use" (defArgs (topS 15)) (defBody (topS 15)) (defScope (topS 15)) .none kV12 dc12 pm12 an12 cd12 ct12 | 13 => PySem.W.fnOf "step_back" "step_back" (defArgs (topS 16)) (defBody (topS 16)) (defScope (topS 16)) .none kV13 dc13 pm13 an13 cd13 ct13 | 14 => PySem.W.fnOf "end_worths" "end_worths" (defArgs (topS 17)) (defBody (topS 17)) (defScope (topS 17)) .none kV14 dc14 pm14 an14 cd14 ct14 | 15 => PySem.W.fnOf "option_price" "option_price" (defArgs (topS 18)) (defBody (topS 18)) (defScope (topS 18)) .none kV15 dc15 pm15 an15 cd15 ct15 | 16 => PySem.W.fnOf "early_price" "early_price" (defArgs (topS 19)) (defBody (topS 19)) (defScope (topS 19)) .none kV16 dc16 pm16 an16 cd16 ct16 | 17 => PySem.W.fnOf "copy_share" "copy_share" (defArgs (topS 20)) (defBody (topS 20)) (defScope (topS 20)) .none kV17 dc17 pm17 an17 cd17 ct17 | 18 => PySem.W.fnOf "mean_of" "mean_of" (defArgs (topS 22)) (defBody (topS 22)) (defScope (topS 22)) .none kV18 dc18 pm18 an18 cd18 ct18 | 19 => PySem.W.fnOf "worth_of" "worth_of" (defArgs (topS 23)) (defBody (topS 23)) (defScope (topS 23)) .none kV19 dc19 pm19 an19 cd19 ct19 | 20 => PySem.W.fnOf "choices_of" "choices_of" (defArgs (topS 24)) (defBody (topS 24)) (defScope (topS 24)) .none kV20 dc20 pm20 an20 cd20 ct20 | 21 => PySem.W.fnOf "_law_mixed" "_law_mixed" (defArgs (topS 26)) (defBody (topS 26)) (defScope (topS 26)) .none kV21 dc21 pm21 an21 cd21 ct21 | 22 => PySem.W.fnOf "_law_row" "_law_row" (defArgs (topS 27)) (defBody (topS 27)) (defScope (topS 27)) .none kV22 dc22 pm22 an22 cd22 ct22 | 23 => PySem.W.fnOf "_law_is_int" "_law_is_int" (defArgs (topS 28)) (defBody (topS 28)) (defScope (topS 28)) .none kV23 dc23 pm23 an23 cd23 ct23 | 24 => PySem.W.fnOf "_law_like" "_law_like" (defArgs (topS 29)) (defBody (topS 29)) (defScope (topS 29)) .none kV24 dc24 pm24 an24 cd24 ct24 | 25 => PySem.W.fnOf "_law_common" "_law_common" (defArgs (topS 30)) (defBody (topS 30)) (defScope (topS 30)) .none kV25 dc25 pm25 an25 cd25 ct25 | 26 => PySem.W.fnOf "_law_ratio" "_law_ratio" (defArgs (topS 31)) (defBody (topS 31)) (defScope (topS 31)) .none kV26 dc26 pm26 an26 cd26 ct26 | 27 => PySem.W.fnOf "_law_add" "_law_add" (defArgs (topS 32)) (defBody (topS 32)) (defScope (topS 32)) .none kV27 dc27 pm27 an27 cd27 ct27 | 28 => PySem.W.fnOf "_law_under" "_law_under" (defArgs (topS 33)) (defBody (topS 33)) (defScope (topS 33)) .none kV28 dc28 pm28 an28 cd28 ct28 | 29 => PySem.W.fnOf "_law_dot" "_law_dot" (defArgs (topS 34)) (defBody (topS 34)) (defScope (topS 34)) .none kV29 dc29 pm29 an29 cd29 ct29 | 30 => PySem.W.fnOf "_law_power" "_law_power" (defArgs (topS 35)) (defBody (topS 35)) (defScope (topS 35)) .none kV30 dc30 pm30 an30 cd30 ct30 | 31 => PySem.W.fnOf "_law_right" "_law_right" (defArgs (topS 36)) (defBody (topS 36)) (defScope (topS 36)) .none kV31 dc31 pm31 an31 cd31 ct31 | 32 => PySem.W.fnOf "_law_early" "_law_early" (defArgs (topS 37)) (defBody (topS 37)) (defScope (topS 37)) .none kV32 dc32 pm32 an32 cd32 ct32 | 33 => PySem.W.fnOf "_law_tree" "_law_tree" (defArgs (topS 38)) (defBody (topS 38)) (defScope (topS 38)) .none kV33 dc33 pm33 an33 cd33 ct33 | 34 => PySem.W.fnOf "_law_asked" "_law_asked" (defArgs (topS 39)) (defBody (topS 39)) (defScope (topS 39)) .none kV34 dc34 pm34 an34 cd34 ct34 | _ => PySem.W.fnOf "law" "law" (defArgs (topS 40)) (defBody (topS 40)) (defScope (topS 40)) .none kV35 dc35 pm35 an35 cd35 ct35) := {
    F_divisor := fun_mk (st := (topS 1)) l0 c0 k0,
    b_divisor := (fun_mk (st := (topS 1)) l0 c0 k0).binds (ps := ["first", "second"]) fun _ _ _ _ _ _ us hl => match us, hl with | [_, _], _ => rfl,
    g_divisor := PySem.W.mg_of X G a0,
    F_lowest := fun_mk (st := (topS 2)) l1 c1 k1,
    b_lowest := (fun_mk (st := (topS 2)) l1 c1 k1).binds (ps := ["a", "b"]) fun _ _ _ _ _ _ us hl => match us, hl with | [_, _], _ => rfl,
    g_lowest := PySem.W.mg_of X G a1,
    F_plus := fun_mk (st := (topS 3)) l2 c2 k2,
    b_plus := (fun_mk (st := (topS 3)) l2 c2 k2).binds (ps := ["first", "second"]) fun _ _ _ _ _ _ us hl => match us, hl with | [_, _], _ => rfl,
    g_plus := PySem.W.mg_of X G a2,
    F_minus := fun_mk (st := (topS 4)) l3 c3 k3,
    b_minus := (fun_mk (st := (topS 4)) l3 c3 k3).binds (ps := ["first", "second"]) fun _ _ _ _ _ _ us hl => match us, hl with | [_, _], _ => rfl,
    g_minus := PySem.W.mg_of X G a3,
    F_times := fun_mk (st := (topS 5)) l4 c4 k4,
    b_times := (fun_mk (st := (topS 5)) l4 c4 k4).binds (ps := ["first", "second"]) fun _ _ _ _ _ _ us hl => match us, hl with | [_, _], _ => rfl,
    g_times := PySem.W.mg_of X G a4,
    F_parted := fun_mk (st := (topS 6)) l5 c5 k5,
    b_parted := (fun_mk (st := (topS 6)) l5 c5 k5).binds (ps := ["first", "second"]) fun _ _ _ _ _ _ us hl => match us, hl with | [_, _], _ => rfl,
    g_parted := PySem.W.mg_of X G a5,
    F_is_less := fun_mk (st := (topS 7)) l6 c6 k6,
    b_is_less := (fun_mk (st := (topS 7)) l6 c6 k6).binds (ps := ["first", "second"]) fun _ _ _ _ _ _ us hl => match us, hl with | [_, _], _ => rfl,
    g_is_less := PySem.W.mg_of X G a6,
    F_total := fun_mk (st := (topS 8)) l7 c7 k7,
    b_total := (fun_mk (st := (topS 8)) l7 c7 k7).binds (ps := ["ratios"]) fun _ _ _ _ _ _ us hl => match us, hl with | [_], _ => rfl,
    g_total := PySem.W.mg_of X G a7,
    F_greatest := fun_mk (st := (topS 9)) l8 c8 k8,
    b_greatest := (fun_mk (st := (topS 9)) l8 c8 k8).binds (ps := ["ratios"]) fun _ _ _ _ _ _ us hl => match us, hl with | [_], _ => rfl,
    g_greatest := PySem.W.mg_of X G a8,
    F_as_ratio := fun_mk (st := (topS 11)) l9 c9 k9,
    b_as_ratio := (fun_mk (st := (topS 11)) l9 c9 k9).binds (ps := ["number"]) fun _ _ _ _ _ _ us hl => match us, hl with | [_], _ => rfl,
    g_as_ratio := PySem.W.mg_of X G a9,
    F_up_weight := fun_mk (st := (topS 13)) l10 c10 k10,
    b_up_weight := (fun_mk (st := (topS 13)) l10 c10 k10).binds (ps := ["u", "d", "r"]) fun _ _ _ _ _ _ us hl => match us, hl with | [_, _, _], _ => rfl,
    g_up_weight := PySem.W.mg_of X G a10,
    F_paper_prices := fun_mk (st := (topS 14)) l11 c11 k11,
    b_paper_prices := (fun_mk (st := (topS 14)) l11 c11 k11).binds (ps := ["steps", "s", "u", "d"]) fun _ _ _ _ _ _ us hl => match us, hl with | [_, _, _, _], _ => rfl,
    g_paper_prices := PySem.W.mg_of X G a11,
    F_gain_of_use := fun_mk (st := (topS 15)) l12 c12 k12,
    b_gain_of_use := (fun_mk (st := (topS 15)) l12 c12 k12).binds (ps := ["price", "strike", "kind"]) fun _ _ _ _ _ _ us hl => match us, hl with | [_, _, _], _ => rfl,
    g_gain_of_use := PySem.W.mg_of X G a12,
    F_step_back := fun_mk (st := (topS 16)) l13 c13 k13,
    b_step_back := (fun_mk (st := (topS 16)) l13 c13 k13).binds (ps := ["worths", "u", "d", "r"]) fun _ _ _ _ _ _ us hl => match us, hl with | [_, _, _, _], _ => rfl,
    g_step_back := PySem.W.mg_of X G a13,
    F_end_worths := fun_mk (st := (topS 17)) l14 c14 k14,
    b_end_worths := (fun_mk (st := (topS 17)) l14 c14 k14).binds (ps := ["n", "s", "u", "d", "strike", "kind"]) fun _ _ _ _ _ _ us hl => match us, hl with | [_, _, _, _, _, _], _ => rfl,
    g_end_worths := PySem.W.mg_of X G a14,
    F_option_price := fun_mk (st := (topS 18)) l15 c15 k15,
    b_option_price := (fun_mk (st := (topS 18)) l15 c15 k15).binds (ps := ["n", "s", "u", "d", "r", "strike", "kind"]) fun _ _ _ _ _ _ us hl => match us, hl with | [_, _, _, _, _, _, _], _ => rfl,
    g_option_price := PySem.W.mg_of X G a15,
    F_early_price := fun_mk (st := (topS 19)) l16 c16 k16,
    b_early_price := (fun_mk (st := (topS 19)) l16 c16 k16).binds (ps := ["n", "s", "u", "d", "r", "strike", "kind"]) fun _ _ _ _ _ _ us hl => match us, hl with | [_, _, _, _, _, _, _], _ => rfl,
    g_early_price := PySem.W.mg_of X G a16,
    F_copy_share := fun_mk (st := (topS 20)) l17 c17 k17,
    b_copy_share := (fun_mk (st := (topS 20)) l17 c17 k17).binds (ps := ["n", "s", "u", "d", "r", "strike", "kind"]) fun _ _ _ _ _ _ us hl => match us, hl with | [_, _, _, _, _, _, _], _ => rfl,
    g_copy_share := PySem.W.mg_of X G a17,
    F_mean_of := fun_mk (st := (topS 22)) l18 c18 k18,
    b_mean_of := (fun_mk (st := (topS 22)) l18 c18 k18).binds (ps := ["pairs"]) fun _ _ _ _ _ _ us hl => match us, hl with | [_], _ => rfl,
    g_mean_of := PySem.W.mg_of X G a18,
    F_worth_of := fun_mk (st := (topS 23)) l19 c19 k19,
    b_worth_of := (fun_mk (st := (topS 23)) l19 c19 k19).binds (ps := ["tree"]) fun _ _ _ _ _ _ us hl => match us, hl with | [_], _ => rfl,
    g_worth_of := PySem.W.mg_of X G a19,
    F_choices_of := fun_mk (st := (topS 24)) l20 c20 k20,
    b_choices_of := (fun_mk (st := (topS 24)) l20 c20 k20).binds (ps := ["tree"]) fun _ _ _ _ _ _ us hl => match us, hl with | [_], _ => rfl,
    g_choices_of := PySem.W.mg_of X G a20,
    F__law_mixed := fun_mk (st := (topS 26)) l21 c21 k21,
    b__law_mixed := (fun_mk (st := (topS 26)) l21 c21 k21).binds (ps := ["script", "k"]) fun _ _ _ _ _ _ us hl => match us, hl with | [_, _], _ => rfl,
    g__law_mixed := PySem.W.mg_of X G a21,
    F__law_row := fun_mk (st := (topS 27)) l22 c22 k22,
    b__law_row := (fun_mk (st := (topS 27)) l22 c22 k22).binds (ps := ["script", "many"]) fun _ _ _ _ _ _ us hl => match us, hl with | [_, _], _ => rfl,
    g__law_row := PySem.W.mg_of X G a22,
    F__law_is_int := fun_mk (st := (topS 28)) l23 c23 k23,
    b__law_is_int := (fun_mk (st := (topS 28)) l23 c23 k23).binds (ps := ["value"]) fun _ _ _ _ _ _ us hl => match us, hl with | [_], _ => rfl,
    g__law_is_int := PySem.W.mg_of X G a23,
    F__law_like := fun_mk (st := (topS 29)) l24 c24 k24,
    b__law_like := (fun_mk (st := (topS 29)) l24 c24 k24).binds (ps := ["value", "due"]) fun _ _ _ _ _ _ us hl => match us, hl with | [_, _], _ => rfl,
    g__law_like := PySem.W.mg_of X G a24,
    F__law_common := fun_mk (st := (topS 30)) l25 c25 k25,
    b__law_common := (fun_mk (st := (topS 30)) l25 c25 k25).binds (ps := ["first", "second"]) fun _ _ _ _ _ _ us hl => match us, hl with | [_, _], _ => rfl,
    g__law_common := PySem.W.mg_of X G a25,
    F__law_ratio := fun_mk (st := (topS 31)) l26 c26 k26,
    b__law_ratio := (fun_mk (st := (topS 31)) l26 c26 k26).binds (ps := ["a", "b"]) fun _ _ _ _ _ _ us hl => match us, hl with | [_, _], _ => rfl,
    g__law_ratio := PySem.W.mg_of X G a26,
    F__law_add := fun_mk (st := (topS 32)) l27 c27 k27,
    b__law_add := (fun_mk (st := (topS 32)) l27 c27 k27).binds (ps := ["x", "y"]) fun _ _ _ _ _ _ us hl => match us, hl with | [_, _], _ => rfl,
    g__law_add := PySem.W.mg_of X G a27,
    F__law_under := fun_mk (st := (topS 33)) l28 c28 k28,
    b__law_under := (fun_mk (st := (topS 33)) l28 c28 k28).binds (ps := ["x", "y"]) fun _ _ _ _ _ _ us hl => match us, hl with | [_, _], _ => rfl,
    g__law_under := PySem.W.mg_of X G a28,
    F__law_dot := fun_mk (st := (topS 34)) l29 c29 k29,
    b__law_dot := (fun_mk (st := (topS 34)) l29 c29 k29).binds (ps := ["ratios", "numbers"]) fun _ _ _ _ _ _ us hl => match us, hl with | [_, _], _ => rfl,
    g__law_dot := PySem.W.mg_of X G a29,
    F__law_power := fun_mk (st := (topS 35)) l30 c30 k30,
    b__law_power := (fun_mk (st := (topS 35)) l30 c30 k30).binds (ps := ["base", "n"]) fun _ _ _ _ _ _ us hl => match us, hl with | [_, _], _ => rfl,
    g__law_power := PySem.W.mg_of X G a30,
    F__law_right := fun_mk (st := (topS 36)) l31 c31 k31,
    b__law_right := (fun_mk (st := (topS 36)) l31 c31 k31).binds (ps := ["n", "first", "steps", "strike", "kind"]) fun _ _ _ _ _ _ us hl => match us, hl with | [_, _, _, _, _], _ => rfl,
    g__law_right := PySem.W.mg_of X G a31,
    F__law_early := fun_mk (st := (topS 37)) l32 c32 k32,
    b__law_early := (fun_mk (st := (topS 37)) l32 c32 k32).binds (ps := ["n", "first", "steps", "strike", "kind"]) fun _ _ _ _ _ _ us hl => match us, hl with | [_, _, _, _, _], _ => rfl,
    g__law_early := PySem.W.mg_of X G a32,
    F__law_tree := fun_mk (st := (topS 38)) l33 c33 k33,
    b__law_tree := (fun_mk (st := (topS 38)) l33 c33 k33).binds (ps := ["n", "price", "steps", "strike", "kind", "early"]) fun _ _ _ _ _ _ us hl => match us, hl with | [_, _, _, _, _, _], _ => rfl,
    g__law_tree := PySem.W.mg_of X G a33,
    F__law_asked := fun_mk (st := (topS 39)) l34 c34 k34,
    b__law_asked := (fun_mk (st := (topS 39)) l34 c34 k34).binds (ps := ["n", "price", "steps", "strike", "kind"]) fun _ _ _ _ _ _ us hl => match us, hl with | [_, _, _, _, _], _ => rfl,
    g__law_asked := PySem.W.mg_of X G a34,
    F_law := fun_mk (st := (topS 40)) l35 c35 k35,
    b_law := (fun_mk (st := (topS 40)) l35 c35 k35).binds (ps := ["script"]) fun _ _ _ _ _ _ us hl => match us, hl with | [_], _ => rfl,
    g_law := PySem.W.mg_of X G a35,
    z_abs := PySem.W.mg_none_of X G z_abs,
    z_all := PySem.W.mg_none_of X G z_all,
    z_bool := PySem.W.mg_none_of X G z_bool,
    z_int := PySem.W.mg_none_of X G z_int,
    z_isinstance := PySem.W.mg_none_of X G z_isinstance,
    z_len := PySem.W.mg_none_of X G z_len,
    z_max := PySem.W.mg_none_of X G z_max,
    z_range := PySem.W.mg_none_of X G z_range,
    z_str := PySem.W.mg_none_of X G z_str,
    z_sum := PySem.W.mg_none_of X G z_sum,
    z_tuple := PySem.W.mg_none_of X G z_tuple,
    z_zip := PySem.W.mg_none_of X G z_zip }
  exact ⟨_, fun s v => .of_eq rfl, fun base _ _ => ok_law T⟩
end Law
open PySem PySem.W PyProof.Rows
set_option maxHeartbeats 0 in
theorem PySem.Challenge.cw_planskept_k44_whole_rights_by_steps_holds : PySem.Challenge.rw_planskept_k44_whole_rights_by_steps.Holds := by
  w_on; o_law; k_head; (case hw => w_witness2)
  k_fill
  refine L2.walk_of (l := PySem.Challenge.rw_planskept_k44_whole_rights_by_steps) (n := 63) (k := 68) (x := "script") (CX := fun _ => L2.CX0) (sp := fun w => DS.spD _ 1 Law.den_law) rfl (by decide) rfl ⟨rfl, by decide, by decide⟩ (fun w h Y => PySem.W.kIn_of Y) ?F (fun w H a ns hl _ hS => DS.law_sp (Law.main ns hl) hS) (fun _ _ _ _ _ h => h)
  case F =>
    intro w mg fa h KX G hmg
    refine' Law.all_mk KX G hmg ?a0 ?l0 ?c0 ?k0 ?a1 ?l1 ?c1 ?k1 ?a2 ?l2 ?c2 ?k2 ?a3 ?l3 ?c3 ?k3 ?a4 ?l4 ?c4 ?k4 ?a5 ?l5 ?c5 ?k5 ?a6 ?l6 ?c6 ?k6 ?a7 ?l7 ?c7 ?k7 ?a8 ?l8 ?c8 ?k8 ?a9 ?l9 ?c9 ?k9 ?a10 ?l10 ?c10 ?k10 ?a11 ?l11 ?c11 ?k11 ?a12 ?l12 ?c12 ?k12 ?a13 ?l13 ?c13 ?k13 ?a14 ?l14 ?c14 ?k14 ?a15 ?l15 ?c15 ?k15 ?a16 ?l16 ?c16 ?k16 ?a17 ?l17 ?c17 ?k17 ?a18 ?l18 ?c18 ?k18 ?a19 ?l19 ?c19 ?k19 ?a20 ?l20 ?c20 ?k20 ?a21 ?l21 ?c21 ?k21 ?a22 ?l22 ?c22 ?k22 ?a23 ?l23 ?c23 ?k23 ?a24 ?l24 ?c24 ?k24 ?a25 ?l25 ?c25 ?k25 ?a26 ?l26 ?c26 ?k26 ?a27 ?l27 ?c27 ?k27 ?a28 ?l28 ?c28 ?k28 ?a29 ?l29 ?c29 ?k29 ?a30 ?l30 ?c30 ?k30 ?a31 ?l31 ?c31 ?k31 ?a32 ?l32 ?c32 ?k32 ?a33 ?l33 ?c33 ?k33 ?a34 ?l34 ?c34 ?k34 ?a35 ?l35 ?c35 ?k35 ?z_abs ?z_all ?z_bool ?z_int ?z_isinstance ?z_len ?z_max ?z_range ?z_str ?z_sum ?z_tuple ?z_zip
    (case a0 => k_is); (case l0 => k_is); (case c0 => k_is); (case k0 => k_is); (case a1 => k_is); (case l1 => k_is); (case c1 => k_is); (case k1 => k_is); (case a2 => k_is); (case l2 => k_is); (case c2 => k_is); (case k2 => k_is); (case a3 => k_is); (case l3 => k_is); (case c3 => k_is); (case k3 => k_is); (case a4 => k_is); (case l4 => k_is); (case c4 => k_is); (case k4 => k_is); (case a5 => k_is); (case l5 => k_is); (case c5 => k_is); (case k5 => k_is); (case a6 => k_is); (case l6 => k_is); (case c6 => k_is); (case k6 => k_is); (case a7 => k_is); (case l7 => k_is); (case c7 => k_is); (case k7 => k_is); (case a8 => k_is); (case l8 => k_is); (case c8 => k_is); (case k8 => k_is); (case a9 => k_is); (case l9 => k_is); (case c9 => k_is); (case k9 => k_is); (case a10 => k_is); (case l10 => k_is); (case c10 => k_is); (case k10 => k_is); (case a11 => k_is); (case l11 => k_is); (case c11 => k_is); (case k11 => k_is); (case a12 => k_is); (case l12 => k_is); (case c12 => k_is); (case k12 => k_is); (case a13 => k_is); (case l13 => k_is); (case c13 => k_is); (case k13 => k_is); (case a14 => k_is); (case l14 => k_is); (case c14 => k_is); (case k14 => k_is); (case a15 => k_is); (case l15 => k_is); (case c15 => k_is); (case k15 => k_is); (case a16 => k_is); (case l16 => k_is); (case c16 => k_is); (case k16 => k_is); (case a17 => k_is); (case l17 => k_is); (case c17 => k_is); (case k17 => k_is); (case a18 => k_is); (case l18 => k_is); (case c18 => k_is); (case k18 => k_is); (case a19 => k_is); (case l19 => k_is); (case c19 => k_is); (case k19 => k_is); (case a20 => k_is); (case l20 => k_is); (case c20 => k_is); (case k20 => k_is); (case a21 => k_is); (case l21 => k_is); (case c21 => k_is); (case k21 => k_is); (case a22 => k_is); (case l22 => k_is); (case c22 => k_is); (case k22 => k_is); (case a23 => k_is); (case l23 => k_is); (case c23 => k_is); (case k23 => k_is); (case a24 => k_is); (case l24 => k_is); (case c24 => k_is); (case k24 => k_is); (case a25 => k_is); (case l25 => k_is); (case c25 => k_is); (case k25 => k_is); (case a26 => k_is); (case l26 => k_is); (case c26 => k_is); (case k26 => k_is); (case a27 => k_is); (case l27 => k_is); (case c27 => k_is); (case k27 => k_is); (case a28 => k_is); (case l28 => k_is); (case c28 => k_is); (case k28 => k_is); (case a29 => k_is); (case l29 => k_is); (case c29 => k_is); (case k29 => k_is); (case a30 => k_is); (case l30 => k_is); (case c30 => k_is); (case k30 => k_is); (case a31 => k_is); (case l31 => k_is); (case c31 => k_is); (case k31 => k_is); (case a32 => k_is); (case l32 => k_is); (case c32 => k_is); (case k32 => k_is); (case a33 => k_is); (case l33 => k_is); (case c33 => k_is); (case k33 => k_is); (case a34 => k_is); (case l34 => k_is); (case c34 => k_is); (case k34 => k_is); (case a35 => k_is); (case l35 => k_is); (case c35 => k_is); (case k35 => k_is); (case z_abs => k_is); (case z_all => k_is); (case z_bool => k_is); (case z_int => k_is); (case z_isinstance => k_is); (case z_len => k_is); (case z_max => k_is); (case z_range => k_is); (case z_str => k_is); (case z_sum => k_is); (case z_tuple => k_is); (case z_zip => k_is)
end
