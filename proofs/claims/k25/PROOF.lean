import PyProof.Rows.All
import HandS.ForMost
import HandS.TupAny
import HandS.Walk
import HandS.Flow
import HandS.Deep
import HandS.IsInst
import HandS.Wide
import HandS.WideMore
import PyProof.FitsBits
import KE.DataCmp
import KE.KTupSum
import KE.GoesNew
import HandS.Rev
import HandS.Style
import HandS.Conv
import KE.DataMinMax
import KE.SortData
import HandS.Iter
import KE.KSortTup
import HandS.SortKw
import HandS.TupMul
import HandS.Sort
import HandS.Dict
import KE.KDictDisplayH
import HandS.Strs
import KE.SortKeyHeap
import HandS.SetFor
import HandS.NoneIn
import PyProof.TupleOfSeq
import HandS.ExcValue
import PySem.Challenge.RW_planskept_k25_whole_change
section
set_option Elab.async false
set_option linter.all false
set_option maxRecDepth 100000
/-! A layer of my own over HandS: values as data trees, a def as a function on data. Part a: what stands for a tree. -/
namespace DS
open PySem PySem.Spec PyProof.Rows L2

abbrev D := PyData
def keyD : Key → D
  | .inl i => .int i
  | .inr x => .str x
mutual
/-- the value v stands for the tree d -/
inductive R (K : PySem.W.Frag) (H : Hp) : V → D → Prop
  | non : R K H .non .none
  | bl (b : Bool) : R K H (.bl b) (.bool b)
  | int (i : Int) : R K H (.int i) (.int i)
  | str (x : Str) : R K H (.str x) (.str x)
  | lst {a : Addr} {xs : List V} {ds : List D} : H a = some (.lst xs) → RA K H xs ds → R K H (.ref a) (.list ds)
  | frz {a : Addr} {xs : List V} {ds : List D} : SqL K H a xs → RA K H xs ds → R K H (.ref a) (.dict [(.none, .list ds)])
  | tup {a : Addr} {xs : List V} {ds : List D} : H a = some (.tup xs) → RA K H xs ds → R K H (.ref a) (.tuple ds)
  | rng {a : Addr} {lo hi : Int} : H a = some (.rng lo hi) → R K H (.ref a) (.dict [(.none, .tuple [.int lo, .int hi])])
  | dk {a : Addr} {kvs : List (Key × V)} {es : List (D × D)} : Rd H a (.dK kvs) → RK K H kvs es → R K H (.ref a) (.dict es)
  | dt {a : Addr} {kvs : List (List Key × V)} {es : List (D × D)} : Rd H a (.dT kvs) → RT K H kvs es → R K H (.ref a) (.dict es)
inductive RA (K : PySem.W.Frag) (H : Hp) : List V → List D → Prop
  | nil : RA K H [] []
  | cons {v : V} {d : D} {vs : List V} {ds : List D} : R K H v d → RA K H vs ds → RA K H (v :: vs) (d :: ds)
inductive RK (K : PySem.W.Frag) (H : Hp) : List (Key × V) → List (D × D) → Prop
  | nil : RK K H [] []
  | cons {k : Key} {v : V} {d : D} {vs : List (Key × V)} {ds : List (D × D)} : R K H v d → RK K H vs ds → RK K H ((k, v) :: vs) ((keyD k, d) :: ds)
inductive RT (K : PySem.W.Frag) (H : Hp) : List (List Key × V) → List (D × D) → Prop
  | nil : RT K H [] []
  | cons {k : List Key} {v : V} {d : D} {vs : List (List Key × V)} {ds : List (D × D)} : R K H v d → RT K H vs ds → RT K H ((k, v) :: vs) ((.tuple (k.map keyD), d) :: ds)
end

section
variable {K : PySem.W.Frag} {H H' : Hp}
theorem seqL_mono {a : Addr} {xs : List V} (e : Same H H') (h : SqL K H a xs) : SqL K H' a xs := e.seq h
theorem seqT_mono {a : Addr} {xs : List V} (e : Same H H') (h : SqT K H a xs) : SqT K H' a xs := by
  rcases h with (h | ⟨o, h⟩) | h
  · exact .inl (.inl (e _ _ h))
  · exact .inl (.inr ⟨o, e _ _ h⟩)
  · exact .inr h
theorem rd_mono {a : Addr} {u : HO} (e : Same H H') (h : Rd H a u) : Rd H' a u := by
  rcases h with h | ⟨o, h⟩
  · exact .inl (e _ _ h)
  · exact .inr ⟨o, e _ _ h⟩
mutual
theorem R.mono (e : Same H H') : ∀ {v : V} {d : D}, R K H v d → R K H' v d
  | _, _, .non => .non
  | _, _, .bl b => .bl b
  | _, _, .int i => .int i
  | _, _, .str x => .str x
  | _, _, .lst h a => .lst (e _ _ h) (RA.mono e a)
  | _, _, .frz h a => .frz (e.seq h) (RA.mono e a)
  | _, _, .tup h a => .tup (e _ _ h) (RA.mono e a)
  | _, _, .rng h => .rng (e _ _ h)
  | _, _, .dk h a => .dk (rd_mono e h) (RK.mono e a)
  | _, _, .dt h a => .dt (rd_mono e h) (RT.mono e a)
theorem RA.mono (e : Same H H') : ∀ {v : List V} {d : List D}, RA K H v d → RA K H' v d
  | _, _, .nil => .nil
  | _, _, .cons h t => .cons (R.mono e h) (RA.mono e t)
theorem RK.mono (e : Same H H') : ∀ {v : List (Key × V)} {d : List (D × D)}, RK K H v d → RK K H' v d
  | _, _, .nil => .nil
  | _, _, .cons h t => .cons (R.mono e h) (RK.mono e t)
theorem RT.mono (e : Same H H') : ∀ {v : List (List Key × V)} {d : List (D × D)}, RT K H v d → RT K H' v d
  | _, _, .nil => .nil
  | _, _, .cons h t => .cons (R.mono e h) (RT.mono e t)
end
theorem RA.length : ∀ {v : List V} {d : List D}, RA K H v d → v.length = d.length
  | _, _, .nil => rfl
  | _, _, .cons _ t => congrArg (· + 1) (RA.length t)
theorem RA.get : ∀ {v : List V} {d : List D} {i : Nat} {x : D}, RA K H v d → d[i]? = some x → ∃ y, v[i]? = some y ∧ R K H y x
  | _, _, _, _, .nil, h => by simp at h
  | _, _, 0, x, .cons h t, e => by simp at e; subst e; exact ⟨_, rfl, h⟩
  | _, _, i + 1, x, .cons h t, e => by
    obtain ⟨y, a, b⟩ := RA.get (i := i) (x := x) t (by simpa using e)
    exact ⟨y, by simpa using a, b⟩
theorem RA.getV : ∀ {v : List V} {d : List D} {i : Nat} {y : V}, RA K H v d → v[i]? = some y → ∃ x, d[i]? = some x ∧ R K H y x
  | _, _, _, _, .nil, h => by simp at h
  | _, _, 0, x, .cons h t, e => by simp at e; subst e; exact ⟨_, rfl, h⟩
  | _, _, i + 1, x, .cons h t, e => by
    obtain ⟨y, a, b⟩ := RA.getV (i := i) (y := x) t (by simpa using e)
    exact ⟨y, by simpa using a, b⟩
theorem RA.append : ∀ {v w : List V} {d e : List D}, RA K H v d → RA K H w e → RA K H (v ++ w) (d ++ e)
  | _, _, _, _, .nil, q => q
  | _, _, _, _, .cons h t, q => .cons h (RA.append t q)
theorem RA.set {y : V} {x : D} (r : R K H y x) : ∀ {v : List V} {d : List D} (i : Nat), RA K H v d → RA K H (v.set i y) (d.set i x)
  | _, _, _, .nil => .nil
  | _, _, 0, .cons h t => .cons r t
  | _, _, i + 1, .cons h t => .cons h (RA.set r i t)
theorem RA.drop : ∀ {v : List V} {d : List D} (n : Nat), RA K H v d → RA K H (v.drop n) (d.drop n)
  | _, _, 0, h => h
  | _, _, n + 1, .nil => .nil
  | _, _, n + 1, .cons _ t => RA.drop n t
theorem RA.take : ∀ {v : List V} {d : List D} (n : Nat), RA K H v d → RA K H (v.take n) (d.take n)
  | _, _, 0, h => .nil
  | _, _, n + 1, .nil => .nil
  | _, _, n + 1, .cons h t => .cons h (RA.take n t)
theorem RA.reverse : ∀ {v : List V} {d : List D}, RA K H v d → RA K H v.reverse d.reverse
  | _, _, .nil => .nil
  | _, _, .cons h t => by
    rw [List.reverse_cons, List.reverse_cons]
    exact (RA.reverse t).append (.cons h .nil)
theorem RA.rep {v : List V} {d : List D} (h : RA K H v d) : ∀ n : Nat, RA K H (List.replicate n v).flatten (List.replicate n d).flatten
  | 0 => .nil
  | n + 1 => by
    rw [List.replicate_succ, List.replicate_succ, List.flatten_cons, List.flatten_cons]
    exact h.append (h.rep n)
/-- the tree of an int, of a bool .. -/
theorem R.int' {v : V} {i : Int} (h : R K H v (.int i)) : v = .int i := by cases h; rfl
theorem R.bl' {v : V} {i : Bool} (h : R K H v (.bool i)) : v = .bl i := by cases h; rfl
theorem R.non' {v : V} (h : R K H v .none) : v = .non := by cases h; rfl
theorem R.str' {v : V} {i : Str} (h : R K H v (.str i)) : v = .str i := by cases h; rfl
theorem RA.ints : ∀ {ns : List Int} {v : List V}, RA K H v (ns.map PyData.int) → v = ns.map V.int
  | [], _, .nil => rfl
  | n :: r, _, .cons h t => by
    rw [h.int', RA.ints t]; rfl
theorem RA.bools : ∀ {ns : List Bool} {v : List V}, RA K H v (ns.map PyData.bool) → v = ns.map V.bl
  | [], _, .nil => rfl
  | n :: r, _, .cons h t => by
    rw [h.bl', RA.bools t]; rfl
theorem RA.ofInts : ∀ (ns : List Int), RA K H (ns.map V.int) (ns.map PyData.int)
  | [] => .nil
  | n :: r => .cons (.int n) (RA.ofInts r)
end

/-! ### no list, no dict within: nothing of it can change -/
mutual
def flat : D → Bool
  | .none => true
  | .bool _ => true
  | .int _ => true
  | .str _ => true
  | .tuple xs => flats xs
  | .list _ => false
  | .dict _ => false
def flats : List D → Bool
  | [] => true
  | x :: xs => flat x && flats xs
end

/-! ### the heap without some addresses -/
def hid (B : List Addr) (H : Hp) : Hp := fun a => if a ∈ B then none else H a
section
variable {B B' : List Addr} {H H' : Hp} {a : Addr} {o : HO}
theorem hid_in (h : a ∈ B) : hid B H a = none := by unfold hid; rw [if_pos h]
theorem hid_out (h : a ∉ B) : hid B H a = H a := by unfold hid; rw [if_neg h]
theorem hid_some (h : hid B H a = some o) : a ∉ B ∧ H a = some o := by
  unfold hid at h
  split at h
  · cases h
  · exact ⟨by assumption, h⟩
theorem hid_nil : hid [] H = H := by funext a; unfold hid; simp
theorem hid_congr (h : ∀ a, a ∈ B ↔ a ∈ B') : hid B H = hid B' H := by
  funext a; unfold hid
  by_cases h1 : a ∈ B
  · rw [if_pos h1, if_pos ((h a).mp h1)]
  · rw [if_neg h1, if_neg fun z => h1 ((h a).mpr z)]
theorem hid_hid : hid B (hid B' H) = hid (B ++ B') H := by
  funext a; unfold hid
  by_cases h1 : a ∈ B <;> by_cases h2 : a ∈ B' <;> simp [h1, h2]
/-- all that is not hidden behind B is not hidden behind B' -/
theorem same_hidW (e : Same H H') (h : ∀ a ∈ B', a ∈ B ∨ H a = none) : Same (hid B H) (hid B' H') := fun b o q => by
  obtain ⟨q1, q2⟩ := hid_some q
  rw [hid_out (fun z => (h b z).elim q1 fun n => by rw [n] at q2; cases q2)]
  exact e _ _ q2
theorem same_hid (e : Same H H') : Same (hid B H) (hid B H') := same_hidW e fun _ h => .inl h
theorem same_unhid : Same (hid B H) H := fun b o q => (hid_some q).2
theorem same_upd (h : H a = none) : Same H (upd H a o) := fun b x e => by
  rw [upd_ne (ne_of_none e h)]; exact e
def Trk (B : List Addr) (H : Hp) : Prop := ∀ a ∈ B, H a ≠ none
theorem Trk.mono (t : Trk B H) (e : Same H H') : Trk B H' := fun a h => by
  have := t a h
  cases q : H a with
  | none => exact absurd q this
  | some o => rw [e _ _ q]; simp
theorem Trk.new (t : Trk B H) (n : H a = none) : a ∉ B := fun h => t a h n
theorem Trk.nil : Trk [] H := fun _ h => by simp at h
end
theorem flat_all : ∀ {xs : List D}, flats xs = true → ∀ x ∈ xs, flat x = true
  | [], _, _, h => by simp at h
  | y :: ys, h, x, hx => by
    unfold flats at h
    rw [Bool.and_eq_true] at h
    rcases List.mem_cons.mp hx with e | hx
    · rw [e]; exact h.1
    · exact flat_all h.2 x hx
def mutO : HO → Bool
  | .lst _ => true
  | .dK _ => true
  | .dT _ => true
  | _ => false
/-- hidden addresses hold lists and dicts -/
def Ok (B : List Addr) (H : Hp) : Prop := ∀ a ∈ B, ∃ o, H a = some o ∧ mutO o = true
theorem Ok.nil {H : Hp} : Ok [] H := fun _ h => by simp at h
theorem Ok.mono {B : List Addr} {H H' : Hp} (k : Ok B H) (e : Same H H') : Ok B H' := fun a h => by
  obtain ⟨o, h1, h2⟩ := k a h
  exact ⟨o, e _ _ h1, h2⟩
theorem Ok.sub {B B' : List Addr} {H : Hp} (k : Ok B H) (h : ∀ a ∈ B', a ∈ B) : Ok B' H := fun a q => k a (h a q)
theorem Ok.cons {B : List Addr} {H : Hp} {a : Addr} {o : HO} (k : Ok B H) (h : H a = some o) (m : mutO o = true) : Ok (a :: B) H := fun b q => by
  rcases List.mem_cons.mp q with e | q
  · rw [e]; exact ⟨o, h, m⟩
  · exact k b q
theorem Ok.append {B B' : List Addr} {H : Hp} (k : Ok B H) (k' : Ok B' H) : Ok (B ++ B') H := fun b q => (List.mem_append.mp q).elim (k b) (k' b)
theorem Ok.trk {B : List Addr} {H : Hp} (k : Ok B H) : Trk B H := fun a h z => by
  obtain ⟨o, h1, _⟩ := k a h
  rw [z] at h1; cases h1
def NoTup (B : List Addr) (H : Hp) : Prop := ∀ a ∈ B, ∀ xs, ¬ Rd H a (.tup xs)
theorem Ok.noTup {B : List Addr} {H : Hp} (k : Ok B H) : NoTup B H := fun a h xs r => by
  obtain ⟨o, h1, h2⟩ := k a h
  rcases r with r | ⟨u, r⟩
  · rw [r] at h1; cases h1; cases h2
  · rw [r] at h1; cases h1; cases h2
theorem seqT_hid {K : PySem.W.Frag} {B : List Addr} {H : Hp} {a : Addr} {xs : List V} (n : NoTup B H) (h : SqT K H a xs) : SqT K (hid B H) a xs := by
  rcases h with h | h
  · have hn : a ∉ B := fun z => n a z xs h
    rcases h with h | ⟨o, h⟩
    · exact .inl (.inl (by rw [hid_out hn]; exact h))
    · exact .inl (.inr ⟨o, by rw [hid_out hn]; exact h⟩)
  · exact .inr h
mutual
theorem R.hidF {K : PySem.W.Frag} {B : List Addr} {H : Hp} (n : NoTup B H) : ∀ {v : V} {d : D}, R K H v d → flat d = true → R K (hid B H) v d
  | _, _, .non, _ => .non
  | _, _, .bl b, _ => .bl b
  | _, _, .int i, _ => .int i
  | _, _, .str x, _ => .str x
  | _, _, .lst h a, f => by simp [flat] at f
  | _, _, .frz h a, f => by simp [flat] at f
  | _, _, .rng h, f => by simp [flat] at f
  | _, _, .tup h a, f => .tup (by rw [hid_out fun z => n _ z _ (.inl h)]; exact h) (RA.hidF n a (by simpa [flat] using f))
  | _, _, .dk h a, f => by simp [flat] at f
  | _, _, .dt h a, f => by simp [flat] at f
theorem RA.hidF {K : PySem.W.Frag} {B : List Addr} {H : Hp} (n : NoTup B H) : ∀ {v : List V} {d : List D}, RA K H v d → flats d = true → RA K (hid B H) v d
  | _, _, .nil, _ => .nil
  | _, _, .cons h t, f => by
    unfold flats at f
    rw [Bool.and_eq_true] at f
    exact .cons (R.hidF n h f.1) (RA.hidF n t f.2)
end
end DS
end

section
set_option Elab.async false
set_option linter.all false
set_option maxRecDepth 100000
/-! Part b: what may be hidden (a list that a name owns), what an expression's reading is. -/
namespace DS
open PySem PySem.Spec PyProof.Rows L2

def isTop : D → Bool
  | .list _ => true
  | .dict ((.none, _) :: _) => false
  | .dict _ => true
  | _ => false

section
variable (K : PySem.W.Frag) (B : List Addr) (H : Hp)
/-- the tree d, of which the first m levels may be hidden -/
inductive RL : Nat → V → D → Prop
  | z {m : Nat} {v : V} {d : D} : R K (hid B H) v d → RL m v d
  | l {m : Nat} {a : Addr} {xs : List V} {ds : List D} : H a = some (.lst xs) → xs.length = ds.length → (∀ (i : Nat) (x : V) (d : D), xs[i]? = some x → ds[i]? = some d → RL m x d) → RL (m + 1) (.ref a) (.list ds)
  | dk {m : Nat} {a : Addr} {kvs : List (Key × V)} {es : List (D × D)} : H a = some (.dK kvs) → RK K (hid B H) kvs es → RL (m + 1) (.ref a) (.dict es)
  | dt {m : Nat} {a : Addr} {kvs : List (List Key × V)} {es : List (D × D)} : H a = some (.dT kvs) → RT K (hid B H) kvs es → RL (m + 1) (.ref a) (.dict es)
mutual
/-- the tree d, its first l levels at the addresses o alone -/
inductive RO : Nat → List Addr → V → D → Prop
  | z {l : Nat} {v : V} {d : D} : (l = 0 ∨ isTop d = false) → R K (hid B H) v d → RO l [] v d
  | l {l : Nat} {a : Addr} {os : List (List Addr)} {xs : List V} {ds : List D} : H a = some (.lst xs) → ROA l os xs ds → RO (l + 1) (a :: os.flatten) (.ref a) (.list ds)
  | dk {l : Nat} {a : Addr} {kvs : List (Key × V)} {es : List (D × D)} : isTop (.dict es) = true → H a = some (.dK kvs) → RK K (hid B H) kvs es → RO (l + 1) [a] (.ref a) (.dict es)
  | dt {l : Nat} {a : Addr} {kvs : List (List Key × V)} {es : List (D × D)} : isTop (.dict es) = true → H a = some (.dT kvs) → RT K (hid B H) kvs es → RO (l + 1) [a] (.ref a) (.dict es)
inductive ROA : Nat → List (List Addr) → List V → List D → Prop
  | nil {l : Nat} : ROA l [] [] []
  | cons {l : Nat} {o : List Addr} {os : List (List Addr)} {v : V} {d : D} {vs : List V} {ds : List D} : RO l o v d → ROA l os vs ds → ROA l (o :: os) (v :: vs) (d :: ds)
end
end
section
variable {K : PySem.W.Frag} {B B' : List Addr} {H H' : Hp}
theorem RL.r {v : V} {d : D} (h : RL K B H 0 v d) : R K (hid B H) v d := by
  cases h; assumption
theorem RL.up {m n : Nat} {v : V} {d : D} (h : RL K B H m v d) : m ≤ n → RL K B H n v d := by
  induction h generalizing n with
  | z r => intro _; exact .z r
  | l h1 h2 _ ih =>
    intro hn
    obtain ⟨k, rfl⟩ : ∃ k, n = k + 1 := ⟨n - 1, by omega⟩
    exact .l h1 h2 fun i x d e1 e2 => ih i x d e1 e2 (by omega)
  | dk h1 h2 =>
    intro hn
    obtain ⟨k, rfl⟩ : ∃ k, n = k + 1 := ⟨n - 1, by omega⟩
    exact .dk h1 h2
  | dt h1 h2 =>
    intro hn
    obtain ⟨k, rfl⟩ : ∃ k, n = k + 1 := ⟨n - 1, by omega⟩
    exact .dt h1 h2
theorem RL.mono (e : Same H H') (eh : Same (hid B H) (hid B' H')) {m : Nat} {v : V} {d : D} (h : RL K B H m v d) : RL K B' H' m v d := by
  induction h with
  | z r => exact .z (r.mono eh)
  | l h1 h2 _ ih => exact .l (e _ _ h1) h2 ih
  | dk h1 h2 => exact .dk (e _ _ h1) (h2.mono eh)
  | dt h1 h2 => exact .dt (e _ _ h1) (h2.mono eh)
theorem RA.of_get : ∀ {xs : List V} {ds : List D}, xs.length = ds.length → (∀ (i : Nat) (x : V) (d : D), xs[i]? = some x → ds[i]? = some d → R K H x d) → RA K H xs ds
  | [], [], _, _ => .nil
  | [], _ :: _, h, _ => by simp at h
  | _ :: _, [], h, _ => by simp at h
  | x :: xs, d :: ds, h, g => .cons (g 0 x d rfl rfl) (RA.of_get (by simpa using h) fun i y e h1 h2 => g (i + 1) y e (by simpa using h1) (by simpa using h2))
theorem RL.open {m : Nat} {v : V} {d : D} (h : RL K B H m v d) : R K H v d := by
  induction h with
  | z r => exact r.mono same_unhid
  | l h1 h2 _ ih => exact .lst h1 (RA.of_get h2 ih)
  | dk h1 h2 => exact .dk (.inl h1) (h2.mono same_unhid)
  | dt h1 h2 => exact .dt (.inl h1) (h2.mono same_unhid)
/-- a list with its items -/
theorem RL.list {m : Nat} {v : V} {ds : List D} (h : RL K B H (m + 1) v (.list ds)) : ∃ a xs, v = .ref a ∧ H a = some (.lst xs) ∧ xs.length = ds.length ∧ ∀ (i : Nat) (x : V) (d : D), xs[i]? = some x → ds[i]? = some d → RL K B H m x d := by
  cases h with
  | z r =>
    cases r with
    | lst h1 h2 =>
      refine ⟨_, _, rfl, (hid_some h1).2, h2.length, fun i x d e1 e2 => .z ?_⟩
      obtain ⟨y, e3, r⟩ := h2.get e2
      rw [e1] at e3; cases e3; exact r
  | l h1 h2 h3 => exact ⟨_, _, rfl, h1, h2, h3⟩
theorem RL.list1 {v : V} {ds : List D} (h : RL K B H 1 v (.list ds)) : ∃ a xs, v = .ref a ∧ H a = some (.lst xs) ∧ RA K (hid B H) xs ds := by
  obtain ⟨a, xs, e, h1, h2, h3⟩ := h.list
  exact ⟨a, xs, e, h1, RA.of_get h2 fun i x d e1 e2 => (h3 i x d e1 e2).r⟩
theorem RL.tup {m : Nat} {v : V} {ds : List D} (h : RL K B H m v (.tuple ds)) : ∃ a xs, v = .ref a ∧ SqT K H a xs ∧ hid B H a = some (.tup xs) ∧ RA K (hid B H) xs ds := by
  cases h with
  | z r =>
    cases r with
    | tup h1 h2 => exact ⟨_, _, rfl, .inl (.inl (hid_some h1).2), h1, h2⟩
theorem RL.int {m : Nat} {v : V} {i : Int} (h : RL K B H m v (.int i)) : v = .int i := by
  cases h with
  | z r => exact r.int'
theorem RL.bl {m : Nat} {v : V} {i : Bool} (h : RL K B H m v (.bool i)) : v = .bl i := by
  cases h with
  | z r => exact r.bl'
theorem RL.non {m : Nat} {v : V} (h : RL K B H m v .none) : v = .non := by
  cases h with
  | z r => exact r.non'
theorem RL.str {m : Nat} {v : V} {i : Str} (h : RL K B H m v (.str i)) : v = .str i := by
  cases h with
  | z r => exact r.str'
/-- an owned tree, where its own addresses are shown -/
theorem RO.toR_aux {l : Nat} {o : List Addr} {v : V} {d : D} (h : RO K B H l o v d) : (∀ a ∈ B', a ∈ B ∧ a ∉ o) → R K (hid B' H) v d := by
  refine RO.rec (K := K) (B := B) (H := H) (motive_1 := fun l o v d _ => (∀ a ∈ B', a ∈ B ∧ a ∉ o) → R K (hid B' H) v d)
    (motive_2 := fun l os vs ds _ => (∀ a ∈ B', a ∈ B ∧ a ∉ os.flatten) → RA K (hid B' H) vs ds) ?_ ?_ ?_ ?_ ?_ ?_ h
  · intro l v d _ r hb
    exact r.mono (same_hidW (Same.refl H) fun a h => .inl (hb a h).1)
  · intro l a os xs ds h1 _ ih hb
    refine .lst (a := a) (xs := xs) ?_ (ih fun b q => ⟨(hb b q).1, fun z => (hb b q).2 (List.mem_cons_of_mem _ z)⟩)
    rw [hid_out fun z => (hb _ z).2 List.mem_cons_self]; exact h1
  · intro l a kvs es _ h1 h2 hb
    refine .dk (a := a) (kvs := kvs) ?_ (h2.mono (same_hidW (Same.refl H) fun a h => .inl (hb a h).1))
    rw [Rd, hid_out fun z => (hb _ z).2 List.mem_cons_self]; exact .inl h1
  · intro l a kvs es _ h1 h2 hb
    refine .dt (a := a) (kvs := kvs) ?_ (h2.mono (same_hidW (Same.refl H) fun a h => .inl (hb a h).1))
    rw [Rd, hid_out fun z => (hb _ z).2 List.mem_cons_self]; exact .inl h1
  · intro l _
    exact .nil
  · intro l o os v d vs ds _ _ ih1 ih2 hb
    exact .cons (ih1 fun a q => ⟨(hb a q).1, fun z => (hb a q).2 (by rw [List.flatten_cons]; exact List.mem_append_left _ z)⟩) (ih2 fun a q => ⟨(hb a q).1, fun z => (hb a q).2 (by rw [List.flatten_cons]; exact List.mem_append_right _ z)⟩)
theorem RO.toRL_aux {l : Nat} {o : List Addr} {v : V} {d : D} (h : RO K B H l o v d) : RL K B H l v d := by
  refine RO.rec (K := K) (B := B) (H := H) (motive_1 := fun l o v d _ => RL K B H l v d)
    (motive_2 := fun l os vs ds _ => vs.length = ds.length ∧ ∀ (i : Nat) (x : V) (d : D), vs[i]? = some x → ds[i]? = some d → RL K B H l x d) ?_ ?_ ?_ ?_ ?_ ?_ h
  · intro l v d _ r
    exact .z r
  · intro l a os xs ds h1 _ ih
    exact .l h1 ih.1 ih.2
  · intro l a kvs es _ h1 h2
    exact .dk h1 h2
  · intro l a kvs es _ h1 h2
    exact .dt h1 h2
  · intro l
    exact ⟨rfl, fun i x d e1 _ => by simp at e1⟩
  · intro l o os v d vs ds _ _ ih1 ih2
    refine ⟨by simp [ih2.1], fun i x d e1 e2 => ?_⟩
    cases i with
    | zero => simp at e1 e2; subst e1; subst e2; exact ih1
    | succ i => exact ih2.2 i x d (by simpa using e1) (by simpa using e2)
theorem RO.mono_aux {l : Nat} {o : List Addr} {v : V} {d : D} (h : RO K B H l o v d) (eh : Same (hid B H) (hid B' H')) : (∀ a ∈ o, H' a = H a) → RO K B' H' l o v d := by
  refine RO.rec (K := K) (B := B) (H := H) (motive_1 := fun l o v d _ => (∀ a ∈ o, H' a = H a) → RO K B' H' l o v d)
    (motive_2 := fun l os vs ds _ => (∀ a ∈ os.flatten, H' a = H a) → ROA K B' H' l os vs ds) ?_ ?_ ?_ ?_ ?_ ?_ h
  · intro l v d hl r _
    exact .z hl (r.mono eh)
  · intro l a os xs ds h1 _ ih hb
    exact .l ((hb a List.mem_cons_self).trans h1) (ih fun b q => hb b (List.mem_cons_of_mem _ q))
  · intro l a kvs es ht h1 h2 hb
    exact .dk ht ((hb a List.mem_cons_self).trans h1) (h2.mono eh)
  · intro l a kvs es ht h1 h2 hb
    exact .dt ht ((hb a List.mem_cons_self).trans h1) (h2.mono eh)
  · intro l _
    exact .nil
  · intro l o os v d vs ds _ _ ih1 ih2 hb
    exact .cons (ih1 fun a q => hb a (by rw [List.flatten_cons]; exact List.mem_append_left _ q)) (ih2 fun a q => hb a (by rw [List.flatten_cons]; exact List.mem_append_right _ q))
/-- what an owned tree's addresses hold -/
theorem RO.mut_aux {l : Nat} {o : List Addr} {v : V} {d : D} (h : RO K B H l o v d) : Ok o H := by
  refine RO.rec (K := K) (B := B) (H := H) (motive_1 := fun l o v d _ => Ok o H)
    (motive_2 := fun l os vs ds _ => Ok os.flatten H) ?_ ?_ ?_ ?_ ?_ ?_ h
  · intro l v d hl r
    exact Ok.nil
  · intro l a os xs ds h1 _ ih
    exact ih.cons h1 rfl
  · intro l a kvs es ht h1 h2
    exact Ok.nil.cons h1 rfl
  · intro l a kvs es ht h1 h2
    exact Ok.nil.cons h1 rfl
  · intro l
    exact Ok.nil
  · intro l o os v d vs ds _ _ ih1 ih2
    rw [List.flatten_cons]; exact ih1.append ih2
theorem ROA.of_RA : ∀ {vs : List V} {ds : List D}, RA K (hid B H) vs ds → ROA K B H 0 (vs.map fun _ => []) vs ds
  | _, _, .nil => .nil
  | _, _, .cons h t => .cons (.z (.inl rfl) h) (ROA.of_RA t)
theorem flat_map_nil {α β : Type} : ∀ (l : List α), (l.map fun _ => ([] : List β)).flatten = []
  | [] => rfl
  | _ :: r => by rw [List.map_cons, List.flatten_cons, flat_map_nil r]; rfl
theorem RO.l1 {a : Addr} {xs : List V} {ds : List D} (h1 : H a = some (.lst xs)) (h2 : RA K (hid B H) xs ds) : RO K B H 1 [a] (.ref a) (.list ds) := by
  have := RO.l (l := 0) h1 (ROA.of_RA h2)
  rw [flat_map_nil] at this
  exact this
end

/-! ### modes -/
inductive Mo where
  /-- the first m levels may be hidden -/
  | br (m : Nat)
  /-- new: its first level (two levels) at new addresses -/
  | fr | fr2
def Mo.one : Mo → Bool
  | .fr2 => false
  | _ => true
def Post (K : PySem.W.Frag) (B : List Addr) (H0 H' : Hp) : Mo → V → D → Prop
  | .br m, v, d => RL K B H' m v d
  | .fr, v, d => ∃ o : List Addr, (∀ a ∈ o, H0 a = none) ∧ o.Nodup ∧ RO K (o ++ B) H' 1 o v d
  | .fr2, v, d => ∃ o : List Addr, (∀ a ∈ o, H0 a = none) ∧ o.Nodup ∧ RO K (o ++ B) H' 2 o v d
section
variable {K : PySem.W.Frag} {B B' : List Addr} {H H0 H' : Hp}
/-- a value that is nobody's own -/
theorem Post.of_flat {κ : Mo} {v : V} {d : D} (h : R K (hid B H') v d) (f : isTop d = false) : Post K B H0 H' κ v d := by
  cases κ with
  | br m => exact .z h
  | fr => exact ⟨[], by simp, List.nodup_nil, .z (.inr f) h⟩
  | fr2 => exact ⟨[], by simp, List.nodup_nil, .z (.inr f) h⟩
theorem Post.weak {m : Nat} {v : V} {d : D} (t : Trk B H0) (h : Post K B H0 H' .fr v d) : Post K B H0 H' (.br m) v d := by
  obtain ⟨o, h1, h2, h3⟩ := h
  exact .z (h3.toR_aux fun a q => ⟨List.mem_append_right _ q, fun z => t a q (h1 a z)⟩)
/-- a new list -/
theorem Post.new {κ : Mo} {p : Addr} {xs : List V} {ds : List D} (t : Trk B H0) (hn : H0 p = none) (h : H' p = some (.lst xs)) (r : RA K (hid (p :: B) H') xs ds) (hκ : κ.one = true) : Post K B H0 H' κ (.ref p) (.list ds) := by
  have f : Post K B H0 H' .fr (.ref p) (.list ds) := ⟨[p], by simpa using hn, by simp, RO.l1 h r⟩
  cases κ with
  | br m => exact f.weak t
  | fr => exact f
  | fr2 => cases hκ
end
end DS
end

section
set_option Elab.async false
set_option linter.all false
set_option maxRecDepth 100000
/-! Part c: an expression's reading as a function on trees. -/
namespace DS
open PySem PySem.Spec PyProof.Rows L2

abbrev St := List (Option V)
abbrev PEnv := List (Option D)
abbrev FE := PEnv → Option D
abbrev FA := PEnv → Option (List D)
abbrev FT := PEnv → Option Bool
abbrev Esc := List (Nat × Nat)
def EscOk (es : Esc) (L : Nat → Nat) : Prop := ∀ p ∈ es, L p.1 ≤ p.2
theorem EscOk.zero {es : Esc} : EscOk es fun _ => 0 := fun _ _ => Nat.zero_le _
theorem EscOk.left {es es' : Esc} {L : Nat → Nat} (h : EscOk (es ++ es') L) : EscOk es L := fun p q => h p (List.mem_append_left _ q)
theorem EscOk.right {es es' : Esc} {L : Nat → Nat} (h : EscOk (es ++ es') L) : EscOk es' L := fun p q => h p (List.mem_append_right _ q)
theorem EscOk.nil {L : Nat → Nat} : EscOk [] L := fun _ q => by simp at q

structure Good (K : PySem.W.Frag) (B : List Addr) (L : Nat → Nat) (σ : St) (H : Hp) (ρ : PEnv) : Prop where
  ok : Ok B H
  len : σ.length = ρ.length
  slot : ∀ (i : Nat) (d : D), ρ[i]? = some (some d) → ∃ v, σ[i]? = some (some v) ∧ RL K B H (L i) v d
section
variable {K : PySem.W.Frag} {B : List Addr} {L : Nat → Nat} {σ : St} {H H' : Hp} {ρ : PEnv}
theorem Good.mono (g : Good K B L σ H ρ) (e : Same H H') : Good K B L σ H' ρ :=
  ⟨g.ok.mono e, g.len, fun i d h => let ⟨v, h1, h2⟩ := g.slot i d h; ⟨v, h1, h2.mono e (same_hid e)⟩⟩
theorem Good.zero (g : Good K B L σ H ρ) : Good K [] (fun _ => 0) σ H ρ :=
  ⟨Ok.nil, g.len, fun i d h => let ⟨v, h1, h2⟩ := g.slot i d h; ⟨v, h1, .z (by rw [hid_nil]; exact h2.open)⟩⟩
end
/-- the reading of an expression: what it gives is the tree f ρ -/
def tD (K : PySem.W.Frag) (κ : Mo) (f : FE) (es : Esc) : TE := fun σ H Q => ∃ B L ρ d, Good K B L σ H ρ ∧ EscOk es L ∧ f ρ = some d ∧ ∀ v H', Same H H' → Post K B H H' κ v d → Q v H'
def tDA (K : PySem.W.Frag) (m : Nat) (f : FA) (es : Esc) : TA := fun σ H Q => ∃ B L ρ ds, Good K B L σ H ρ ∧ EscOk es L ∧ f ρ = some ds ∧ ∀ vs H', Same H H' → vs.length = ds.length → (∀ (i : Nat) (x : V) (d : D), vs[i]? = some x → ds[i]? = some d → RL K B H' m x d) → Q vs H'
def tT (K : PySem.W.Frag) (f : FT) : TT := fun σ H Q => ∃ B L ρ b, Good K B L σ H ρ ∧ f ρ = some b ∧ ∀ H', Same H H' → Q b H'

theorem _root_.L2.PE.imp {X : Cx} {e : Expr} {t t' : TE} (h : PE X e t) (w : ∀ σ H Q, t' σ H Q → t σ H Q) : PE X e t' := ⟨fun pins s σ H Q I q => h.run pins s σ H Q I (w σ H Q q)⟩
theorem _root_.L2.PT.imp {X : Cx} {e : Expr} {t t' : TT} (h : PT X e t) (w : ∀ σ H Q, t' σ H Q → t σ H Q) : PT X e t' := ⟨fun pins s σ H Q I q => h.run pins s σ H Q I (w σ H Q q)⟩
theorem _root_.L2.PA.imp {X : Cx} {e : List Expr} {t t' : TA} (h : PA X e t) (w : ∀ σ H Q, t' σ H Q → t σ H Q) : PA X e t' := ⟨fun pos pins s σ H Q I q => h.run pos pins s σ H Q I (w σ H Q q)⟩
theorem _root_.L2.PW.imp {X : Cx} {e : Expr} {t t' : TT} (h : PW X e t) (w : ∀ σ H Q, t' σ H Q → t σ H Q) : PW X e t' := ⟨fun wh pins s σ H Q I q => h.run wh pins s σ H Q I (w σ H Q q)⟩
theorem _root_.L2.PI.imp {X : Cx} {tg it : Expr} {t t' : TI} (h : PI X tg it t) (w : ∀ σ H Q, t' σ H Q → t σ H Q) : PI X tg it t' := ⟨fun pins s σ H Q I q => h.run pins s σ H Q I (w σ H Q q)⟩
theorem _root_.L2.PS.imp {X : Cx} {e : Stmt} {t t' : TS} (h : PS X e t) (w : ∀ D σ H, t' D σ H → t D σ H) : PS X e t' := ⟨fun pins s σ H D I q => h.run pins s σ H D I (w D σ H q)⟩
theorem _root_.L2.PSs.imp {X : Cx} {e : List Stmt} {t t' : TS} (h : PSs X e t) (w : ∀ D σ H, t' D σ H → t D σ H) : PSs X e t' := ⟨fun pins s σ H D I q => h.run pins s σ H D I (w D σ H q)⟩

/-- bind of two -/
def o2 {α β γ : Type} (x : Option α) (y : Option β) (g : α → β → Option γ) : Option γ := match x with
  | none => none
  | some a => match y with
    | none => none
    | some b => g a b
def o1 {α γ : Type} (x : Option α) (g : α → Option γ) : Option γ := match x with
  | none => none
  | some a => g a
theorem o2_some {α β γ : Type} {x : Option α} {y : Option β} {g : α → β → Option γ} {c : γ} (h : o2 x y g = some c) : ∃ a b, x = some a ∧ y = some b ∧ g a b = some c := by
  unfold o2 at h
  split at h
  · cases h
  · split at h
    · cases h
    · exact ⟨_, _, rfl, rfl, h⟩
theorem o1_some {α γ : Type} {x : Option α} {g : α → Option γ} {c : γ} (h : o1 x g = some c) : ∃ a, x = some a ∧ g a = some c := by
  unfold o1 at h
  split at h
  · cases h
  · exact ⟨_, rfl, h⟩

/-! ### names and constants -/
def eVar (i : Nat) : FE := fun ρ => match ρ[i]? with
  | some (some d) => some d
  | _ => none
def eC (d : D) : FE := fun _ => some d
theorem eVar_some {i : Nat} {ρ : PEnv} {d : D} (h : eVar i ρ = some d) : ρ[i]? = some (some d) := by
  unfold eVar at h
  split at h
  · rename_i e; rw [e, Option.some.inj h]
  · cases h
section
variable {X : Cx} {K : PySem.W.Frag} {κ : Mo} {pos : Pos}
theorem qe_of {e : Expr} {i m : Nat} (h : PE X e (tVar i)) : PE X e (tD K (.br m) (eVar i) [(i, m)]) := h.imp fun σ H Q ⟨B, L, ρ, d, g, es, hf, q⟩ => by
  obtain ⟨v, h1, h2⟩ := g.slot i d (eVar_some hf)
  exact ⟨v, h1, q v H (Same.refl H) (h2.up (es (i, m) (by simp)))⟩
theorem qv (i : Nat) {m : Nat} {x : Str} {pos : Pos} (hN : X.N[i]? = some x := by rfl) (hv : Vis X.env.scope x := by first | exact Or.inl rfl | exact Or.inr (Or.inl rfl) | exact Or.inr (Or.inr rfl)) (hd : (x == ("__debug__" : Str)) = false := by decide)
    (hcd : (x == ("__classdict__" : Str)) = false := by decide) : PE X (.Name x pos) (tD K (.br m) (eVar i) [(i, m)]) := qe_of (pe_var hN hv hd hcd)
theorem qc {e : Expr} {v : V} {d : D} (h : PE X e (tC v)) (r : ∀ H, R K H v d) (f : isTop d = false) : PE X e (tD K κ (eC d) []) := h.imp fun σ H Q ⟨B, L, ρ, d', g, es, hf, q⟩ => by
  cases (show d = d' from Option.some.inj hf)
  exact q v H (Same.refl H) (Post.of_flat (r _) f)
theorem qint {i j pos} : PE X (.Constant (.int i) j pos) (tD K κ (eC (.int i)) []) := qc pe_int (fun _ => .int i) rfl
theorem qbl {i j pos} : PE X (.Constant (.bool i) j pos) (tD K κ (eC (.bool i)) []) := qc pe_bl (fun _ => .bl i) rfl
theorem qnon {j pos} : PE X (.Constant .none j pos) (tD K κ (eC .none) []) := qc pe_non (fun _ => .non) rfl
theorem qstr {i j pos} : PE X (.Constant (.str i) j pos) (tD K κ (eC (.str i)) []) := qc pe_str (fun _ => .str i) rfl
/-- read at a lesser freedom -/
theorem qup {e : Expr} {f : FE} {es : Esc} {m n : Nat} (h : PE X e (tD K (.br m) f es)) (hm : m ≤ n := by decide) : PE X e (tD K (.br n) f es) := h.imp fun σ H Q ⟨B, L, ρ, d, g, es, hf, q⟩ =>
  ⟨B, L, ρ, d, g, es, hf, fun v H' e p => q v H' e (RL.up p hm)⟩

/-! ### lists of arguments -/
def aNil : FA := fun _ => some []
def aCons (f : FE) (r : FA) : FA := fun ρ => o2 (f ρ) (r ρ) fun d ds => some (d :: ds)
theorem qa_nil {m : Nat} : PA X [] (tDA K m aNil []) := pa_nil.imp fun σ H Q ⟨B, L, ρ, ds, g, es, hf, q⟩ => by
  cases (show [] = ds from Option.some.inj hf)
  exact q [] H (Same.refl H) rfl fun i x d h => by simp at h
theorem qa_cons {m : Nat} {e : Expr} {es : List Expr} {f : FE} {fs : FA} {c c' : Esc} (h : PE X e (tD K (.br m) f c)) (t : PA X es (tDA K m fs c')) (hs : starEach (e :: es) X.env = (false, eval e X.env) :: starEach es X.env := by rfl) :
    PA X (e :: es) (tDA K m (aCons f fs) (c ++ c')) := (pa_cons h t hs).imp fun σ H Q ⟨B, L, ρ, ds, g, es, hf, q⟩ => by
  obtain ⟨d, ds', h1, h2, h3⟩ := o2_some hf
  cases (show d :: ds' = ds from Option.some.inj h3)
  refine ⟨B, L, ρ, d, g, es.left, h1, fun v H1 s1 p1 => ⟨B, L, ρ, ds', g.mono s1, es.right, h2, fun vs H2 s2 hl p2 => ?_⟩⟩
  refine q _ H2 (s1.trans s2) (by simp [hl]) fun i x y e1 e2 => ?_
  cases i with
  | zero =>
    simp at e1 e2
    subst e1 e2
    exact RL.mono s2 (same_hid s2) p1
  | succ i => exact p2 i x y (by simpa using e1) (by simpa using e2)
/-- a display: a tuple, a list -/
def sz : Nat := 16777216
theorem sz_eq : sizeLine = sz := sizeLine_eq
def eTup (fs : FA) : FE := fun ρ => o1 (fs ρ) fun ds => if ds.length ≤ sz then some (.tuple ds) else none
def eLst (fs : FA) : FE := fun ρ => o1 (fs ρ) fun ds => if ds.length ≤ sz then some (.list ds) else none
theorem ite_some {α : Type} {c : Prop} [Decidable c] {x y : α} (h : (if c then some x else none) = some y) : c ∧ x = y := by
  split at h
  · exact ⟨by assumption, Option.some.inj h⟩
  · cases h
theorem qe_tup {x1} {es : List Expr} {fs : FA} {c : Esc} (h : PA X es (tDA K 0 fs c)) : PE X (.Tuple es x1 pos) (tD K κ (eTup fs) c) := (pe_tup h).imp fun σ H Q ⟨B, L, ρ, d, g, es, hf, q⟩ => by
  obtain ⟨ds, h1, h2⟩ := o1_some hf
  obtain ⟨hc, e⟩ := ite_some h2
  subst e
  refine ⟨B, L, ρ, ds, g, es, h1, fun vs H1 s1 hl p1 => ⟨by rw [hl, sz_eq]; exact hc, fun p np => ?_⟩⟩
  have s2 : Same H1 (upd H1 p (.tup vs)) := same_upd np
  refine q _ _ (s1.trans s2) (Post.of_flat (.tup (a := p) (xs := vs) ?_ (RA.of_get hl fun i x d e1 e2 => (p1 i x d e1 e2).r.mono (same_hid s2))) rfl)
  rw [hid_out ((g.ok.mono s1).trk.new np), upd_same]
theorem qe_lst {es : List Expr} {fs : FA} {c : Esc} (h : PA X es (tDA K 0 fs c)) (hκ : κ.one = true := by rfl) : PE X (.List es pos) (tD K κ (eLst fs) c) := (pe_lst h).imp fun σ H Q ⟨B, L, ρ, d, g, es, hf, q⟩ => by
  obtain ⟨ds, h1, h2⟩ := o1_some hf
  obtain ⟨hc, e⟩ := ite_some h2
  subst e
  refine ⟨B, L, ρ, ds, g, es, h1, fun vs H1 s1 hl p1 => ⟨by rw [hl, sz_eq]; exact hc, fun p np => ?_⟩⟩
  have s2 : Same H1 (upd H1 p (.lst vs)) := same_upd np
  refine q _ _ (s1.trans s2) (Post.new g.ok.trk (s1.free np) upd_same (RA.of_get hl fun i x d e1 e2 => (p1 i x d e1 e2).r.mono (same_hidW s2 fun a h => ?_)) hκ)
  rcases List.mem_cons.mp h with e | h
  · rw [e]; exact .inr np
  · exact .inl h

/-! ### operators -/
/-- an operator on values does what op does on trees -/
def OpD (K : PySem.W.Frag) (r : R2) (op : D → D → Option D) : Prop := ∀ (B : List Addr) (x y : V) (dx dy d : D) (H : Hp) (Q : VK), Ok B H → RL K B H 1 x dx → RL K B H 1 y dy → op dx dy = some d →
  (∀ v H', Same H H' → (∀ κ : Mo, κ.one = true → Post K B H H' κ v d) → Q v H') → r x y H Q
def eOp (op : D → D → Option D) (f g : FE) : FE := fun ρ => o2 (f ρ) (g ρ) op
theorem qe_op {o : Operator} {r : R2} {op : D → D → Option D} {a b : Expr} {fa fb : FE} {ca cb : Esc} (hr : OpR X (binaryOp o) r) (hd : OpD K r op) (ha : PE X a (tD K (.br 1) fa ca)) (hb : PE X b (tD K (.br 1) fb cb)) (hκ : κ.one = true := by rfl) :
    PE X (.BinOp a o b pos) (tD K κ (eOp op fa fb) (ca ++ cb)) := (pe_op hr ha hb).imp fun σ H Q ⟨B, L, ρ, d, g, es, hf, q⟩ => by
  obtain ⟨dx, dy, h1, h2, h3⟩ := o2_some hf
  refine ⟨B, L, ρ, dx, g, es.left, h1, fun x H1 s1 p1 => ⟨B, L, ρ, dy, g.mono s1, es.right, h2, fun y H2 s2 p2 => ?_⟩⟩
  refine hd B x y dx dy d H2 Q ((g.ok.mono s1).mono s2) (RL.mono s2 (same_hid s2) p1) p2 h3 fun v H3 s3 p3 => q v H3 ((s1.trans s2).trans s3) ?_
  have p := p3 κ hκ
  cases κ with
  | br m => exact p
  | fr =>
    obtain ⟨o, h1, h2, h3⟩ := p
    exact ⟨o, fun a z => (s1.trans s2).free (h1 a z), h2, h3⟩
  | fr2 => cases hκ
/-- ints to an int -/
theorem OpD.ii {C : Int → Int → Prop} {gV : Int → Int → Int} {op : D → D → Option D} (h : ∀ dx dy d, op dx dy = some d → ∃ i j, dx = .int i ∧ dy = .int j ∧ C i j ∧ d = .int (gV i j)) : OpD K (rI C fun i j => .int (gV i j)) op := by
  intro B x y dx dy d H Q hB rx ry ho q
  obtain ⟨i, j, rfl, rfl, c, rfl⟩ := h _ _ _ ho
  exact ⟨i, j, rx.int, ry.int, c, q _ H (Same.refl H) fun κ _ => Post.of_flat (.int _) rfl⟩
def dSub : D → D → Option D
  | .int i, .int j => some (.int (i - j))
  | _, _ => none
def mulOk (i j : Int) : Bool := decide (j.natAbs < 18446744073709551616) || decide (i.natAbs < 18446744073709551616) || decide (i.natAbs.log2 + j.natAbs.log2 < 1000000)
def fdivOk (j : Int) : Bool := decide (0 < j) && decide (j.natAbs.log2 < 9000)
def dFdiv : D → D → Option D
  | .int i, .int j => if fdivOk j = true then some (.int (i / j)) else none
  | _, _ => none
def dMod : D → D → Option D
  | .int i, .int j => if 0 < j then some (.int (i % j)) else none
  | _, _ => none
def powOk (i j : Int) : Bool := decide (0 ≤ j) && decide (j ≤ 1000000) && decide (i.natAbs < 18446744073709551616)
def dPow : D → D → Option D
  | .int i, .int j => if powOk i j = true then some (.int (i ^ j.toNat)) else none
  | _, _ => none
def dShl : D → D → Option D
  | .int i, .int j => if powOk i j = true then some (.int (i * 2 ^ j.toNat)) else none
  | _, _ => none
def dShr : D → D → Option D
  | .int i, .int j => if 0 ≤ j then some (.int (i / 2 ^ j.toNat)) else none
  | _, _ => none
end
theorem mulOk_ok {i j : Int} (h : mulOk i j = true) : IntMulOk i j := by
  unfold mulOk at h
  rw [Bool.or_eq_true, Bool.or_eq_true] at h
  rcases h with (h | h) | h
  · have h := of_decide_eq_true h
    exact .of_right (intBits_le_64 (by omega) (by omega))
  · have h := of_decide_eq_true h
    exact .of_left (intBits_le_64 (by omega) (by omega))
  · exact CMulW.ok (show i.natAbs.log2 + j.natAbs.log2 < 1000000 from of_decide_eq_true h)
theorem op_mulA {X : Cx} : OpR X (binaryOp .Mult) (rI (fun i j => mulOk i j = true) fun i j => .int (i * j)) := opI fun _ _ _ _ _ _ _ hc q => mul_int q (mulOk_ok hc)
theorem op_sub' {X : Cx} : OpR X (binaryOp .Sub) (rI (fun _ _ => True) fun i j => .int (i - j)) := opI fun _ _ _ _ _ _ _ _ q => sub_int q
theorem op_add' {X : Cx} : OpR X (binaryOp .Add) (rI (fun _ _ => True) fun i j => .int (i + j)) := opI fun _ _ _ _ _ _ _ _ q => add_int q
theorem op_fdivA {X : Cx} : OpR X (binaryOp .FloorDiv) (rI (fun _ j => fdivOk j = true) fun i j => .int (i / j)) := opI fun i j _ _ _ _ _ hc q => by
  unfold fdivOk at hc
  rw [Bool.and_eq_true] at hc
  have h1 := of_decide_eq_true hc.1
  exact floordiv_int (by omega) (by rw [Int.fdiv_eq_ediv_of_nonneg i (by omega)]; exact q) (.inl (PyProof.noPylong_of_log2 (of_decide_eq_true hc.2)))
section
variable {X : Cx} {K : PySem.W.Frag} {κ : Mo} {pos : Pos} {a b : Expr} {fa fb : FE} {ca cb : Esc}
theorem qe_sub (ha : PE X a (tD K (.br 1) fa ca)) (hb : PE X b (tD K (.br 1) fb cb)) (hκ : κ.one = true := by rfl) : PE X (.BinOp a .Sub b pos) (tD K κ (eOp dSub fa fb) (ca ++ cb)) :=
  qe_op op_sub' (OpD.ii fun dx dy d h => by
    unfold dSub at h
    split at h
    · exact ⟨_, _, rfl, rfl, trivial, (Option.some.inj h).symm⟩
    · cases h) ha hb hκ
theorem qe_fdiv (ha : PE X a (tD K (.br 1) fa ca)) (hb : PE X b (tD K (.br 1) fb cb)) (hκ : κ.one = true := by rfl) : PE X (.BinOp a .FloorDiv b pos) (tD K κ (eOp dFdiv fa fb) (ca ++ cb)) :=
  qe_op op_fdivA (OpD.ii fun dx dy d h => by
    unfold dFdiv at h
    split at h
    · obtain ⟨c, e⟩ := ite_some h
      exact ⟨_, _, rfl, rfl, c, e.symm⟩
    · cases h) ha hb hκ
theorem qe_mod (ha : PE X a (tD K (.br 1) fa ca)) (hb : PE X b (tD K (.br 1) fb cb)) (hκ : κ.one = true := by rfl) : PE X (.BinOp a .Mod b pos) (tD K κ (eOp dMod fa fb) (ca ++ cb)) :=
  qe_op op_mod (OpD.ii fun dx dy d h => by
    unfold dMod at h
    split at h
    · obtain ⟨c, e⟩ := ite_some h
      exact ⟨_, _, rfl, rfl, c, e.symm⟩
    · cases h) ha hb hκ
theorem powOk_ok {i j : Int} (h : powOk i j = true) : CPow i j := by
  unfold powOk at h
  rw [Bool.and_eq_true, Bool.and_eq_true] at h
  exact ⟨of_decide_eq_true h.1.1, of_decide_eq_true h.1.2, of_decide_eq_true h.2⟩
theorem qe_pow (ha : PE X a (tD K (.br 1) fa ca)) (hb : PE X b (tD K (.br 1) fb cb)) (hκ : κ.one = true := by rfl) : PE X (.BinOp a .Pow b pos) (tD K κ (eOp dPow fa fb) (ca ++ cb)) :=
  qe_op op_pow (OpD.ii fun dx dy d h => by
    unfold dPow at h
    split at h
    · obtain ⟨c, e⟩ := ite_some h
      exact ⟨_, _, rfl, rfl, powOk_ok c, e.symm⟩
    · cases h) ha hb hκ
theorem qe_shl (ha : PE X a (tD K (.br 1) fa ca)) (hb : PE X b (tD K (.br 1) fb cb)) (hκ : κ.one = true := by rfl) : PE X (.BinOp a .LShift b pos) (tD K κ (eOp dShl fa fb) (ca ++ cb)) :=
  qe_op op_shl (OpD.ii fun dx dy d h => by
    unfold dShl at h
    split at h
    · obtain ⟨c, e⟩ := ite_some h
      exact ⟨_, _, rfl, rfl, powOk_ok c, e.symm⟩
    · cases h) ha hb hκ
theorem qe_shr (ha : PE X a (tD K (.br 1) fa ca)) (hb : PE X b (tD K (.br 1) fb cb)) (hκ : κ.one = true := by rfl) : PE X (.BinOp a .RShift b pos) (tD K κ (eOp dShr fa fb) (ca ++ cb)) :=
  qe_op op_shr (OpD.ii fun dx dy d h => by
    unfold dShr at h
    split at h
    · obtain ⟨c, e⟩ := ite_some h
      exact ⟨_, _, rfl, rfl, c, e.symm⟩
    · cases h) ha hb hκ
/-! + : ints, tuples, lists -/
def dAdd : D → D → Option D
  | .int i, .int j => some (.int (i + j))
  | .tuple x, .tuple y => if x.length + y.length ≤ sz then some (.tuple (x ++ y)) else none
  | .list x, .list y => if x.length + y.length ≤ sz then some (.list (x ++ y)) else none
  | _, _ => none
theorem RL.list1' {B : List Addr} {H : Hp} {v : V} {ds : List D} (h : RL K B H 1 v (.list ds)) : ∃ a xs, v = .ref a ∧ H a = some (.lst xs) ∧ RA K (hid B H) xs ds := h.list1
theorem qe_add (ha : PE X a (tD K (.br 1) fa ca)) (hb : PE X b (tD K (.br 1) fb cb)) (hX : X.K = K := by rfl) (hκ : κ.one = true := by rfl) : PE X (.BinOp a .Add b pos) (tD K κ (eOp dAdd fa fb) (ca ++ cb)) := by
  subst hX
  refine qe_op (op_add'.or (op_catA.or op_cat)) ?_ ha hb hκ
  intro B x y dx dy d H Q hB rx ry ho q
  unfold dAdd at ho
  split at ho
  · exact .inl ⟨_, _, rx.int, ry.int, trivial, q _ H (Same.refl H) fun κ _ => by
      cases (Option.some.inj ho)
      exact Post.of_flat (.int _) rfl⟩
  · obtain ⟨c, rfl⟩ := ite_some ho
    obtain ⟨p, xs, rfl, h1, h1', h2⟩ := rx.tup
    obtain ⟨p', ys, rfl, h3, h3', h4⟩ := ry.tup
    refine .inr (.inl ⟨p, p', xs, ys, rfl, rfl, h1, h3, by rw [h2.length, h4.length, sz_eq]; exact c, fun e => ?_, fun _ e => ?_, fun _ _ t nt => ?_⟩)
    · subst e
      cases h2
      exact q _ H (Same.refl H) fun κ _ => Post.of_flat (.tup h3' h4) rfl
    · subst e
      cases h4
      rw [List.append_nil] at q
      exact q _ H (Same.refl H) fun κ _ => Post.of_flat (.tup h1' h2) rfl
    · have s := same_upd (o := HO.tup (xs ++ ys)) nt
      refine q _ _ s fun κ _ => Post.of_flat (.tup (a := t) (xs := xs ++ ys) ?_ ((h2.append h4).mono (same_hid s))) rfl
      rw [hid_out (hB.trk.new nt), upd_same]
  · obtain ⟨c, rfl⟩ := ite_some ho
    obtain ⟨p, xs, rfl, h1, h2⟩ := rx.list1
    obtain ⟨p', ys, rfl, h3, h4⟩ := ry.list1
    refine .inr (.inr ⟨p, p', xs, ys, rfl, rfl, h1, h3, by rw [h2.length, h4.length, sz_eq]; exact c, fun t nt => ?_⟩)
    have s := same_upd (o := HO.lst (xs ++ ys)) nt
    refine q _ _ s fun κ hκ => Post.new hB.trk nt upd_same ((h2.append h4).mono (same_hidW s fun b hb => ?_)) hκ
    rcases List.mem_cons.mp hb with e | hb
    · rw [e]; exact .inr nt
    · exact .inl hb
  · cases ho
/-! * : ints, a list times an int -/
def dMul : D → D → Option D
  | .int i, .int j => if mulOk i j = true then some (.int (i * j)) else none
  | .list x, .int j => if x.length * j.toNat ≤ sz ∧ -9223372036854775808 ≤ j ∧ j < 9223372036854775808 then some (.list (List.replicate j.toNat x).flatten) else none
  | _, _ => none
theorem qe_mul (ha : PE X a (tD K (.br 1) fa ca)) (hb : PE X b (tD K (.br 1) fb cb)) (hκ : κ.one = true := by rfl) : PE X (.BinOp a .Mult b pos) (tD K κ (eOp dMul fa fb) (ca ++ cb)) := by
  refine qe_op (op_mulA.or op_rep) ?_ ha hb hκ
  intro B x y dx dy d H Q hB rx ry ho q
  unfold dMul at ho
  split at ho
  · obtain ⟨c, rfl⟩ := ite_some ho
    exact .inl ⟨_, _, rx.int, ry.int, c, q _ H (Same.refl H) fun κ _ => Post.of_flat (.int _) rfl⟩
  · rename_i x' j'
    obtain ⟨⟨c, c1, c2⟩, rfl⟩ := ite_some ho
    obtain ⟨p, xs, rfl, h1, h2⟩ := rx.list1
    refine .inr ⟨p, _, xs, rfl, ry.int, h1, by omega, by omega, by rw [h2.length, sz_eq]; exact c, fun t nt => ?_⟩
    have s := same_upd (o := HO.lst (List.replicate j'.toNat xs).flatten) nt
    refine q _ _ s fun κ hκ => Post.new hB.trk nt upd_same ((h2.rep _).mono (same_hidW s fun b hb => ?_)) hκ
    rcases List.mem_cons.mp hb with e | hb
    · rw [e]; exact .inr nt
    · exact .inl hb
  · cases ho
/-! one operand -/
def dNeg : D → Option D
  | .int i => some (.int (-i))
  | _ => none
def eUn (op : D → Option D) (f : FE) : FE := fun ρ => o1 (f ρ) op
theorem qe_neg (ha : PE X a (tD K (.br 1) fa ca)) : PE X (.UnaryOp .USub a pos) (tD K κ (eUn dNeg fa) []) := (pe_un un_neg ha).imp fun σ H Q ⟨B, L, ρ, d, g, es, hf, q⟩ => by
  obtain ⟨dx, h1, h2⟩ := o1_some hf
  unfold dNeg at h2
  split at h2
  · cases (Option.some.inj h2)
    exact ⟨[], _, ρ, _, g.zero, .zero, h1, fun x H1 s1 p1 => ⟨_, RL.int p1, q _ H1 s1 (Post.of_flat (.int _) rfl)⟩⟩
  · cases h2
end
end DS
end

section
set_option Elab.async false
set_option linter.all false
set_option maxRecDepth 100000
/-! Part d: comparisons, tests, subscripts, calls. -/
namespace DS
open PySem PySem.Spec PyProof.Rows L2

/-! ### comparisons -/
def OpC (K : PySem.W.Frag) (r : R2) (op : D → D → Option Bool) : Prop := ∀ (x y : V) (dx dy : D) (b : Bool) (H : Hp) (Q : VK), R K H x dx → R K H y dy → op dx dy = some b → Q (.bl b) H → r x y H Q
def tCmp (op : D → D → Option Bool) (f g : FE) : FT := fun ρ => o2 (f ρ) (g ρ) op
def eB (f : FT) : FE := fun ρ => o1 (f ρ) fun b => some (.bool b)
section
variable {X : Cx} {K : PySem.W.Frag} {κ : Mo} {pos : Pos} {a b : Expr} {fa fb : FE} {ca cb : Esc}
theorem RL.r0 {H : Hp} {m : Nat} {v : V} {d : D} (h : RL K [] H m v d) : R K H v d := h.open
theorem qe_cmp {op : CmpOp} {r : R2} {o : D → D → Option Bool} (hr : OpR X (compareOp op) r) (hd : OpC K r o) (ha : PE X a (tD K (.br 1) fa ca)) (hb : PE X b (tD K (.br 1) fb cb)) (hm : behindInMarks op b = false) :
    PE X (.Compare a [op] [b] pos) (tD K κ (eB (tCmp o fa fb)) []) := (pe_cmpR hr ha hb hm).imp fun σ H Q ⟨B, L, ρ, d, g, es, hf, q⟩ => by
  obtain ⟨k, h1, h2⟩ := o1_some hf
  cases (Option.some.inj h2)
  obtain ⟨dx, dy, h3, h4, h5⟩ := o2_some h1
  exact ⟨[], _, ρ, dx, g.zero, .zero, h3, fun x H1 s1 p1 => ⟨[], _, ρ, dy, (g.mono s1).zero, .zero, h4, fun y H2 s2 p2 =>
    hd x y dx dy k H2 Q ((RL.r0 p1).mono s2) (RL.r0 p2) h5 (q _ H2 (s1.trans s2) (Post.of_flat (.bl k) rfl))⟩⟩
theorem qt_cmp {op : CmpOp} {r : R2} {o : D → D → Option Bool} (hr : OpR X (compareOp op) r) (hd : OpC K r o) (ha : PE X a (tD K (.br 1) fa ca)) (hb : PE X b (tD K (.br 1) fb cb)) (hm : behindInMarks op b = false) :
    PT X (.Compare a [op] [b] pos) (tT K (tCmp o fa fb)) := (pt_cmpR hr ha hb hm).imp fun σ H Q ⟨B, L, ρ, k, g, hf, q⟩ => by
  obtain ⟨dx, dy, h3, h4, h5⟩ := o2_some hf
  exact ⟨[], _, ρ, dx, g.zero, .zero, h3, fun x H1 s1 p1 => ⟨[], _, ρ, dy, (g.mono s1).zero, .zero, h4, fun y H2 s2 p2 =>
    hd x y dx dy k H2 _ ((RL.r0 p1).mono s2) (RL.r0 p2) h5 ⟨k, rfl, q H2 (s1.trans s2)⟩⟩⟩
/-- a < b < c -/
def tChn (op op' : D → D → Option Bool) (f g h : FE) : FT := fun ρ => match o2 (f ρ) (g ρ) op with
  | none => none
  | some false => some false
  | some true => o2 (g ρ) (h ρ) op'
theorem qt_chain {op op' : CmpOp} {r r' : R2} {o o' : D → D → Option Bool} {c : Expr} {fc : FE} {cc : Esc} (hr : OpR X (compareOp op) r) (hd : OpC K r o) (hr' : OpR X (compareOp op') r') (hd' : OpC K r' o')
    (ha : PE X a (tD K (.br 1) fa ca)) (hb : PE X b (tD K (.br 1) fb cb)) (hc : PE X c (tD K (.br 1) fc cc)) (pt : PT X (.Compare a [op, op'] [b, c] pos) (tTest (tChain r r' (tD K (.br 1) fa ca) (tD K (.br 1) fb cb) (tD K (.br 1) fc cc)))) :
    PT X (.Compare a [op, op'] [b, c] pos) (tT K (tChn o o' fa fb fc)) := pt.imp fun σ H Q ⟨B, L, ρ, k, g, hf, q⟩ => by
  unfold tChn at hf
  split at hf
  · cases hf
  · rename_i h1
    obtain ⟨dx, dy, h3, h4, h5⟩ := o2_some h1
    refine ⟨[], _, ρ, dx, g.zero, .zero, h3, fun x H1 s1 p1 => ⟨[], _, ρ, dy, (g.mono s1).zero, .zero, h4, fun y H2 s2 p2 =>
      hd x y dx dy false H2 _ ((RL.r0 p1).mono s2) (RL.r0 p2) h5 ⟨false, rfl, ?_⟩⟩⟩
    rw [if_neg (by decide)]
    cases (Option.some.inj hf)
    exact ⟨_, rfl, q H2 (s1.trans s2)⟩
  · rename_i h1
    obtain ⟨dx, dy, h3, h4, h5⟩ := o2_some h1
    obtain ⟨dy', dz, h6, h7, h8⟩ := o2_some hf
    rw [h4] at h6
    cases (Option.some.inj h6)
    refine ⟨[], _, ρ, dx, g.zero, .zero, h3, fun x H1 s1 p1 => ⟨[], _, ρ, dy, (g.mono s1).zero, .zero, h4, fun y H2 s2 p2 =>
      hd x y dx dy true H2 _ ((RL.r0 p1).mono s2) (RL.r0 p2) h5 ⟨true, rfl, ?_⟩⟩⟩
    rw [if_pos rfl]
    exact ⟨[], _, ρ, dz, ((g.mono s1).mono s2).zero, .zero, h7, fun z H3 s3 p3 => hd' y z dy dz k H3 _ ((RL.r0 p2).mono s3) (RL.r0 p3) h8 ⟨k, rfl, q H3 ((s1.trans s2).trans s3)⟩⟩
/-! == of any trees without dicts -/
mutual
theorem R.toDp {H : Hp} : ∀ {v : V} {d : D}, R K H v d → d.canLay0 = true → Dp K H v d
  | _, _, .non, _ => .non
  | _, _, .bl b, _ => .bl b
  | _, _, .int i, _ => .int i
  | _, _, .str x, _ => .str x
  | _, _, .lst h a, f => .lst (SqL.of h) (RA.toDp a (by simpa [PyData.canLay0] using f))
  | _, _, .frz h a, f => by simp [PyData.canLay0] at f
  | _, _, .rng h, f => by simp [PyData.canLay0] at f
  | _, _, .tup h a, f => .tup (.inl (.inl h)) (RA.toDp a (by simpa [PyData.canLay0] using f))
  | _, _, .dk h a, f => by simp [PyData.canLay0] at f
  | _, _, .dt h a, f => by simp [PyData.canLay0] at f
theorem RA.toDp {H : Hp} : ∀ {v : List V} {d : List D}, RA K H v d → PyData.canLayAll0 d = true → DpAll K H v d
  | _, _, .nil, _ => .nil
  | _, _, .cons h t, f => by
    have f' := f
    simp only [PyData.canLayAll0, Bool.and_eq_true] at f'
    exact .cons (R.toDp h f'.1) (RA.toDp t f'.2)
end
/-! the comparisons of ints, and of trees that are alike -/
def noneD : D → Bool
  | .none => true
  | _ => false
/-- both can be laid down, are alike, the first one isn't None, and not deep -/
def cmpOk (x y : D) : Bool := x.canLay0 && y.canLay0 && PySem.W.alike x y && !noneD x && decide (x.depth ≤ 60)
def rDat (K : PySem.W.Frag) (g : D → D → Bool) : R2 := fun x y H Q => ∃ d e, Dp K H x d ∧ Dp K H y e ∧ cmpOk d e = true ∧ Q (.bl (g d e)) H
theorem cmpOk_facts {x y : D} (h : cmpOk x y = true) : x.canLay0 = true ∧ y.canLay0 = true ∧ PySem.W.alike x y = true ∧ x ≠ .none ∧ x.depth ≤ 60 := by
  unfold cmpOk at h
  simp only [Bool.and_eq_true, decide_eq_true_eq] at h
  refine ⟨h.1.1.1.1, h.1.1.1.2, h.1.1.2, ?_, h.2⟩
  intro e
  rw [e] at h
  simp [noneD] at h
theorem cmp_room {A : Around} {x y : D} (hu : A.units + 64 < cLine) (h : x.depth ≤ 60) : A.units + min x.depth y.depth < cLine := by
  have := Nat.min_le_left x.depth y.depth
  omega
def dLt : D → D → Option Bool
  | .int i, .int j => some (decide (i < j))
  | x, y => if cmpOk x y = true then some (PySem.W.dataLt x y) else none
theorem op_ltA {X : Cx} (hu : X.A.units + 64 < cLine) : OpR X (compareOp .Lt) (fun x y H Q => rI0 (fun i j => .bl (decide (i < j))) x y H Q ∨ rDat X.K (fun d e => PySem.W.dataLt d e) x y H Q) := op_lt.or (by
  intro pins s σ H x y v u Q I rx ry h
  obtain ⟨d, e, hd, he, ok, q⟩ := h
  obtain ⟨as, r1⟩ := Dp.reads I d x v hd rx
  obtain ⟨bs, r2⟩ := Dp.reads I e y u he ry
  have f := cmpOk_facts ok
  exact PySem.W.lt_data r1 r2 f.2.2.1 f.2.2.2.1 (cmp_room hu f.2.2.2.2) ⟨.bl _, H, I, rfl, q⟩)
theorem oc_lt {K : PySem.W.Frag} : OpC K (fun x y H Q => rI0 (fun i j => .bl (decide (i < j))) x y H Q ∨ rDat K (fun d e => PySem.W.dataLt d e) x y H Q) dLt := by
  intro x y dx dy b H Q rx ry h q
  unfold dLt at h
  split at h
  · cases (Option.some.inj h); exact .inl ⟨_, _, rx.int', ry.int', q⟩
  · obtain ⟨hc, e⟩ := ite_some h
    subst e
    have f := cmpOk_facts hc
    exact .inr ⟨dx, dy, rx.toDp f.1, ry.toDp f.2.1, hc, q⟩
def dLe : D → D → Option Bool
  | .int i, .int j => some (decide (i ≤ j))
  | x, y => if cmpOk x y = true then some (!PySem.W.dataLt y x) else none
theorem op_leA {X : Cx} (hu : X.A.units + 64 < cLine) : OpR X (compareOp .LtE) (fun x y H Q => rI0 (fun i j => .bl (decide (i ≤ j))) x y H Q ∨ rDat X.K (fun d e => !PySem.W.dataLt e d) x y H Q) := op_le.or (by
  intro pins s σ H x y v u Q I rx ry h
  obtain ⟨d, e, hd, he, ok, q⟩ := h
  obtain ⟨as, r1⟩ := Dp.reads I d x v hd rx
  obtain ⟨bs, r2⟩ := Dp.reads I e y u he ry
  have f := cmpOk_facts ok
  exact PySem.W.le_data r1 r2 f.2.2.1 f.2.2.2.1 (cmp_room hu f.2.2.2.2) ⟨.bl _, H, I, rfl, q⟩)
theorem oc_le {K : PySem.W.Frag} : OpC K (fun x y H Q => rI0 (fun i j => .bl (decide (i ≤ j))) x y H Q ∨ rDat K (fun d e => !PySem.W.dataLt e d) x y H Q) dLe := by
  intro x y dx dy b H Q rx ry h q
  unfold dLe at h
  split at h
  · cases (Option.some.inj h); exact .inl ⟨_, _, rx.int', ry.int', q⟩
  · obtain ⟨hc, e⟩ := ite_some h
    subst e
    have f := cmpOk_facts hc
    exact .inr ⟨dx, dy, rx.toDp f.1, ry.toDp f.2.1, hc, q⟩
def dGt : D → D → Option Bool
  | .int i, .int j => some (decide (j < i))
  | x, y => if cmpOk x y = true then some (PySem.W.dataLt y x) else none
theorem op_gtA {X : Cx} (hu : X.A.units + 64 < cLine) : OpR X (compareOp .Gt) (fun x y H Q => rI0 (fun i j => .bl (decide (j < i))) x y H Q ∨ rDat X.K (fun d e => PySem.W.dataLt e d) x y H Q) := op_gt.or (by
  intro pins s σ H x y v u Q I rx ry h
  obtain ⟨d, e, hd, he, ok, q⟩ := h
  obtain ⟨as, r1⟩ := Dp.reads I d x v hd rx
  obtain ⟨bs, r2⟩ := Dp.reads I e y u he ry
  have f := cmpOk_facts ok
  exact PySem.W.gt_data r1 r2 f.2.2.1 f.2.2.2.1 (cmp_room hu f.2.2.2.2) ⟨.bl _, H, I, rfl, q⟩)
theorem oc_gt {K : PySem.W.Frag} : OpC K (fun x y H Q => rI0 (fun i j => .bl (decide (j < i))) x y H Q ∨ rDat K (fun d e => PySem.W.dataLt e d) x y H Q) dGt := by
  intro x y dx dy b H Q rx ry h q
  unfold dGt at h
  split at h
  · cases (Option.some.inj h); exact .inl ⟨_, _, rx.int', ry.int', q⟩
  · obtain ⟨hc, e⟩ := ite_some h
    subst e
    have f := cmpOk_facts hc
    exact .inr ⟨dx, dy, rx.toDp f.1, ry.toDp f.2.1, hc, q⟩
def dGe : D → D → Option Bool
  | .int i, .int j => some (decide (j ≤ i))
  | x, y => if cmpOk x y = true then some (!PySem.W.dataLt x y) else none
theorem op_geA {X : Cx} (hu : X.A.units + 64 < cLine) : OpR X (compareOp .GtE) (fun x y H Q => rI0 (fun i j => .bl (decide (j ≤ i))) x y H Q ∨ rDat X.K (fun d e => !PySem.W.dataLt d e) x y H Q) := op_ge.or (by
  intro pins s σ H x y v u Q I rx ry h
  obtain ⟨d, e, hd, he, ok, q⟩ := h
  obtain ⟨as, r1⟩ := Dp.reads I d x v hd rx
  obtain ⟨bs, r2⟩ := Dp.reads I e y u he ry
  have f := cmpOk_facts ok
  exact PySem.W.ge_data r1 r2 f.2.2.1 f.2.2.2.1 (cmp_room hu f.2.2.2.2) ⟨.bl _, H, I, rfl, q⟩)
theorem oc_ge {K : PySem.W.Frag} : OpC K (fun x y H Q => rI0 (fun i j => .bl (decide (j ≤ i))) x y H Q ∨ rDat K (fun d e => !PySem.W.dataLt d e) x y H Q) dGe := by
  intro x y dx dy b H Q rx ry h q
  unfold dGe at h
  split at h
  · cases (Option.some.inj h); exact .inl ⟨_, _, rx.int', ry.int', q⟩
  · obtain ⟨hc, e⟩ := ite_some h
    subst e
    have f := cmpOk_facts hc
    exact .inr ⟨dx, dy, rx.toDp f.1, ry.toDp f.2.1, hc, q⟩
def dEq (x y : D) : Option Bool := if (SeqAt.shaped x && SeqAt.shaped y) = true then some (PyData.eqv x y) else none
def dNe (x y : D) : Option Bool := if (SeqAt.shaped x && SeqAt.shaped y) = true then some (!PyData.eqv x y) else none
theorem oc_eq : OpC K (rEqD K) dEq := by
  intro x y dx dy b H Q rx ry h q
  obtain ⟨hc, e⟩ := ite_some h
  subst e
  rw [Bool.and_eq_true] at hc
  exact ⟨dx, dy, rx.toDp (SeqAt.canLay_of_shaped hc.1), ry.toDp (SeqAt.canLay_of_shaped hc.2), hc.1, hc.2, q⟩
theorem oc_ne : OpC K (rNeD K) dNe := by
  intro x y dx dy b H Q rx ry h q
  obtain ⟨hc, e⟩ := ite_some h
  subst e
  rw [Bool.and_eq_true] at hc
  exact ⟨dx, dy, rx.toDp (SeqAt.canLay_of_shaped hc.1), ry.toDp (SeqAt.canLay_of_shaped hc.2), hc.1, hc.2, q⟩
/-! is None -/
def isNon : D → Bool
  | .none => true
  | _ => false
def eIsN (f : FE) : FE := fun ρ => o1 (f ρ) fun d => some (.bool (isNon d))
def eNotN (f : FE) : FE := fun ρ => o1 (f ρ) fun d => some (.bool (!isNon d))
theorem R.isNon {H : Hp} {v : V} {d : D} (h : R K H v d) : decide (v = V.non) = DS.isNon d := by
  cases h <;> rfl
theorem qe_isN {j pos'} (ha : PE X a (tD K (.br 1) fa ca)) : PE X (.Compare a [.Is] [.Constant .none j pos'] pos) (tD K κ (eIsN fa) []) := (pe_cmp (pc_isN ha) rfl).imp fun σ H Q ⟨B, L, ρ, d, g, es, hf, q⟩ => by
  obtain ⟨k, h1, h2⟩ := o1_some hf
  cases (Option.some.inj h2)
  exact ⟨[], _, ρ, k, g.zero, .zero, h1, fun x H1 s1 p1 => show Q _ H1 from (RL.r0 p1).isNon ▸ q _ H1 s1 (Post.of_flat (.bl _) rfl)⟩
theorem qe_notN {j pos'} (ha : PE X a (tD K (.br 1) fa ca)) : PE X (.Compare a [.IsNot] [.Constant .none j pos'] pos) (tD K κ (eNotN fa) []) := (pe_cmp (pc_notN ha) rfl).imp fun σ H Q ⟨B, L, ρ, d, g, es, hf, q⟩ => by
  obtain ⟨k, h1, h2⟩ := o1_some hf
  cases (Option.some.inj h2)
  exact ⟨[], _, ρ, k, g.zero, .zero, h1, fun x H1 s1 p1 => show Q _ H1 from (RL.r0 p1).isNon ▸ q _ H1 s1 (Post.of_flat (.bl _) rfl)⟩
/-! is True, is False -/
/-! in: a list of any trees; a tuple of flat ones -/
def scal1 : D → Bool
  | .none => true
  | .bool _ => true
  | .int _ => true
  | .str _ => true
  | _ => false
def dIn : D → D → Option Bool
  | x, .list ds => if (SeqAt.shaped x && SeqAt.shaped (.list ds)) = true then some (ds.any fun z => PyData.eqv z x) else none
  | x, .tuple ds => if (scal1 x && ds.all scal1) = true then some (ds.any fun z => PyData.eqv z x) else none
  | _, _ => none
def dNotIn (x y : D) : Option Bool := o1 (dIn x y) fun b => some (!b)
theorem R.flatV {H : Hp} {v : V} {d : D} (h : R K H v d) (f : scal1 d = true) : L2.flatV v = true := by
  cases h <;> first | rfl | cases f
theorem RA.flatV {H : Hp} : ∀ {v : List V} {d : List D}, RA K H v d → d.all scal1 = true → v.all L2.flatV = true
  | _, _, .nil, _ => rfl
  | _, _, .cons h t, f => by
    rw [List.all_cons, Bool.and_eq_true] at f ⊢
    exact ⟨h.flatV f.1, RA.flatV t f.2⟩
theorem eqV_eqv {H : Hp} {v w : V} {d e : D} (h : R K H v d) (h' : R K H w e) (f : scal1 d = true) (f' : scal1 e = true) : eqV v w = PyData.eqv d e := by
  cases h <;> first | (cases f; done) | (cases h' <;> first | (cases f'; done) | rfl | simp [eqV, PyData.eqv])
theorem any_eqv {H : Hp} {w : V} {e : D} (h' : R K H w e) (f' : scal1 e = true) : ∀ {v : List V} {d : List D}, RA K H v d → d.all scal1 = true → (v.any fun y => eqV y w) = d.any fun z => PyData.eqv z e
  | _, _, .nil, _ => rfl
  | _, _, .cons h t, f => by
    rw [List.all_cons, Bool.and_eq_true] at f
    rw [List.any_cons, List.any_cons, any_eqv h' f' t f.2, eqV_eqv h h' f.1 f']
theorem oc_in : OpC K (fun x y H Q => rInD K x y H Q ∨ rIn K false x y H Q) dIn := by
  intro x y dx dy b H Q rx ry h q
  unfold dIn at h
  split at h
  · obtain ⟨hc, e⟩ := ite_some h
    subst e
    have hc := (Bool.and_eq_true _ _).mp hc
    exact .inl ⟨dx, _, rx.toDp (SeqAt.canLay_of_shaped hc.1), ry.toDp (SeqAt.canLay_of_shaped hc.2), hc.1, hc.2, q⟩
  · obtain ⟨hc, e⟩ := ite_some h
    subst e
    have hc := (Bool.and_eq_true _ _).mp hc
    cases ry with
    | tup h1 h2 =>
      refine .inr ⟨_, _, rfl, .inr (.inl (.inl h1)), rx.flatV hc.1, h2.flatV hc.2, ?_⟩
      rw [if_neg (by decide)]
      unfold inV
      rw [any_eqv rx hc.1 h2 hc.2]
      exact q
  · cases h
theorem oc_notIn : OpC K (fun x y H Q => rNotInD K x y H Q ∨ rIn K true x y H Q) dNotIn := by
  intro x y dx dy b H Q rx ry h q
  obtain ⟨c, h', e⟩ := o1_some h
  clear h
  cases (Option.some.inj e)
  have h := h'
  unfold dIn at h
  split at h
  · obtain ⟨hc, e⟩ := ite_some h
    subst e
    have hc := (Bool.and_eq_true _ _).mp hc
    exact .inl ⟨dx, _, rx.toDp (SeqAt.canLay_of_shaped hc.1), ry.toDp (SeqAt.canLay_of_shaped hc.2), hc.1, hc.2, q⟩
  · obtain ⟨hc, e⟩ := ite_some h
    subst e
    have hc := (Bool.and_eq_true _ _).mp hc
    cases ry with
    | tup h1 h2 =>
      refine .inr ⟨_, _, rfl, .inr (.inl (.inl h1)), rx.flatV hc.1, h2.flatV hc.2, ?_⟩
      rw [if_pos rfl]
      unfold inV
      rw [any_eqv rx hc.1 h2 hc.2]
      exact q
  · cases h
end

/-! ### truth, and, or, not -/
def dTru : D → Option Bool
  | .none => some false
  | .bool b => some b
  | .int i => some (i != 0)
  | .str y => if y.length ≤ sz then some ((y.length : Int) != 0) else none
  | .list ds => some !ds.isEmpty
  | .tuple ds => some !ds.isEmpty
  | .dict _ => none
def tTru (f : FE) : FT := fun ρ => o1 (f ρ) dTru
def tAndD (f g : FT) : FT := fun ρ => match f ρ with
  | none => none
  | some true => g ρ
  | some false => some false
def tOrD (f g : FT) : FT := fun ρ => match f ρ with
  | none => none
  | some true => some true
  | some false => g ρ
def tNotD (f : FT) : FT := fun ρ => o1 (f ρ) fun b => some !b
def eAndD (f g : FE) : FE := fun ρ => match f ρ with
  | none => none
  | some d => match dTru d with
    | none => none
    | some true => g ρ
    | some false => some d
def eOrD (f g : FE) : FE := fun ρ => match f ρ with
  | none => none
  | some d => match dTru d with
    | none => none
    | some true => some d
    | some false => g ρ
def eIfD (c : FT) (f g : FE) : FE := fun ρ => match c ρ with
  | none => none
  | some true => f ρ
  | some false => g ρ
section
variable {X : Cx} {K : PySem.W.Frag} {κ : Mo} {pos : Pos} {a b : Expr} {fa fb : FE} {ca cb : Esc} {f g : FT} {rest : List Expr}
theorem RA.isEmpty {H : Hp} {v : List V} {d : List D} (h : RA K H v d) : (!v.isEmpty) = !d.isEmpty := by
  cases h <;> rfl
theorem tru_of {H : Hp} {v : V} {d : D} {k : Bool} (h : R K H v d) (e : dTru d = some k) : TruV K v H k := by
  cases h with
  | non => exact (Option.some.inj e).symm
  | bl b => exact (Option.some.inj e).symm
  | int i => exact (Option.some.inj e).symm
  | str x =>
    obtain ⟨h1, h2⟩ := ite_some e
    exact ⟨by rw [sz_eq]; exact h1, h2.symm⟩
  | lst h1 h2 => exact .inl ⟨_, SqL.of h1, by rw [h2.isEmpty]; exact (Option.some.inj e).symm⟩
  | tup h1 h2 => exact .inr (.inl ⟨_, .inl (.inl h1), by rw [h2.isEmpty]; exact (Option.some.inj e).symm⟩)
  | frz _ _ => cases e
  | rng _ => cases e
  | dk _ _ => cases e
  | dt _ _ => cases e
theorem qt_tru (ha : PE X a (tD K (.br 1) fa ca)) (he : ∀ whole, isTrue a X.env whole = (do let v ← whole; standAt a.pos; holding [v] (truthy v))) (hX : X.K = K := by rfl) : PT X a (tT K (tTru fa)) := (pt_truth ha he).imp fun σ H Q ⟨B, L, ρ, k, g, hf, q⟩ => by
  subst hX
  obtain ⟨d, h1, h2⟩ := o1_some hf
  exact ⟨[], _, ρ, d, g.zero, .zero, h1, fun x H1 s1 p1 => ⟨k, tru_of (RL.r0 p1) h2, q H1 s1⟩⟩
/-- a bool's own test -/
def dBl : D → Option Bool
  | .bool b => some b
  | _ => none
theorem qt_not (h : PT X a (tT K f)) : PT X (.UnaryOp .Not a pos) (tT K (tNotD f)) := (pt_not h).imp fun σ H Q ⟨B, L, ρ, k, g, hf, q⟩ => by
  obtain ⟨c, h1, h2⟩ := o1_some hf
  cases (Option.some.inj h2)
  exact ⟨B, L, ρ, c, g, h1, fun H1 s1 => q H1 s1⟩
theorem qw_and1 (ha : PT X a (tT K f)) : PW X (.BoolOp .And [a] pos) (tT K f) := pw_and1 ha
theorem qw_or1 (ha : PT X a (tT K f)) : PW X (.BoolOp .Or [a] pos) (tT K f) := pw_or1 ha
theorem qw_and (ha : PT X a (tT K f)) (hb : PW X (.BoolOp .And (b :: rest) pos) (tT K g)) : PW X (.BoolOp .And (a :: b :: rest) pos) (tT K (tAndD f g)) := (pw_and ha hb).imp fun σ H Q ⟨B, L, ρ, k, gd, hf, q⟩ => by
  unfold tAndD at hf
  split at hf
  · cases hf
  · exact ⟨B, L, ρ, true, gd, by assumption, fun H1 s1 => iteT <| ⟨B, L, ρ, k, gd.mono s1, hf, fun H2 s2 => q H2 (s1.trans s2)⟩⟩
  · cases (Option.some.inj hf)
    exact ⟨B, L, ρ, false, gd, by assumption, fun H1 s1 => iteF <| q H1 s1⟩
theorem qw_or (ha : PT X a (tT K f)) (hb : PW X (.BoolOp .Or (b :: rest) pos) (tT K g)) : PW X (.BoolOp .Or (a :: b :: rest) pos) (tT K (tOrD f g)) := (pw_or ha hb).imp fun σ H Q ⟨B, L, ρ, k, gd, hf, q⟩ => by
  unfold tOrD at hf
  split at hf
  · cases hf
  · cases (Option.some.inj hf)
    exact ⟨B, L, ρ, true, gd, by assumption, fun H1 s1 => iteT <| q H1 s1⟩
  · exact ⟨B, L, ρ, false, gd, by assumption, fun H1 s1 => iteF <| ⟨B, L, ρ, k, gd.mono s1, hf, fun H2 s2 => q H2 (s1.trans s2)⟩⟩
theorem qe_if {c : Expr} (hc : PT X c (tT K f)) (ha : PE X a (tD K κ fa ca)) (hb : PE X b (tD K κ fb cb)) : PE X (.IfExp c a b pos) (tD K κ (eIfD f fa fb) (ca ++ cb)) := (pe_ifExp hc ha hb).imp fun σ H Q ⟨B, L, ρ, d, g, es, hf, q⟩ => by
  have fr : ∀ {H1 H' : Hp} {v : V}, Same H H1 → Post K B H1 H' κ v d → Post K B H H' κ v d := fun {H1 H' v} s p => by
    cases κ with
    | br m => exact p
    | fr =>
      obtain ⟨o, h1, h2, h3⟩ := p
      exact ⟨o, fun a z => s.free (h1 a z), h2, h3⟩
    | fr2 =>
      obtain ⟨o, h1, h2, h3⟩ := p
      exact ⟨o, fun a z => s.free (h1 a z), h2, h3⟩
  unfold eIfD at hf
  split at hf
  · cases hf
  · exact ⟨B, L, ρ, true, g, by assumption, fun H1 s1 => iteT <| ⟨B, L, ρ, d, g.mono s1, es.left, hf, fun v H2 s2 p => q v H2 (s1.trans s2) (fr s1 p)⟩⟩
  · exact ⟨B, L, ρ, false, g, by assumption, fun H1 s1 => iteF <| ⟨B, L, ρ, d, g.mono s1, es.right, hf, fun v H2 s2 p => q v H2 (s1.trans s2) (fr s1 p)⟩⟩
/-- as values: read at any freedom -/
theorem qe_one {op} {m : Nat} (h : PE X a (tD K (.br m) fa ca)) : PE X (.BoolOp op [a] pos) (tD K (.br m) fa ca) := pe_one h
theorem qe_and {m : Nat} (ha : PE X a (tD K (.br m) fa ca)) (hb : PE X (.BoolOp .And (b :: rest) pos) (tD K (.br m) fb cb)) (hX : X.K = K := by rfl) : PE X (.BoolOp .And (a :: b :: rest) pos) (tD K (.br m) (eAndD fa fb) (ca ++ cb)) :=
  (pe_andT ha hb).imp fun σ H Q ⟨B, L, ρ, d, g, es, hf, q⟩ => by
  subst hX
  unfold eAndD at hf
  split at hf
  · cases hf
  · rename_i d' h1
    split at hf
    · cases hf
    · rename_i h2
      exact ⟨B, L, ρ, _, g, es.left, h1, fun x H1 s1 p1 => ⟨true, tru_of (RL.open p1) h2, iteT <| ⟨B, L, ρ, d, g.mono s1, es.right, hf, fun v H2 s2 p => q v H2 (s1.trans s2) p⟩⟩⟩
    · rename_i h2
      cases (Option.some.inj hf)
      exact ⟨B, L, ρ, _, g, es.left, h1, fun x H1 s1 p1 => ⟨false, tru_of (RL.open p1) h2, iteF <| q x H1 s1 p1⟩⟩
theorem qe_or {m : Nat} (ha : PE X a (tD K (.br m) fa ca)) (hb : PE X (.BoolOp .Or (b :: rest) pos) (tD K (.br m) fb cb)) (hX : X.K = K := by rfl) : PE X (.BoolOp .Or (a :: b :: rest) pos) (tD K (.br m) (eOrD fa fb) (ca ++ cb)) :=
  (pe_orT ha hb).imp fun σ H Q ⟨B, L, ρ, d, g, es, hf, q⟩ => by
  subst hX
  unfold eOrD at hf
  split at hf
  · cases hf
  · rename_i d' h1
    split at hf
    · cases hf
    · rename_i h2
      cases (Option.some.inj hf)
      exact ⟨B, L, ρ, _, g, es.left, h1, fun x H1 s1 p1 => ⟨true, tru_of (RL.open p1) h2, iteT <| q x H1 s1 p1⟩⟩
    · rename_i h2
      exact ⟨B, L, ρ, _, g, es.left, h1, fun x H1 s1 p1 => ⟨false, tru_of (RL.open p1) h2, iteF <| ⟨B, L, ρ, d, g.mono s1, es.right, hf, fun v H2 s2 p => q v H2 (s1.trans s2) p⟩⟩⟩
theorem qe_not (ha : PE X a (tD K (.br 1) fa ca)) (hX : X.K = K := by rfl) : PE X (.UnaryOp .Not a pos) (tD K κ (eB (tNotD (tTru fa))) []) := (pe_notT ha).imp fun σ H Q ⟨B, L, ρ, d, g, es, hf, q⟩ => by
  subst hX
  obtain ⟨k, h1, h2⟩ := o1_some hf
  cases (Option.some.inj h2)
  obtain ⟨c, h3, h4⟩ := o1_some h1
  cases (Option.some.inj h4)
  obtain ⟨e, h5, h6⟩ := o1_some h3
  exact ⟨[], _, ρ, e, g.zero, .zero, h5, fun x H1 s1 p1 => ⟨c, tru_of (RL.r0 p1) h6, q _ H1 s1 (Post.of_flat (.bl _) rfl)⟩⟩
end

/-! ### subscripts -/
def dIx : D → D → Option D
  | .list ds, .int i => atI ds i
  | .tuple ds, .int i => atI ds i
  | .dict ((.none, .list ds) :: _), .int i => atI ds i
  | _, _ => none
def eIx (f g : FE) : FE := fun ρ => o2 (f ρ) (g ρ) dIx
section
variable {X : Cx} {K : PySem.W.Frag} {κ : Mo} {pos : Pos} {a b : Expr} {fa fb : FE} {ca cb : Esc}
theorem at_len {xs : List V} {ds : List D} {i : Int} {d : D} (hl : xs.length = ds.length) (h : atI ds i = some d) : ∃ (j : Nat) (x : V), atI xs i = some x ∧ xs[j]? = some x ∧ ds[j]? = some d := by
  unfold atI at h
  obtain ⟨j, h1, h2⟩ := Option.bind_eq_some_iff.mp h
  obtain ⟨hj, _⟩ := List.getElem?_eq_some_iff.mp h2
  have hj' : j < xs.length := by omega
  refine ⟨j, xs[j], ?_, List.getElem?_eq_getElem hj', h2⟩
  unfold atI
  rw [hl, h1]
  exact List.getElem?_eq_getElem hj'
theorem RK.key {H : Hp} {kvs : List (Key × V)} {k e : D} {r : List (D × D)} (h : RK K H kvs ((k, e) :: r)) : k ≠ .none := by
  cases h with
  | cons _ _ =>
    rename_i k _ _ _ _
    cases k <;> simp [keyD]
theorem RT.key {H : Hp} {kvs : List (List Key × V)} {k e : D} {r : List (D × D)} (h : RT K H kvs ((k, e) :: r)) : k ≠ .none := by
  cases h with
  | cons _ _ => simp
theorem RL.frz {B : List Addr} {H : Hp} {m : Nat} {v : V} {e : List D} {r : List (D × D)} (h : RL K B H m v (.dict ((.none, .list e) :: r))) : ∃ a xs ds, v = .ref a ∧ (.list e : D) = .list ds ∧ SqL K H a xs ∧ RA K (hid B H) xs ds := by
  generalize hd : PyData.dict ((PyData.none, PyData.list e) :: r) = d at h
  cases h with
  | z h =>
    cases h with
    | frz h1 h2 =>
      simp at hd
      exact ⟨_, _, _, rfl, congrArg PyData.list hd.1, (same_unhid (B := B)).seq h1, h2⟩
    | dk _ h2 =>
      cases hd
      exact absurd rfl h2.key
    | dt _ h2 =>
      cases hd
      exact absurd rfl h2.key
    | _ => cases hd
  | l => cases hd
  | dk _ h2 =>
    cases hd
    exact absurd rfl h2.key
  | dt _ h2 =>
    cases hd
    exact absurd rfl h2.key
theorem qe_ix {m : Nat} (ha : PE X a (tD K (.br (m + 1)) fa ca)) (hb : PE X b (tD K (.br 1) fb cb)) (hs : PlainIx b) (hX : X.K = K := by rfl) : PE X (.Subscript a b pos) (tD K (.br m) (eIx fa fb) ca) := (pe_ix ix_seq ha hb hs).imp fun σ H Q ⟨B, L, ρ, d, g, es, hf, q⟩ => by
  subst hX
  obtain ⟨dx, dy, h1, h2, h3⟩ := o2_some hf
  refine ⟨B, L, ρ, dx, g, es, h1, fun x H1 s1 p1 => ⟨[], _, ρ, dy, (g.mono s1).zero, .zero, h2, fun y H2 s2 p2 => ?_⟩⟩
  have p1 : RL X.K B H2 (m + 1) x dx := RL.mono s2 (same_hid s2) p1
  unfold dIx at h3
  split at h3
  · obtain ⟨p, xs, rfl, e1, e2, e3⟩ := p1.list
    obtain ⟨j, z, f1, f2, f3⟩ := at_len e2 h3
    exact .inl ⟨p, xs, _, z, rfl, RL.int p2, SqL.of e1, f1, q z H2 (s1.trans s2) (e3 j z d f2 f3)⟩
  · obtain ⟨p, xs, rfl, e1, _, e3⟩ := p1.tup
    obtain ⟨j, z, f1, f2, f3⟩ := at_len e3.length h3
    obtain ⟨z', f4, f5⟩ := e3.get f3
    rw [f2] at f4; cases f4
    exact .inr (.inl ⟨p, xs, _, z, rfl, RL.int p2, e1, f1, q z H2 (s1.trans s2) (.z f5)⟩)
  · rename_i ds r i
    obtain ⟨p, xs, ds', rfl, e0, e1, e3⟩ := p1.frz
    cases e0
    obtain ⟨j, z, f1, f2, f3⟩ := at_len e3.length h3
    obtain ⟨z', f4, f5⟩ := e3.get f3
    rw [f2] at f4; cases f4
    exact .inl ⟨_, _, _, z, rfl, RL.int p2, e1, f1, q z H2 (s1.trans s2) (.z f5)⟩
  · cases h3
end
end DS
end

section
set_option Elab.async false
set_option linter.all false
set_option maxRecDepth 100000
/-! Part e: calls. -/
namespace DS
open PySem PySem.Spec PyProof.Rows L2

/-! ### a def of the program as a function on trees -/
abbrev Fn := List D → Option D
def spD (K : PySem.W.Frag) (n : Nat) (F : Fn) : Sp := fun vs H Q _ => ∃ B ds d, Ok B H ∧ RA K (hid B H) vs ds ∧ ds.length = n ∧ F ds = some d ∧ ∀ v H', Same H H' → R K (hid B H') v d → Q v H'
theorem spD_len {K : PySem.W.Frag} {n : Nat} {F : Fn} : ∀ vs H Q E, spD K n F vs H Q E → vs.length = n := fun vs H Q E ⟨B, ds, d, _, h2, h3, _⟩ => by
  rw [h2.length, h3]
def eCall (n : Nat) (F : Fn) (fs : FA) : FE := fun ρ => o1 (fs ρ) fun ds => if ds.length = n then F ds else none
section
variable {X : Cx} {K : PySem.W.Frag} {κ : Mo} {p pos : Pos} {e : Expr} {es : List Expr} {fs : FA} {c : Esc} {k n m : Nat} {f : Addr} {fd : FuncData} {ps : List Str} {F : Fn} {x : Str}
theorem qe_call (G : FnOk X.prog X.w X.K X.mg X.base CX0 k f fd ps (spD K n F)) (hr : Room k X.A) (hg : Gl X x) (hm : X.mg x = some (.ref f)) (hk : PySem.W.keepIn X.K (.ref f) = true) (hb : Binds X.K fd ps [])
    (ha : PA X (e :: es) (tDA K 0 fs c)) (hdb : (x == ("__debug__" : Str)) = false := by decide) (he : starEach (e :: es) X.env = (false, eval e X.env) :: starEach es X.env := by rfl) (hpl : (backTo pos (starEach es X.env)).any (·.1) = false := by rfl) :
    PE X (.Call (.Name x p) (e :: es) [] pos) (tD K (.br m) (eCall n F fs) c) := (pe_call (E := E0) G hr hg hm hk hb .nil pass0 ha hdb he hpl).imp fun σ H Q ⟨B, L, ρ, d, g, es, hf, q⟩ => by
  obtain ⟨ds, h1, h2⟩ := o1_some hf
  have hn : ds.length = n := by
    split at h2
    · assumption
    · cases h2
  rw [if_pos hn] at h2
  refine ⟨B, L, ρ, ds, g, es, h1, fun vs H1 s1 hl p1 => ?_⟩
  show spD K n F (vs ++ []) H1 Q E0
  rw [List.append_nil]
  exact ⟨B, ds, d, g.ok.mono s1, RA.of_get hl fun i x y e1 e2 => (p1 i x y e1 e2).r, hn, h2, fun v H' s2 r => q v H' (s1.trans s2) (.z r)⟩
end

/-! ### built-ins -/
/-- a built-in on values does what op does on trees; the answer is flat -/
def CallF (K : PySem.W.Frag) (r : List V → Hp → VK → Prop) (op : List D → Option D) : Prop := ∀ (vs : List V) (ds : List D) (d : D) (H : Hp) (Q : VK), RA K H vs ds → op ds = some d → (∀ v, R K H v d → flat d = true → Q v H) → r vs H Q
/-- .. makes something new -/
def CallD (K : PySem.W.Frag) (r : List V → Hp → VK → Prop) (op : List D → Option D) : Prop := ∀ (B : List Addr) (vs : List V) (ds : List D) (d : D) (H : Hp) (Q : VK), Ok B H → vs.length = ds.length → (∀ (i : Nat) (x : V) (y : D), vs[i]? = some x → ds[i]? = some y → RL K B H 1 x y) → op ds = some d →
  (∀ v H', Same H H' → (∀ κ : Mo, κ.one = true → Post K B H H' κ v d) → Q v H') → r vs H Q
def eCB (op : List D → Option D) (fs : FA) : FE := fun ρ => o1 (fs ρ) op
section
variable {X : Cx} {K : PySem.W.Frag} {κ : Mo} {p pos : Pos} {e : Expr} {es : List Expr} {fs : FA} {c : Esc} {x : Str} {id T : String} {r : List V → Hp → VK → Prop} {op : List D → Option D}
theorem flat_top {d : D} (h : flat d = true) : isTop d = false := by
  cases d <;> first | rfl | cases h
theorem cbF (hd : CallF K r op) {t : TE} (ht : t = tCB r (tDA K 1 fs c)) : ∀ σ H Q, tD K κ (eCB op fs) [] σ H Q → t σ H Q := by
  subst ht
  intro σ H Q ⟨B, L, ρ, d, g, es, hf, q⟩
  obtain ⟨ds, h1, h2⟩ := o1_some hf
  exact ⟨[], _, ρ, ds, g.zero, .zero, h1, fun vs H1 s1 hl p1 => hd vs ds d H1 Q (RA.of_get hl fun i x y e1 e2 => RL.r0 (p1 i x y e1 e2)) h2 fun v rv fl => q v H1 s1 (Post.of_flat (rv.hidF (g.ok.mono s1).noTup fl) (flat_top fl))⟩
theorem cbD (hd : CallD K r op) (hκ : κ.one = true) {t : TE} (ht : t = tCB r (tDA K 1 fs c)) : ∀ σ H Q, tD K κ (eCB op fs) c σ H Q → t σ H Q := by
  subst ht
  intro σ H Q ⟨B, L, ρ, d, g, es, hf, q⟩
  obtain ⟨ds, h1, h2⟩ := o1_some hf
  refine ⟨B, L, ρ, ds, g, es, h1, fun vs H1 s1 hl p1 => hd B vs ds d H1 Q (g.ok.mono s1) hl p1 h2 fun v H' s2 p2 => q v H' (s1.trans s2) ?_⟩
  have p := p2 κ hκ
  cases κ with
  | br m => exact p
  | fr =>
    obtain ⟨o, h1, h2, h3⟩ := p
    exact ⟨o, fun a z => s1.free (h1 a z), h2, h3⟩
  | fr2 => cases hκ
theorem qe_bF (hc : CallR X (.builtin id) r) (hd : CallF K r op) (hg : Gl X x) (hm : X.mg x = none) (hv : bootBuiltins x = some (.builtin id)) (ha : PA X (e :: es) (tDA K 1 fs c)) (hn : x ≠ "__name__" := by decide) (hdb : (x == ("__debug__" : Str)) = false := by decide)
    (he : starEach (e :: es) X.env = (false, eval e X.env) :: starEach es X.env := by rfl) (hpl : (backTo pos (starEach es X.env)).any (·.1) = false := by rfl) : PE X (.Call (.Name x p) (e :: es) [] pos) (tD K κ (eCB op fs) []) :=
  (pe_callB hc hg hm hv ha hn hdb he hpl).imp (cbF hd rfl)
theorem qe_bD (hc : CallR X (.builtin id) r) (hd : CallD K r op) (hg : Gl X x) (hm : X.mg x = none) (hv : bootBuiltins x = some (.builtin id)) (ha : PA X (e :: es) (tDA K 1 fs c)) (hκ : κ.one = true := by rfl) (hn : x ≠ "__name__" := by decide) (hdb : (x == ("__debug__" : Str)) = false := by decide)
    (he : starEach (e :: es) X.env = (false, eval e X.env) :: starEach es X.env := by rfl) (hpl : (backTo pos (starEach es X.env)).any (·.1) = false := by rfl) : PE X (.Call (.Name x p) (e :: es) [] pos) (tD K κ (eCB op fs) c) :=
  (pe_callB hc hg hm hv ha hn hdb he hpl).imp (cbD hd hκ rfl)
theorem qe_tF (hc : CallR X (.type T) r) (hd : CallF K r op) (hg : Gl X x) (hm : X.mg x = none) (hv : bootBuiltins x = some (.type T)) (ha : PA X (e :: es) (tDA K 1 fs c)) (hn : x ≠ "__name__" := by decide) (hdb : (x == ("__debug__" : Str)) = false := by decide)
    (he : starEach (e :: es) X.env = (false, eval e X.env) :: starEach es X.env := by rfl) (hpl : (backTo pos (starEach es X.env)).any (·.1) = false := by rfl) : PE X (.Call (.Name x p) (e :: es) [] pos) (tD K κ (eCB op fs) []) :=
  (pe_callTy hc hg hm hv ha hn hdb he hpl).imp (cbF hd rfl)
theorem qe_tD (hc : CallR X (.type T) r) (hd : CallD K r op) (hg : Gl X x) (hm : X.mg x = none) (hv : bootBuiltins x = some (.type T)) (ha : PA X (e :: es) (tDA K 1 fs c)) (hκ : κ.one = true := by rfl) (hn : x ≠ "__name__" := by decide) (hdb : (x == ("__debug__" : Str)) = false := by decide)
    (he : starEach (e :: es) X.env = (false, eval e X.env) :: starEach es X.env := by rfl) (hpl : (backTo pos (starEach es X.env)).any (·.1) = false := by rfl) : PE X (.Call (.Name x p) (e :: es) [] pos) (tD K κ (eCB op fs) c) :=
  (pe_callTy hc hg hm hv ha hn hdb he hpl).imp (cbD hd hκ rfl)
end
/-! one argument -/
def d1 (op : D → Option D) : List D → Option D
  | [x] => op x
  | _ => none
def d2 (op : D → D → Option D) : List D → Option D
  | [x, y] => op x y
  | _ => none
theorem d1_some {op : D → Option D} {ds : List D} {d : D} (h : d1 op ds = some d) : ∃ x, ds = [x] ∧ op x = some d := by
  unfold d1 at h
  split at h
  · exact ⟨_, rfl, h⟩
  · cases h
theorem d2_some {op : D → D → Option D} {ds : List D} {d : D} (h : d2 op ds = some d) : ∃ x y, ds = [x, y] ∧ op x y = some d := by
  unfold d2 at h
  split at h
  · exact ⟨_, _, rfl, h⟩
  · cases h
section
variable {K : PySem.W.Frag} {H : Hp} {B : List Addr}
theorem RA.one {vs : List V} {x : D} (h : RA K H vs [x]) : ∃ v, vs = [v] ∧ R K H v x := by
  cases h with
  | cons h t => cases t; exact ⟨_, rfl, h⟩
theorem RA.two {vs : List V} {x y : D} (h : RA K H vs [x, y]) : ∃ v w, vs = [v, w] ∧ R K H v x ∧ R K H w y := by
  cases h with
  | cons h t =>
    cases t with
    | cons h' t => cases t; exact ⟨_, _, rfl, h, h'⟩
theorem one_of {vs : List V} {x : D} (hl : vs.length = [x].length) (h : ∀ (i : Nat) (v : V) (y : D), vs[i]? = some v → [x][i]? = some y → RL K B H 1 v y) : ∃ v, vs = [v] ∧ RL K B H 1 v x := by
  match vs, hl with
  | [v], _ => exact ⟨v, rfl, h 0 v x rfl rfl⟩
/-! len, int, abs, min, max, sum, all, any -/
def dLen : D → Option D
  | .list ds => some (.int ds.length)
  | .tuple ds => some (.int ds.length)
  | .dict ((.none, .list ds) :: _) => some (.int ds.length)
  | _ => none
theorem cf_len : CallF K (fun xs H Q => ∃ p ys, xs = [.ref p] ∧ (SqL K H p ys ∨ SqT K H p ys) ∧ Q (.int ys.length) H) (d1 dLen) := by
  intro vs ds d H Q r h q
  obtain ⟨x, rfl, h'⟩ := d1_some h
  clear h
  have h := h'
  clear h'
  obtain ⟨v, rfl, rv⟩ := r.one
  unfold dLen at h
  split at h
  · cases rv with
    | lst h1 h2 =>
      cases (Option.some.inj h)
      exact ⟨_, _, rfl, .inl (SqL.of h1), by rw [h2.length]; exact q _ (.int _) rfl⟩
  · cases rv with
    | tup h1 h2 =>
      cases (Option.some.inj h)
      exact ⟨_, _, rfl, .inr (.inl (.inl h1)), by rw [h2.length]; exact q _ (.int _) rfl⟩
  · obtain ⟨a, xs, ds, rfl, e, h1, h2⟩ := RL.frz (B := []) (m := 0) (.z (by rw [hid_nil]; exact rv))
    cases e
    cases (Option.some.inj h)
    exact ⟨_, _, rfl, .inl h1, by rw [h2.length]; exact q _ (.int _) rfl⟩
  · cases h
def dInt : D → Option D
  | .int i => some (.int i)
  | .bool b => some (.int (if b then 1 else 0))
  | _ => none
theorem cf_int : CallF K (fun xs H Q => (∃ i, xs = [.int i] ∧ Q (.int i) H) ∨ ∃ k, xs = [.bl k] ∧ Q (.int (if k then 1 else 0)) H) (d1 dInt) := by
  intro vs ds d H Q r h q
  obtain ⟨x, rfl, h'⟩ := d1_some h
  clear h
  have h := h'
  clear h'
  obtain ⟨v, rfl, rv⟩ := r.one
  unfold dInt at h
  split at h
  · cases (Option.some.inj h)
    exact .inl ⟨_, by rw [rv.int'], q _ (.int _) rfl⟩
  · cases (Option.some.inj h)
    exact .inr ⟨_, by rw [rv.bl'], q _ (.int _) rfl⟩
  · cases h
def dAbs : D → Option D
  | .int i => some (.int (if i < 0 then -i else i))
  | _ => none
theorem cf_abs : CallF K (fun xs H Q => ∃ i, xs = [.int i] ∧ Q (.int (if i < 0 then -i else i)) H) (d1 dAbs) := by
  intro vs ds d H Q r h q
  obtain ⟨x, rfl, h'⟩ := d1_some h
  clear h
  have h := h'
  clear h'
  obtain ⟨v, rfl, rv⟩ := r.one
  unfold dAbs at h
  split at h
  · cases (Option.some.inj h)
    exact ⟨_, by rw [rv.int'], q _ (.int _) rfl⟩
  · cases h
def dMax2 : D → D → Option D
  | .int i, .int j => some (.int (if j > i then j else i))
  | _, _ => none
def dMin2 : D → D → Option D
  | .int i, .int j => some (.int (if j < i then j else i))
  | _, _ => none
theorem cf_max2 : CallF K (fun xs H Q => ∃ i j, xs = [.int i, .int j] ∧ Q (.int (if j > i then j else i)) H) (d2 dMax2) := by
  intro vs ds d H Q r h q
  obtain ⟨x, y, rfl, h'⟩ := d2_some h
  clear h
  have h := h'
  clear h'
  obtain ⟨v, w, rfl, rv, rw'⟩ := r.two
  unfold dMax2 at h
  split at h
  · cases (Option.some.inj h)
    exact ⟨_, _, by rw [rv.int', rw'.int'], q _ (.int _) rfl⟩
  · cases h
theorem cf_min2 : CallF K (fun xs H Q => ∃ i j, xs = [.int i, .int j] ∧ Q (.int (if j < i then j else i)) H) (d2 dMin2) := by
  intro vs ds d H Q r h q
  obtain ⟨x, y, rfl, h'⟩ := d2_some h
  clear h
  have h := h'
  clear h'
  obtain ⟨v, w, rfl, rv, rw'⟩ := r.two
  unfold dMin2 at h
  split at h
  · cases (Option.some.inj h)
    exact ⟨_, _, by rw [rv.int', rw'.int'], q _ (.int _) rfl⟩
  · cases h
/-- the ints of a list -/
def intsD : List D → Option (List Int)
  | [] => some []
  | .int i :: r => o1 (intsD r) fun is => some (i :: is)
  | _ => none
theorem intsD_some : ∀ {ds : List D} {is : List Int}, intsD ds = some is → ds = is.map PyData.int
  | [], is, h => by cases (Option.some.inj h); rfl
  | .int i :: r, is, h => by
    obtain ⟨js, h1, h2⟩ := o1_some (show o1 (intsD r) (fun is => some (i :: is)) = some is from h)
    cases (Option.some.inj h2)
    rw [intsD_some h1]; rfl
  | .none :: _, _, h => by cases h
  | .bool _ :: _, _, h => by cases h
  | .str _ :: _, _, h => by cases h
  | .list _ :: _, _, h => by cases h
  | .tuple _ :: _, _, h => by cases h
  | .dict _ :: _, _, h => by cases h
def bools : List D → Option (List Bool)
  | [] => some []
  | .bool i :: r => o1 (bools r) fun is => some (i :: is)
  | _ => none
theorem bools_some : ∀ {ds : List D} {is : List Bool}, bools ds = some is → ds = is.map PyData.bool
  | [], is, h => by cases (Option.some.inj h); rfl
  | .bool i :: r, is, h => by
    obtain ⟨js, h1, h2⟩ := o1_some (show o1 (bools r) (fun is => some (i :: is)) = some is from h)
    cases (Option.some.inj h2)
    rw [bools_some h1]; rfl
  | .none :: _, _, h => by cases h
  | .int _ :: _, _, h => by cases h
  | .str _ :: _, _, h => by cases h
  | .list _ :: _, _, h => by cases h
  | .tuple _ :: _, _, h => by cases h
  | .dict _ :: _, _, h => by cases h
def dSum : D → Option D
  | .list ds => o1 (intsD ds) fun is => some (.int is.sum)
  | .tuple ds => o1 (intsD ds) fun is => some (.int is.sum)
  | _ => none
/-- sum(xs) of a list or a tuple of ints -/
def rSumA (K : PySem.W.Frag) : List V → Hp → VK → Prop := fun vs H Q => ∃ (a : Addr) (ns : List Int), vs = [V.ref a] ∧ (SqL K H a (ns.map V.int) ∨ SqT K H a (ns.map V.int)) ∧ Q (.int ns.sum) H
theorem sum_rawT {prog : Program} {w : World} {A : Around} {E : Value → Shared → Prop} {s : Shared} {l : Addr} {its : List Value} {ns : List Int} {Q : Value → Shared → Prop} (hh : A.handled = none) (hl : s.heap.IsTuple l its.toArray) (hi : IntsAre its ns)
    (h : ∀ h' tk t', (∀ b o, s.heap.get? b = some o → h'.get? b = some o) → Q (.int ns.sum t') { s with heap := h', toks := tk }) : wpAny (model prog w) A (call (.builtin "sum") [.ref l]) Q E s := by
  obtain ⟨xs, e⟩ := hi.allInts.items
  have hn : numsOf (intItems xs).toList = ns := by rw [← e]; exact hi.numsOf
  rw [nums_intItems] at hn
  rw [e] at hl
  refine PySem.W.ktm_sumG hh hl fun h' tk t' hk => ?_
  have := h h' tk t' hk
  rw [preSum_eq, List.take_of_length_le (by simp), hn]; exact this
theorem cr_sumA {X : Cx} (hc : X.calm = true) : CallR X (.builtin "sum") (rSumA X.K) := by
  intro pins s σ H vs us Q I r h
  obtain ⟨a, ns, rfl, hs, q⟩ := h
  rw [Vals.ref1 r]
  rcases hs with hs | hs
  · obtain ⟨its, rv, hl, _⟩ := I.list hs
    exact sum_raw (I.ok.hd hc) hl.isList rv.ints fun h' tk t' hk => ⟨.int _, H, I.kept hk, ⟨_, rfl⟩, q⟩
  · obtain ⟨its, rv, hl, _⟩ := I.tuple hs
    exact sum_rawT (I.ok.hd hc) hl rv.ints fun h' tk t' hk => ⟨.int _, H, I.kept hk, ⟨_, rfl⟩, q⟩
theorem cf_sum : CallF K (rSumA K) (d1 dSum) := by
  intro vs ds d H Q r h q
  obtain ⟨x, rfl, h'⟩ := d1_some h
  clear h
  have h := h'
  clear h'
  obtain ⟨v, rfl, rv⟩ := r.one
  unfold dSum at h
  split at h
  · obtain ⟨is, h1, h2⟩ := o1_some h
    cases (Option.some.inj h2)
    cases rv with
    | lst e1 e2 =>
      rw [intsD_some h1] at e2
      have e3 := e2.ints
      subst e3
      exact ⟨_, _, rfl, .inl (SqL.of e1), q _ (.int _) rfl⟩
  · obtain ⟨is, h1, h2⟩ := o1_some h
    cases (Option.some.inj h2)
    cases rv with
    | tup e1 e2 =>
      rw [intsD_some h1] at e2
      have e3 := e2.ints
      subst e3
      exact ⟨_, _, rfl, .inr (.inl (.inl e1)), q _ (.int _) rfl⟩
  · cases h
def dAll : D → Option D
  | .list ds => o1 (bools ds) fun is => some (.bool (is.all id))
  | _ => none
def dAny : D → Option D
  | .list ds => o1 (bools ds) fun is => some (.bool (is.any id))
  | _ => none
theorem cf_all : CallF K (rAll K) (d1 dAll) := by
  intro vs ds d H Q r h q
  obtain ⟨x, rfl, h'⟩ := d1_some h
  clear h
  have h := h'
  clear h'
  obtain ⟨v, rfl, rv⟩ := r.one
  unfold dAll at h
  split at h
  · obtain ⟨is, h1, h2⟩ := o1_some h
    cases (Option.some.inj h2)
    cases rv with
    | lst e1 e2 =>
      rw [bools_some h1] at e2
      have e3 := e2.bools
      subst e3
      exact ⟨_, _, rfl, SqL.of e1, q _ (.bl _) rfl⟩
  · cases h
theorem cf_any : CallF K (rAny K) (d1 dAny) := by
  intro vs ds d H Q r h q
  obtain ⟨x, rfl, h'⟩ := d1_some h
  clear h
  have h := h'
  clear h'
  obtain ⟨v, rfl, rv⟩ := r.one
  unfold dAny at h
  split at h
  · obtain ⟨is, h1, h2⟩ := o1_some h
    cases (Option.some.inj h2)
    cases rv with
    | lst e1 e2 =>
      rw [bools_some h1] at e2
      have e3 := e2.bools
      subst e3
      exact ⟨_, _, rfl, SqL.of e1, q _ (.bl _) rfl⟩
  · cases h
/-! tuple(xs), list(xs) -/
def dTuple : D → Option D
  | .list ds => some (.tuple ds)
  | .tuple ds => some (.tuple ds)
  | _ => none
theorem cd_tuple : CallD K (fun xs H Q => ∃ p ys, xs = [.ref p] ∧ ((SqL K H p ys ∧ ∀ l, H l = none → Q (.ref l) (upd H l (.tup ys))) ∨ (SqT K H p ys ∧ Q (.ref p) H))) (d1 dTuple) := by
  intro B vs ds d H Q ok hl r h q
  obtain ⟨x, rfl, h'⟩ := d1_some h
  clear h
  have h := h'
  clear h'
  obtain ⟨v, rfl, rv⟩ := one_of hl r
  unfold dTuple at h
  split at h
  · cases (Option.some.inj h)
    obtain ⟨p, ys, rfl, h1, h2⟩ := rv.list1
    refine ⟨p, ys, rfl, .inl ⟨SqL.of h1, fun l hn => ?_⟩⟩
    have s := same_upd (o := HO.tup ys) hn
    refine q _ _ s fun κ _ => Post.of_flat (.tup (a := l) (xs := ys) ?_ (h2.mono (same_hid s))) rfl
    rw [hid_out (ok.trk.new hn), upd_same]
  · cases (Option.some.inj h)
    obtain ⟨p, ys, rfl, h1, h1', h2⟩ := rv.tup
    exact ⟨p, ys, rfl, .inr ⟨h1, q _ _ (Same.refl H) fun κ _ => Post.of_flat (.tup h1' h2) rfl⟩⟩
  · cases h
def dList : D → Option D
  | .list ds => some (.list ds)
  | .tuple ds => some (.list ds)
  | _ => none
theorem same_hidC {p : Addr} {o : HO} (hn : H p = none) : Same (hid B H) (hid (p :: B) (upd H p o)) := same_hidW (same_upd hn) fun b hb => by
  rcases List.mem_cons.mp hb with e | hb
  · rw [e]; exact .inr hn
  · exact .inl hb
theorem cd_list : CallD K (fun xs H Q => ∃ p ys, xs = [.ref p] ∧ (SqL K H p ys ∨ SqT K H p ys) ∧ ∀ l, H l = none → Q (.ref l) (upd H l (.lst ys))) (d1 dList) := by
  intro B vs ds d H Q ok hl r h q
  obtain ⟨x, rfl, h'⟩ := d1_some h
  clear h
  have h := h'
  clear h'
  obtain ⟨v, rfl, rv⟩ := one_of hl r
  unfold dList at h
  split at h
  · cases (Option.some.inj h)
    obtain ⟨p, ys, rfl, h1, h2⟩ := rv.list1
    exact ⟨p, ys, rfl, .inl (SqL.of h1), fun l hn => q _ _ (same_upd hn) fun κ hκ => Post.new ok.trk hn upd_same (h2.mono (same_hidC hn)) hκ⟩
  · cases (Option.some.inj h)
    obtain ⟨p, ys, rfl, h1, h1', h2⟩ := rv.tup
    exact ⟨p, ys, rfl, .inr h1, fun l hn => q _ _ (same_upd hn) fun κ hκ => Post.new ok.trk hn upd_same (h2.mono (same_hidC hn)) hκ⟩
  · cases h
end
/-! isinstance(x, T) -/
def isTy : D → String → Option Bool
  | .none, n => kitB "NoneType" n
  | .bool _, n => kitB "bool" n
  | .int _, n => kitB "int" n
  | .str _, n => kitB "str" n
  | .list _, n => kitB "list" n
  | .tuple _, n => kitB "tuple" n
  | .dict _, _ => none
def eIsi (n : String) (f : FE) : FE := fun ρ => o1 (f ρ) fun d => o1 (isTy d n) fun b => some (.bool b)
section
variable {X : Cx} {K : PySem.W.Frag} {κ : Mo} {p pos p2 : Pos} {a : Expr} {fa : FE} {c : Esc} {n : String} {y : Str}
theorem seqT_ty {H : Hp} {q : Addr} {xs : List V} (h : SqT K H q xs) : TyX K H (.ref q) (.type "tuple") := by
  rcases h with (h | ⟨o, h⟩) | ⟨o, its, n, h1, h2, _⟩
  · exact .base (.tup h)
  · exact .fTuple h
  · exact .kTuple h1 h2
theorem isTy_ok {H : Hp} {v : V} {d : D} {b : Bool} (r : R K H v d) (h : isTy d n = some b) : ∃ t, TyX K H v t ∧ PySem.W.kitOne K t (.type n) = some b := by
  cases r with
  | non => exact ⟨_, .base .non, kit_ty h⟩
  | bl x => exact ⟨_, .base (.bl x), kit_ty h⟩
  | int x => exact ⟨_, .base (.int x), kit_ty h⟩
  | str x => exact ⟨_, .base (.str x), kit_ty h⟩
  | lst h1 _ => exact ⟨_, .base (.lst h1), kit_ty h⟩
  | tup h1 _ => exact ⟨_, seqT_ty (.inl (.inl h1)), kit_ty h⟩
  | frz _ _ => cases h
  | rng _ => cases h
  | dk _ _ => cases h
  | dt _ _ => cases h
theorem qe_isi (hg : Gl X "isinstance") (hm : X.mg "isinstance" = none) (ha : PE X a (tD K (.br 1) fa c)) (hg2 : Gl X y) (hm2 : X.mg y = none) (hv2 : bootBuiltins y = some (.type n)) (hX : X.K = K := by rfl) (hn : y ≠ "__name__" := by decide) (hd : (y == ("__debug__" : Str)) = false := by decide)
    (he : starEach [a, .Name y p2] X.env = (false, eval a X.env) :: starEach [.Name y p2] X.env := by rfl) (he2 : starEach [.Name y p2] X.env = (false, eval (.Name y p2) X.env) :: starEach [] X.env := by rfl) (hpl : (backTo pos (starEach [.Name y p2] X.env)).any (·.1) = false := by rfl) :
    PE X (.Call (.Name "isinstance" p) [a, .Name y p2] [] pos) (tD K κ (eIsi n fa) []) := by
  subst hX
  refine (pe_callB call_isi hg hm (by decide +kernel) (pa_cons ha (pa_cons (pe_bltn (v := .ty n) hg2 hm2 hv2 rfl hn hd) pa_nil he2) he) (by decide) (by decide) he hpl).imp fun σ H Q ⟨B, L, ρ, d, g, es, hf, q⟩ => ?_
  obtain ⟨dx, h1, h2⟩ := o1_some hf
  obtain ⟨b, h3, h4⟩ := o1_some h2
  cases (Option.some.inj h4)
  refine ⟨[], _, ρ, dx, g.zero, .zero, h1, fun x H1 s1 p1 => ?_⟩
  obtain ⟨t, h5, h6⟩ := isTy_ok (RL.r0 p1) h3
  exact ⟨x, .ty n, t, .type n, b, rfl, .ty n, h5, h6, q _ H1 s1 (Post.of_flat (.bl b) rfl)⟩
end

/-! ### slices -/
def cutD (ds : List D) (lo hi : Option Int) : List D := (ds.drop (HT.sIx ds.length 0 lo)).take (HT.sIx ds.length ds.length hi - HT.sIx ds.length 0 lo)
abbrev FO := PEnv → Option (Option Int)
def oNone : FO := fun _ => some none
def oSome (f : FE) : FO := fun ρ => o1 (f ρ) fun d => match d with
  | .int i => some (some i)
  | _ => none
def dSlice (lo hi : Option Int) : D → Option D
  | .list ds => some (.list (cutD ds lo hi))
  | .tuple ds => some (.tuple (cutD ds lo hi))
  | _ => none
def eSl (f : FE) (lo hi : FO) : FE := fun ρ => match f ρ, lo ρ, hi ρ with
  | some d, some l, some h => dSlice l h d
  | _, _, _ => none
def tO (K : PySem.W.Frag) (f : FO) : TO := fun σ H Q => ∃ B L ρ o, Good K B L σ H ρ ∧ f ρ = some o ∧ ∀ H', Same H H' → Q o H'
section
variable {X : Cx} {K : PySem.W.Frag} {κ : Mo} {pos p2 : Pos} {a e : Expr} {lo hi : Option Expr} {fa : FE} {fl fh : FO} {c : Esc}
theorem _root_.L2.PO.imp {e : Option Expr} {t t' : TO} (h : PO X e t) (w : ∀ σ H Q, t' σ H Q → t σ H Q) : PO X e t' := ⟨fun pins s σ H Q I q => h.run pins s σ H Q I (w σ H Q q)⟩
theorem qo_none : PO X none (tO K oNone) := po_none.imp fun σ H Q ⟨B, L, ρ, o, g, h, q⟩ => by
  cases (Option.some.inj h)
  exact q H (Same.refl H)
theorem qo_some (h : PE X e (tD K (.br 1) fa c)) : PO X (some e) (tO K (oSome fa)) := (po_some h).imp fun σ H Q ⟨B, L, ρ, o, g, h, q⟩ => by
  obtain ⟨d, h1, h2⟩ := o1_some h
  refine ⟨[], _, ρ, d, g.zero, .zero, h1, fun v H1 s1 p1 => ?_⟩
  split at h2
  · cases (Option.some.inj h2)
    exact ⟨_, RL.int p1, q H1 s1⟩
  · cases h2
theorem cutV_R {H : Hp} {xs : List V} {ds : List D} (h : RA K H xs ds) (lo hi : Option Int) : RA K H (cutV xs lo hi) (cutD ds lo hi) := by
  unfold cutV cutD
  rw [h.length]
  exact (h.drop _).take _
theorem qe_sl (ha : PE X a (tD K (.br 1) fa c)) (hl : PO X lo (tO K fl)) (hh : PO X hi (tO K fh)) (hX : X.K = K := by rfl) (hκ : κ.one = true := by rfl) : PE X (.Subscript a (.Slice lo hi none p2) pos) (tD K κ (eSl fa fl fh) c) := by
  subst hX
  refine (pe_slice (sl_list.or sl_tupA) ha hl hh).imp fun σ H Q ⟨B, L, ρ, d, g, es, hf, q⟩ => ?_
  unfold eSl at hf
  split at hf
  · rename_i dx l h e1 e2 e3
    refine ⟨B, L, ρ, dx, g, es, e1, fun x H1 s1 p1 => ⟨B, L, ρ, l, g.mono s1, e2, fun H2 s2 => ⟨B, L, ρ, h, (g.mono s1).mono s2, e3, fun H3 s3 => ?_⟩⟩⟩
    have s13 := s2.trans s3
    have ok := ((g.ok.mono s1).mono s13)
    have p1 : RL X.K B H3 1 x dx := RL.mono s13 (same_hid s13) p1
    unfold dSlice at hf
    split at hf
    · cases (Option.some.inj hf)
      obtain ⟨p, ys, rfl, h1, h2⟩ := p1.list1
      refine .inl ⟨p, ys, rfl, SqL.of h1, fun t nt => q _ _ ((s1.trans s13).trans (same_upd nt)) ?_⟩
      have := Post.new (κ := κ) (H' := upd H3 t (.lst (cutV ys l h))) g.ok.trk ((s1.trans s13).free nt) upd_same ((cutV_R h2 l h).mono (same_hidC nt)) hκ
      exact this
    · cases (Option.some.inj hf)
      obtain ⟨p, ys, rfl, h1, h1', h2⟩ := p1.tup
      refine .inr ⟨p, ys, rfl, h1, fun hw => ?_, fun _ t nt => ?_⟩
      · have e : ∀ {ds : List D}, ds.length = ys.length → cutD ds l h = ds := fun {ds} e => by
          unfold cutD
          rw [e, hw.1, hw.2, List.drop_zero, Nat.sub_zero, ← e, List.take_length]
        rw [e h2.length.symm] at q
        exact q _ _ (s1.trans s13) (Post.of_flat (.tup h1' h2) rfl)
      · have s := same_upd (o := HO.tup (cutV ys l h)) nt
        refine q _ _ ((s1.trans s13).trans s) (Post.of_flat (.tup (a := t) (xs := cutV ys l h) ?_ ((cutV_R h2 l h).mono (same_hid s))) rfl)
        rw [hid_out (ok.trk.new nt), upd_same]
    · cases hf
  · cases hf
end
end DS
end

section
set_option Elab.async false
set_option linter.all false
set_option maxRecDepth 100000
/-! Part f: targets, what is walked, comprehensions. -/
namespace DS
open PySem PySem.Spec PyProof.Rows L2

/-! ### targets: names and tuples of them -/
inductive Tg where
  | nm (i : Nat)
  | tp (ts : List Tg)
mutual
def Tg.go : Tg → D → Option (List (Nat × D))
  | .nm i, d => some [(i, d)]
  | .tp ts, .tuple ds => Tg.gos ts ds
  | .tp _, _ => none
def Tg.gos : List Tg → List D → Option (List (Nat × D))
  | [], [] => some []
  | t :: ts, d :: ds => match Tg.go t d, Tg.gos ts ds with
    | some l, some m => some (l ++ m)
    | _, _ => none
  | _, _ => none
end
mutual
def Tg.ix : Tg → List Nat
  | .nm i => [i]
  | .tp ts => Tg.ixs ts
def Tg.ixs : List Tg → List Nat
  | [] => []
  | t :: ts => Tg.ix t ++ Tg.ixs ts
end
mutual
theorem Tg.go_ix : ∀ {t : Tg} {d : D} {l : List (Nat × D)}, t.go d = some l → l.map (·.1) = t.ix
  | .nm i, d, l, h => by
    unfold Tg.go at h
    cases (Option.some.inj h); rfl
  | .tp ts, .tuple ds, l, h => by
    unfold Tg.go at h
    unfold Tg.ix
    exact Tg.gos_ix h
  | .tp ts, .none, l, h => by unfold Tg.go at h; cases h
  | .tp ts, .bool _, l, h => by unfold Tg.go at h; cases h
  | .tp ts, .int _, l, h => by unfold Tg.go at h; cases h
  | .tp ts, .str _, l, h => by unfold Tg.go at h; cases h
  | .tp ts, .list _, l, h => by unfold Tg.go at h; cases h
  | .tp ts, .dict _, l, h => by unfold Tg.go at h; cases h
theorem Tg.gos_ix : ∀ {t : List Tg} {d : List D} {l : List (Nat × D)}, Tg.gos t d = some l → l.map (·.1) = Tg.ixs t
  | [], [], l, h => by
    unfold Tg.gos at h
    cases (Option.some.inj h); rfl
  | t :: ts, d :: ds, l, h => by
    unfold Tg.gos at h
    split at h
    · rename_i l1 l2 h1 h2
      cases (Option.some.inj h)
      unfold Tg.ixs
      rw [List.map_append, Tg.go_ix h1, Tg.gos_ix h2]
    · cases h
  | [], _ :: _, l, h => by unfold Tg.gos at h; cases h
  | _ :: _, [], l, h => by unfold Tg.gos at h; cases h
end
def setsV (σ : St) (l : List (Nat × V)) : St := l.foldl (fun s p => s.set p.1 (some p.2)) σ
def setsD (ρ : PEnv) (l : List (Nat × D)) : PEnv := l.foldl (fun s p => s.set p.1 (some p.2)) ρ
inductive RS (K : PySem.W.Frag) (H : Hp) : List (Nat × V) → List (Nat × D) → Prop
  | nil : RS K H [] []
  | cons {i : Nat} {v : V} {d : D} {l : List (Nat × V)} {m : List (Nat × D)} : R K H v d → RS K H l m → RS K H ((i, v) :: l) ((i, d) :: m)
theorem RS.append {K : PySem.W.Frag} {H : Hp} : ∀ {l l' : List (Nat × V)} {m m' : List (Nat × D)}, RS K H l m → RS K H l' m' → RS K H (l ++ l') (m ++ m')
  | _, _, _, _, .nil, q => q
  | _, _, _, _, .cons h t, q => .cons h (RS.append t q)
theorem RS.ix {K : PySem.W.Frag} {H : Hp} : ∀ {l : List (Nat × V)} {m : List (Nat × D)}, RS K H l m → l.map (·.1) = m.map (·.1)
  | _, _, .nil => rfl
  | _, _, .cons _ t => by rw [List.map_cons, List.map_cons, RS.ix t]
theorem setsV_append (σ : St) (l m : List (Nat × V)) : setsV σ (l ++ m) = setsV (setsV σ l) m := by
  unfold setsV; rw [List.foldl_append]
/-- the reading of a target -/
def tG (K : PySem.W.Frag) (t : Tg) : TG := fun v σ H Q => ∃ B d l, R K (hid B H) v d ∧ t.go d = some l ∧ ∀ m, RS K (hid B H) m l → Q (setsV σ m) H
def tGs (K : PySem.W.Frag) (ts : List Tg) : TGs := fun vs σ H Q => ∃ B ds l, RA K (hid B H) vs ds ∧ Tg.gos ts ds = some l ∧ ∀ m, RS K (hid B H) m l → Q (setsV σ m) H
theorem _root_.L2.PG.imp {X : Cx} {e : Expr} {t t' : TG} (h : PG X e t) (w : ∀ v σ H Q, t' v σ H Q → t v σ H Q) : PG X e t' := ⟨fun pins s σ H v u Q I r q => h.run pins s σ H v u Q I r (w v σ H Q q)⟩
theorem _root_.L2.PGs.imp {X : Cx} {e : List Expr} {t t' : TGs} (h : PGs X e t) (w : ∀ v σ H Q, t' v σ H Q → t v σ H Q) : PGs X e t' := ⟨fun pins s σ H v u Q I r q => h.run pins s σ H v u Q I r (w v σ H Q q)⟩
section
variable {X : Cx} {K : PySem.W.Frag} {pos : Pos}
theorem gg_of {e : Expr} {i : Nat} (h : PG X e (gName i)) : PG X e (tG K (.nm i)) := h.imp fun v σ H Q ⟨B, d, l, h1, h2, q⟩ => by
  unfold Tg.go at h2
  cases (Option.some.inj h2)
  exact q [(i, v)] (.cons h1 .nil)
theorem gg (i : Nat) {x : Str} (hN : X.N.Nodup) (hi : X.N[i]? = some x := by rfl) (hx : Loc X.env.scope x := by first | exact Or.inl rfl | exact Or.inr rfl) (hf : X.fn x = true ∨ X.env.scope.names.lookup x = some .local := by first | exact .inl rfl | exact .inr rfl) : PG X (.Name x pos) (tG K (.nm i)) := gg_of (pg_name hN hi hx hf)
theorem ggs_nil : PGs X [] (tGs K []) := pgs_nil.imp fun v σ H Q ⟨B, ds, l, h1, h2, q⟩ => by
  cases ds with
  | nil =>
    cases h1
    unfold Tg.gos at h2
    cases (Option.some.inj h2)
    exact ⟨rfl, q [] .nil⟩
  | cons _ _ => unfold Tg.gos at h2; cases h2
theorem ggs_cons {e : Expr} {es : List Expr} {t : Tg} {ts : List Tg} (h : PG X e (tG K t)) (hs : PGs X es (tGs K ts)) (he : (assignEach (e :: es) X.env).map (·.2) = assign e X.env :: (assignEach es X.env).map (·.2) := by rfl) : PGs X (e :: es) (tGs K (t :: ts)) :=
  (pgs_cons h hs he).imp fun v σ H Q ⟨B, ds, l, h1, h2, q⟩ => by
  cases ds with
  | nil => unfold Tg.gos at h2; cases h2
  | cons d ds =>
    cases h1 with
    | cons r rs =>
      unfold Tg.gos at h2
      split at h2
      · rename_i l1 l2 e1 e2
        cases (Option.some.inj h2)
        exact ⟨_, _, rfl, B, d, l1, r, e1, fun m hm => ⟨B, ds, l2, rs, e2, fun m2 hm2 => by
          rw [← setsV_append]
          exact q _ (hm.append hm2)⟩⟩
      · cases h2
theorem Tg.gos_len : ∀ {ts : List Tg} {ds : List D} {l : List (Nat × D)}, Tg.gos ts ds = some l → ts.length = ds.length
  | [], [], _, _ => rfl
  | t :: ts, d :: ds, l, h => by
    unfold Tg.gos at h
    split at h
    · rename_i h2
      rw [List.length_cons, List.length_cons, Tg.gos_len h2]
    · cases h
  | [], _ :: _, l, h => by unfold Tg.gos at h; cases h
  | _ :: _, [], l, h => by unfold Tg.gos at h; cases h
theorem gg_tup {es : List Expr} {k : Nat} {ts : List Tg} (hc : X.calm = true) (h : PGs X es (tGs K ts)) (hX : X.K = K := by rfl)
    (hn : (assignEach es X.env).length = ts.length := by rfl) (hst : (assignEach es X.env).findIdx? (·.1) = none := by rfl) : PG X (.Tuple es k pos) (tG K (.tp ts)) := by
  subst hX
  refine (pg_tup hc h hn hst).imp fun v σ H Q ⟨B, d, l, h1, h2, q⟩ => ?_
  cases d with
  | tuple ds =>
    unfold Tg.go at h2
    cases h1 with
    | tup e1 e2 => exact ⟨_, _, rfl, seqT_mono same_unhid (.inl (.inl e1)), by rw [e2.length, Tg.gos_len h2], B, ds, l, e2, h2, q⟩
  | _ => unfold Tg.go at h2; cases h2
end

/-! ### what is walked -/
/-- while G stands, J gives the trees ds one by one, none of which leans on what B hides -/
structure Walks (K : PySem.W.Frag) (G : Hp) (B : List Addr) (J : It) (ds : List D) : Prop where
  go : ∀ i H, i < ds.length → Same G H → J.go i H
  stop : ∀ H, Same G H → J.stop ds.length H
  yld : ∀ i H x H' d, ds[i]? = some d → Same G H → J.yld i H x H' → Same H H' ∧ ∀ B', Ok B' H → (∀ a ∈ B', (a ∈ B ∨ G a = none) ∧ H a ≠ none) → R K (hid B' H') x d
/-- m = 0: what is walked leans on nothing hidden; m = 1: a list that is walked may itself be hidden -/
def gOf (m : Nat) (B : List Addr) (H : Hp) : Hp := match m with
  | 0 => hid B H
  | _ => H
def tI (K : PySem.W.Frag) (m : Nat) (f : FA) (c : Esc) : TI := fun σ H Rr => ∃ B L ρ ds, Good K B L σ H ρ ∧ EscOk c L ∧ f ρ = some ds ∧ ∀ J H1, Same H H1 → Walks K (gOf m B H1) B J ds → Rr J H1
theorem gOf_unhid {m : Nat} {B : List Addr} {H : Hp} : Same (gOf m B H) H := by
  cases m with
  | zero => exact same_unhid
  | succ m => exact Same.refl H
theorem same_gOf {m : Nat} {B : List Addr} {H : Hp} : Same (hid B H) (gOf m B H) := by
  cases m with
  | zero => exact Same.refl _
  | succ m => exact same_unhid
theorem gOf_none {m : Nat} {B : List Addr} {H : Hp} {a : Addr} (h : gOf m B H a = none) : a ∈ B ∨ H a = none := by
  cases m with
  | zero =>
    by_cases hb : a ∈ B
    · exact .inl hb
    · exact .inr (by
        have h' : hid B H a = none := h
        rw [hid_out hb] at h'; exact h')
  | succ m => exact .inr h
/-- a tree of what is below B, later -/
theorem keepR {m : Nat} {B B' : List Addr} {H1 H H' : Hp} (s : Same (gOf m B H1) H) (s' : Same H H') (h : ∀ a ∈ B', (a ∈ B ∨ gOf m B H1 a = none) ∧ H a ≠ none) : Same (hid B H1) (hid B' H') := fun b o q => by
  obtain ⟨q1, q2⟩ := hid_some q
  have q3 : gOf m B H1 b = some o := same_gOf b o q
  rw [hid_out fun z => ?_]
  · exact s' _ _ (s _ _ q3)
  · rcases (h b z).1 with z | z
    · exact q1 z
    · rw [q3] at z; cases z
section
variable {X : Cx} {K : PySem.W.Frag} {pos p tpos : Pos} {tg e : Expr} {f : FE} {c : Esc} {m : Nat}
def seqOf : D → Option (List D)
  | .list ds => some ds
  | .tuple ds => some ds
  | _ => none
def iSeq (f : FE) : FA := fun ρ => o1 (f ρ) seqOf
theorem RL.listG {B : List Addr} {H : Hp} {v : V} {ds : List D} (hm : m ≤ 1) (h : RL K B H m v (.list ds)) : ∃ a xs, v = .ref a ∧ gOf m B H a = some (.lst xs) ∧ RA K (hid B H) xs ds := by
  match m, hm with
  | 0, _ =>
    have := h.r
    cases this with
    | lst h1 h2 => exact ⟨_, _, rfl, h1, h2⟩
  | 1, _ => exact h.list1
theorem walks_list {B : List Addr} {H1 : Hp} {a : Addr} {xs : List V} {ds : List D} (h1 : gOf m B H1 a = some (.lst xs)) (h2 : RA K (hid B H1) xs ds) : Walks K (gOf m B H1) B (Itl K a) ds where
  go := fun i H hi s => ⟨xs, xs[i]'(by rw [h2.length]; exact hi), SqL.of (s _ _ h1), by simp⟩
  stop := fun H s => ⟨xs, SqL.of (s _ _ h1), by rw [h2.length]; exact Nat.le_refl _⟩
  yld := fun i H x H' d hd s y => by
    obtain ⟨e, y⟩ := y
    subst e
    obtain ⟨z, e1, r⟩ := h2.get hd
    have e2 := y xs (SqL.of (s _ _ h1))
    rw [e1] at e2
    cases (Option.some.inj e2)
    exact ⟨Same.refl _, fun B' _ hb => r.mono (keepR s (Same.refl _) hb)⟩
theorem walks_tup {B : List Addr} {H1 : Hp} {a : Addr} {xs : List V} {ds : List D} (h1 : SqT K (hid B H1) a xs) (h2 : RA K (hid B H1) xs ds) : Walks K (gOf m B H1) B (Itt K a) ds where
  go := fun i H hi s => ⟨xs, xs[i]'(by rw [h2.length]; exact hi), seqT_mono s (seqT_mono same_gOf h1), by simp⟩
  stop := fun H s => ⟨xs, seqT_mono s (seqT_mono same_gOf h1), by rw [h2.length]; exact Nat.le_refl _⟩
  yld := fun i H x H' d hd s y => by
    obtain ⟨e, y⟩ := y
    subst e
    obtain ⟨z, e1, r⟩ := h2.get hd
    have e2 := y xs (seqT_mono s (seqT_mono same_gOf h1))
    rw [e1] at e2
    cases (Option.some.inj e2)
    exact ⟨Same.refl _, fun B' _ hb => r.mono (keepR s (Same.refl _) hb)⟩
/-- a list or a tuple walked -/
def iLT (K : PySem.W.Frag) (tl : TE) : TI := fun σ H R => tl σ H fun x H1 => ∃ a, x = .ref a ∧ ((∃ xs, SqL K H1 a xs ∧ R (Itl K a) H1) ∨ (∃ xs, SqT K H1 a xs ∧ R (Itt K a) H1))
theorem pi_lt {l : Expr} {tl : TE} (hl : PE X l tl) : PI X tg l (iLT X.K tl) := by
  refine ⟨fun pins s σ H R I h => ?_⟩
  refine thn (hl.run pins s σ H _ I h) fun v s1 ⟨x, H1, I1, r1, q1⟩ => ?_
  obtain ⟨a, e, q⟩ := q1
  subst e
  cases r1
  rcases q with ⟨xs, hq, q⟩ | ⟨xs, hq, q⟩
  · obtain ⟨its, rv, p, hz⟩ := I1.list hq
    refine wpAny_pyIter_list p.isList ?_
    refine ⟨s1.heap.objs.size, [s1.heap.objs.size], _, _, H1, rfl, I1.kept (t' := s1.toks) fun b o e => Heap.get?_push_of_some _ e, turn_list a _, ⟨_, Heap.get?_push_size _ rfl, rfl, rfl⟩, fun b hb => ?_, q⟩
    have e : b = s1.heap.objs.size := by simpa using hb
    subst e
    exact I1.fpOk (Nat.le_refl _) (I1.hok.fresh (Nat.le_refl _))
  · obtain ⟨its, rv, p, hz⟩ := I1.tuple hq
    refine wpAny_pyIter_tuple (show s1.heap.IsTuple a its.toArray from p) ?_
    refine ⟨s1.heap.objs.size, [s1.heap.objs.size], _, _, H1, rfl, I1.kept (t' := s1.toks) fun b o e => Heap.get?_push_of_some _ e, turn_tuple a _, ⟨_, Heap.get?_push_size _ rfl, rfl, rfl⟩, fun b hb => ?_, q⟩
    have e : b = s1.heap.objs.size := by simpa using hb
    subst e
    exact I1.fpOk (Nat.le_refl _) (I1.hok.fresh (Nat.le_refl _))
theorem qi_seq (h : PE X e (tD K (.br m) f c)) (hm : m ≤ 1 := by decide) (hX : X.K = K := by rfl) : PI X tg e (tI K m (iSeq f) c) := by
  subst hX
  refine (pi_lt h).imp fun σ H Rr ⟨B, L, ρ, ds, g, es, hf, q⟩ => ?_
  obtain ⟨d, h1, h2⟩ := o1_some hf
  refine ⟨B, L, ρ, d, g, es, h1, fun v H1 s1 p1 => ?_⟩
  unfold seqOf at h2
  split at h2
  · cases (Option.some.inj h2)
    obtain ⟨a, xs, rfl, e1, e2⟩ := RL.listG hm p1
    exact ⟨a, rfl, .inl ⟨xs, SqL.of (gOf_unhid _ _ e1), q _ H1 s1 (walks_list e1 e2)⟩⟩
  · cases (Option.some.inj h2)
    obtain ⟨a, xs, rfl, e1, e1', e2⟩ := RL.tup p1
    exact ⟨a, rfl, .inr ⟨xs, e1, q _ H1 s1 (walks_tup (.inl (.inl e1')) e2)⟩⟩
  · cases h2
/-! ranges -/
def rngD (lo : Int) (n : Nat) : List D := (List.range n).map fun (i : Nat) => .int (lo + (i : Int))
theorem walks_rng {G : Hp} {B : List Addr} {lo : Int} {n : Nat} : Walks K G B (Itr lo n) (rngD lo n) where
  go := fun i H hi s => show i < n from by simpa [rngD] using hi
  stop := fun H s => by
    show n ≤ (rngD lo n).length
    simp [rngD]
  yld := fun i H x H' d hd s y => by
    obtain ⟨e, y⟩ := y
    subst e y
    refine ⟨Same.refl _, fun B' _ hb => ?_⟩
    have hi : i < n := by
      have := (List.getElem?_eq_some_iff.mp hd).1
      simpa [rngD] using this
    have : d = .int (lo + i) := by
      unfold rngD at hd
      rw [List.getElem?_map, List.getElem?_range hi] at hd
      exact (Option.some.inj hd).symm
    rw [this]
    exact .int _
def rngOk (lo hi : Int) : Bool := decide (-4611686018427387904 ≤ lo) && decide (lo < 4611686018427387904) && decide (-4611686018427387904 ≤ hi) && decide (hi < 4611686018427387904)
def iRange1 (f : FE) : FA := fun ρ => o1 (f ρ) fun d => match d with
  | .int j => if rngOk 0 j = true then some (rngD 0 j.toNat) else none
  | _ => none
def iRange2 (f g : FE) : FA := fun ρ => o2 (f ρ) (g ρ) fun d e => match d, e with
  | .int i, .int j => if rngOk i j = true then some (rngD i (j - i).toNat) else none
  | _, _ => none
theorem rngOk_ok {lo hi : Int} (h : rngOk lo hi = true) : -(2 ^ 62) ≤ lo ∧ lo < 2 ^ 62 ∧ -(2 ^ 62) ≤ hi ∧ hi < 2 ^ 62 := by
  unfold rngOk at h
  simp only [Bool.and_eq_true, decide_eq_true_eq] at h
  omega
theorem qi_range1 {a : Expr} (hg : Gl X "range") (hm : X.mg "range" = none) (ha : PE X a (tD K (.br 1) f c)) (hs : starEach [a] X.env = (false, eval a X.env) :: starEach [] X.env := by rfl) : PI X tg (.Call (.Name "range" p) [a] [] pos) (tI K m (iRange1 f) []) := by
  refine (pi_range1 hg hm (pa_cons ha pa_nil hs) hs).imp fun σ H Rr ⟨B, L, ρ, ds, g, es, hf, q⟩ => ?_
  obtain ⟨d, h1, h2⟩ := o1_some hf
  split at h2
  · obtain ⟨k, rfl⟩ := ite_some h2
    have k := rngOk_ok k
    refine ⟨[], _, ρ, _, g.zero, .zero, h1, fun v H1 s1 p1 => ?_⟩
    exact ⟨_, by rw [RL.int p1], k.2.2.1, k.2.2.2, q _ H1 s1 walks_rng⟩
  · cases h2
theorem qi_range2 {a b : Expr} {f2 : FE} {c2 : Esc} (hg : Gl X "range") (hm : X.mg "range" = none) (ha : PE X a (tD K (.br 1) f c)) (hb : PE X b (tD K (.br 1) f2 c2)) (hs : starEach [a, b] X.env = [(false, eval a X.env), (false, eval b X.env)] := by rfl) (hs2 : starEach [b] X.env = [(false, eval b X.env)] := by rfl) :
    PI X tg (.Call (.Name "range" p) [a, b] [] pos) (tI K m (iRange2 f f2) []) := by
  refine (pi_range2 hg hm (pa_cons ha (pa_cons hb pa_nil hs2) (by rw [hs, hs2])) hs hs2).imp fun σ H Rr ⟨B, L, ρ, ds, g, es, hf, q⟩ => ?_
  obtain ⟨d, d', h1, h1', h2⟩ := o2_some hf
  split at h2
  · obtain ⟨k, rfl⟩ := ite_some h2
    have k := rngOk_ok k
    refine ⟨[], _, ρ, _, g.zero, .zero, h1, fun v H1 s1 p1 => ⟨[], _, ρ, _, (g.mono s1).zero, .zero, h1', fun w H2 s2 p2 => ?_⟩⟩
    exact ⟨_, _, by rw [RL.int p1, RL.int p2], ⟨k.1, k.2.1, k.2.2.1, k.2.2.2⟩, q _ H2 (s1.trans s2) walks_rng⟩
  · cases h2
end

/-! ### comprehensions of one clause -/
def wipeD (ρ : PEnv) : List Nat → PEnv
  | [] => ρ
  | v :: vs => (wipeD ρ vs).set v none
/-- the list that a comprehension makes -/
def lcGo (t : Tg) (ft : FT) (fe : FE) (ρ : PEnv) : List D → Option (List D)
  | [] => some []
  | d :: ds => match t.go d with
    | none => none
    | some l => match ft (setsD ρ l) with
      | none => none
      | some false => lcGo t ft fe ρ ds
      | some true => match fe (setsD ρ l) with
        | none => none
        | some y => match lcGo t ft fe ρ ds with
          | none => none
          | some ys => some (y :: ys)
def eLc (fi : FA) (t : Tg) (ft : FT) (fe : FE) (vs : List Nat) : FE := fun ρ => o1 (fi ρ) fun ds => if ds.length ≤ sz then o1 (lcGo t ft fe (wipeD ρ vs) ds) fun ys => some (.list ys) else none
section
variable {X : Cx} {K : PySem.W.Frag} {κ : Mo}
theorem wipeD_length (ρ : PEnv) : ∀ vs : List Nat, (wipeD ρ vs).length = ρ.length
  | [] => rfl
  | v :: vs => by unfold wipeD; rw [List.length_set, wipeD_length ρ vs]
theorem wipe_get {σ : St} {ρ : PEnv} (hl : σ.length = ρ.length) : ∀ {vs : List Nat} {i : Nat} {d : D}, (wipeD ρ vs)[i]? = some (some d) → ρ[i]? = some (some d) ∧ ∀ v : V, σ[i]? = some (some v) → (wipe σ vs)[i]? = some (some v)
  | [], i, d, h => ⟨h, fun v e => e⟩
  | w :: vs, i, d, h => by
    unfold wipeD at h
    by_cases hi : w = i
    · subst hi
      by_cases hv : w < (wipeD ρ vs).length
      · rw [List.getElem?_set_self hv] at h; cases h
      · rw [List.getElem?_eq_none (by simpa using hv)] at h; cases h
    · rw [List.getElem?_set_ne hi] at h
      obtain ⟨h1, h2⟩ := wipe_get hl h
      refine ⟨h1, fun v e => ?_⟩
      unfold wipe
      rw [List.getElem?_set_ne hi]
      exact h2 v e
theorem Good.wipe {B : List Addr} {L : Nat → Nat} {σ : St} {H : Hp} {ρ : PEnv} (g : Good K B L σ H ρ) (vs : List Nat) : Good K B L (wipe σ vs) H (wipeD ρ vs) :=
  ⟨g.ok, by rw [wipe_length, wipeD_length, g.len], fun i d h => by
    obtain ⟨h1, h2⟩ := wipe_get g.len h
    obtain ⟨v, e, r⟩ := g.slot i d h1
    exact ⟨v, h2 v e, r⟩⟩
theorem Good.set {B : List Addr} {L : Nat → Nat} {σ : St} {H : Hp} {ρ : PEnv} {i : Nat} {v : V} {d : D} (g : Good K B L σ H ρ) (r : R K (hid B H) v d) : Good K B L (σ.set i (some v)) H (ρ.set i (some d)) :=
  ⟨g.ok, by rw [List.length_set, List.length_set, g.len], fun j e h => by
    by_cases hj : i = j
    · subst hj
      have hi : i < ρ.length := by
        have := (List.getElem?_eq_some_iff.mp h).1
        simpa using this
      rw [List.getElem?_set_self hi] at h
      cases h
      exact ⟨v, List.getElem?_set_self (by rw [g.len]; exact hi), .z r⟩
    · rw [List.getElem?_set_ne hj] at h ⊢
      exact g.slot j e h⟩
theorem Good.sets {B : List Addr} {L : Nat → Nat} {H : Hp} : ∀ {m : List (Nat × V)} {l : List (Nat × D)} {σ : St} {ρ : PEnv}, Good K B L σ H ρ → RS K (hid B H) m l → Good K B L (setsV σ m) H (setsD ρ l)
  | [], [], σ, ρ, g, .nil => g
  | (i, v) :: m, (_, d) :: l, σ, ρ, g, .cons r t => Good.sets (m := m) (l := l) (σ := σ.set i (some v)) (ρ := ρ.set i (some d)) (Good.set g r) t
theorem wipe_set {σ : St} {i : Nat} {x : Option V} : ∀ {vs : List Nat}, i ∈ vs → wipe (σ.set i x) vs = wipe σ vs
  | [], h => by simp at h
  | v :: vs, h => by
    unfold wipe
    by_cases hv : i ∈ vs
    · rw [wipe_set hv]
    · have e : i = v := by
        rcases List.mem_cons.mp h with e | h
        · exact e
        · exact absurd h hv
      subst e
      have : ∀ ws : List Nat, i ∉ ws → wipe (σ.set i x) ws = (wipe σ ws).set i x := by
        intro ws
        induction ws with
        | nil => intro _; rfl
        | cons w ws ih =>
          intro hn
          unfold wipe
          rw [ih (fun z => hn (List.mem_cons_of_mem _ z)), List.set_comm _ _ (fun z => hn (by rw [z]; exact List.mem_cons_self))]
      rw [this vs hv, List.set_set]
theorem wipe_sets : ∀ {m : List (Nat × V)} {σ : St} {vs : List Nat}, (∀ i ∈ m.map (·.1), i ∈ vs) → wipe (setsV σ m) vs = wipe σ vs
  | [], σ, vs, _ => rfl
  | (i, v) :: m, σ, vs, h => by
    show wipe (setsV (σ.set i (some v)) m) vs = _
    rw [wipe_sets fun j hj => h j (List.mem_cons_of_mem _ hj), wipe_set (h i List.mem_cons_self)]
theorem wipe_wipe (σ : St) : ∀ vs : List Nat, (∀ i ∈ vs, (wipe σ vs)[i]? = some none ∨ (wipe σ vs)[i]? = none) := fun vs i hi => by
  cases h : (wipe σ vs)[i]? with
  | none => exact .inr rfl
  | some x =>
    cases x with
    | none => exact .inl rfl
    | some v => exact absurd hi (wipe_some h).2
theorem wipe_idem {σ : St} {vs : List Nat} : ∀ ws : List Nat, (∀ i ∈ ws, i ∈ vs) → wipe (wipe σ vs) ws = wipe σ vs
  | [], _ => rfl
  | w :: ws, h => by
    show (L2.wipe (L2.wipe σ vs) ws).set w none = L2.wipe σ vs
    rw [wipe_idem ws fun i hi => h i (List.mem_cons_of_mem _ hi)]
    have hw := wipe_wipe σ vs w (h w List.mem_cons_self)
    apply List.ext_getElem?
    intro j
    by_cases hj : w = j
    · subst hj
      by_cases hl : w < (L2.wipe σ vs).length
      · rw [List.getElem?_set_self hl]
        rcases hw with e | e
        · exact e.symm
        · rw [List.getElem?_eq_getElem hl] at e; cases e
      · rw [List.getElem?_eq_none (by simpa using hl), List.getElem?_eq_none (by simpa using hl)]
    · rw [List.getElem?_set_ne hj]
/-- the reading of a comprehension -/
theorem lc_core {m : Nat} {fi : FA} {ci : Esc} {t : Tg} {ft : FT} {fe : FE} {ce : Esc} {vs : List Nat} {ti : TI} (hm : m = 1) (hv : t.ix.all (vs.contains ·) = true) (hκ : κ.one = true) :
    ∀ σ H Q B L ρ d, Good K B L σ H ρ → EscOk (ci ++ ce) L → eLc fi t ft fe vs ρ = some d → (∀ v H', Same H H' → Post K B H H' κ v d → Q v H') →
      (∀ ds Rr, fi ρ = some ds → (∀ J H1, Same H H1 → Walks K (gOf m B H1) B J ds → Rr J H1) → ti σ H Rr) → tLc ti (tG K t) (tT K ft) (tD K (.br 0) fe ce) vs σ H Q := by
  intro σ H Q B L ρ d g es hf q hti
  obtain ⟨ds, h1, h2⟩ := o1_some hf
  have hz : ds.length ≤ sz := by
    split at h2
    · assumption
    · cases h2
  rw [if_pos hz] at h2
  obtain ⟨ys, h3, h4⟩ := o1_some h2
  cases (Option.some.inj h4)
  refine hti ds _ h1 fun J H1 s1 wk D hD => ?_
  subst hm
  have hixs : ∀ {l : List (Nat × PyData)} {mm : List (Nat × V)} {d : PyData} {B' : List Addr} {Hh : Hp}, t.go d = some l → RS K (hid B' Hh) mm l → ∀ i ∈ mm.map (·.1), i ∈ vs := fun {l mm d B' Hh} e rs i hi => by
    rw [rs.ix, Tg.go_ix e] at hi
    have := List.all_eq_true.mp hv i hi
    simpa using this
  -- what holds behind i turns
  let W : Nat → Nat → Hp → Prop := fun i n H' => n = ds.length - i ∧ i ≤ ds.length ∧ Same H1 H' ∧ ∃ acc done rest, H' D = some (.lst acc) ∧ RA K (hid (D :: B) H') acc done ∧ acc.length ≤ i ∧ lcGo t ft fe (wipeD ρ vs) (ds.drop i) = some rest ∧ done ++ rest = ys
  refine ⟨W, ⟨ds.length, by simp, Nat.zero_le _, same_upd hD, [], [], ys, upd_same, .nil, Nat.le_refl _, by simpa using h3, rfl⟩, ?_⟩
  rintro i n H' ⟨rfl, hi, s', acc, done, rest, hacc, racc, hlen, hgo, hys⟩
  have okB : Ok (D :: B) H' := ((g.ok.mono s1).mono s').cons hacc rfl
  have gd : Good K (D :: B) L σ H' ρ := by
    refine ⟨okB, g.len, fun j e h => ?_⟩
    obtain ⟨v, e1, r⟩ := g.slot j e h
    refine ⟨v, e1, ((r.mono s1 (same_hid s1)).mono s' (same_hidW s' fun a ha => ?_))⟩
    rcases List.mem_cons.mp ha with z | z
    · rw [z]; exact .inr hD
    · exact .inl z
  by_cases hlt : i < ds.length
  · refine .inr ⟨wk.go i H' hlt s', fun H'' => W (i + 1) (ds.length - (i + 1)) H'', fun H'' w => ⟨_, by omega, w⟩, fun x H2 y => ?_⟩
    have hd : ds[i]? = some ds[i] := List.getElem?_eq_getElem hlt
    obtain ⟨s2, rx⟩ := wk.yld i H' x H2 _ hd s' y
    have rx := rx (D :: B) okB fun a ha => by
      refine ⟨?_, okB.trk a ha⟩
      rcases List.mem_cons.mp ha with z | z
      · rw [z]; exact .inr hD
      · exact .inl z
    rw [List.drop_eq_getElem_cons hlt] at hgo
    unfold lcGo at hgo
    have hacc2 := s2 _ _ hacc
    have racc2 := racc.mono (same_hid (B := D :: B) s2)
    split at hgo
    · cases hgo
    · rename_i l hl
      refine ⟨D :: B, _, l, rx, hl, fun mm rs => ⟨?_, ?_⟩⟩
      · rw [wipe_sets (hixs hl rs)]
        exact wipe_idem vs fun _ h => h
      · have gs : Good K (D :: B) L (setsV (wipe σ vs) mm) H2 (setsD (wipeD ρ vs) l) := ((gd.mono s2).wipe vs).sets rs
        split at hgo
        · cases hgo
        · rename_i hft
          refine ⟨D :: B, L, _, false, gs, hft, fun H3 s3 => ?_⟩
          refine iteF ?_
          exact ⟨rfl, hlt, (s'.trans s2).trans s3, acc, done, rest, s3 _ _ hacc2, racc2.mono (same_hid s3), by omega, hgo, hys⟩
        · rename_i hft
          split at hgo
          · cases hgo
          · rename_i yv hfe
            split at hgo
            · cases hgo
            · rename_i ys' hrest
              cases (Option.some.inj hgo)
              refine ⟨D :: B, L, _, true, gs, hft, fun H3 s3 => ?_⟩
              refine iteT ?_
              refine ⟨D :: B, L, _, yv, gs.mono s3, es.right, hfe, fun v H4 s4 p4 => ?_⟩
              have s34 := s3.trans s4
              have hacc4 := s34 _ _ hacc2
              have su : Same (hid (D :: B) H4) (hid (D :: B) (upd H4 D (.lst (acc ++ [v])))) := fun b o e => by
                obtain ⟨e1, e2⟩ := hid_some e
                rw [hid_out e1, upd_ne fun z => e1 (by rw [z]; exact List.mem_cons_self)]
                exact e2
              refine ⟨acc, hacc4, by rw [sz_eq]; omega, rfl, hlt, fun b o e => ?_, acc ++ [v], done ++ [yv], ys', upd_same, ((racc2.mono (same_hid s34)).append (.cons (RL.r p4) .nil)).mono su, by simp; omega, hrest, by rw [List.append_assoc]; exact hys⟩
              have hb : b ≠ D := ne_of_none e hD
              rw [upd_ne hb]
              exact ((s'.trans s2).trans s34) _ _ e
  · have e : i = ds.length := by omega
    subst e
    refine .inl ⟨wk.stop H' s', ?_⟩
    rw [List.drop_length] at hgo
    unfold lcGo at hgo
    cases (Option.some.inj hgo)
    rw [List.append_nil] at hys
    subst hys
    refine q _ H' (s1.trans s') (Post.new g.ok.trk (s1.free hD) hacc racc hκ)
theorem lc_ok {m : Nat} {fi : FA} {ci : Esc} {t : Tg} {ft : FT} {fe : FE} {ce : Esc} {vs : List Nat} (hm : m = 1) (hv : t.ix.all (vs.contains ·) = true) (hκ : κ.one = true) :
    ∀ σ H Q, tD K κ (eLc fi t ft fe vs) (ci ++ ce) σ H Q → tLc (tI K m fi ci) (tG K t) (tT K ft) (tD K (.br 0) fe ce) vs σ H Q := by
  intro σ H Q ⟨B, L, ρ, d, g, es, hf, q⟩
  exact lc_core hm hv hκ σ H Q B L ρ d g es hf q fun ds Rr h1 hR => ⟨B, L, ρ, ds, g, es.left, h1, hR⟩
theorem qe_lc {elt tg iter : Expr} {ifs : List Expr} {scope : Scope} {own : List (Str × Nat)} {pos : Pos} {fi : FA} {ci ce : Esc} {t : Tg} {ft : FT} {fe : FE} (hc : X.calm = true) (hN : X.N.Nodup) (hi : PI X tg iter (tI K 1 fi ci)) (ok : BlkOk X.N X.env.scope scope own)
    (hg : ∀ (s : Shared) (H : Hp) (C : Addr) (cl : List (Str × Addr)) (fp : List Addr), PG (X.blk s H scope (compEnvC scope cl C X.env) fp) tg (tG K t)) (ht : ∀ (s : Shared) (H : Hp) (C : Addr) (cl : List (Str × Addr)) (fp : List Addr), PTs (X.blk s H scope (compEnvC scope cl C X.env) fp) ifs (tT K ft))
    (he : ∀ (s : Shared) (H : Hp) (C : Addr) (cl : List (Str × Addr)) (fp : List Addr), PE (X.blk s H scope (compEnvC scope cl C X.env) fp) elt (tD K (.br 0) fe ce)) (hv : t.ix.all ((own.map (·.2)).contains ·) = true := by rfl) (hκ : κ.one = true := by rfl) (hs : ∀ x, foldedSetIterable iter X.env x = pure x := by intro _; rfl) :
    PE X (.ListComp elt [⟨tg, iter, ifs, 0⟩] scope pos) (tD K κ (eLc fi t ft fe (own.map (·.2))) (ci ++ ce)) := (pe_lc hc hN hi ok hg ht he hs).imp (lc_ok rfl hv hκ)
def tTrue : FT := fun _ => some true
theorem qts_nil : PTs X [] (tT K tTrue) := ⟨fun pins s σ H Q I ⟨B, L, ρ, b, g, h, q⟩ => pts_nil.run pins s σ H Q I (by cases (Option.some.inj h); exact q H (Same.refl H))⟩
theorem qts_one {c : Expr} {f : FT} (h : PT X c (tT K f)) : PTs X [c] (tT K f) := pts_one h
end
end DS
end

section
set_option Elab.async false
set_option linter.all false
set_option maxRecDepth 100000
/-! Part g: statements. -/
namespace DS
open PySem PySem.Spec PyProof.Rows L2

abbrev S := PEnv × List Nat
inductive Out where
  | stuck
  | next (s : S)
  | ret (d : D)
  | brk (s : S)
  | cont (s : S)
abbrev FS := S → Out
def lv (L : List Nat) (i : Nat) : Nat := L.getD i 0
def demote : Esc → List Nat → List Nat
  | [], L => L
  | (i, m) :: es, L => demote es (if lv L i ≤ m then L else L.set i 0)

structure GoodS (K : PySem.W.Frag) (B0 : List Addr) (G : Hp) (O : Nat → List Addr) (B : List Addr) (σ : St) (H : Hp) (ρ : PEnv) (L : List Nat) : Prop where
  memB : ∀ a, a ∈ B ↔ a ∈ B0 ∨ ∃ i, a ∈ O i
  ok : Ok B H
  same : Same G H
  g0 : ∀ a ∈ B0, G a ≠ none
  gO : ∀ i, ∀ a ∈ O i, G a = none
  nd : ∀ i, (O i).Nodup
  dj : ∀ i j, i ≠ j → ∀ a ∈ O i, a ∉ O j
  len : σ.length = ρ.length
  lenL : L.length = ρ.length
  slot : ∀ (i : Nat) (d : D), ρ[i]? = some (some d) → ∃ v, σ[i]? = some (some v) ∧ RO K B H (lv L i) (O i) v d
def GS (K : PySem.W.Frag) (B0 : List Addr) (G : Hp) (σ : St) (H : Hp) (s : S) : Prop := ∃ O B, GoodS K B0 G O B σ H s.1 s.2
section
variable {K : PySem.W.Frag} {B0 B : List Addr} {G H H' : Hp} {O : Nat → List Addr} {σ : St} {ρ : PEnv} {L : List Nat}
theorem GoodS.good (g : GoodS K B0 G O B σ H ρ L) : Good K B (lv L) σ H ρ := ⟨g.ok, g.len, fun i d h => let ⟨v, h1, h2⟩ := g.slot i d h; ⟨v, h1, h2.toRL_aux⟩⟩
theorem GoodS.mono (g : GoodS K B0 G O B σ H ρ L) (e : Same H H') : GoodS K B0 G O B σ H' ρ L :=
  ⟨g.memB, g.ok.mono e, g.same.trans e, g.g0, g.gO, g.nd, g.dj, g.len, g.lenL, fun i d h => let ⟨v, h1, h2⟩ := g.slot i d h; ⟨v, h1, h2.mono_aux (same_hid e) fun a ha => by
    obtain ⟨o, h3, _⟩ := g.ok a ((g.memB a).mpr (.inr ⟨i, ha⟩))
    rw [h3, e _ _ h3]⟩⟩
theorem lv_set {L : List Nat} {i j x : Nat} : lv (L.set i x) j = if i = j ∧ i < L.length then x else lv L j := by
  unfold lv
  rw [List.getD_eq_getElem?_getD, List.getD_eq_getElem?_getD]
  by_cases h : i = j
  · subst h
    by_cases hi : i < L.length
    · rw [List.getElem?_set_self hi, if_pos ⟨rfl, hi⟩]; rfl
    · rw [List.getElem?_eq_none (by simpa using hi), List.getElem?_eq_none (by omega), if_neg fun z => hi z.2]
  · rw [List.getElem?_set_ne h, if_neg fun z => h z.1]
/-- a name lets its own go -/
theorem GoodS.drop (g : GoodS K B0 G O B σ H ρ L) (i : Nat) : ∃ O' B', GoodS K B0 G O' B' σ H ρ (L.set i 0) ∧ (∀ a ∈ B', a ∈ B) := by
  refine ⟨fun j => if j = i then [] else O j, B.filter fun a => decide (a ∉ O i), ⟨fun a => ?_, g.ok.sub fun a h => (List.mem_filter.mp h).1, g.same, g.g0, fun j a h => ?_, fun j => ?_, fun j k hjk a h => ?_, g.len, by rw [List.length_set, g.lenL], fun j d h => ?_⟩, fun a h => (List.mem_filter.mp h).1⟩
  · rw [List.mem_filter, g.memB]
    constructor
    · rintro ⟨h | ⟨j, h⟩, h2⟩
      · exact .inl h
      · refine .inr ⟨j, ?_⟩
        have h2 := of_decide_eq_true h2
        by_cases hj : j = i
        · rw [hj] at h; exact absurd h h2
        · rw [if_neg hj]; exact h
    · rintro (h | ⟨j, h⟩)
      · exact ⟨.inl h, decide_eq_true fun z => g.g0 a h (g.gO i a z)⟩
      · by_cases hj : j = i
        · rw [if_pos hj] at h; simp at h
        · rw [if_neg hj] at h
          exact ⟨.inr ⟨j, h⟩, decide_eq_true (g.dj j i hj a h)⟩
  · by_cases hj : j = i
    · simp only [if_pos hj] at h; simp at h
    · simp only [if_neg hj] at h; exact g.gO j a h
  · by_cases hj : j = i
    · simp only [if_pos hj]; exact List.nodup_nil
    · simp only [if_neg hj]; exact g.nd j
  · by_cases hj : j = i
    · simp only [if_pos hj] at h; simp at h
    · simp only [if_neg hj] at h
      by_cases hk : k = i
      · simp only [if_pos hk]; simp
      · simp only [if_neg hk]; exact g.dj j k hjk a h
  · obtain ⟨v, h1, h2⟩ := g.slot j d h
    refine ⟨v, h1, ?_⟩
    by_cases hj : j = i
    · subst hj
      simp only [if_pos rfl]
      have hl : j < L.length := by
        have := (List.getElem?_eq_some_iff.mp h).1
        rw [g.lenL]; exact this
      rw [lv_set, if_pos ⟨rfl, hl⟩]
      exact .z (.inl rfl) (h2.toR_aux fun a q => ⟨(List.mem_filter.mp q).1, of_decide_eq_true (List.mem_filter.mp q).2⟩)
    · simp only [if_neg hj]
      rw [lv_set, if_neg fun z => hj z.1.symm]
      exact h2.mono_aux (same_hidW (Same.refl H) fun a q => .inl (List.mem_filter.mp q).1) fun _ _ => rfl
theorem demote_le : ∀ (es : Esc) (L : List Nat) (j : Nat), lv (demote es L) j ≤ lv L j
  | [], L, j => Nat.le_refl _
  | (i, m) :: es, L, j => by
    unfold demote
    refine Nat.le_trans (demote_le es _ j) ?_
    split
    · exact Nat.le_refl _
    · rw [lv_set]
      split
      · exact Nat.zero_le _
      · exact Nat.le_refl _
theorem demote_ok : ∀ (es : Esc) (L : List Nat), EscOk es (lv (demote es L))
  | [], L => EscOk.nil
  | (i, m) :: es, L => fun p hp => by
    unfold demote
    rcases List.mem_cons.mp hp with e | hp
    · rw [e]
      refine Nat.le_trans (demote_le es _ i) ?_
      split
      · assumption
      · rename_i h
        rw [lv_set]
        split
        · exact Nat.zero_le _
        · rename_i h2
          have : ¬ i < L.length := fun z => h2 ⟨rfl, z⟩
          unfold lv at h ⊢
          rw [List.getD_eq_getElem?_getD, List.getElem?_eq_none (by omega)] at h ⊢
          exact absurd (Nat.zero_le m) h
    · exact demote_ok es _ p hp
theorem demote_len : ∀ (es : Esc) (L : List Nat), (demote es L).length = L.length
  | [], L => rfl
  | (i, m) :: es, L => by
    unfold demote
    rw [demote_len es]
    split
    · rfl
    · rw [List.length_set]
theorem GoodS.demote (es : Esc) : ∀ {O : Nat → List Addr} {B : List Addr} {L : List Nat}, GoodS K B0 G O B σ H ρ L → ∃ O' B', GoodS K B0 G O' B' σ H ρ (DS.demote es L) ∧ ∀ a ∈ B', a ∈ B := by
  induction es with
  | nil => intro O B L g; exact ⟨O, B, g, fun _ h => h⟩
  | cons p es ih =>
    obtain ⟨i, m⟩ := p
    intro O B L g
    unfold DS.demote
    split
    · exact ih g
    · obtain ⟨O1, B1, g1, h1⟩ := g.drop i
      obtain ⟨O2, B2, g2, h2⟩ := ih g1
      exact ⟨O2, B2, g2, fun a h => h1 a (h2 a h)⟩
/-- a name is set -/
theorem GoodS.assign {i l : Nat} {v : V} {d : D} {o : List Addr} (g : GoodS K B0 G O B σ H ρ L) (e : Same H H') (hn : ∀ a ∈ o, H a = none) (ho : o.Nodup) (r : RO K (o ++ B) H' l o v d) : ∃ O' B', GoodS K B0 G O' B' (σ.set i (some v)) H' (ρ.set i (some d)) (L.set i l) ∧ ∀ a ∈ B', a ∈ o ++ B := by
  have hB' : ∀ a, a ∈ o ++ B.filter (fun a => decide (a ∉ O i)) → a ∈ o ++ B := fun a h => by
    rcases List.mem_append.mp h with h | h
    · exact List.mem_append_left _ h
    · exact List.mem_append_right _ (List.mem_filter.mp h).1
  have oB : ∀ a ∈ o, a ∉ B := fun a h z => g.ok.trk a z (hn a h)
  refine ⟨fun j => if j = i then o else O j, o ++ B.filter fun a => decide (a ∉ O i), ⟨fun a => ?_, ?_, g.same.trans e, g.g0, fun j a h => ?_, fun j => ?_, fun j k hjk a h => ?_, by rw [List.length_set, List.length_set, g.len], by rw [List.length_set, List.length_set, g.lenL], fun j d' h => ?_⟩, hB'⟩
  · rw [List.mem_append, List.mem_filter, g.memB]
    constructor
    · rintro (h | ⟨h | ⟨j, h⟩, h2⟩)
      · exact .inr ⟨i, by rw [if_pos rfl]; exact h⟩
      · exact .inl h
      · refine .inr ⟨j, ?_⟩
        have h2 := of_decide_eq_true h2
        by_cases hj : j = i
        · rw [hj] at h; exact absurd h h2
        · rw [if_neg hj]; exact h
    · rintro (h | ⟨j, h⟩)
      · exact .inr ⟨.inl h, decide_eq_true fun z => g.g0 a h (g.gO i a z)⟩
      · by_cases hj : j = i
        · rw [if_pos hj] at h; exact .inl h
        · rw [if_neg hj] at h
          exact .inr ⟨.inr ⟨j, h⟩, decide_eq_true (g.dj j i hj a h)⟩
  · have h1 : Ok o H' := r.mut_aux
    exact h1.append ((g.ok.mono e).sub fun a h => (List.mem_filter.mp h).1)
  · by_cases hj : j = i
    · simp only [if_pos hj] at h
      exact g.same.free (hn a h)
    · simp only [if_neg hj] at h; exact g.gO j a h
  · by_cases hj : j = i
    · simp only [if_pos hj]; exact ho
    · simp only [if_neg hj]; exact g.nd j
  · by_cases hj : j = i
    · simp only [if_pos hj] at h
      have hk : ¬ k = i := fun z => hjk (hj.trans z.symm)
      simp only [if_neg hk]
      exact fun z => oB a h ((g.memB a).mpr (.inr ⟨k, z⟩))
    · simp only [if_neg hj] at h
      by_cases hk : k = i
      · simp only [if_pos hk]
        exact fun z => oB a z ((g.memB a).mpr (.inr ⟨j, h⟩))
      · simp only [if_neg hk]; exact g.dj j k hjk a h
  · by_cases hj : j = i
    · subst hj
      have hi : j < ρ.length := by
        have := (List.getElem?_eq_some_iff.mp h).1
        simpa using this
      rw [List.getElem?_set_self hi] at h
      cases h
      refine ⟨v, List.getElem?_set_self (by rw [g.len]; exact hi), ?_⟩
      simp only [if_pos rfl]
      rw [lv_set, if_pos ⟨rfl, by rw [g.lenL]; exact hi⟩]
      exact r.mono_aux (same_hidW (Same.refl H') fun a q => .inl (hB' a q)) fun _ _ => rfl
    · rw [List.getElem?_set_ne (Ne.symm hj)] at h
      obtain ⟨w, h1, h2⟩ := g.slot j d' h
      refine ⟨w, by rw [List.getElem?_set_ne (Ne.symm hj)]; exact h1, ?_⟩
      simp only [if_neg hj]
      rw [lv_set, if_neg fun z => hj z.1.symm]
      refine h2.mono_aux (same_hidW e fun a q => ?_) fun a ha => ?_
      · rcases List.mem_append.mp q with q | q
        · exact .inr (hn a q)
        · exact .inl (List.mem_filter.mp q).1
      · obtain ⟨u, h3, _⟩ := g.ok a ((g.memB a).mpr (.inr ⟨j, ha⟩))
        rw [h3, e _ _ h3]
theorem GoodS.assign0 {i : Nat} {v : V} {d : D} (g : GoodS K B0 G O B σ H ρ L) (r : R K (hid B H) v d) : ∃ O' B', GoodS K B0 G O' B' (σ.set i (some v)) H (ρ.set i (some d)) (L.set i 0) ∧ ∀ a ∈ B', a ∈ B :=
  g.assign (o := []) (Same.refl H) (by simp) List.nodup_nil (.z (.inl rfl) r)
end

/-! ### the reading of a statement -/
def Fin (K : PySem.W.Frag) (B0 : List Addr) (G : Hp) (E : Ends) : Out → Prop
  | .stuck => False
  | .next s => ∀ σ' H', GS K B0 G σ' H' s → E.nx σ' H'
  | .brk s => ∀ σ' H', GS K B0 G σ' H' s → E.bk σ' H'
  | .cont s => ∀ σ' H', GS K B0 G σ' H' s → E.ct σ' H'
  | .ret d => ∀ v H', Same G H' → R K (hid B0 H') v d → E.rt v H'
def tS (K : PySem.W.Frag) (g : FS) : TS := fun E σ H => ∃ B0 G s, GS K B0 G σ H s ∧ Fin K B0 G E (g s)
def sNil : FS := fun s => .next s
def sSeq (f g : FS) : FS := fun s => match f s with
  | .next s' => g s'
  | o => o
section
variable {X : Cx} {K : PySem.W.Frag} {st : Stmt} {sts : List Stmt} {f g : FS}
theorem ss_nil : PSs X [] (tS K sNil) := pss_nil.imp fun E σ H ⟨B0, G, s, hs, q⟩ => q σ H hs
theorem ss_one (h : PS X st (tS K f)) : PSs X [st] (tS K f) := pss_one h
theorem ss_cons (h : PS X st (tS K f)) (t : PSs X sts (tS K g)) : PSs X (st :: sts) (tS K (sSeq f g)) := (pss_cons h t).imp fun E σ H ⟨B0, G, s, hs, q⟩ => by
  refine ⟨B0, G, s, hs, ?_⟩
  unfold sSeq at q
  cases hf : f s with
  | next s' => rw [hf] at q; exact fun σ' H' hs' => ⟨B0, G, s', hs', q⟩
  | stuck => rw [hf] at q; exact q
  | ret d => rw [hf] at q; exact q
  | brk s' => rw [hf] at q; exact q
  | cont s' => rw [hf] at q; exact q
theorem ss_pass {pos : Pos} : PS X (.Pass pos) (tS K sNil) := ps_pass.imp fun E σ H ⟨B0, G, s, hs, q⟩ => q σ H hs
def sBreak : FS := fun s => .brk s
def sCont : FS := fun s => .cont s
theorem ss_break {pos : Pos} : PS X (.Break pos) (tS K sBreak) := ps_break.imp fun E σ H ⟨B0, G, s, hs, q⟩ => q σ H hs
theorem ss_continue {pos : Pos} : PS X (.Continue pos) (tS K sCont) := ps_continue.imp fun E σ H ⟨B0, G, s, hs, q⟩ => q σ H hs
theorem ss_doc {x j pos pos'} : PS X (.Expr (.Constant (.str x) j pos) pos') (tS K sNil) := ps_doc.imp fun E σ H ⟨B0, G, s, hs, q⟩ => q σ H hs
/-! return -/
def sRet (f : FE) : FS := fun s => match f s.1 with
  | none => .stuck
  | some d => .ret d
theorem GS.value {κ : Mo} {B0 : List Addr} {G H : Hp} {σ : St} {s : S} {f : FE} {es : Esc} {d : D} {Q : VK} (h : GS K B0 G σ H s) (hf : f s.1 = some d)
    (q : ∀ O B v H', GoodS K B0 G O B σ H s.1 (demote es s.2) → Same H H' → Post K B H H' κ v d → Q v H') : tD K κ f es σ H Q := by
  obtain ⟨O, B, g⟩ := h
  obtain ⟨O', B', g', _⟩ := g.demote es
  exact ⟨B', lv (demote es s.2), s.1, d, g'.good, demote_ok es s.2, hf, fun v H' e p => q O' B' v H' g' e p⟩
theorem ss_ret {e : Expr} {pos : Pos} {f : FE} {c : Esc} (h : PE X e (tD K (.br 0) f c)) : PS X (.Return (some e) pos) (tS K (sRet f)) := (ps_ret h).imp fun E σ H ⟨B0, G, s, hs, q⟩ => by
  unfold sRet at q
  split at q
  · exact q.elim
  · rename_i d hd
    refine GS.value hs hd fun O B v H' g e p => q v H' (g.same.trans e) ((RL.r p).mono (same_hidW (Same.refl H') fun a ha => .inl ((g.memB a).mpr (.inl ha))))
theorem ss_retN {pos : Pos} : PS X (.Return none pos) (tS K fun _ => .ret .none) := ps_retN.imp fun E σ H ⟨B0, G, s, hs, q⟩ => by
  obtain ⟨O, B, g⟩ := hs
  exact q .non H g.same .non
/-! if -/
def sIf (c : FT) (f g : FS) : FS := fun s => match c s.1 with
  | none => .stuck
  | some true => f s
  | some false => g s
theorem GS.mono {B0 : List Addr} {G H H' : Hp} {σ : St} {s : S} (h : GS K B0 G σ H s) (e : Same H H') : GS K B0 G σ H' s := let ⟨O, B, g⟩ := h; ⟨O, B, g.mono e⟩
theorem GS.good {B0 : List Addr} {G H : Hp} {σ : St} {s : S} (h : GS K B0 G σ H s) : ∃ B L, Good K B L σ H s.1 := let ⟨_, _, g⟩ := h; ⟨_, _, g.good⟩
theorem ss_if {c : Expr} {a b : List Stmt} {pos : Pos} {t : FT} (hc : PT X c (tT K t)) (ha : PSs X a (tS K f)) (hb : PSs X b (tS K g)) : PS X (.If c a b pos) (tS K (sIf t f g)) := (ps_if hc ha hb).imp fun E σ H ⟨B0, G, s, hs, q⟩ => by
  obtain ⟨B, L, gd⟩ := hs.good
  unfold sIf at q
  split at q
  · exact q.elim
  · exact ⟨B, L, s.1, true, gd, by assumption, fun H1 s1 => iteT ⟨B0, G, s, hs.mono s1, q⟩⟩
  · exact ⟨B, L, s.1, false, gd, by assumption, fun H1 s1 => iteF ⟨B0, G, s, hs.mono s1, q⟩⟩
/-! name = value -/
def sSet (i l : Nat) (f : FE) (c : Esc) : FS := fun s => match f s.1 with
  | none => .stuck
  | some d => if flat d = true then .next (s.1.set i (some d), s.2.set i 0) else .next (s.1.set i (some d), (demote c s.2).set i l)
def moOf : Nat → Mo
  | 0 => .br 0
  | 1 => .fr
  | _ => .fr2
theorem Post.open {B : List Addr} {H0 H' : Hp} {κ : Mo} {v : V} {d : D} (h : Post K B H0 H' κ v d) : R K H' v d := by
  cases κ with
  | br m => exact RL.open h
  | fr => obtain ⟨o, _, _, h⟩ := h; exact h.toRL_aux.open
  | fr2 => obtain ⟨o, _, _, h⟩ := h; exact h.toRL_aux.open
theorem set_ok {i l : Nat} {f : FE} {c : Esc} (hl : l ≤ 2) : ∀ E σ H, tS K (sSet i l f c) E σ H → tAsg (tD K (moOf l) f c) (gName i) E σ H := fun E σ H ⟨B0, G, s, hs, q⟩ => by
  unfold sSet at q
  split at q
  · exact q.elim
  · rename_i d hd
    split at q
    · rename_i hfl
      obtain ⟨O, B, g⟩ := hs
      refine ⟨[], _, s.1, d, g.good.zero, .zero, hd, fun v H' e p => q _ H' ?_⟩
      obtain ⟨O', B', g', _⟩ := (g.mono e).assign0 (i := i) (p.open.hidF ((g.ok.mono e).noTup) hfl)
      exact ⟨O', B', g'⟩
    · refine GS.value hs hd fun O B v H' g e p => q _ H' ?_
      match l, hl with
      | 0, _ =>
        obtain ⟨O', B', g', _⟩ := (g.mono e).assign0 (i := i) (RL.r p)
        exact ⟨O', B', g'⟩
      | 1, _ =>
        obtain ⟨o, h1, h2, h3⟩ := p
        obtain ⟨O', B', g', _⟩ := g.assign (i := i) e h1 h2 h3
        exact ⟨O', B', g'⟩
      | 2, _ =>
        obtain ⟨o, h1, h2, h3⟩ := p
        obtain ⟨O', B', g', _⟩ := g.assign (i := i) e h1 h2 h3
        exact ⟨O', B', g'⟩
theorem ss_set (i l : Nat) {x : Str} {e : Expr} {f : FE} {c : Esc} {pos pos' : Pos} (hN : X.N.Nodup) (he : PE X e (tD K (moOf l) f c)) (hl : l ≤ 2 := by decide) (hi : X.N[i]? = some x := by rfl) (hx : Loc X.env.scope x := by first | exact Or.inl rfl | exact Or.inr rfl) (hs : swapsWith e (some (.Name x pos')) pos.line X.env = pure false := by rfl) (hf : X.fn x = true ∨ X.env.scope.names.lookup x = some .local := by first | exact .inl rfl | exact .inr rfl) :
    PS X (.Assign [.Name x pos'] e pos) (tS K (sSet i l f c)) := (ps_set hN hi hx he hs hf).imp (set_ok hl)
/-- name = [..] -/
theorem ss_setLc (i l : Nat) {y : Str} {py : Pos} {elt tg iter : Expr} {ifs : List Expr} {scope : Scope} {own : List (Str × Nat)} {pos spos : Pos} {fi : FA} {ci ce : Esc} {t : Tg} {ft : FT} {fe : FE} (hc : X.calm = true) (hN : X.N.Nodup) (hi : PI X tg iter (tI K 1 fi ci)) (ok : BlkOk X.N X.env.scope scope own)
    (hg : ∀ (s : Shared) (H : Hp) (C : Addr) (cl : List (Str × Addr)) (fp : List Addr), PG (X.blk s H scope (compEnvC scope cl C X.env) fp) tg (tG K t)) (ht : ∀ (s : Shared) (H : Hp) (C : Addr) (cl : List (Str × Addr)) (fp : List Addr), PTs (X.blk s H scope (compEnvC scope cl C X.env) fp) ifs (tT K ft))
    (he : ∀ (s : Shared) (H : Hp) (C : Addr) (cl : List (Str × Addr)) (fp : List Addr), PE (X.blk s H scope (compEnvC scope cl C X.env) fp) elt (tD K (.br 0) fe ce)) (hl : l ≤ 1 := by decide) (hy : X.N[i]? = some y := by rfl) (hyl : X.env.scope.names.lookup y = some .local := by rfl)
    (hsw : swapsWith (.ListComp elt [⟨tg, iter, ifs, 0⟩] scope pos) (some (.Name y py)) spos.line X.env = pure true := by exact sw_true rfl rfl rfl (by decide +kernel)) (hv : t.ix.all ((own.map (·.2)).contains ·) = true := by rfl) (hs : ∀ x, foldedSetIterable iter X.env x = pure x := by intro _; rfl) :
    PS X (.Assign [.Name y py] (.ListComp elt [⟨tg, iter, ifs, 0⟩] scope pos) spos) (tS K (sSet i l (eLc fi t ft fe (own.map (·.2))) (ci ++ ce))) := (ps_setLc hc hN hy hyl hsw hi ok hg ht he hs).imp fun E σ H h =>
  lc_ok (κ := moOf l) rfl hv (by match l, hl with | 0, _ => rfl | 1, _ => rfl) σ H _ (set_ok (by omega) E σ H h)
/-! (a, b) = value: names -/
def zeros (L : List Nat) (l : List (Nat × D)) : List Nat := l.foldl (fun L p => L.set p.1 0) L
def sTup (t : Tg) (f : FE) (c : Esc) : FS := fun s => match f s.1 with
  | none => .stuck
  | some d => match t.go d with
    | none => .stuck
    | some l => if flat d = true then .next (setsD s.1 l, zeros s.2 l) else .next (setsD s.1 l, zeros (demote c s.2) l)
theorem GS.sets {B0 : List Addr} {G H : Hp} : ∀ {m : List (Nat × V)} {l : List (Nat × D)} {σ : St} {ρ : PEnv} {L : List Nat} {O : Nat → List Addr} {B B1 : List Addr}, GoodS K B0 G O B σ H ρ L → (∀ a ∈ B, a ∈ B1) → RS K (hid B1 H) m l → GS K B0 G (setsV σ m) H (setsD ρ l, zeros L l)
  | [], [], σ, ρ, L, O, B, B1, g, hB, .nil => ⟨O, B, g⟩
  | (i, v) :: m, (_, d) :: l, σ, ρ, L, O, B, B1, g, hB, .cons r t => by
    obtain ⟨O', B', g', hB'⟩ := g.assign0 (i := i) (v := v) (d := d) (r.mono (same_hidW (Same.refl H) fun a h => .inl (hB a h)))
    exact GS.sets (m := m) (l := l) g' (fun a h => hB a (hB' a h)) t
theorem ss_tup {tg e : Expr} {t : Tg} {f : FE} {c : Esc} {pos : Pos} (he : PE X e (tD K (.br 0) f c)) (hg : PG X tg (tG K t)) (hs : swapsWithSole [tg] e pos.line X.env = pure false := by rfl) (hw : swappedStores [tg] e X.env = pure none := by rfl)
    (h1 : (assignEach [tg] X.env).map (·.2) = [assign tg X.env] := by rfl) : PS X (.Assign [tg] e pos) (tS K (sTup t f c)) := (ps_asg he hg hs hw h1).imp fun E σ H ⟨B0, G, s, hs, q⟩ => by
  unfold sTup at q
  split at q
  · exact q.elim
  · rename_i d hd
    split at q
    · exact q.elim
    · rename_i l hl
      split at q
      · rename_i hfl
        obtain ⟨O, B, g⟩ := hs
        refine ⟨[], _, s.1, d, g.good.zero, .zero, hd, fun v H' e p => ?_⟩
        exact ⟨B, d, l, p.open.hidF ((g.ok.mono e).noTup) hfl, hl, fun m rs => q _ H' (GS.sets (g.mono e) (fun _ h => h) rs)⟩
      · refine GS.value (κ := .br 0) hs hd fun O B v H' g e p => ?_
        exact ⟨B, d, l, RL.r p, hl, fun m rs => q _ H' (GS.sets (g.mono e) (fun _ h => h) rs)⟩
/-! a, b = x, y with names -/
def sPar (i j : Nat) (f g : FE) (c : Esc) : FS := fun s => match f s.1, g s.1 with
  | some d, some e => if (flat d && flat e) = true then .next ((s.1.set i (some d)).set j (some e), (s.2.set i 0).set j 0) else .next ((s.1.set i (some d)).set j (some e), ((demote c s.2).set i 0).set j 0)
  | _, _ => .stuck
theorem ss_par (i j : Nat) {x y : Str} {a b : Expr} {f g : FE} {c c' : Esc} {px py pt pos : Pos} {kt k2 pt2} (hc : X.calm = true) (hN : X.N.Nodup) (ha : PE X a (tD K (.br 0) f c)) (hb : PE X b (tD K (.br 0) g c'))
    (hw : swappedStores [.Tuple [.Name x px, .Name y py] kt pt] (.Tuple [a, b] k2 pt2) X.env = pure (some [x, y])) (hi : X.N[i]? = some x := by rfl) (hj : X.N[j]? = some y := by rfl) (hij : i ≠ j := by decide)
    (hx : X.env.scope.names.lookup x = some .local := by rfl) (hy : X.env.scope.names.lookup y = some .local := by rfl)
    (hs : swapsWithSole [.Tuple [.Name x px, .Name y py] kt pt] (.Tuple [a, b] k2 pt2) pos.line X.env = pure false := by rfl) (hs1 : starEach [a, b] X.env = (false, eval a X.env) :: starEach [b] X.env := by rfl) (hs2 : starEach [b] X.env = (false, eval b X.env) :: starEach [] X.env := by rfl) :
    PS X (.Assign [.Tuple [.Name x px, .Name y py] kt pt] (.Tuple [a, b] k2 pt2) pos) (tS K (sPar i j f g (c ++ c'))) := (ps_par hc hN hi hj hij hx hy (qa_cons ha (qa_cons hb qa_nil hs2) hs1) hw hs).imp fun E σ H ⟨B0, G, s, hs, q⟩ => by
  unfold sPar at q
  split at q
  · rename_i d e hd he
    have hf : aCons f (aCons g aNil) s.1 = some [d, e] := by
      unfold aCons aNil
      simp [hd, he, o2]
    split at q
    · rename_i hfl
      rw [Bool.and_eq_true] at hfl
      obtain ⟨O, B, gd⟩ := hs
      refine ⟨[], _, s.1, _, gd.good.zero, .zero, hf, fun vs H' e1 hl p => ?_⟩
      match vs, hl with
      | [v, w], _ =>
        refine ⟨v, w, rfl, q _ H' ?_⟩
        have hB := (gd.ok.mono e1).noTup
        exact GS.sets (m := [(i, v), (j, w)]) (l := [(i, d), (j, e)]) (gd.mono e1) (fun _ h => h) (.cons ((RL.r0 (p 0 v d rfl rfl)).hidF hB hfl.1) (.cons ((RL.r0 (p 1 w e rfl rfl)).hidF hB hfl.2) .nil))
    · obtain ⟨O, B, gd⟩ := hs
      obtain ⟨O', B', g', _⟩ := gd.demote (c ++ (c' ++ []))
      rw [List.append_nil] at g'
      refine ⟨B', lv (demote (c ++ c') s.2), s.1, _, g'.good, by rw [List.append_nil]; exact demote_ok _ s.2, hf, fun vs H' e1 hl p => ?_⟩
      match vs, hl with
      | [v, w], _ =>
        refine ⟨v, w, rfl, q _ H' ?_⟩
        exact GS.sets (m := [(i, v), (j, w)]) (l := [(i, d), (j, e)]) (g'.mono e1) (fun _ h => h) (.cons (RL.r (p 0 v d rfl rfl)) (.cons (RL.r (p 1 w e rfl rfl)) .nil))
  · exact q.elim
/-! name op= value -/
def sAug (i : Nat) (op : D → D → Option D) (f : FE) : FS := fun s => match o2 (eVar i s.1) (f s.1) op with
  | none => .stuck
  | some d => .next (s.1.set i (some d), s.2.set i 0)
theorem ss_aug (i : Nat) {x : Str} {e : Expr} {f : FE} {c : Esc} {o : Operator} {ti : TIp} {op : D → D → Option D} {pos pos' : Pos} (hp : PIp X o ti) (hop : ∀ (B : List Addr) (x y : V) (dx dy d : D) (H : Hp) (Q : VK), Ok B H → R K H x dx → R K H y dy → op dx dy = some d → (∀ v H', Same H H' → R K (hid B H') v d → Q v H') → ti x y H Q)
    (hN : X.N.Nodup) (he : PE X e (tD K (.br 1) f c)) (hi : X.N[i]? = some x := by rfl) (hx : Loc X.env.scope x := by first | exact Or.inl rfl | exact Or.inr rfl) (hf : X.fn x = true ∨ X.env.scope.names.lookup x = some .local := by first | exact .inl rfl | exact .inr rfl) :
    PS X (.AugAssign (.Name x pos') o e pos) (tS K (sAug i op f)) := (ps_aug hN hi hx he hp hf).imp fun E σ H ⟨B0, G, s, hs, q⟩ => by
  unfold sAug at q
  split at q
  · exact q.elim
  · rename_i d hd
    obtain ⟨dx, dy, h1, h2, h3⟩ := o2_some hd
    obtain ⟨O, B, g⟩ := hs
    obtain ⟨v, e1, r⟩ := g.good.slot i dx (eVar_some h1)
    refine ⟨v, e1, [], _, s.1, dy, g.good.zero, .zero, h2, fun w H1 s1 p1 => ?_⟩
    refine hop B v w dx dy d H1 _ (g.ok.mono s1) (r.open.mono s1) (RL.r0 p1) h3 fun z H2 s2 rz => q _ H2 ?_
    obtain ⟨O', B', g', _⟩ := ((g.mono s1).mono s2).assign0 (i := i) rz
    exact ⟨O', B', g'⟩
def dAddI : D → D → Option D
  | .int i, .int j => some (.int (i + j))
  | _, _ => none
theorem ss_augAdd (i : Nat) {x : Str} {e : Expr} {f : FE} {c : Esc} {pos pos' : Pos} (hN : X.N.Nodup) (he : PE X e (tD K (.br 1) f c)) (hi : X.N[i]? = some x := by rfl) (hx : Loc X.env.scope x := by first | exact Or.inl rfl | exact Or.inr rfl) (hf : X.fn x = true ∨ X.env.scope.names.lookup x = some .local := by first | exact .inl rfl | exact .inr rfl) :
    PS X (.AugAssign (.Name x pos') .Add e pos) (tS K (sAug i dAddI f)) := ss_aug i ip_add (fun B x y dx dy d H Q ok rx ry h q => by
      unfold dAddI at h
      split at h
      · cases (Option.some.inj h)
        exact ⟨_, _, rx.int', ry.int', q _ H (Same.refl H) (.int _)⟩
      · cases h) hN he hi hx hf
theorem ss_augSub (i : Nat) {x : Str} {e : Expr} {f : FE} {c : Esc} {pos pos' : Pos} (hN : X.N.Nodup) (he : PE X e (tD K (.br 1) f c)) (hi : X.N[i]? = some x := by rfl) (hx : Loc X.env.scope x := by first | exact Or.inl rfl | exact Or.inr rfl) (hf : X.fn x = true ∨ X.env.scope.names.lookup x = some .local := by first | exact .inl rfl | exact .inr rfl) :
    PS X (.AugAssign (.Name x pos') .Sub e pos) (tS K (sAug i dSub f)) := ss_aug i ip_sub (fun B x y dx dy d H Q ok rx ry h q => by
      unfold dSub at h
      split at h
      · cases (Option.some.inj h)
        exact ⟨_, _, rx.int', ry.int', q _ H (Same.refl H) (.int _)⟩
      · cases h) hN he hi hx hf
/-! x.append(e), x[i] = e: x owned -/
def sApp (i : Nat) (f : FE) (c : Esc) : FS := fun s => match f s.1, eVar i s.1 with
  | some d, some (.list ds) => if ds.length < sz then
      (if flat d = true then (if lv s.2 i = 1 then .next (s.1.set i (some (.list (ds ++ [d]))), s.2) else .stuck)
        else (if lv (demote c s.2) i = 1 then .next (s.1.set i (some (.list (ds ++ [d]))), demote c s.2) else .stuck)) else .stuck
  | _, _ => .stuck
/-- the owned list at a name, changed -/
theorem GoodS.write {B0 B : List Addr} {G H : Hp} {O : Nat → List Addr} {σ : St} {ρ : PEnv} {L : List Nat} {i : Nat} {ds : List D} (g : GoodS K B0 G O B σ H ρ L) (hd : ρ[i]? = some (some (.list ds))) (hl : lv L i = 1) :
    ∃ a xs, σ[i]? = some (some (.ref a)) ∧ H a = some (.lst xs) ∧ RA K (hid B H) xs ds ∧ ∀ xs' ds', RA K (hid B H) xs' ds' → GS K B0 G σ (upd H a (.lst xs')) (ρ.set i (some (.list ds')), L) := by
  obtain ⟨v, h1, h2⟩ := g.slot i _ hd
  rw [hl] at h2
  generalize hoi : O i = oi at h2
  cases h2 with
  | z h _ => rcases h with h | h <;> cases h
  | @l _ a os xs _ e ra =>
    have hra : RA K (hid B H) xs ds := by
      have : ∀ {os : List (List Addr)} {vs : List V} {ds : List D}, ROA K B H 0 os vs ds → RA K (hid B H) vs ds := fun {os vs ds} h => by
        refine ROA.rec (K := K) (B := B) (H := H) (motive_1 := fun l o v d _ => l = 0 → R K (hid B H) v d) (motive_2 := fun l os vs ds _ => l = 0 → RA K (hid B H) vs ds) ?_ ?_ ?_ ?_ ?_ ?_ h rfl
        · intro l v d _ r _; exact r
        · intro l a os xs ds _ _ _ z; cases z
        · intro l a kvs es _ _ _ z; cases z
        · intro l a kvs es _ _ _ z; cases z
        · intro l _; exact .nil
        · intro l o os v d vs ds _ _ i1 i2 z; exact .cons (i1 z) (i2 z)
      exact this ra
    have aB : a ∈ B := (g.memB a).mpr (.inr ⟨i, by rw [hoi]; exact List.mem_cons_self⟩)
    refine ⟨a, xs, h1, e, hra, fun xs' ds' r => ?_⟩
    have hsame : Same (hid B H) (hid B (upd H a (.lst xs'))) := fun b o q => by
      obtain ⟨q1, q2⟩ := hid_some q
      rw [hid_out q1, upd_ne fun z => q1 (by rw [z]; exact aB)]
      exact q2
    have hos : os.flatten = [] := by
      have : ∀ {os : List (List Addr)} {vs : List V} {ds : List D}, ROA K B H 0 os vs ds → os.flatten = [] := fun {os vs ds} h => by
        refine ROA.rec (K := K) (B := B) (H := H) (motive_1 := fun l o v d _ => l = 0 → o = []) (motive_2 := fun l os vs ds _ => l = 0 → os.flatten = []) ?_ ?_ ?_ ?_ ?_ ?_ h rfl
        · intro l v d _ r _; rfl
        · intro l a os xs ds _ _ _ z; cases z
        · intro l a kvs es _ _ _ z; cases z
        · intro l a kvs es _ _ _ z; cases z
        · intro l _; rfl
        · intro l o os v d vs ds _ _ i1 i2 z; rw [List.flatten_cons, i1 z, i2 z]; rfl
      exact this ra
    rw [hos] at hoi
    refine ⟨O, B, g.memB, fun b hb => ?_, fun b o q => ?_, g.g0, g.gO, g.nd, g.dj, by rw [List.length_set, g.len], by rw [List.length_set, g.lenL], fun j d h => ?_⟩
    · by_cases hba : b = a
      · rw [hba]; exact ⟨_, upd_same, rfl⟩
      · rw [upd_ne hba]; exact g.ok b hb
    · rw [upd_ne fun z => ?_]
      · exact g.same _ _ q
      · rw [z] at q
        have := g.gO i a (by rw [hoi]; exact List.mem_cons_self)
        rw [this] at q; cases q
    · by_cases hj : j = i
      · subst hj
        have hi : j < ρ.length := (List.getElem?_eq_some_iff.mp hd).1
        simp only [List.getElem?_set_self hi] at h
        cases h
        refine ⟨.ref a, h1, ?_⟩
        rw [hoi]
        show RO K B _ (lv L j) _ _ _
        rw [hl]
        exact RO.l1 upd_same (r.mono hsame)
      · simp only [List.getElem?_set_ne (Ne.symm hj)] at h
        obtain ⟨w, h3, h4⟩ := g.slot j d h
        refine ⟨w, h3, h4.mono_aux hsame fun b hb => upd_ne fun z => ?_⟩
        exact g.dj j i hj b hb (by rw [hoi, z]; exact List.mem_cons_self)
theorem app_ok {i : Nat} {f : FE} {c : Esc} : ∀ E σ H, tS K (sApp i f c) E σ H → tDrop (tBM K "list" rAppend (tVar i) (tCons (tD K (.br 0) f c) tNil)) E σ H := fun E σ H ⟨B0, G, s, hs, q⟩ => by
  unfold sApp at q
  split at q
  · rename_i d ds hd hi
    have hi := eVar_some hi
    split at q
    · rename_i hz
      split at q
      · rename_i hfl
        split at q
        · rename_i hl
          obtain ⟨O, B, g⟩ := hs
          obtain ⟨a, xs, h1, h2, h3, h4⟩ := g.write hi hl
          refine ⟨.ref a, h1, .inl ⟨rfl, _, SqL.of h2⟩, [], _, s.1, d, g.good.zero, .zero, hd, fun v H1 s1 p1 => ?_⟩
          obtain ⟨a', xs', h1', h2', h3', h4'⟩ := (g.mono s1).write hi hl
          rw [h1] at h1'
          cases h1'
          have h5 := s1 _ _ h2
          rw [h5] at h2'
          cases h2'
          refine ⟨a, xs, v, rfl, rfl, h5, by rw [h3.length, sz_eq]; exact hz, ?_⟩
          exact q _ _ (h4' _ _ (h3'.append (.cons ((RL.r0 p1).hidF ((g.ok.mono s1).noTup) hfl) .nil)))
        · exact q.elim
      · split at q
        · rename_i hl
          obtain ⟨O, B, g0⟩ := hs
          obtain ⟨O', B', g, _⟩ := g0.demote c
          obtain ⟨a, xs, h1, h2, h3, h4⟩ := g.write hi hl
          refine ⟨.ref a, h1, .inl ⟨rfl, _, SqL.of h2⟩, B', _, s.1, d, g.good, demote_ok c s.2, hd, fun v H1 s1 p1 => ?_⟩
          obtain ⟨a', xs', h1', h2', h3', h4'⟩ := (g.mono s1).write hi hl
          rw [h1] at h1'
          cases h1'
          have h5 := s1 _ _ h2
          rw [h5] at h2'
          cases h2'
          refine ⟨a, xs, v, rfl, rfl, h5, by rw [h3.length, sz_eq]; exact hz, ?_⟩
          exact q _ _ (h4' _ _ (h3'.append (.cons (RL.r p1) .nil)))
        · exact q.elim
    · exact q.elim
  · exact q.elim
theorem ss_app (i : Nat) {x : Str} {e : Expr} {f : FE} {c : Esc} {pos p p2 p3 : Pos} (ps : PS X (.Expr (.Call (.Attribute (.Name x p) "append" p2) [e] [] p3) pos) (tDrop (tBM K "list" rAppend (tVar i) (tCons (tD K (.br 0) f c) tNil)))) :
    PS X (.Expr (.Call (.Attribute (.Name x p) "append" p2) [e] [] p3) pos) (tS K (sApp i f c)) := ps.imp app_ok
/-! x[j] = e -/
def sPut (i : Nat) (j f : FE) (c : Esc) : FS := fun s => match f s.1, eVar i s.1, j s.1 with
  | some d, some (.list ds), some (.int k) => match ixN ds.length k with
    | none => .stuck
    | some n => if flat d = true then (if lv s.2 i = 1 then .next (s.1.set i (some (.list (ds.set n d))), s.2) else .stuck)
        else (if lv (demote c s.2) i = 1 then .next (s.1.set i (some (.list (ds.set n d))), demote c s.2) else .stuck)
  | _, _, _ => .stuck
theorem put_ok {i : Nat} {j f : FE} {c cj : Esc} : ∀ E σ H, tS K (sPut i j f c) E σ H → tAsg (tD K (.br 0) f c) (gSub (tVar i) (tD K (.br 1) j cj) rSetL) E σ H := fun E σ H ⟨B0, G, s, hs, q⟩ => by
  unfold sPut at q
  split at q
  · rename_i d ds k hd hi hk
    have hi := eVar_some hi
    split at q
    · exact q.elim
    · rename_i n hn
      split at q
      · rename_i hfl
        split at q
        · rename_i hl
          obtain ⟨O, B, g⟩ := hs
          refine ⟨[], _, s.1, d, g.good.zero, .zero, hd, fun v H1 s1 p1 => ?_⟩
          obtain ⟨a, xs, h1, h2, h3, _⟩ := (g.mono s1).write hi hl
          refine ⟨.ref a, h1, [], _, s.1, _, (g.mono s1).good.zero, .zero, hk, fun w H2 s2 p2 => ?_⟩
          obtain ⟨a', xs', h1', h2', h3', h4'⟩ := ((g.mono s1).mono s2).write hi hl
          rw [h1] at h1'
          cases h1'
          have h5 := s2 _ _ h2
          rw [h5] at h2'
          cases h2'
          refine ⟨a, xs, _, n, rfl, RL.int p2, h5, by rw [h3.length]; exact hn, ?_⟩
          exact q _ _ (h4' _ _ (h3'.set (((RL.r0 p1).mono s2).hidF (((g.ok.mono s1).mono s2).noTup) hfl) n))
        · exact q.elim
      · split at q
        · rename_i hl
          obtain ⟨O, B, g0⟩ := hs
          obtain ⟨O', B', g, _⟩ := g0.demote c
          refine ⟨B', _, s.1, d, g.good, demote_ok c s.2, hd, fun v H1 s1 p1 => ?_⟩
          obtain ⟨a, xs, h1, h2, h3, _⟩ := (g.mono s1).write hi hl
          refine ⟨.ref a, h1, [], _, s.1, _, (g.mono s1).good.zero, .zero, hk, fun w H2 s2 p2 => ?_⟩
          obtain ⟨a', xs', h1', h2', h3', h4'⟩ := ((g.mono s1).mono s2).write hi hl
          rw [h1] at h1'
          cases h1'
          have h5 := s2 _ _ h2
          rw [h5] at h2'
          cases h2'
          refine ⟨a, xs, _, n, rfl, RL.int p2, h5, by rw [h3.length]; exact hn, ?_⟩
          exact q _ _ (h4' _ _ (h3'.set ((RL.r p1).mono (same_hid s2)) n))
        · exact q.elim
  · exact q.elim
theorem ss_put (i : Nat) {x : Str} {e ix : Expr} {j f : FE} {c cj : Esc} {pos p p2 : Pos} (ps : PS X (.Assign [.Subscript (.Name x p) ix p2] e pos) (tAsg (tD K (.br 0) f c) (gSub (tVar i) (tD K (.br 1) j cj) rSetL))) :
    PS X (.Assign [.Subscript (.Name x p) ix p2] e pos) (tS K (sPut i j f c)) := ps.imp put_ok
/-! for -/
def forGo (t : Tg) (body : FS) : List D → S → Out
  | [], s => .next s
  | d :: ds, s => match t.go d with
    | none => .stuck
    | some l => match body (setsD s.1 l, zeros s.2 l) with
      | .next s' => forGo t body ds s'
      | .cont s' => forGo t body ds s'
      | .brk s' => .next s'
      | .ret d => .ret d
      | .stuck => .stuck
def sFor (fi : FA) (c : Esc) (t : Tg) (body : FS) : FS := fun s => match fi s.1 with
  | none => .stuck
  | some ds => forGo t body ds (s.1, demote c s.2)
theorem Fin.mono {B0 : List Addr} {G G' : Hp} {E : Ends} {o : Out} (hG : Same G G') (g0 : ∀ a ∈ B0, G a ≠ none) (h : Fin K B0 G E o) : Fin K B0 G' E o := by
  have gs : ∀ {σ : St} {H : Hp} {s : S}, GS K B0 G' σ H s → GS K B0 G σ H s := fun {σ H s} ⟨O, B, g⟩ => ⟨O, B, g.memB, g.ok, hG.trans g.same, g0, fun i a h => hG.free (g.gO i a h), g.nd, g.dj, g.len, g.lenL, g.slot⟩
  cases o with
  | stuck => exact h
  | next s => exact fun σ' H' z => h σ' H' (gs z)
  | brk s => exact fun σ' H' z => h σ' H' (gs z)
  | cont s => exact fun σ' H' z => h σ' H' (gs z)
  | ret d => exact fun v H' e r => h v H' (hG.trans e) r
theorem for_core {fi : FA} {c : Esc} {t : Tg} {fb : FS} {ti : TI} {E : Ends} {σ : St} {H : Hp} {B0 : List Addr} {G : Hp} {s : S} (hs : GS K B0 G σ H s) (q : Fin K B0 G E (sFor fi c t fb s))
    (hti : ∀ B L ds, Good K B L σ H s.1 → EscOk c L → fi s.1 = some ds → ∀ Rr, (∀ J H1, Same H H1 → Walks K (gOf 0 B H1) B J ds → Rr J H1) → ti σ H Rr) : tFor ti (tG K t) (tS K fb) E σ H := by
  unfold sFor at q
  split at q
  · exact q.elim
  · rename_i ds hds
    obtain ⟨O, B, g0⟩ := hs
    obtain ⟨O', B', g, _⟩ := g0.demote c
    refine hti B' _ ds g.good (demote_ok c s.2) hds _ fun J H1 s1 wk => ?_
    -- what stands through the loop: all that no name owns
    have g1 := g.mono s1
    let G1 : Hp := fun a => if a ∈ B' ∧ a ∉ B0 then none else H1 a
    have hG1 : Same G1 H1 := fun b o e => by
      simp only [G1] at e
      split at e
      · cases e
      · exact e
    have hGG : Same G G1 := fun b o e => by
      simp only [G1]
      rw [if_neg fun z => ?_]
      · exact g1.same _ _ e
      · rcases (g1.memB b).mp z.1 with h | ⟨i, h⟩
        · exact z.2 h
        · rw [g1.gO i b h] at e; cases e
    have hhG : Same (gOf 0 B' H1) G1 := fun b o e => by
      obtain ⟨e1, e2⟩ := hid_some (show hid B' H1 b = some o from e)
      simp only [G1]
      rw [if_neg fun z => e1 z.1]
      exact e2
    have gs1 : GS K B0 G1 σ H1 (s.1, demote c s.2) := ⟨O', B', g1.memB, g1.ok, hG1, fun a h z => g1.g0 a h (hGG.free z), fun i a h => by
      simp only [G1]
      rw [if_pos ⟨(g1.memB a).mpr (.inr ⟨i, h⟩), fun z => g1.g0 a z (g1.gO i a h)⟩], g1.nd, g1.dj, g1.len, g1.lenL, g1.slot⟩
    have q1 : Fin K B0 G1 E (forGo t fb ds (s.1, demote c s.2)) := q.mono hGG g0.g0
    refine ⟨fun i n σ' H' => n = ds.length - i ∧ i ≤ ds.length ∧ ∃ s', GS K B0 G1 σ' H' s' ∧ Fin K B0 G1 E (forGo t fb (ds.drop i) s'), ⟨ds.length, by simp, Nat.zero_le _, _, gs1, by simpa using q1⟩, ?_⟩
    rintro i n σ' H' ⟨rfl, hi, s', gs', q'⟩
    have sG : Same G1 H' := let ⟨_, _, g⟩ := gs'; g.same
    by_cases hlt : i < ds.length
    · refine .inr ⟨wk.go i H' hlt (hhG.trans sG), fun σ2 H2 => (ds.length - (i + 1) = ds.length - (i + 1) ∧ i + 1 ≤ ds.length ∧ ∃ s', GS K B0 G1 σ2 H2 s' ∧ Fin K B0 G1 E (forGo t fb (ds.drop (i + 1)) s')), fun σ2 H2 w => ⟨_, by omega, w⟩, fun x H2 y => ?_⟩
      rw [List.drop_eq_getElem_cons hlt] at q'
      obtain ⟨s2, rx⟩ := wk.yld i H' x H2 _ (List.getElem?_eq_getElem hlt) (hhG.trans sG) y
      obtain ⟨O2, B2, g2⟩ := gs'
      have rx := rx B2 g2.ok fun a ha => by
        refine ⟨?_, g2.ok.trk a ha⟩
        rcases (g2.memB a).mp ha with h | ⟨j, h⟩
        · exact .inl ((g1.memB a).mpr (.inl h))
        · exact .inr (hhG.free (g2.gO j a h))
      unfold forGo at q'
      split at q'
      · exact q'.elim
      · rename_i l hl
        refine ⟨B2, _, l, rx, hl, fun m rs => ⟨B0, G1, _, GS.sets (g2.mono s2) (fun _ h => h) rs, ?_⟩⟩
        cases hbd : fb (setsD s'.1 l, zeros s'.2 l) with
        | stuck => rw [hbd] at q'; exact q'.elim
        | next s3 => rw [hbd] at q'; exact fun σ3 H3 g3 => ⟨rfl, hlt, s3, g3, q'⟩
        | cont s3 => rw [hbd] at q'; exact fun σ3 H3 g3 => ⟨rfl, hlt, s3, g3, q'⟩
        | brk s3 => rw [hbd] at q'; exact q'
        | ret d => rw [hbd] at q'; exact q'
    · have e : i = ds.length := by omega
      subst e
      refine .inl ⟨wk.stop H' (hhG.trans sG), ?_⟩
      rw [List.drop_length] at q'
      exact q' σ' H' gs'
theorem ss_for {iter tg : Expr} {body : List Stmt} {pos : Pos} {fi : FA} {c : Esc} {t : Tg} {fb : FS} (hp : PassesOwn (model X.prog X.w) X.A X.env X.xe) (hc : X.calm = true) (hi : PI X tg iter (tI K 0 fi c)) (hg : PG X tg (tG K t)) (hb : PSs X body (tS K fb))
    (hs : ∀ x, foldedSetIterable iter X.env x = pure x := by intro _; rfl) : PS X (.For tg iter body [] pos) (tS K (sFor fi c t fb)) := (ps_for hp hc hi hg hb hs).imp fun E σ H ⟨B0, G, s, hs, q⟩ =>
  for_core hs q fun B L ds g es hd Rr h => ⟨B, L, s.1, ds, g, es, hd, h⟩
/-! while -/
def whGo (c : FT) (body : FS) : Nat → S → Out
  | 0, _ => .stuck
  | n + 1, s => match c s.1 with
    | none => .stuck
    | some false => .next s
    | some true => match body s with
      | .next s' => whGo c body n s'
      | .cont s' => whGo c body n s'
      | .brk s' => .next s'
      | .ret d => .ret d
      | .stuck => .stuck
def sWhile (fuel : Nat) (c : FT) (body : FS) : FS := whGo c body fuel
theorem ss_while (fuel : Nat) {test : Expr} {body : List Stmt} {pos : Pos} {c : FT} {fb : FS} (hp : PassesOwn (model X.prog X.w) X.A X.env X.xe) (hc : PT X test (tT K c)) (hb : PSs X body (tS K fb)) : PS X (.While test body [] pos) (tS K (sWhile fuel c fb)) := (ps_while hp hc hb).imp fun E σ H ⟨B0, G, s, hs, q⟩ => by
  refine ⟨fun m σ' H' => ∃ s', GS K B0 G σ' H' s' ∧ Fin K B0 G E (whGo c fb m s'), ⟨fuel, s, hs, q⟩, ?_⟩
  rintro m σ' H' ⟨s', gs', q'⟩
  cases m with
  | zero => exact q'.elim
  | succ m =>
    obtain ⟨B, L, gd⟩ := gs'.good
    unfold whGo at q'
    split at q'
    · exact q'.elim
    · exact ⟨B, L, s'.1, false, gd, by assumption, fun H1 s1 => iteF (q' σ' H1 (gs'.mono s1))⟩
    · refine ⟨B, L, s'.1, true, gd, by assumption, fun H1 s1 => iteT ⟨fun σ2 H2 => ∃ s2, GS K B0 G σ2 H2 s2 ∧ Fin K B0 G E (whGo c fb m s2), fun σ2 H2 w => ⟨m, Nat.lt_succ_self m, w⟩, B0, G, s', gs'.mono s1, ?_⟩⟩
      cases hbd : fb s' with
      | stuck => rw [hbd] at q'; exact q'.elim
      | next s3 => rw [hbd] at q'; exact fun σ3 H3 g3 => ⟨s3, g3, q'⟩
      | cont s3 => rw [hbd] at q'; exact fun σ3 H3 g3 => ⟨s3, g3, q'⟩
      | brk s3 => rw [hbd] at q'; exact q'
      | ret d => rw [hbd] at q'; exact q'
end

/-! ### a def -/
def dfun (N n : Nat) (body : FS) : Fn := fun ds => if ds.length = n then (match body (ds.map some ++ List.replicate (N - n) none, List.replicate N 0) with
  | .ret d => some d
  | .next _ => some .none
  | _ => none) else none
theorem getD_rep {i N : Nat} : lv (List.replicate N 0) i = 0 := by
  unfold lv
  rw [List.getD_eq_getElem?_getD, List.getElem?_replicate]
  split <;> rfl
theorem start_ok {K : PySem.W.Frag} {B : List Addr} {H : Hp} {vs : List V} {ds : List D} {N : List Str} (ok : Ok B H) (r : RA K (hid B H) vs ds) (hn : ds.length ≤ N.length) :
    GS K B H (L2.start N vs) H (ds.map some ++ List.replicate (N.length - ds.length) none, List.replicate N.length 0) := by
  refine ⟨fun _ => [], B, fun a => by simp, ok, Same.refl H, ok.trk, fun i a h => by simp at h, fun i => List.nodup_nil, fun i j _ a h => by simp at h, ?_, ?_, fun i d h => ?_⟩
  · unfold L2.start
    simp [r.length]
  · simp; omega
  · have hi : i < ds.length := by
      by_cases hi : i < ds.length
      · exact hi
      · simp only [List.getElem?_append_right (show (ds.map some).length ≤ i by simpa using hi), List.getElem?_replicate] at h
        split at h <;> cases h
    simp only [List.getElem?_append_left (show i < (ds.map some).length by simpa using hi), List.getElem?_map] at h
    obtain ⟨x, h1, h2⟩ := Option.map_eq_some_iff.mp h
    cases h2
    obtain ⟨v, h3, h4⟩ := r.get h1
    refine ⟨v, ?_, ?_⟩
    · unfold L2.start
      rw [List.getElem?_append_left (by have := r.length; simp; omega), List.getElem?_map, h3]
      rfl
    · show RO K B H (lv (List.replicate N.length 0) i) [] v d
      rw [getD_rep]
      exact .z (.inl rfl) h4
section
variable {P : Program} {w : World} {K : PySem.W.Frag} {mg : Str → Option Value} {base : Heap}
theorem fun_den {x qual : Str} {st : Stmt} {f : Addr} {fd : FuncData} {N ps : List Str} {k : Nat} {g : FS} {NN n : Nat} (F : Fun K x qual st f fd) (hS : FnScope N ps (defScope st)) (hNN : NN = N.length) (hn : n = ps.length) (hle : ps.length ≤ N.length)
    (hbody : ∀ (cdv : Value) (A : Around) (outer : List Env) (s : Shared) (H : Hp) (E : XK), Room k (A.deeper (envOfC qual (defScope st) s.heap.objs.size f cdv)) → PSs (cxOf CX0 P w K mg base N qual (defScope st) f cdv A outer s H E).nox (defBody st) (tS K g)) :
    FnOk P w K mg base CX0 (k + 1) f fd ps (spD K n (dfun NN n g)) := by
  subst hNN hn
  refine F.ok hS spD_len (fun cdv A outer s H vs Q E hr h => ?_)
  obtain ⟨B, ds, d, ok, r, hl, hd, q⟩ := h
  refine ⟨_, hbody cdv A outer s H E hr, B, H, _, start_ok ok r (by rw [hl]; exact hle), ?_⟩
  unfold dfun at hd
  rw [if_pos hl] at hd
  rw [hl]
  split at hd
  · rename_i e
    rw [e]
    cases (Option.some.inj hd)
    exact q
  · rename_i e
    rw [e]
    cases (Option.some.inj hd)
    intro σ' H' ⟨O, B', g⟩
    exact q .non H' g.same .non
  · cases hd
end
end DS
end

section
set_option Elab.async false
set_option linter.all false
set_option maxRecDepth 100000
/-! Part h: more statements and tests. -/
namespace DS
open PySem PySem.Spec PyProof.Rows L2

theorem hu_of64 {A : Around} {k : Nat} (hr : Room k A) : A.units + 64 < cLine := hr.units
theorem hu2_of {A : Around} {k : Nat} (hr : Room k A) : A.units + 65 < cLine := by have := hr.un; omega
section
variable {X : Cx} {K : PySem.W.Frag} {κ : Mo} {pos : Pos} {a b : Expr} {fa fb : FE} {ca cb : Esc}
def tIsND (f : FE) : FT := fun ρ => o1 (f ρ) fun d => some (isNon d)
def tNotND (f : FE) : FT := fun ρ => o1 (f ρ) fun d => some (!isNon d)
theorem qt_isN {j pos'} (ha : PE X a (tD K (.br 1) fa ca)) : PT X (.Compare a [.Is] [.Constant .none j pos'] pos) (tT K (tIsND fa)) := (pt_cmp (pc_isN ha) rfl).imp fun σ H Q ⟨B, L, ρ, k, g, hf, q⟩ => by
  obtain ⟨d, h1, h2⟩ := o1_some hf
  cases (Option.some.inj h2)
  exact ⟨[], _, ρ, d, g.zero, .zero, h1, fun x H1 s1 p1 => ⟨_, by rw [(RL.r0 p1).isNon], q H1 s1⟩⟩
theorem qt_notN {j pos'} (ha : PE X a (tD K (.br 1) fa ca)) : PT X (.Compare a [.IsNot] [.Constant .none j pos'] pos) (tT K (tNotND fa)) := (pt_cmp (pc_notN ha) rfl).imp fun σ H Q ⟨B, L, ρ, k, g, hf, q⟩ => by
  obtain ⟨d, h1, h2⟩ := o1_some hf
  cases (Option.some.inj h2)
  exact ⟨[], _, ρ, d, g.zero, .zero, h1, fun x H1 s1 p1 => ⟨_, by rw [(RL.r0 p1).isNon], q H1 s1⟩⟩
/-! x[j] op= e on an owned list of ints -/
def sPutOp (i : Nat) (op : D → D → Option D) (j f : FE) : FS := fun s => match f s.1, eVar i s.1, j s.1 with
  | some d, some (.list ds), some (.int k) => match ixN ds.length k with
    | none => .stuck
    | some n => match o1 ds[n]? (fun x => op x d) with
      | some (.int y) => if lv s.2 i = 1 then .next (s.1.set i (some (.list (ds.set n (.int y)))), s.2) else .stuck
      | _ => .stuck
  | _, _, _ => .stuck
/-- reading an item by values -/
def rGetL : V → V → Hp → VK → Prop := fun o i H Q => ∃ p xs k x, o = .ref p ∧ i = .int k ∧ H p = some (.lst xs) ∧ atI xs k = some x ∧ Q x H
theorem get_list : PGet X rGetL := by
  intro pins s σ H o i ov iv Q I ro ri h
  obtain ⟨p, xs, k, z, rfl, rfl, hq, he, q⟩ := h
  cases ro
  obtain ⟨t, rfl⟩ := ri
  obtain ⟨its, r, pl, hz⟩ := I.list (SqL.of hq)
  obtain ⟨j, h1, h2, h3, h4, h5⟩ := atI_get he
  obtain ⟨w, ew, rw'⟩ := r.get h2
  have hl := r.length
  have hn := line63
  have fin : EP X pins σ Q w s := ⟨z, H, I, rw', q⟩
  by_cases h0 : 0 ≤ k
  · have hj : k.toNat = j := by
      rw [seqIndex_of h0 h5] at h1
      exact Option.some.inj h1
    exact wpAny_getItem_list pl.isList h0 (by omega) (by rw [hj]; simpa using ew) fin
  · have hj : (k + (its.toArray.size : Int)).toNat = j := by
      rw [seqIndex_neg (by omega) h4] at h1
      rw [List.size_toArray, ← hl]
      exact Option.some.inj h1
    exact wpAny_getItem_list_neg pl.isList (by omega) (by rw [List.size_toArray] <;> omega) (by omega) (by rw [hj]; simpa using ew) fin
/-- what an operator in place does to ints -/
def PIO (ti : TIp) (op : D → D → Option D) : Prop := ∀ (x y : V) (dx dy : D) (z : Int) (H : Hp) (Q : VK) (K : PySem.W.Frag), R K H x dx → R K H y dy → op dx dy = some (.int z) → Q (.int z) H → ti x y H Q
theorem pio_add : PIO (ipI fun i j => i + j) dAddI := by
  intro x y dx dy z H Q K rx ry h q
  unfold dAddI at h
  split at h
  · cases (Option.some.inj h)
    exact ⟨_, _, rx.int', ry.int', q⟩
  · cases h
theorem pio_sub : PIO (ipI fun i j => i - j) dSub := by
  intro x y dx dy z H Q K rx ry h q
  unfold dSub at h
  split at h
  · cases (Option.some.inj h)
    exact ⟨_, _, rx.int', ry.int', q⟩
  · cases h
theorem atI_of {α : Type} {xs : List α} {k : Int} {n : Nat} (h : ixN xs.length k = some n) : atI xs k = xs[n]? := by
  unfold atI; rw [h]; rfl
theorem putOp_ok {i : Nat} {j f : FE} {c cj : Esc} {op : D → D → Option D} {ti : TIp} (hio : PIO ti op) : ∀ E σ H, tS K (sPutOp i op j f) E σ H → tAugS (tVar i) (tD K (.br 1) j cj) (tD K (.br 1) f c) rGetL ti rSetL E σ H := fun E σ H ⟨B0, G, s, hs, q⟩ => by
  unfold sPutOp at q
  split at q
  · rename_i d ds k hd hi hk
    have hi := eVar_some hi
    split at q
    · exact q.elim
    · rename_i n hn
      split at q
      · rename_i y hy
        split at q
        · rename_i hl
          obtain ⟨e, he, hop⟩ := o1_some hy
          obtain ⟨O, B, g⟩ := hs
          obtain ⟨a, xs, h1, h2, h3, _⟩ := g.write hi hl
          refine ⟨.ref a, h1, [], _, s.1, _, g.good.zero, .zero, hk, fun w H1 s1 p1 => ?_⟩
          obtain ⟨v, hv, rv⟩ := h3.get he
          refine ⟨a, xs, k, v, rfl, RL.int p1, s1 _ _ h2, by rw [atI_of (by rw [h3.length]; exact hn)]; exact hv, [], _, s.1, d, (g.mono s1).good.zero, .zero, hd, fun u H2 s2 p2 => ?_⟩
          have s12 := s1.trans s2
          refine hio v u e d y H2 _ K ((rv.mono same_unhid).mono s12) (RL.r0 p2) hop ?_
          obtain ⟨a', xs', h1', h2', h3', h4'⟩ := (g.mono s12).write hi hl
          rw [h1] at h1'
          cases h1'
          have h5 := s12 _ _ h2
          rw [h5] at h2'
          cases h2'
          refine ⟨a, xs, k, n, rfl, RL.int p1, h5, by rw [h3.length]; exact hn, ?_⟩
          exact q _ _ (h4' _ _ (h3'.set (.int y) n))
        · exact q.elim
      · exact q.elim
  · exact q.elim
theorem ss_putOp (i : Nat) {x : Str} {e ix : Expr} {j f : FE} {c cj : Esc} {pos p p2 : Pos} {o : Operator} {op : D → D → Option D} {ti : TIp} (hio : PIO ti op) (ps : PS X (.AugAssign (.Subscript (.Name x p) ix p2) o e pos) (tAugS (tVar i) (tD K (.br 1) j cj) (tD K (.br 1) f c) rGetL ti rSetL)) :
    PS X (.AugAssign (.Subscript (.Name x p) ix p2) o e pos) (tS K (sPutOp i op j f)) := ps.imp (putOp_ok hio)
/-! x.extend(e) -/
def sExt (i : Nat) (f : FE) (c : Esc) : FS := fun s => match f s.1, eVar i s.1 with
  | some (.list es), some (.list ds) => if ds.length + es.length ≤ sz ∧ lv (demote c s.2) i = 1 then .next (s.1.set i (some (.list (ds ++ es))), demote c s.2) else .stuck
  | _, _ => .stuck
theorem ext_ok {i : Nat} {f : FE} {c : Esc} : ∀ E σ H, tS K (sExt i f c) E σ H → tDrop (tBM K "list" rExtend (tVar i) (tCons (tD K (.br 1) f c) tNil)) E σ H := fun E σ H ⟨B0, G, s, hs, q⟩ => by
  unfold sExt at q
  split at q
  · rename_i es ds hd hi
    have hi := eVar_some hi
    split at q
    · rename_i hz
      obtain ⟨hz, hl⟩ := hz
      obtain ⟨O, B, g0⟩ := hs
      obtain ⟨O', B', g, _⟩ := g0.demote c
      obtain ⟨a, xs, h1, h2, h3, h4⟩ := g.write hi hl
      refine ⟨.ref a, h1, .inl ⟨rfl, _, SqL.of h2⟩, B', _, s.1, _, g.good, demote_ok c s.2, hd, fun v H1 s1 p1 => ?_⟩
      obtain ⟨a', xs', h1', h2', h3', h4'⟩ := (g.mono s1).write hi hl
      rw [h1] at h1'
      cases h1'
      have h5 := s1 _ _ h2
      rw [h5] at h2'
      cases h2'
      obtain ⟨b, ys, rfl, e1, e2⟩ := RL.list1 p1
      refine ⟨a, b, xs, ys, rfl, rfl, h5, e1, by rw [h3.length, e2.length, sz_eq]; exact hz, ?_⟩
      exact q _ _ (h4' _ _ (h3'.append e2))
    · exact q.elim
  · exact q.elim
theorem ss_ext (i : Nat) {x : Str} {e : Expr} {f : FE} {c : Esc} {pos p p2 p3 : Pos} (ps : PS X (.Expr (.Call (.Attribute (.Name x p) "extend" p2) [e] [] p3) pos) (tDrop (tBM K "list" rExtend (tVar i) (tCons (tD K (.br 1) f c) tNil)))) :
    PS X (.Expr (.Call (.Attribute (.Name x p) "extend" p2) [e] [] p3) pos) (tS K (sExt i f c)) := ps.imp ext_ok
end
section
variable {P : Program} {w : World} {K : PySem.W.Frag} {mg : Str → Option Value} {base : Heap}
/-- a def that is never called -/
theorem fun_none {x qual : Str} {st : Stmt} {f : Addr} {fd : FuncData} {N ps : List Str} {k n : Nat} (F : Fun K x qual st f fd) (hS : FnScope N ps (defScope st)) (hn : n = ps.length) : FnOk P w K mg base CX0 (k + 1) f fd ps (spD K n fun _ => none) := by
  subst hn
  refine F.ok hS spD_len (fun cdv A outer s H vs Q E hr h => ?_)
  obtain ⟨B, ds, d, ok, r, hl, hd, q⟩ := h
  cases hd
end
end DS
end

section
set_option Elab.async false
set_option linter.all false
set_option maxRecDepth 100000
set_option maxHeartbeats 1000000
/-! Part i: zip and enumerate of lists and tuples, mixed. -/
namespace DS
open PySem PySem.Spec PyProof.Rows L2

/-- b: a tuple; else a list -/
def SqB (b : Bool) (K : PySem.W.Frag) (H : Hp) (a : Addr) (xs : List V) : Prop := if b = true then SqT K H a xs else SqL K H a xs
def ItB (b : Bool) (h : Heap) (it l : Addr) (i : Nat) : Prop := if b = true then h.IsTupleIter it l i else h.IsListIter it l i
def IsB (b : Bool) (h : Heap) (l : Addr) (items : Array Value) : Prop := if b = true then h.IsTuple l items else h.IsList l items
def beginB (b : Bool) (l : Addr) : Obj := if b = true then { cls := .type "tuple_iterator", data := .fields #[.ref l, .int 0 0] } else { cls := .type "list_iterator", data := .fields #[.ref l, .int 0 0] }
section
variable {b : Bool} {K : PySem.W.Frag}
theorem SqB.mono {H H' : Hp} {a : Addr} {xs : List V} (e : Same H H') (h : SqB b K H a xs) : SqB b K H' a xs := by
  cases b with
  | true => exact seqT_mono e h
  | false => exact e.seq h
theorem beginsB (l : Addr) (items : Array Value) : Begins (.ref l) (beginB b l) fun h => IsB b h l items := by
  cases b with
  | true => exact begins_tuple l items
  | false => exact begins_list l items
theorem beginB_it {h : Heap} {it l : Addr} (e : h.get? it = some (beginB b l)) : ItB b h it l 0 := by
  cases b with
  | true => exact ⟨_, e, rfl, rfl⟩
  | false => exact ⟨_, e, rfl, rfl⟩
theorem ItB.at {h h' : Heap} {it l : Addr} {i : Nat} (x : ItB b h it l i) (e : ∀ o, h.get? it = some o → h'.get? it = some o) : ItB b h' it l i := by
  cases b with
  | true => exact Heap.IsTupleIter.at x e
  | false => exact Heap.IsListIter.at x e
theorem ItB.obj {h : Heap} {it l : Addr} {i : Nat} (x : ItB b h it l i) : ∃ o, h.get? it = some o ∧ ∀ v, o.data ≠ .cell v := by
  cases b with
  | true => obtain ⟨o, e, _, d⟩ := x; exact ⟨o, e, fun v z => by rw [d] at z; cases z⟩
  | false => obtain ⟨o, e, _, d⟩ := x; exact ⟨o, e, fun v z => by rw [d] at z; cases z⟩
theorem drawsB {prog : Program} {w : World} {A : Around} (hh : A.handled = none) (it l : Addr) (hne : l ≠ it) (items : Array Value) :
    Draws prog w A it [it, l] items.size (fun i v => items[i]? = some v) (fun i h => ItB b h it l i ∧ IsB b h l items) := by
  cases b with
  | true => exact Draws.tuple hh it l hne items
  | false => exact Draws.list hh it l hne items
theorem _root_.L2.Inv.seqB {X : Cx} {pins : List (Addr × Obj)} {σ : L2.St} {H : Hp} {s : Shared} {a : Addr} {xs : List V} (I : Inv X pins σ H s) (h : SqB b X.K H a xs) : ∃ its : List Value, Vals xs its ∧ IsB b s.heap a its.toArray := by
  cases b with
  | true =>
    obtain ⟨its, rv, p, _⟩ := I.tuple h
    exact ⟨its, rv, p⟩
  | false =>
    obtain ⟨its, rv, p, _⟩ := I.list h
    exact ⟨its, rv, p.isList⟩
theorem _root_.L2.Inv.seqB_inj {X : Cx} {pins : List (Addr × Obj)} {σ : L2.St} {H : Hp} {s : Shared} {a : Addr} {xs ys : List V} (I : Inv X pins σ H s) (h : SqB b X.K H a xs) (h' : SqB b X.K H a ys) : xs = ys := by
  cases b with
  | true => exact I.tuple_inj h h'
  | false => exact I.list_inj h h'
theorem IsB.lt {h : Heap} {l : Addr} {items : Array Value} (x : IsB b h l items) : l < h.objs.size := by
  cases b with
  | true => obtain ⟨o, e, _⟩ := x; exact Heap.lt_size e
  | false => obtain ⟨o, e, _⟩ := x; exact Heap.lt_size e
theorem IsB.keeps {h h' : Heap} {l : Addr} {items : Array Value} (x : IsB b h l items) (k : ∀ c o, h.get? c = some o → h'.get? c = some o) : IsB b h' l items := by
  cases b with
  | true => obtain ⟨o, e, r⟩ := x; exact ⟨o, k _ _ e, r⟩
  | false => obtain ⟨o, e, r⟩ := x; exact ⟨o, k _ _ e, r⟩
end
theorem nin2 {α : Type} {z a b : α} (h1 : z ≠ a) (h2 : z ≠ b) : z ∉ [a, b] := by simp [h1, h2]
theorem in2 {α : Type} {a b : α} : a ∈ [a, b] := by simp
theorem sep_facts {N a1 a2 : Nat} (l1 : a1 < N) (l2 : a2 < N) : (N + 2 ≠ N + 4 ∧ N + 3 ≠ N + 4 ∧ N + 2 ≠ N + 3 ∧ N + 2 ≠ N ∧ N + 4 ≠ N ∧ N + 4 ≠ a1 ∧ N + 3 ≠ N ∧ N + 3 ≠ a1) ∧ N + 2 ≠ N + 1 ∧ N + 4 ≠ N + 1 ∧ N + 4 ≠ a2 ∧ N + 3 ≠ N + 1 ∧ N + 3 ≠ a2 ∧ N ≠ N + 1 ∧ N ≠ a2 ∧ N + 1 ≠ N ∧ N + 1 ≠ a1 := by omega
theorem sep_of {N a1 a2 : Nat} (l1 : a1 < N) (l2 : a2 < N) : ZipSep2 (N + 4) (N + 2) (N + 3) N (N + 1) [N, a1] [N + 1, a2] :=
  let ⟨⟨f1, f2, f3, f4, f5, f6, f7, f8⟩, f9, f10, f11, f12, f13, f14, f15, f16, f17⟩ := sep_facts l1 l2
  ⟨f1, f2, f3, f4, in2, nin2 f5 f6, nin2 f7 f8, f9, in2, nin2 f10 f11, nin2 f12 f13, nin2 f14 f15, nin2 f16 f17⟩
theorem ne_of_ltN {N a : Nat} (l : a < N) : a ≠ N ∧ a ≠ N + 1 ∧ N + 1 ≠ a ∧ N + 1 ≠ N := by omega
theorem le5 {N c : Nat} (h : c ∈ [N + 4, N + 2, N + 3, N, N + 1]) : N ≤ c := by
  simp only [List.mem_cons, List.not_mem_nil, or_false] at h
  omega
theorem le2 {N c : Nat} (h : c ∈ [N + 1, N]) : N ≤ c := by
  simp only [List.mem_cons, List.not_mem_nil, or_false] at h
  omega
/-- a new pair at each turn: what f and g say -/
def ItP (Sx Sy : Hp → List V → Prop) : It :=
  ⟨fun i H => ∃ (xs ys : List V) (x y : V), Sx H xs ∧ Sy H ys ∧ xs[i]? = some x ∧ ys[i]? = some y,
    fun i H v H' => ∃ T x y, v = .ref T ∧ H T = none ∧ H' = upd H T (.tup [x, y]) ∧ (∀ xs, Sx H xs → xs[i]? = some x) ∧ ∀ ys, Sy H ys → ys[i]? = some y,
    fun i H => ∃ xs ys : List V, Sx H xs ∧ Sy H ys ∧ i = min xs.length ys.length⟩
abbrev ItZ (b1 b2 : Bool) (K : PySem.W.Frag) (a1 a2 : Addr) : It := ItP (fun H xs => SqB b1 K H a1 xs) (fun H xs => SqB b2 K H a2 xs)
theorem turn_zipB {P : Program} {w : World} {K : PySem.W.Frag} {elts : List Expr} {kk : Nat} {tpos : Pos} {b1 b2 : Bool} {a1 a2 z TI TO i1 i2 : Addr} (S : ZipSep2 z TI TO i1 i2 [i1, a1] [i2, a2]) (n1 : a1 ≠ i1) (n2 : a2 ≠ i2) :
    Turn P w K (.Tuple elts kk tpos) (ItZ b1 b2 K a1 a2) [z, TI, TO, i1, i2] z (fun i h => IsZip h z TI TO .none ∧ IsTupOf2 h TI (.ref i1) (.ref i2) ∧ (∃ x y, IsTupOf2 h TO x y) ∧ ItB b1 h i1 a1 i ∧ ItB b2 h i2 a2 i) where
  mem := List.mem_cons_self
  obj := fun i h ⟨hz, hTI, ⟨x, y, hTO⟩, h1, h2⟩ c hc => by
    simp only [List.mem_cons, List.not_mem_nil, or_false] at hc
    rcases hc with rfl | rfl | rfl | rfl | rfl
    · exact ⟨_, hz, fun v q => nomatch q⟩
    · exact ⟨_, hTI, fun v q => nomatch q⟩
    · exact ⟨_, hTO, fun v q => nomatch q⟩
    · exact h1.obj
    · exact h2.obj
  keep := fun i h h' ⟨hz, hTI, ⟨x, y, hTO⟩, h1, h2⟩ k => ⟨k z (by simp) _ hz, k TI (by simp) _ hTI, ⟨x, y, k TO (by simp) _ hTO⟩, h1.at fun o e => k i1 (by simp) o e, h2.at fun o e => k i2 (by simp) o e⟩
  item := by
    intro X hP hw hK hc i pins s σ H E I hf ⟨hz, hTI, hTO, h1, h2⟩ hg
    subst hP hw hK
    obtain ⟨xs, ys, x, y, hqx, hqy, hx, hy⟩ := hg
    obtain ⟨its, rv, p⟩ := I.seqB hqx
    obtain ⟨its2, rv2, p2⟩ := I.seqB hqy
    have W := GoesN.zip2 (prog := X.prog) (w := X.w) (A := X.A) (elts := elts) (x1 := kk) (pos := tpos) S (drawsB (b := b1) (show X.A.in1.handled = none from I.ok.hd hc) i1 a1 n1 its.toArray) (drawsB (b := b2) (show X.A.in1.handled = none from I.ok.hd hc) i2 a2 n2 its2.toArray)
    have hlx : i < xs.length := (List.getElem?_eq_some_iff.mp hx).1
    have hly : i < ys.length := (List.getElem?_eq_some_iff.mp hy).1
    have l1 := rv.length
    have l2 := rv2.length
    refine thn (W.goes i s _ E (by simp only [List.size_toArray]; omega) ⟨hz, hTI, hTO, ⟨h1, p⟩, ⟨h2, p2⟩⟩ fun v h' tk ⟨T, u, u2, hv, hT, hu, hu2, hTup⟩ st' hk _ => ?_) fun r s1 q => q
    subst hv
    obtain ⟨w1, e1, ru⟩ := rv.get hx
    obtain ⟨w2, e2, ru2⟩ := rv2.get hy
    have f1 : u = w1 := by
      have : its[i]? = some u := by simpa using hu
      rw [e1] at this; exact (Option.some.inj this).symm
    have f2 : u2 = w2 := by
      have : its2[i]? = some u2 := by simpa using hu2
      rw [e2] at this; exact (Option.some.inj this).symm
    subst f1 f2
    have new : ObjOk X.prog X.w (upd H T (.tup [x, y])) h' T (.tup [x, y]) := ⟨by show 2 ≤ sizeLine; decide, [u, u2], .cons ru (.cons ru2 .nil), hTup⟩
    have I1 := I.turnedNew (t' := tk) (ch := [z, TI, TO, i1, i2]) (fun c o hb q => hk c o (fun hm => hb (by
      simp only [List.mem_cons, List.not_mem_nil, or_false] at hm ⊢
      rcases hm with h | h | h | h <;> simp [h])) q) hf hT new
    refine ⟨.ref T, _, I1, rfl, ⟨T, x, y, rfl, I.hok.fresh hT, rfl, fun l hl => by rw [Inv.seqB_inj I hl hqx]; exact hx, fun l hl => by rw [Inv.seqB_inj I hl hqy]; exact hy⟩, ⟨st'.1, st'.2.1, st'.2.2.1, st'.2.2.2.1.1, st'.2.2.2.2.1⟩, fun c hcm => ?_⟩
    have hlt : c < s.heap.objs.size := by
      simp only [List.mem_cons, List.not_mem_nil, or_false] at hcm
      obtain ⟨_, _, hTO'⟩ := hTO
      rcases hcm with rfl | rfl | rfl | rfl | rfl
      · exact Heap.lt_size hz
      · exact Heap.lt_size hTI
      · exact Heap.lt_size hTO'
      · obtain ⟨_, e, _⟩ := h1.obj; exact Heap.lt_size e
      · obtain ⟨_, e, _⟩ := h2.obj; exact Heap.lt_size e
    rw [upd_ne (Nat.ne_of_lt (Nat.lt_of_lt_of_le hlt hT))]
    exact (hf c hcm).1
  done := by
    intro X hP hw hK hc i pins s σ H E I hf ⟨hz, hTI, hTO, h1, h2⟩ hg
    subst hP hw hK
    obtain ⟨xs, ys, hqx, hqy, hi⟩ := hg
    obtain ⟨its, rv, p⟩ := I.seqB hqx
    obtain ⟨its2, rv2, p2⟩ := I.seqB hqy
    have W := GoesN.zip2 (prog := X.prog) (w := X.w) (A := X.A) (elts := elts) (x1 := kk) (pos := tpos) S (drawsB (b := b1) (show X.A.in1.handled = none from I.ok.hd hc) i1 a1 n1 its.toArray) (drawsB (b := b2) (show X.A.in1.handled = none from I.ok.hd hc) i2 a2 n2 its2.toArray)
    have hi' : i = min its.toArray.size its2.toArray.size := by simp only [List.size_toArray]; rw [hi, rv.length, rv2.length]
    subst hi'
    exact W.stops s (fun s1 => Inv X pins σ H s1) E ⟨hz, hTI, hTO, ⟨h1, p⟩, ⟨h2, p2⟩⟩ fun h' tk hk _ => I.turnedL (t' := tk) (ch := [z, TI, TO, i1, i2]) (fun c o hb q => hk c o (fun hm => hb (by
      simp only [List.mem_cons, List.not_mem_nil, or_false] at hm ⊢
      rcases hm with h | h | h | h <;> simp [h])) q) hf
  self := fun A i s Q E st h => wpAny_pyIter_zip st.1 h
def iZipB (K : PySem.W.Frag) (ta : TA) : TI := fun σ H R => ta σ H fun vs H1 => ∃ a1 a2 xs ys b1 b2, vs = [.ref a1, .ref a2] ∧ SqB b1 K H1 a1 xs ∧ SqB b2 K H1 a2 ys ∧ R (ItZ b1 b2 K a1 a2) H1
theorem pi_zipB {X : Cx} {e e2 : Expr} {ta : TA} {p pos tpos : Pos} {elts : List Expr} {kk : Nat} (hg : Gl X "zip") (hm : X.mg "zip" = none) (ha : PA X [e, e2] ta)
    (hs : starEach [e, e2] X.env = (false, eval e X.env) :: starEach [e2] X.env := by rfl) (hpl : (backTo pos (starEach [e2] X.env)).any (·.1) = false := by rfl) :
    PI X (.Tuple elts kk tpos) (.Call (.Name "zip" p) [e, e2] [] pos) (iZipB X.K ta) := by
  refine ⟨fun pins s σ H R I h => ?_⟩
  refine Call_ (ld_blt I hg hm PyProof.Rows.boot_zip (PyProof.Rows.callWith_type1 (thn (ha.run pos pins s σ H _ I h) fun us s1 ⟨vs, H1, I1, r1, q1⟩ => ?_) hs hpl))
  obtain ⟨a1, a2, xs, ys, b1, b2, ex, hx, hy, q⟩ := q1
  subst ex
  obtain ⟨u, u2, rfl, r, r'⟩ := vals2 r1
  cases r
  cases r'
  obtain ⟨its, rv, p1⟩ := Inv.seqB I1 hx
  obtain ⟨its2, rv2, p2⟩ := Inv.seqB I1 hy
  have l1 := p1.lt
  have l2 := p2.lt
  refine zip_begins2 (beginsB (b := b1) a1 its.toArray) (beginsB (b := b2) a2 its2.toArray) p1 p2 fun h' hz hTI hTO h1 h2 hsz hk => wpAny_pyIter_zip hz ?_
  have I2 : Inv X pins σ H1 { s1 with heap := h' } := I1.kept (t' := s1.toks) hk
  have hD := sep_of l1 l2
  refine ⟨s1.heap.objs.size + 4, [s1.heap.objs.size + 4, s1.heap.objs.size + 2, s1.heap.objs.size + 3, s1.heap.objs.size, s1.heap.objs.size + 1], _, _, H1, rfl, I2, turn_zipB hD (ne_of_ltN l1).1 (ne_of_ltN l2).2.1, ⟨hz, hTI, ⟨_, _, hTO⟩, beginB_it h1, beginB_it h2⟩, fun c hcm => ?_, q⟩
  exact I1.fpOk (le5 hcm) (I1.hok.fresh (le5 hcm))

/-! enumerate -/
abbrev ItE (b : Bool) (K : PySem.W.Frag) (a : Addr) : It :=
  ⟨fun i H => ∃ (xs : List V) (x : V), SqB b K H a xs ∧ xs[i]? = some x,
    fun i H v H' => ∃ T x, v = .ref T ∧ H T = none ∧ H' = upd H T (.tup [.int (i : Nat), x]) ∧ ∀ xs, SqB b K H a xs → xs[i]? = some x,
    fun i H => ∃ xs : List V, SqB b K H a xs ∧ i = xs.length⟩
theorem turn_enumB {P : Program} {w : World} {K : PySem.W.Frag} {elts : List Expr} {kk : Nat} {tpos : Pos} {b : Bool} {a e it : Addr} (hei : e ≠ it) (hea : e ≠ a) (hai : a ≠ it) :
    Turn P w K (.Tuple elts kk tpos) (ItE b K a) [e, it] e (fun i h => (∃ old, IsEnum h e it (0 + (i : Int)) old) ∧ ItB b h it a i) where
  mem := List.mem_cons_self
  obj := fun i h ⟨⟨old, he⟩, h1⟩ c hc => by
    simp only [List.mem_cons, List.not_mem_nil, or_false] at hc
    rcases hc with rfl | rfl
    · exact ⟨_, he, fun v q => nomatch q⟩
    · exact h1.obj
  keep := fun i h h' ⟨⟨old, he⟩, h1⟩ k => ⟨⟨old, k e (by simp) _ he⟩, h1.at fun o q => k it (by simp) o q⟩
  item := by
    intro X hP hw hK hc i pins s σ H E I hf ⟨he, h1⟩ hg
    subst hP hw hK
    obtain ⟨xs, x, hqx, hx⟩ := hg
    obtain ⟨its, rv, p⟩ := I.seqB hqx
    have W := GoesN.enumFrom (prog := X.prog) (w := X.w) (A := X.A) (elts := elts) (x1 := kk) (pos := tpos) 0 (drawsB (b := b) (show X.A.in1.handled = none from I.ok.hd hc) it a hai its.toArray) e hei (fun z => by rcases List.mem_cons.mp z with z | z; exact hei z; exact hea (List.mem_singleton.mp z)) List.mem_cons_self
    have hlx : i < xs.length := (List.getElem?_eq_some_iff.mp hx).1
    have l1 := rv.length
    refine thn (W.goes i s _ E (by simp only [List.size_toArray]; omega) ⟨he, h1, p⟩ fun v h' tk ⟨T, t, u, hv, hT, hu, hTup⟩ st' hk _ => ?_) fun r s1 q => q
    subst hv
    obtain ⟨w1, e1, ru⟩ := rv.get hx
    have f1 : u = w1 := by
      have : its[i]? = some u := by simpa using hu
      rw [e1] at this; exact (Option.some.inj this).symm
    subst f1
    have e0 : (0 : Int) + (i : Int) = (i : Nat) := by omega
    rw [e0] at hTup
    have new : ObjOk X.prog X.w (upd H T (.tup [.int (i : Nat), x])) h' T (.tup [.int (i : Nat), x]) := ⟨by show 2 ≤ sizeLine; decide, [.int (i : Nat) t, u], .cons ⟨_, rfl⟩ (.cons ru .nil), hTup⟩
    have I1 := I.turnedNew (t' := tk) (ch := [e, it]) (fun c o hb q => hk c o hb q) hf hT new
    refine ⟨.ref T, _, I1, rfl, ⟨T, x, rfl, I.hok.fresh hT, rfl, fun l hl => by rw [Inv.seqB_inj I hl hqx]; exact hx⟩, ⟨st'.1, st'.2.1⟩, fun c hcm => ?_⟩
    have hlt : c < s.heap.objs.size := by
      simp only [List.mem_cons, List.not_mem_nil, or_false] at hcm
      obtain ⟨_, he'⟩ := he
      rcases hcm with rfl | rfl
      · exact Heap.lt_size he'
      · obtain ⟨_, e, _⟩ := h1.obj; exact Heap.lt_size e
    rw [upd_ne (Nat.ne_of_lt (Nat.lt_of_lt_of_le hlt hT))]
    exact (hf c hcm).1
  done := by
    intro X hP hw hK hc i pins s σ H E I hf ⟨he, h1⟩ hg
    subst hP hw hK
    obtain ⟨xs, hqx, hi⟩ := hg
    obtain ⟨its, rv, p⟩ := I.seqB hqx
    have W := GoesN.enumFrom (prog := X.prog) (w := X.w) (A := X.A) (elts := elts) (x1 := kk) (pos := tpos) 0 (drawsB (b := b) (show X.A.in1.handled = none from I.ok.hd hc) it a hai its.toArray) e hei (fun z => by rcases List.mem_cons.mp z with z | z; exact hei z; exact hea (List.mem_singleton.mp z)) List.mem_cons_self
    have hi' : i = its.toArray.size := by simp only [List.size_toArray]; rw [hi, rv.length]
    subst hi'
    exact W.stops s (fun s1 => Inv X pins σ H s1) E ⟨he, h1, p⟩ fun h' tk hk _ => I.turnedL (t' := tk) (ch := [e, it]) (fun c o hb q => hk c o hb q) hf
  self := fun A i s Q E st h => let ⟨⟨_, he⟩, _⟩ := st; wpAny_pyIter_enum he h
theorem meets_enum1 {v : Value} {o : Obj} {H : Heap → Prop} (B : Begins v o H) :
    Meets (Builtin.«enumerate.__new__» ⟨[.type "enumerate", v], []⟩) (fun _ R s => H s.heap ∧
      R (.ok (.ret (.ref (s.heap.push o).objs.size))) { s with heap := (s.heap.push o).push { cls := .type "enumerate", data := .fields #[.none, .bool false, .ref s.heap.objs.size, rawInt 0, .none, .none] } }) :=
  .of_wp fun prog w A R s h => by
    obtain ⟨hp, g, d, tk, os⟩ := s
    obtain ⟨h1, h⟩ := h
    have hsub := sub_enumerate
    have q1 : ∀ {A' : Around} {E : Value → Shared → Prop} {Q : Value → Shared → Prop}, Q (.ref hp.objs.size) ⟨hp.push o, g, d, tk, os⟩ → wpAny (model prog w) A' (pyIter v) Q E ⟨hp, g, d, tk, os⟩ := fun q => B.iter prog w _ _ ⟨hp, g, d, tk, os⟩ _ h1 q
    wp_walk using q1
    refine wpAny_stack_any fun st => wpAny_pure ?_
    split
    · rename_i c _ _ _ _ _
      cases (c == Value.type "enumerate") <;> (wp_walk using q1; exact ⟨_, rfl, h⟩)
    · wp_walk using q1
      exact ⟨_, rfl, h⟩
theorem enum_begins1 {prog : Program} {w : World} {A : Around} {E : Value → Shared → Prop} {s : Shared} {v : Value} {o : Obj} {H : Heap → Prop} {Q : Value → Shared → Prop} (B : Begins v o H) (h1 : H s.heap)
    (h : ∀ h', IsEnum h' (s.heap.objs.size + 1) s.heap.objs.size 0 .none → h'.get? s.heap.objs.size = some o → (∀ b o, s.heap.get? b = some o → h'.get? b = some o) → Q (.ref (s.heap.objs.size + 1)) { s with heap := h' }) :
    wpAny (model prog w) A (call (.type "enumerate") [v]) Q E s := by
  refine callType_new F.called_enumerate (by decide) (F.typeCall_enumerate_1 _) (F.newCall_enumerate_1 _) (fun obj => F.args_object_init_2 obj _) F.entry_enumerate_new (meets_enum1 B) ⟨h1, ?_⟩
  have hz : (s.heap.push o).objs.size = s.heap.objs.size + 1 := Heap.size_push ..
  show _ ∧ _
  rw [hz]
  have he : IsEnum ((s.heap.push o).push { cls := .type "enumerate", data := .fields #[.none, .bool false, .ref s.heap.objs.size, rawInt 0, .none, .none] }) (s.heap.objs.size + 1) s.heap.objs.size 0 .none := by
    have e := Heap.get?_push_size (s.heap.push o) (o := { cls := .type "enumerate", data := .fields #[.none, .bool false, .ref s.heap.objs.size, rawInt 0, .none, .none] }) rfl
    rw [hz] at e; exact e
  exact ⟨⟨_, he, rfl⟩, h _ he (Heap.get?_push_of_some _ (Heap.get?_push_size _ B.free)) fun b o x => Heap.get?_push_of_some _ (Heap.get?_push_of_some _ x)⟩
def iEnumB (K : PySem.W.Frag) (ta : TA) : TI := fun σ H R => ta σ H fun vs H1 => ∃ a xs b, vs = [.ref a] ∧ SqB b K H1 a xs ∧ R (ItE b K a) H1
theorem pi_enumB {X : Cx} {e : Expr} {ta : TA} {p pos tpos : Pos} {elts : List Expr} {kk : Nat} (hg : Gl X "enumerate") (hm : X.mg "enumerate" = none) (ha : PA X [e] ta)
    (hs : starEach [e] X.env = [(false, eval e X.env)] := by rfl) : PI X (.Tuple elts kk tpos) (.Call (.Name "enumerate" p) [e] [] pos) (iEnumB X.K ta) := by
  refine ⟨fun pins s σ H R I h => ?_⟩
  refine Call_ (ld_blt I hg hm boot_enumerate (PyProof.Rows.callWith_type1 (thn (ha.run pos pins s σ H _ I h) fun us s1 ⟨vs, H1, I1, r1, q1⟩ => ?_) hs rfl))
  obtain ⟨a, xs, b, ex, hx, q⟩ := q1
  subst ex
  obtain ⟨u, rfl, r⟩ := vals1 r1
  cases r
  obtain ⟨its, rv, p1⟩ := Inv.seqB I1 hx
  have l1 := p1.lt
  refine enum_begins1 (beginsB (b := b) a its.toArray) p1 fun h' he h1 hk => wpAny_pyIter_enum he ?_
  have I2 : Inv X pins σ H1 { s1 with heap := h' } := I1.kept (t' := s1.toks) hk
  refine ⟨s1.heap.objs.size + 1, [s1.heap.objs.size + 1, s1.heap.objs.size], _, _, H1, rfl, I2, turn_enumB (b := b) (a := a) (ne_of_ltN l1).2.2.2 (ne_of_ltN l1).2.2.1 (ne_of_ltN l1).1, ⟨⟨_, he⟩, beginB_it h1⟩, fun c hcm => ?_, q⟩
  exact I1.fpOk (le2 hcm) (I1.hok.fresh (le2 hcm))

/-! ### the same on trees -/
section
variable {X : Cx} {K : PySem.W.Frag} {m : Nat}
theorem sq_of {B : List Addr} {H : Hp} {v : V} {d : D} {ds : List D} (hm : m ≤ 1) (h : RL K B H m v d) (hd : seqOf d = some ds) : ∃ a xs b, v = .ref a ∧ SqB b K (gOf m B H) a xs ∧ RA K (hid B H) xs ds := by
  unfold seqOf at hd
  split at hd
  · cases (Option.some.inj hd)
    obtain ⟨a, xs, rfl, e1, e2⟩ := RL.listG hm h
    exact ⟨a, xs, false, rfl, SqL.of e1, e2⟩
  · cases (Option.some.inj hd)
    obtain ⟨a, xs, rfl, e1, e1', e2⟩ := RL.tup h
    exact ⟨a, xs, true, rfl, seqT_mono same_gOf (.inl (.inl e1')), e2⟩
  · cases hd
theorem walks_pair {B : List Addr} {H1 : Hp} {Sx Sy : Hp → List V → Prop} {xs ys : List V} {ds es : List D} (hx : ∀ H, Same (gOf m B H1) H → Sx H xs) (hy : ∀ H, Same (gOf m B H1) H → Sy H ys) (rx : RA K (hid B H1) xs ds) (ry : RA K (hid B H1) ys es) :
    Walks K (gOf m B H1) B (ItP Sx Sy) ((ds.zip es).map fun p => .tuple [p.1, p.2]) where
  go := fun i H hi s => by
    simp only [List.length_map, List.length_zip] at hi
    have e1 := rx.length
    have e2 := ry.length
    exact ⟨xs, ys, xs[i]'(by omega), ys[i]'(by omega), hx H s, hy H s, by simp, by simp⟩
  stop := fun H s => ⟨xs, ys, hx H s, hy H s, by simp [rx.length, ry.length]⟩
  yld := fun i H v H' d hd s ⟨T, x, y, hv, hT, hH, h1, h2⟩ => by
    subst hv hH
    rw [List.getElem?_map] at hd
    obtain ⟨p, hp, e⟩ := Option.map_eq_some_iff.mp hd
    subst e
    rw [List.getElem?_zip_eq_some] at hp
    obtain ⟨x', f1, r1⟩ := rx.get hp.1
    obtain ⟨y', f2, r2⟩ := ry.get hp.2
    have g1 := h1 xs (hx H s)
    have g2 := h2 ys (hy H s)
    rw [f1] at g1
    rw [f2] at g2
    cases g1
    cases g2
    refine ⟨same_upd hT, fun B' _ hb => .tup (a := T) (xs := [x, y]) ?_ (.cons (r1.mono (keepR s (same_upd hT) hb)) (.cons (r2.mono (keepR s (same_upd hT) hb)) .nil))⟩
    rw [hid_out fun z => (hb T z).2 hT, upd_same]
def iZip2 (f g : FE) : FA := fun ρ => o2 (f ρ) (g ρ) fun d e => o2 (seqOf d) (seqOf e) fun ds es => some ((ds.zip es).map fun p => .tuple [p.1, p.2])
theorem qi_zip {e e2 : Expr} {f g : FE} {c c2 : Esc} {p pos tpos : Pos} {elts : List Expr} {kk : Nat} (hg : Gl X "zip") (hm : X.mg "zip" = none) (ha : PE X e (tD K (.br m) f c)) (hb : PE X e2 (tD K (.br m) g c2)) (hm1 : m ≤ 1 := by decide) (hX : X.K = K := by rfl)
    (hs : starEach [e, e2] X.env = (false, eval e X.env) :: starEach [e2] X.env := by rfl) (hs2 : starEach [e2] X.env = (false, eval e2 X.env) :: starEach [] X.env := by rfl) (hpl : (backTo pos (starEach [e2] X.env)).any (·.1) = false := by rfl) :
    PI X (.Tuple elts kk tpos) (.Call (.Name "zip" p) [e, e2] [] pos) (tI K m (iZip2 f g) (c ++ c2)) := by
  subst hX
  refine (pi_zipB hg hm (pa_cons ha (pa_cons hb pa_nil hs2) hs) hs hpl).imp fun σ H Rr ⟨B, L, ρ, ds, g, es, hf, q⟩ => ?_
  obtain ⟨d, d', h1, h2, h3⟩ := o2_some hf
  obtain ⟨xs, ys, h4, h5, h6⟩ := o2_some h3
  cases (Option.some.inj h6)
  refine ⟨B, L, ρ, d, g, es.left, h1, fun v H1 s1 p1 => ⟨B, L, ρ, d', g.mono s1, es.right, h2, fun w H2 s2 p2 => ?_⟩⟩
  obtain ⟨a1, vs1, b1, rfl, k1, r1⟩ := sq_of hm1 (RL.mono s2 (same_hid s2) p1) h4
  obtain ⟨a2, vs2, b2, rfl, k2, r2⟩ := sq_of hm1 p2 h5
  exact ⟨a1, a2, vs1, vs2, b1, b2, rfl, k1.mono gOf_unhid, k2.mono gOf_unhid, q _ H2 (s1.trans s2) (walks_pair (fun H s => k1.mono s) (fun H s => k2.mono s) r1 r2)⟩
def enumD (ds : List D) : List D := (ds.zipIdx).map fun p => .tuple [.int (p.2 : Nat), p.1]
def iEnumD (f : FE) : FA := fun ρ => o1 (f ρ) fun d => o1 (seqOf d) fun ds => some (enumD ds)
theorem walks_enum {B : List Addr} {H1 : Hp} {b : Bool} {a : Addr} {xs : List V} {ds : List D} (hx : SqB b K (gOf m B H1) a xs) (rx : RA K (hid B H1) xs ds) : Walks K (gOf m B H1) B (ItE b K a) (enumD ds) where
  go := fun i H hi s => by
    simp only [enumD, List.length_map, List.length_zipIdx] at hi
    have e1 := rx.length
    exact ⟨xs, xs[i]'(by omega), hx.mono s, by simp⟩
  stop := fun H s => ⟨xs, hx.mono s, by simp [enumD, rx.length]⟩
  yld := fun i H v H' d hd s ⟨T, x, hv, hT, hH, h1⟩ => by
    subst hv hH
    unfold enumD at hd
    rw [List.getElem?_map, List.getElem?_zipIdx] at hd
    obtain ⟨p, hp, e⟩ := Option.map_eq_some_iff.mp hd
    subst e
    obtain ⟨y, hy, e⟩ := Option.map_eq_some_iff.mp hp
    subst e
    obtain ⟨x', f1, r1⟩ := rx.get hy
    have g1 := h1 xs (hx.mono s)
    rw [f1] at g1
    cases g1
    refine ⟨same_upd hT, fun B' _ hb => .tup (a := T) (xs := [.int (i : Nat), x]) ?_ (.cons ?_ (.cons (r1.mono (keepR s (same_upd hT) hb)) .nil))⟩
    · rw [hid_out fun z => (hb T z).2 hT, upd_same]
    · have e0 : (((0 + i : Nat) : Int)) = ((i : Nat) : Int) := by omega
      show R K _ (.int (i : Nat)) (.int ((0 + i : Nat) : Int))
      rw [e0]
      exact .int _
theorem qi_enum {e : Expr} {f : FE} {c : Esc} {p pos tpos : Pos} {elts : List Expr} {kk : Nat} (hg : Gl X "enumerate") (hm : X.mg "enumerate" = none) (ha : PE X e (tD K (.br m) f c)) (hm1 : m ≤ 1 := by decide) (hX : X.K = K := by rfl)
    (hs : starEach [e] X.env = (false, eval e X.env) :: starEach [] X.env := by rfl) : PI X (.Tuple elts kk tpos) (.Call (.Name "enumerate" p) [e] [] pos) (tI K m (iEnumD f) c) := by
  subst hX
  refine (pi_enumB hg hm (pa_cons ha pa_nil hs) hs).imp fun σ H Rr ⟨B, L, ρ, ds, g, es, hf, q⟩ => ?_
  obtain ⟨d, h1, h3⟩ := o1_some hf
  obtain ⟨xs, h4, h6⟩ := o1_some h3
  cases (Option.some.inj h6)
  refine ⟨B, L, ρ, d, g, es, h1, fun v H1 s1 p1 => ?_⟩
  obtain ⟨a1, vs1, b1, rfl, k1, r1⟩ := sq_of hm1 p1 h4
  exact ⟨a1, vs1, b1, rfl, k1.mono gOf_unhid, q _ H1 s1 (walks_enum k1 r1)⟩
end
end DS
end

section
set_option Elab.async false
set_option linter.all false
set_option maxRecDepth 100000
set_option maxHeartbeats 1000000
/-! Part j: list.index, list(range(..)), a, b, c = x, y, z. -/
namespace DS
open PySem PySem.Spec PyProof.Rows L2

section
variable {X : Cx} {K : PySem.W.Frag} {κ : Mo} {o e : Expr} {fo fe : FE} {co ce : Esc} {T id : String} {r : V → List V → Hp → VK → Prop} {dop : D → D → Option D}
/-- a method of a built-in type with one argument and a flat answer -/
structure MethF (K : PySem.W.Frag) (T : String) (r : V → List V → Hp → VK → Prop) (dop : D → D → Option D) : Prop where
  ty : ∀ (x : V) (dx dy d : D) (H : Hp), R K H x dx → dop dx dy = some d → tyV K T x H
  run : ∀ (x y : V) (dx dy d : D) (H : Hp) (Q : VK), R K H x dx → R K H y dy → dop dx dy = some d → (∀ v, R K H v d → flat d = true → Q v H) → r x [y] H Q
theorem qe_m1F (hd : MethF K T r dop) (h : PE X e (tBM K T r (tD K (.br 1) fo co) (tCons (tD K (.br 1) fe ce) tNil))) : PE X e (tD K κ (eOp dop fo fe) []) := h.imp fun σ H Q ⟨B, L, ρ, d, g, es, hf, q⟩ => by
  obtain ⟨dx, dy, h1, h2, h3⟩ := o2_some hf
  refine ⟨[], _, ρ, dx, g.zero, .zero, h1, fun x H1 s1 p1 => ⟨hd.ty x dx dy d H1 (RL.r0 p1) h3, [], _, ρ, dy, (g.mono s1).zero, .zero, h2, fun y H2 s2 p2 => ?_⟩⟩
  exact hd.run x y dx dy d H2 Q ((RL.r0 p1).mono s2) (RL.r0 p2) h3 fun v rv fl => q v H2 (s1.trans s2) (Post.of_flat (rv.hidF ((g.ok.mono s1).mono s2).noTup fl) (flat_top fl))
def dIndex : D → D → Option D
  | .list ds, d => if (SeqAt.shaped (.list ds) && SeqAt.shaped d) = true then (match ds.findIdx? fun z => PyData.eqv z d with
    | some j => some (.int (j : Nat))
    | none => none) else none
  | _, _ => none
theorem mf_index : MethF K "list" (rIndexD K) dIndex where
  ty := fun x dx dy d H rx h => by
    unfold dIndex at h
    split at h
    · cases rx with
      | lst h1 h2 => exact .inl ⟨rfl, _, SqL.of h1⟩
    · cases h
  run := fun x y dx dy d H Q rx ry h q => by
    unfold dIndex at h
    split at h
    · split at h
      · rename_i hs
        split at h
        · rename_i j hj
          cases (Option.some.inj h)
          have hs := (Bool.and_eq_true _ _).mp hs
          cases rx with
          | lst h1 h2 =>
            have hj := List.findIdx?_eq_some_iff_getElem.mp hj
            obtain ⟨hlt, he, hno⟩ := hj
            refine ⟨_, y, dy, _, j, _, rfl, rfl, (R.lst h1 h2).toDp (SeqAt.canLay_of_shaped hs.1), ry.toDp (SeqAt.canLay_of_shaped hs.2), hs.1, hs.2, List.getElem?_eq_getElem hlt, he, fun m z' hm hz => ?_, q _ (.int _) rfl⟩
            obtain ⟨hml, hz'⟩ := List.getElem?_eq_some_iff.mp hz
            have hh := hno m hm
            rw [hz'] at hh
            simpa using hh
        · cases h
      · cases h
    · cases h
end
section
variable {X : Cx} {K : PySem.W.Frag} {κ : Mo} {pos : Pos} {a b c : Expr} {f g h : FE} {ca cb cc : Esc}
/-! a, b, c = x, y, z with names -/
def sPar3 (i j k : Nat) (f g h : FE) (c : Esc) : FS := fun s => match f s.1, g s.1, h s.1 with
  | some d, some e, some u => .next (((s.1.set i (some d)).set j (some e)).set k (some u), (((demote c s.2).set i 0).set j 0).set k 0)
  | _, _, _ => .stuck
theorem ss_par3 (i j k : Nat) {x y z : Str} {px py pz pt pos : Pos} {kt k2 pt2} (hc : X.calm = true) (hN : X.N.Nodup) (ha : PE X a (tD K (.br 0) f ca)) (hb : PE X b (tD K (.br 0) g cb)) (hcc : PE X c (tD K (.br 0) h cc))
    (hw : swappedStores [.Tuple [.Name x px, .Name y py, .Name z pz] kt pt] (.Tuple [a, b, c] k2 pt2) X.env = pure (some [x, y, z])) (hi : X.N[i]? = some x := by rfl) (hj : X.N[j]? = some y := by rfl) (hk : X.N[k]? = some z := by rfl) (hij : i ≠ j := by decide) (hik : i ≠ k := by decide) (hjk : j ≠ k := by decide)
    (hx : X.env.scope.names.lookup x = some .local := by rfl) (hy : X.env.scope.names.lookup y = some .local := by rfl) (hz : X.env.scope.names.lookup z = some .local := by rfl)
    (hs : swapsWithSole [.Tuple [.Name x px, .Name y py, .Name z pz] kt pt] (.Tuple [a, b, c] k2 pt2) pos.line X.env = pure false := by rfl) (hs1 : starEach [a, b, c] X.env = (false, eval a X.env) :: starEach [b, c] X.env := by rfl) (hs2 : starEach [b, c] X.env = (false, eval b X.env) :: starEach [c] X.env := by rfl) (hs3 : starEach [c] X.env = (false, eval c X.env) :: starEach [] X.env := by rfl) :
    PS X (.Assign [.Tuple [.Name x px, .Name y py, .Name z pz] kt pt] (.Tuple [a, b, c] k2 pt2) pos) (tS K (sPar3 i j k f g h (ca ++ (cb ++ cc)))) := (ps_par3 hc hN hi hj hk hij hik hjk hx hy hz (qa_cons ha (qa_cons hb (qa_cons hcc qa_nil hs3) hs2) hs1) hw hs).imp fun E σ H ⟨B0, G, s, hs, q⟩ => by
  unfold sPar3 at q
  split at q
  · rename_i d e u hd he hu
    have hf : aCons f (aCons g (aCons h aNil)) s.1 = some [d, e, u] := by
      unfold aCons aNil
      simp [hd, he, hu, o2]
    obtain ⟨O, B, gd⟩ := hs
    obtain ⟨O', B', g', _⟩ := gd.demote (ca ++ (cb ++ (cc ++ [])))
    rw [List.append_nil] at g'
    refine ⟨B', lv (demote (ca ++ (cb ++ cc)) s.2), s.1, _, g'.good, by rw [List.append_nil]; exact demote_ok _ s.2, hf, fun vs H' e1 hl p => ?_⟩
    match vs, hl with
    | [v1, v2, v3], _ =>
      refine ⟨v1, v2, v3, rfl, q _ H' ?_⟩
      exact GS.sets (m := [(i, v1), (j, v2), (k, v3)]) (l := [(i, d), (j, e), (k, u)]) (g'.mono e1) (fun _ h => h) (.cons (RL.r (p 0 v1 d rfl rfl)) (.cons (RL.r (p 1 v2 e rfl rfl)) (.cons (RL.r (p 2 v3 u rfl rfl)) .nil)))
  · exact q.elim
/-! list(range(..)), tuple(range(..)) -/
def rgOk (a b : Int) : Bool := rngOk a b && decide ((b - a).toNat ≤ 16777216)
theorem rgOk_ok {a b : Int} (h : rgOk a b = true) : RgOk a b := by
  unfold rgOk at h
  rw [Bool.and_eq_true] at h
  have h1 := rngOk_ok h.1
  have h2 := of_decide_eq_true h.2
  exact ⟨h1.1, h1.2.1, h1.2.2.1, h1.2.2.2, by omega⟩
def eRg (t : List D → D) (f g : FE) : FE := fun ρ => o2 (f ρ) (g ρ) fun d e => match d, e with
  | .int i, .int j => if rgOk i j = true then some (t (rngD i (j - i).toNat)) else none
  | _, _ => none
def tRgD (K : PySem.W.Frag) (f g : FE) : St → Hp → (Int → Int → Hp → Prop) → Prop := fun σ H Q => ∃ B L ρ i j, Good K B L σ H ρ ∧ f ρ = some (.int i) ∧ g ρ = some (.int j) ∧ ∀ H', Same H H' → Q i j H'
theorem qrg_1 {p : Pos} (hg : Gl X "range") (hm : X.mg "range" = none) (ha : PE X a (tD K (.br 1) f ca)) (na : starEach [a] X.env = (false, eval a X.env) :: starEach [] X.env := by rfl) : PRg X (.Call (.Name "range" p) [a] [] pos) (tRgD K (eC (.int 0)) f) := by
  intro pins s σ H Q I ⟨B, L, ρ, i, j, gd, h1, h2, q⟩
  cases (Option.some.inj h1)
  exact prg_1 hg hm ha na pins s σ H Q I ⟨[], _, ρ, _, gd.zero, .zero, h2, fun v H1 s1 p1 => ⟨j, RL.int p1, q H1 s1⟩⟩
theorem qrg_2 {p : Pos} (hg : Gl X "range") (hm : X.mg "range" = none) (ha : PE X a (tD K (.br 1) f ca)) (hb : PE X b (tD K (.br 1) g cb)) (na : starEach [a, b] X.env = (false, eval a X.env) :: starEach [b] X.env := by rfl) (nb : starEach [b] X.env = (false, eval b X.env) :: starEach [] X.env := by rfl) (hp : (backTo pos (starEach [b] X.env)).any (·.1) = false := by rfl) :
    PRg X (.Call (.Name "range" p) [a, b] [] pos) (tRgD K f g) := by
  intro pins s σ H Q I ⟨B, L, ρ, i, j, gd, h1, h2, q⟩
  exact prg_2 hg hm ha hb na nb hp pins s σ H Q I ⟨[], _, ρ, _, gd.zero, .zero, h1, fun v H1 s1 p1 => ⟨[], _, ρ, _, (gd.mono s1).zero, .zero, h2, fun w H2 s2 p2 => ⟨i, j, RL.int p1, RL.int p2, q H2 (s1.trans s2)⟩⟩⟩
theorem rgV_R {H : Hp} (i : Int) (n : Nat) : RA K H ((List.range n).map fun k => V.int (i + (k : Nat))) (rngD i n) := by
  unfold rngD
  generalize List.range n = l
  induction l with
  | nil => exact .nil
  | cons k r ih => exact .cons (.int _) ih
theorem qe_listRg {p : Pos} {e : Expr} (hc : X.calm = true) (hg : Gl X "list") (hm : X.mg "list" = none) (he : PRg X e (tRgD K f g)) (hκ : κ.one = true := by rfl) (na : starEach [e] X.env = (false, eval e X.env) :: starEach [] X.env := by rfl) : PE X (.Call (.Name "list" p) [e] [] pos) (tD K κ (eRg .list f g) []) :=
  (pe_listRg hc hg hm he na).imp fun σ H Q ⟨B, L, ρ, d, gd, es, hf, q⟩ => by
  obtain ⟨d1, d2, h1, h2, h3⟩ := o2_some hf
  split at h3
  · rename_i i j
    obtain ⟨hok, e⟩ := ite_some h3
    subst e
    refine ⟨B, L, ρ, i, j, gd, h1, h2, fun H1 s1 => ⟨rgOk_ok hok, fun t nt => q _ _ (s1.trans (same_upd nt)) (Post.new gd.ok.trk (s1.free nt) upd_same (rgV_R i _) hκ)⟩⟩
  · cases h3
theorem qe_tupRg {p : Pos} {e : Expr} (hc : X.calm = true) (hg : Gl X "tuple") (hm : X.mg "tuple" = none) (he : PRg X e (tRgD K f g)) (na : starEach [e] X.env = (false, eval e X.env) :: starEach [] X.env := by rfl) : PE X (.Call (.Name "tuple" p) [e] [] pos) (tD K κ (eRg .tuple f g) []) :=
  (pe_tupRg hc hg hm he na).imp fun σ H Q ⟨B, L, ρ, d, gd, es, hf, q⟩ => by
  obtain ⟨d1, d2, h1, h2, h3⟩ := o2_some hf
  split at h3
  · rename_i i j
    obtain ⟨hok, e⟩ := ite_some h3
    subst e
    refine ⟨B, L, ρ, i, j, gd, h1, h2, fun H1 s1 => ⟨rgOk_ok hok, fun t nt => q _ _ (s1.trans (same_upd nt)) (Post.of_flat (.tup (a := t) (xs := rgV i j) ?_ (rgV_R i _)) rfl)⟩⟩
    rw [hid_out ((gd.ok.mono s1).trk.new nt), upd_same]
  · cases h3
end
end DS
end

section
set_option Elab.async false
set_option linter.all false
set_option maxRecDepth 100000
/-! Part k: the law's own promise. -/
namespace DS
open PySem PySem.Spec PyProof.Rows L2
/-- the script as a tree: a list that is never written -/
def scr (ns : List Int) : D := .dict [(.none, .list (ns.map PyData.int))]
theorem law_sp {K : PySem.W.Frag} {F : Fn} {H : Hp} {a : Addr} {ns : List Int} (h : F [scr ns] = some (.bool true)) (hS : SqL K H a (ns.map V.int)) : spD K 1 F [.ref a] H (fun v _ => v = .bl true) fun _ _ _ => False :=
  ⟨[], [scr ns], .bool true, Ok.nil, by rw [hid_nil]; exact .cons (.frz hS (RA.ofInts ns)) .nil, rfl, h, fun v H' _ r => r.bl'⟩
end DS
end

section
set_option Elab.async false
set_option linter.all false
set_option maxRecDepth 100000
set_option maxHeartbeats 1000000
/-! Part m: min, max, sorted of trees that are alike. -/
namespace DS
open PySem PySem.Spec PyProof.Rows L2

/-- trees that can be compared with each other -/
def allCmp (ds : List D) : Bool := PyData.canLayAll0 ds && decide (PyData.depthAll ds ≤ 60) && ds.all fun x => !noneD x && ds.all fun y => PySem.W.alike x y
theorem noneD_ne {x : D} (h : (!noneD x) = true) : x ≠ .none := by
  intro e
  rw [e] at h
  simp [noneD] at h
theorem allCmp_facts {ds : List D} (h : allCmp ds = true) : PyData.canLayAll0 ds = true ∧ PyData.depthAll ds ≤ 60 ∧ PySem.W.AlikeAll ds := by
  unfold allCmp at h
  simp only [Bool.and_eq_true, decide_eq_true_eq, List.all_eq_true] at h
  exact ⟨h.1.1, h.1.2, fun x hx y hy => (h.2 x hx).2 y hy, fun x hx => noneD_ne (h.2 x hx).1⟩
theorem fold_mem (f : D → D → Bool) : ∀ (r : List D) (x : D), r.foldl (fun a y => if f y a = true then y else a) x ∈ x :: r
  | [], x => .head _
  | y :: r, x => by
    have := fold_mem f r (if f y x = true then y else x)
    rw [List.foldl_cons]
    rcases List.mem_cons.mp this with e | e
    · rw [e]
      split
      · exact .tail _ (.head _)
      · exact .head _
    · exact .tail _ (.tail _ e)
theorem minD_mem (x : D) (r : List D) : PySem.W.minD x r ∈ x :: r := fold_mem (fun y a => PySem.W.dataLt y a) r x
theorem maxD_mem (x : D) (r : List D) : PySem.W.maxD x r ∈ x :: r := fold_mem (fun y a => PySem.W.dataLt a y) r x
/-- min(xs), max(xs) as g tells -/
def rBest (K : PySem.W.Frag) (g : D → List D → D) : List V → Hp → VK → Prop := fun vs H Q => ∃ a xs ds x r, vs = [.ref a] ∧ (SqL K H a xs ∨ SqT K H a xs) ∧ DpAll K H xs ds ∧ ds = x :: r ∧ allCmp ds = true ∧ ∀ (i : Nat) (y : V), xs[i]? = some y → ds[i]? = some (g x r) → Q y H
section
variable {X : Cx} {K : PySem.W.Frag} {pins : List (Addr × Obj)} {s : Shared} {σ : St} {H : Hp}
theorem best_at {its : List Value} {xs : List V} {ds : List D} {as : List Addr} {i : Nat} {v : Value} {d : D} {h' : Heap} {bs : List Addr} (rv : Vals xs its) (ra : ReadsAll s.heap its ds as) (al : PySem.W.AlikeAll ds) (hd : d ∈ ds)
    (hk : ∀ b o, s.heap.get? b = some o → h'.get? b = some o) (hv : its.toArray[i]? = some v) (rd : Reads h' v d bs) : ∃ y, xs[i]? = some y ∧ RelV y v ∧ ds[i]? = some d := by
  have hv' : its[i]? = some v := by simpa using hv
  obtain ⟨bs', r1, hi, hm, _⟩ := PySem.W.readsAll_at ra i v hv'
  have e := PySem.W.alike_unique _ _ _ _ _ (al.1 _ hm _ hd) (PyProof.Rows.Reads.keeps hk r1) rd
  have hl : i < its.length := (List.getElem?_eq_some_iff.mp hv').1
  have hx : i < xs.length := by rw [rv.length]; exact hl
  obtain ⟨u, hu, ru⟩ := rv.get (List.getElem?_eq_getElem hx)
  rw [hv'] at hu
  cases hu
  refine ⟨xs[i], List.getElem?_eq_getElem hx, ru, ?_⟩
  rw [← e, List.getD_eq_getElem?_getD, List.getElem?_eq_getElem hi]
  rfl
theorem cr_minD (hc : X.calm = true) (hu : X.A.units + 64 < cLine) : CallR X (.builtin "min") (rBest X.K PySem.W.minD) := by
  intro pins s σ H vs us Q I r h
  obtain ⟨a, xs, ds, x, l, rfl, hs, dp, rfl, ok, q⟩ := h
  obtain ⟨f1, f2, f3⟩ := allCmp_facts ok
  rw [Vals.ref1 r]
  rcases hs with hs | hs
  · obtain ⟨its, rv, hl, _⟩ := I.list hs
    obtain ⟨as, ra⟩ := Dp.readsAll I _ _ _ dp rv
    refine PySem.W.min_list_data (I.ok.hd hc) hl.isList (by simpa using ra) f3 (by omega) fun i v h' tk bs hv rd hk => ?_
    obtain ⟨y, e1, e2, e3⟩ := best_at rv ra f3 (minD_mem x l) hk hv rd
    exact ⟨y, H, I.kept hk, e2, q i y e1 e3⟩
  · obtain ⟨its, rv, hl, _⟩ := I.tuple hs
    obtain ⟨as, ra⟩ := Dp.readsAll I _ _ _ dp rv
    refine PySem.W.min_tuple_data (I.ok.hd hc) hl (by simpa using ra) f3 (by omega) fun i v h' tk bs hv rd hk => ?_
    obtain ⟨y, e1, e2, e3⟩ := best_at rv ra f3 (minD_mem x l) hk hv rd
    exact ⟨y, H, I.kept hk, e2, q i y e1 e3⟩
theorem cr_maxD (hc : X.calm = true) (hu : X.A.units + 64 < cLine) : CallR X (.builtin "max") (rBest X.K PySem.W.maxD) := by
  intro pins s σ H vs us Q I r h
  obtain ⟨a, xs, ds, x, l, rfl, hs, dp, rfl, ok, q⟩ := h
  obtain ⟨f1, f2, f3⟩ := allCmp_facts ok
  rw [Vals.ref1 r]
  rcases hs with hs | hs
  · obtain ⟨its, rv, hl, _⟩ := I.list hs
    obtain ⟨as, ra⟩ := Dp.readsAll I _ _ _ dp rv
    refine PySem.W.max_list_data (I.ok.hd hc) hl.isList (by simpa using ra) f3 (by omega) fun i v h' tk bs hv rd hk => ?_
    obtain ⟨y, e1, e2, e3⟩ := best_at rv ra f3 (maxD_mem x l) hk hv rd
    exact ⟨y, H, I.kept hk, e2, q i y e1 e3⟩
  · obtain ⟨its, rv, hl, _⟩ := I.tuple hs
    obtain ⟨as, ra⟩ := Dp.readsAll I _ _ _ dp rv
    refine PySem.W.max_tuple_data (I.ok.hd hc) hl (by simpa using ra) f3 (by omega) fun i v h' tk bs hv rd hk => ?_
    obtain ⟨y, e1, e2, e3⟩ := best_at rv ra f3 (maxD_mem x l) hk hv rd
    exact ⟨y, H, I.kept hk, e2, q i y e1 e3⟩
end
/-- min(xs) of a list or a tuple -/
def bestOf (g : D → List D → D) : List D → Option D
  | x :: r => if (allCmp (x :: r) && flat (g x r)) = true then some (g x r) else none
  | [] => none
def dMin1 : D → Option D
  | .list ds => bestOf PySem.W.minD ds
  | .tuple ds => bestOf PySem.W.minD ds
  | _ => none
def dMax1 : D → Option D
  | .list ds => bestOf PySem.W.maxD ds
  | .tuple ds => bestOf PySem.W.maxD ds
  | _ => none
section
variable {K : PySem.W.Frag}
theorem best_ok {g : D → List D → D} {a : Addr} {xs : List V} {ds : List D} {d : D} {H : Hp} {Q : VK} (hs : SqL K H a xs ∨ SqT K H a xs) (ra : RA K H xs ds) (h : bestOf g ds = some d) (q : ∀ v, R K H v d → flat d = true → Q v H) : rBest K g [.ref a] H Q := by
  unfold bestOf at h
  split at h
  · rename_i x r
    obtain ⟨hc, e⟩ := ite_some h
    subst e
    rw [Bool.and_eq_true] at hc
    refine ⟨a, xs, _, x, r, rfl, hs, RA.toDp ra (allCmp_facts hc.1).1, rfl, hc.1, fun i y e1 e2 => ?_⟩
    obtain ⟨y', e3, rr⟩ := ra.get e2
    rw [e1] at e3
    cases e3
    exact q y rr hc.2
  · cases h
theorem cf_min1 : CallF K (rBest K PySem.W.minD) (d1 dMin1) := by
  intro vs ds d H Q r h q
  obtain ⟨x, rfl, h'⟩ := d1_some h
  obtain ⟨v, rfl, rv⟩ := r.one
  unfold dMin1 at h'
  split at h'
  · cases rv with
    | lst e1 e2 => exact best_ok (.inl (SqL.of e1)) e2 h' q
  · cases rv with
    | tup e1 e2 => exact best_ok (.inr (.inl (.inl e1))) e2 h' q
  · cases h'
theorem cf_max1 : CallF K (rBest K PySem.W.maxD) (d1 dMax1) := by
  intro vs ds d H Q r h q
  obtain ⟨x, rfl, h'⟩ := d1_some h
  obtain ⟨v, rfl, rv⟩ := r.one
  unfold dMax1 at h'
  split at h'
  · cases rv with
    | lst e1 e2 => exact best_ok (.inl (SqL.of e1)) e2 h' q
  · cases rv with
    | tup e1 e2 => exact best_ok (.inr (.inl (.inl e1))) e2 h' q
  · cases h'
end
end DS
end

section
set_option Elab.async false
set_option linter.all false
set_option maxRecDepth 100000
set_option maxHeartbeats 1000000
/-! Part n: comprehensions with two fors. -/
namespace DS
open PySem PySem.Spec PyProof.Rows L2
/-- the list that the outer for makes -/
def lc2Go (t : Tg) (ft : FT) (inner : PEnv → Option (List D)) (ρ : PEnv) : List D → Option (List D)
  | [] => some []
  | d :: ds => match t.go d with
    | none => none
    | some l => match ft (setsD ρ l) with
      | none => none
      | some false => lc2Go t ft inner ρ ds
      | some true => match inner (setsD ρ l) with
        | none => none
        | some ys => match lc2Go t ft inner ρ ds with
          | none => none
          | some zs => some (ys ++ zs)
def inLc (fi : FA) (t : Tg) (ft : FT) (fe : FE) (vs : List Nat) (ρ : PEnv) : Option (List D) := o1 (fi ρ) fun ds => lcGo t ft fe (wipeD ρ vs) ds
def eLc2 (fi : FA) (t : Tg) (ft : FT) (fi1 : FA) (t1 : Tg) (ft1 : FT) (fe : FE) (vs vs1 : List Nat) : FE := fun ρ => o1 (fi ρ) fun ds => o1 (lc2Go t ft (inLc fi1 t1 ft1 fe vs1) (wipeD ρ vs) ds) fun ys => if ys.length ≤ sz then some (.list ys) else none
section
variable {X : Cx} {K : PySem.W.Frag} {κ : Mo}
theorem RS.mono {H H' : Hp} (e : Same H H') : ∀ {l : List (Nat × V)} {m : List (Nat × D)}, RS K H l m → RS K H' l m
  | _, _, .nil => .nil
  | _, _, .cons h t => .cons (h.mono e) (RS.mono e t)
theorem lc2_ok {fi fi1 : FA} {ci ci1 : Esc} {t t1 : Tg} {ft ft1 : FT} {fe : FE} {ce : Esc} {vs vs1 : List Nat} (hv : t.ix.all (vs.contains ·) = true) (hv1 : t1.ix.all (vs1.contains ·) = true) (hκ : κ.one = true) :
    ∀ σ H Q, tD K κ (eLc2 fi t ft fi1 t1 ft1 fe vs vs1) (ci ++ (ci1 ++ ce)) σ H Q → tLc2 (tI K 1 fi ci) (tG K t) (tT K ft) (tI K 0 fi1 ci1) (tG K t1) (tT K ft1) (tD K (.br 0) fe ce) vs vs1 σ H Q := by
  intro σ H Q ⟨B, L, ρ, d, g, es, hf, q⟩
  obtain ⟨ds, h1, h2⟩ := o1_some hf
  obtain ⟨ys, h3, h4⟩ := o1_some h2
  have hz : ys.length ≤ sz := by
    split at h4
    · assumption
    · cases h4
  rw [if_pos hz] at h4
  cases (Option.some.inj h4)
  refine ⟨B, L, ρ, ds, g, es.left, h1, fun J H1 s1 wk D hD => ?_⟩
  have hixs : ∀ {t : Tg} {vs : List Nat} {l : List (Nat × PyData)} {mm : List (Nat × V)} {d : PyData} {B' : List Addr} {Hh : Hp}, t.ix.all (vs.contains ·) = true → t.go d = some l → RS K (hid B' Hh) mm l → ∀ i ∈ mm.map (·.1), i ∈ vs := fun {t vs l mm d B' Hh} hv e rs i hi => by
    rw [rs.ix, Tg.go_ix e] at hi
    have := List.all_eq_true.mp hv i hi
    simpa using this
  -- hiding D : what is behind it may change
  have okB : ∀ {H' : Hp} {acc : List V}, Same H1 H' → H' D = some (.lst acc) → Ok (D :: B) H' := fun s' hacc => ((g.ok.mono s1).mono s').cons hacc rfl
  have gd : ∀ {H' : Hp} {acc : List V}, Same H1 H' → H' D = some (.lst acc) → Good K (D :: B) L σ H' ρ := fun {H' acc} s' hacc => by
    refine ⟨okB s' hacc, g.len, fun j e h => ?_⟩
    obtain ⟨v, e1, r⟩ := g.slot j e h
    refine ⟨v, e1, ((r.mono s1 (same_hid s1)).mono s' (same_hidW s' fun a ha => ?_))⟩
    rcases List.mem_cons.mp ha with z | z
    · rw [z]; exact .inr hD
    · exact .inl z
  let W : Nat → Nat → Hp → Prop := fun i n H' => n = ds.length - i ∧ i ≤ ds.length ∧ Same H1 H' ∧ ∃ acc done rest, H' D = some (.lst acc) ∧ RA K (hid (D :: B) H') acc done ∧ lc2Go t ft (inLc fi1 t1 ft1 fe vs1) (wipeD ρ vs) (ds.drop i) = some rest ∧ done ++ rest = ys
  refine ⟨W, ⟨ds.length, by simp, Nat.zero_le _, same_upd hD, [], [], ys, upd_same, .nil, by simpa using h3, rfl⟩, ?_⟩
  rintro i n H' ⟨rfl, hi, s', acc, done, rest, hacc, racc, hgo, hys⟩
  by_cases hlt : i < ds.length
  · refine .inr ⟨wk.go i H' hlt s', fun H'' => W (i + 1) (ds.length - (i + 1)) H'', fun H'' w => ⟨_, by omega, w⟩, fun x H2 y => ?_⟩
    have hd : ds[i]? = some ds[i] := List.getElem?_eq_getElem hlt
    obtain ⟨s2, rx⟩ := wk.yld i H' x H2 _ hd s' y
    have rx := rx (D :: B) (okB s' hacc) fun a ha => by
      refine ⟨?_, (okB s' hacc).trk a ha⟩
      rcases List.mem_cons.mp ha with z | z
      · rw [z]; exact .inr hD
      · exact .inl z
    rw [List.drop_eq_getElem_cons hlt] at hgo
    unfold lc2Go at hgo
    have hacc2 := s2 _ _ hacc
    have racc2 := racc.mono (same_hid (B := D :: B) s2)
    split at hgo
    · cases hgo
    · rename_i l hl
      refine ⟨D :: B, _, l, rx, hl, fun mm rs => ⟨?_, ?_⟩⟩
      · rw [wipe_sets (hixs hv hl rs)]
        exact wipe_idem vs fun _ h => h
      · have gs : Good K (D :: B) L (setsV (wipe σ vs) mm) H2 (setsD (wipeD ρ vs) l) := ((gd (s'.trans s2) hacc2).wipe vs).sets rs
        split at hgo
        · cases hgo
        · rename_i hft
          refine ⟨D :: B, L, _, false, gs, hft, fun H3 s3 => ?_⟩
          refine iteF ?_
          exact ⟨rfl, hlt, (s'.trans s2).trans s3, acc, done, rest, s3 _ _ hacc2, racc2.mono (same_hid s3), hgo, hys⟩
        · rename_i hft
          split at hgo
          · cases hgo
          · rename_i zs hin
            split at hgo
            · cases hgo
            · rename_i ys' hrest
              cases (Option.some.inj hgo)
              refine ⟨D :: B, L, _, true, gs, hft, fun H3 s3 => ?_⟩
              refine iteT ?_
              obtain ⟨ds1, g1, g2⟩ := o1_some hin
              refine ⟨D :: B, L, _, ds1, gs.mono s3, es.right.left, g1, fun J1 H4 s4 wk1 => ?_⟩
              have hacc4 := s4 _ _ (s3 _ _ hacc2)
              have racc4 := racc2.mono (same_hid (B := D :: B) (s3.trans s4))
              have s14 := ((s'.trans s2).trans s3).trans s4
              have rs4 := rs.mono (same_hid (B := D :: B) (s3.trans s4))
              -- the inner loop
              let W1 : Nat → Nat → Hp → Prop := fun j k H' => k = ds1.length - j ∧ j ≤ ds1.length ∧ Same H1 H' ∧ Same (hid (D :: B) H4) (hid (D :: B) H') ∧ ∃ acc done2 rest2, H' D = some (.lst acc) ∧ RA K (hid (D :: B) H') acc done2 ∧ lcGo t1 ft1 fe (wipeD (setsD (wipeD ρ vs) l) vs1) (ds1.drop j) = some rest2 ∧ done2 ++ (rest2 ++ ys') = ys
              refine ⟨W1, ⟨ds1.length, by simp, Nat.zero_le _, s14, Same.refl _, acc, done, zs, hacc4, racc4, by simpa using g2, hys⟩, ?_⟩
              rintro j k H5 ⟨rfl, hj, s15, s45, acc5, done5, rest5, hacc5, racc5, hgo5, hys5⟩
              have st5 : Same (gOf 0 (D :: B) H4) H5 := s45.trans same_unhid
              by_cases hlt1 : j < ds1.length
              · refine .inr ⟨wk1.go j H5 hlt1 st5, fun H'' => W1 (j + 1) (ds1.length - (j + 1)) H'', fun H'' w => ⟨_, by omega, w⟩, fun x1 H6 y1 => ?_⟩
                have hd1 : ds1[j]? = some ds1[j] := List.getElem?_eq_getElem hlt1
                obtain ⟨s6, rx1⟩ := wk1.yld j H5 x1 H6 _ hd1 st5 y1
                have rx1 := rx1 (D :: B) (okB s15 hacc5) fun a ha => ⟨.inl ha, (okB s15 hacc5).trk a ha⟩
                rw [List.drop_eq_getElem_cons hlt1] at hgo5
                unfold lcGo at hgo5
                have hacc6 := s6 _ _ hacc5
                have racc6 := racc5.mono (same_hid (B := D :: B) s6)
                split at hgo5
                · cases hgo5
                · rename_i l1 hl1
                  refine ⟨D :: B, _, l1, rx1, hl1, fun mm1 rs1 => ⟨?_, ?_⟩⟩
                  · rw [wipe_sets (hixs hv1 hl1 rs1)]
                    exact wipe_idem vs1 fun _ h => h
                  · have gs6 : Good K (D :: B) L (setsV (wipe σ vs) mm) H6 (setsD (wipeD ρ vs) l) := ((gd (s15.trans s6) hacc6).wipe vs).sets (rs4.mono (s45.trans (same_hid s6)))
                    have gt : Good K (D :: B) L (setsV (wipe (setsV (wipe σ vs) mm) vs1) mm1) H6 (setsD (wipeD (setsD (wipeD ρ vs) l) vs1) l1) := (gs6.wipe vs1).sets rs1
                    split at hgo5
                    · cases hgo5
                    · rename_i hft1
                      refine ⟨D :: B, L, _, false, gt, hft1, fun H7 s7 => ?_⟩
                      refine iteF ?_
                      exact ⟨rfl, hlt1, (s15.trans s6).trans s7, s45.trans (same_hid (s6.trans s7)), acc5, done5, rest5, s7 _ _ hacc6, racc6.mono (same_hid s7), hgo5, hys5⟩
                    · rename_i hft1
                      split at hgo5
                      · cases hgo5
                      · rename_i yv hfe
                        split at hgo5
                        · cases hgo5
                        · rename_i rest6 hrest6
                          cases (Option.some.inj hgo5)
                          refine ⟨D :: B, L, _, true, gt, hft1, fun H7 s7 => ?_⟩
                          refine iteT ?_
                          refine ⟨D :: B, L, _, yv, gt.mono s7, es.right.right, hfe, fun v H8 s8 p8 => ?_⟩
                          have s78 := s7.trans s8
                          have hacc8 := s78 _ _ hacc6
                          have su : Same (hid (D :: B) H8) (hid (D :: B) (upd H8 D (.lst (acc5 ++ [v])))) := fun b o e => by
                            obtain ⟨e1, e2⟩ := hid_some e
                            rw [hid_out e1, upd_ne fun z => e1 (by rw [z]; exact List.mem_cons_self)]
                            exact e2
                          have hl5 : acc5.length < sizeLine := by
                            rw [sz_eq, racc5.length]
                            have hlen : done5.length < ys.length := by
                              rw [← hys5]
                              simp only [List.length_append, List.length_cons]
                              omega
                            omega
                          refine ⟨acc5, hacc8, hl5, rfl, hlt1, fun b o e => ?_, (s45.trans (same_hid (s6.trans s78))).trans su, acc5 ++ [v], done5 ++ [yv], rest6, upd_same, ((racc6.mono (same_hid s78)).append (.cons (RL.r p8) .nil)).mono su, hrest6, by simpa using hys5⟩
                          have hb : b ≠ D := ne_of_none e hD
                          rw [upd_ne hb]
                          exact ((s15.trans s6).trans s78) _ _ e
              · have e : j = ds1.length := by omega
                subst e
                refine .inl ⟨wk1.stop H5 st5, ?_⟩
                rw [List.drop_length] at hgo5
                unfold lcGo at hgo5
                cases (Option.some.inj hgo5)
                exact ⟨rfl, hlt, s15, acc5, done5, ys', hacc5, racc5, hrest, by simpa using hys5⟩
  · have e : i = ds.length := by omega
    subst e
    refine .inl ⟨wk.stop H' s', ?_⟩
    rw [List.drop_length] at hgo
    unfold lc2Go at hgo
    cases (Option.some.inj hgo)
    rw [List.append_nil] at hys
    subst hys
    refine q _ H' (s1.trans s') (Post.new g.ok.trk (s1.free hD) hacc racc hκ)
theorem qe_lc2 {elt tg iter tg1 iter1 : Expr} {ifs ifs1 : List Expr} {scope : Scope} {own : List (Str × Nat)} {vs1 : List Nat} {pos : Pos} {fi fi1 : FA} {ci ci1 ce : Esc} {t t1 : Tg} {ft ft1 : FT} {fe : FE} (hc : X.calm = true) (hN : X.N.Nodup) (hi : PI X tg iter (tI K 1 fi ci)) (ok : BlkOk X.N X.env.scope scope own) (hvs : vs1.all ((own.map (·.2)).contains ·) = true)
    (hg : ∀ (s : Shared) (H : Hp) (C : Addr) (cl : List (Str × Addr)) (fp : List Addr), PG (X.blk s H scope (compEnvC scope cl C X.env) fp) tg (tG K t)) (ht : ∀ (s : Shared) (H : Hp) (C : Addr) (cl : List (Str × Addr)) (fp : List Addr), PTs (X.blk s H scope (compEnvC scope cl C X.env) fp) ifs (tT K ft))
    (hi1 : ∀ (s : Shared) (H : Hp) (C : Addr) (cl : List (Str × Addr)) (fp : List Addr), PI (X.blk s H scope (compEnvC scope cl C X.env) fp) tg1 iter1 (tI K 0 fi1 ci1))
    (hg1 : ∀ (s : Shared) (H : Hp) (C : Addr) (cl : List (Str × Addr)) (fp : List Addr), PG (X.blk s H scope (compEnvC scope cl C X.env) fp) tg1 (tG K t1)) (ht1 : ∀ (s : Shared) (H : Hp) (C : Addr) (cl : List (Str × Addr)) (fp : List Addr), PTs (X.blk s H scope (compEnvC scope cl C X.env) fp) ifs1 (tT K ft1))
    (he : ∀ (s : Shared) (H : Hp) (C : Addr) (cl : List (Str × Addr)) (fp : List Addr), PE (X.blk s H scope (compEnvC scope cl C X.env) fp) elt (tD K (.br 0) fe ce)) (hv : t.ix.all ((own.map (·.2)).contains ·) = true := by rfl) (hv1 : t1.ix.all (vs1.contains ·) = true := by rfl) (hκ : κ.one = true := by rfl) (hs : ∀ x, foldedSetIterable iter X.env x = pure x := by intro _; rfl) (hs1 : ∀ env x, foldedSetIterable iter1 env x = pure x := by intro _ _; rfl) :
    PE X (.ListComp elt [⟨tg, iter, ifs, 0⟩, ⟨tg1, iter1, ifs1, 0⟩] scope pos) (tD K κ (eLc2 fi t ft fi1 t1 ft1 fe (own.map (·.2)) vs1) (ci ++ (ci1 ++ ce))) :=
  (pe_lc2 hc hN hi ok (fun i hi => by simpa using List.all_eq_true.mp hvs i hi) hg ht hi1 hg1 ht1 he hs hs1).imp (lc2_ok hv hv1 hκ)
theorem ss_setLc2 (i l : Nat) {y : Str} {py : Pos} {elt tg iter tg1 iter1 : Expr} {ifs ifs1 : List Expr} {scope : Scope} {own : List (Str × Nat)} {vs1 : List Nat} {pos spos : Pos} {fi fi1 : FA} {ci ci1 ce : Esc} {t t1 : Tg} {ft ft1 : FT} {fe : FE} (hc : X.calm = true) (hN : X.N.Nodup) (hi : PI X tg iter (tI K 1 fi ci)) (ok : BlkOk X.N X.env.scope scope own) (hvs : vs1.all ((own.map (·.2)).contains ·) = true)
    (hg : ∀ (s : Shared) (H : Hp) (C : Addr) (cl : List (Str × Addr)) (fp : List Addr), PG (X.blk s H scope (compEnvC scope cl C X.env) fp) tg (tG K t)) (ht : ∀ (s : Shared) (H : Hp) (C : Addr) (cl : List (Str × Addr)) (fp : List Addr), PTs (X.blk s H scope (compEnvC scope cl C X.env) fp) ifs (tT K ft))
    (hi1 : ∀ (s : Shared) (H : Hp) (C : Addr) (cl : List (Str × Addr)) (fp : List Addr), PI (X.blk s H scope (compEnvC scope cl C X.env) fp) tg1 iter1 (tI K 0 fi1 ci1))
    (hg1 : ∀ (s : Shared) (H : Hp) (C : Addr) (cl : List (Str × Addr)) (fp : List Addr), PG (X.blk s H scope (compEnvC scope cl C X.env) fp) tg1 (tG K t1)) (ht1 : ∀ (s : Shared) (H : Hp) (C : Addr) (cl : List (Str × Addr)) (fp : List Addr), PTs (X.blk s H scope (compEnvC scope cl C X.env) fp) ifs1 (tT K ft1))
    (he : ∀ (s : Shared) (H : Hp) (C : Addr) (cl : List (Str × Addr)) (fp : List Addr), PE (X.blk s H scope (compEnvC scope cl C X.env) fp) elt (tD K (.br 0) fe ce)) (hl : l ≤ 1 := by decide) (hy : X.N[i]? = some y := by rfl) (hyl : X.env.scope.names.lookup y = some .local := by rfl)
    (hsw : swapsWith (.ListComp elt [⟨tg, iter, ifs, 0⟩, ⟨tg1, iter1, ifs1, 0⟩] scope pos) (some (.Name y py)) spos.line X.env = pure true := by exact sw_true rfl rfl rfl (by decide +kernel)) (hv : t.ix.all ((own.map (·.2)).contains ·) = true := by rfl) (hv1 : t1.ix.all (vs1.contains ·) = true := by rfl) (hs : ∀ x, foldedSetIterable iter X.env x = pure x := by intro _; rfl) (hs1 : ∀ env x, foldedSetIterable iter1 env x = pure x := by intro _ _; rfl) :
    PS X (.Assign [.Name y py] (.ListComp elt [⟨tg, iter, ifs, 0⟩, ⟨tg1, iter1, ifs1, 0⟩] scope pos) spos) (tS K (sSet i l (eLc2 fi t ft fi1 t1 ft1 fe (own.map (·.2)) vs1) (ci ++ (ci1 ++ ce)))) := (ps_setLc2 hc hN hy hyl hsw hi ok (fun i hi => by simpa using List.all_eq_true.mp hvs i hi) hg ht hi1 hg1 ht1 he hs hs1).imp fun E σ H h =>
  lc2_ok (κ := moOf l) hv hv1 (by match l, hl with | 0, _ => rfl | 1, _ => rfl) σ H _ (set_ok (by omega) E σ H h)
end
end DS
end

section
set_option Elab.async false
set_option linter.all false
set_option maxRecDepth 100000
set_option maxHeartbeats 1000000
/-! Part o: range(i, j, -1), max(.., default=), found *= x, tuples times a number. -/
namespace DS
open PySem PySem.Spec PyProof.Rows L2
/-- i, i - 1, .. (n of them) -/
def rngDn (i : Int) (n : Nat) : List D := (List.range n).map fun (k : Nat) => .int (i - (k : Int))
theorem walks_down {K : PySem.W.Frag} {G : Hp} {B : List Addr} {lo : Int} {n : Nat} : Walks K G B (Itc lo (-1) n) (rngDn lo n) where
  go := fun i H hi s => show i < n from by simpa [rngDn] using hi
  stop := fun H s => by
    show n ≤ (rngDn lo n).length
    simp [rngDn]
  yld := fun i H x H' d hd s y => by
    obtain ⟨e, y⟩ := y
    subst e y
    refine ⟨Same.refl _, fun B' _ hb => ?_⟩
    have hi : i < n := by
      have := (List.getElem?_eq_some_iff.mp hd).1
      simpa [rngDn] using this
    have : d = .int (lo + (i : Nat) * (-1)) := by
      unfold rngDn at hd
      rw [List.getElem?_map, List.getElem?_range hi] at hd
      have e := Option.some.inj hd
      rw [← e]
      show PyData.int (lo - (i : Int)) = PyData.int (lo + (i : Int) * (-1))
      rw [Int.mul_neg_one]
      rfl
    rw [this]
    exact .int _
def iRange3 (f g h : FE) : FA := fun ρ => match f ρ, g ρ, h ρ with
  | some (.int i), some (.int j), some (.int c) => if (rngOk i j && decide (c = -1)) = true then some (rngDn i (i - j).toNat) else none
  | _, _, _ => none
section
variable {X : Cx} {K : PySem.W.Frag} {tg : Expr} {p pos : Pos} {m : Nat} {f f2 f3 : FE} {c c2 c3 : Esc}
theorem qi_range3 {a b d : Expr} (hg : Gl X "range") (hm : X.mg "range" = none) (ha : PE X a (tD K (.br 1) f c)) (hb : PE X b (tD K (.br 1) f2 c2)) (hd : PE X d (tD K (.br 1) f3 c3))
    (hs : starEach [a, b, d] X.env = (false, eval a X.env) :: starEach [b, d] X.env := by rfl) (hs2 : starEach [b, d] X.env = (false, eval b X.env) :: starEach [d] X.env := by rfl) (hs3 : starEach [d] X.env = (false, eval d X.env) :: starEach [] X.env := by rfl) (hpl : (backTo pos (starEach [b, d] X.env)).any (·.1) = false := by rfl) :
    PI X tg (.Call (.Name "range" p) [a, b, d] [] pos) (tI K m (iRange3 f f2 f3) []) := by
  refine (pi_range3 hg hm (pa_cons ha (pa_cons hb (pa_cons hd pa_nil hs3) hs2) hs) hs hpl).imp fun σ H Rr ⟨B, L, ρ, ds, g, es, hf, q⟩ => ?_
  unfold iRange3 at hf
  split at hf
  · rename_i i j k h1 h2 h3
    obtain ⟨hc, rfl⟩ := ite_some hf
    rw [Bool.and_eq_true, decide_eq_true_eq] at hc
    have r := rngOk_ok hc.1
    have hk := hc.2
    subst hk
    refine ⟨[], _, ρ, _, g.zero, .zero, h1, fun v H1 s1 p1 => ⟨[], _, ρ, _, (g.mono s1).zero, .zero, h2, fun w H2 s2 p2 => ⟨[], _, ρ, _, ((g.mono s1).mono s2).zero, .zero, h3, fun u H3 s3 p3 => ?_⟩⟩⟩
    exact ⟨_, _, _, _, by rw [RL.int p1, RL.int p2, RL.int p3], RgC.neg r.1 r.2.1 r.2.2.1 r.2.2.2, q _ H3 ((s1.trans s2).trans s3) walks_down⟩
  · cases hf
end
end DS
end

section
set_option Elab.async false
set_option linter.all false
set_option maxRecDepth 100000
set_option maxHeartbeats 1000000
/-! Sorting of alike trees, tuples among which some may be (). -/
namespace PySem.W
open PySem PySem.Calls PyProof.Rows PySem.SeqAt
section
variable {A : Around} {s : Shared}
theorem call_tuple_lt' {prog : Program} {w : World} {E : Value → Shared → Prop} {Q : Value → Shared → Prop} {l b : Addr} {items items2 : Array Value} {e r : Nat → Bool} (hl : s.heap.IsTuple l items) (hb : s.heap.IsTuple b items2)
    (he : ∀ j (h1 : j < items.size) (h2 : j < items2.size), EqAt A.in1 s items[j] items2[j] (e j)) (hr : ∀ j (h1 : j < items.size) (h2 : j < items2.size), e j = false → RcLt A.in1 s items[j] items2[j] (r j))
    (h : Q (.bool (firstLt e r (decide (items.size < items2.size)) (List.range (min items.size items2.size)))) s) : wpAny (model prog w) A (call (.builtin "tuple.__lt__") [.ref l, .ref b]) Q E s := by
  obtain ⟨⟨cls, dd, data, sl⟩, ho, hc, n, hd⟩ := id hl
  obtain ⟨⟨cls2, dd2, data2, sl2⟩, ho2, hc2, n2, hd2⟩ := id hb
  simp only at hc hd hc2 hd2
  subst hc hd hc2 hd2
  exact call_meets F.slot_tuple_lt ⟨_, ho, rfl⟩ F.entry_tuple_lt (F.args_tuple_lt_2 _ _) (tuple_ltAt l b items items2 n n2 dd dd2 sl sl2 e r) ⟨ho, ho2, he, hr, h⟩
end
section
variable {prog : Program} {w : World} {A : Around} {E : Value → Shared → Prop} {s : Shared}
theorem oneLt_any {f : Bool} {da db : PyData} {a b : Value} {as bs : List Addr} {Q : Bool → Shared → Prop} (ra : Reads s.heap a da as) (rb : Reads s.heap b db bs) (h : alike da db = true) (hn : da ≠ .none)
    (hu : A.units + min da.depth db.depth < cLine) (hq : Q (dataLt da db) s) : wpAny (model prog w) A (oneLt' f a b) Q E s := by
  by_cases ht : f = true → ∀ xs, da ≠ .tuple xs
  · exact oneLt_alike ht ra rb h hn hu hq
  · obtain ⟨hf, xs, rfl⟩ : f = true ∧ ∃ xs, da = .tuple xs := by
      by_cases hf : f = true
      · refine ⟨hf, ?_⟩
        by_cases z : ∃ xs, da = .tuple xs
        · exact z
        · exact absurd (fun _ xs e => z ⟨xs, e⟩) ht
      · exact absurd (fun z => absurd z hf) ht
    subst hf
    cases db with
    | tuple ys =>
      have hal : alikeAll xs ys = true := by simpa [alike] using h
      cases ra with
      | @tuple l o vs n _ as₁ h1 h2 h3 h4 =>
        cases rb with
        | @tuple l' o' vs' n' _ bs₁ k1 k2 k3 k4 =>
          have n1 : vs.size = xs.length := by simpa using ReadsAll.length _ _ _ h4
          have n2 : vs'.size = ys.length := by simpa using ReadsAll.length _ _ _ k4
          rw [dataLt_tuple, ← firstLt_toks xs ys hal, ← n1, ← n2] at hq
          rw [oneLt'_eq]
          simp only [if_true]
          refine wpAny_bind (wpAny_cRoomFor (room_here hu) ?_)
          refine wpAny_bind (wpAny_callSpecialIfBound?_slot (T := "tuple") ⟨_, h1, h2⟩ F.slot_tuple_lt (call_tuple_lt' (e := pairEq xs ys) (r := fun j => dataLt (xs.getD j .none) (ys.getD j .none)) ⟨_, h1, h2, _, h3⟩ ⟨_, k1, k2, _, k3⟩ (fun j j1 j2 => ?_) (fun j j1 j2 hj => ?_) ?_))
          · have := eqAt_alikeAll xs ys A.in1 s vs.toList vs'.toList _ _ h4 k4 hal (room_in hu) j (by simpa using j1) (by simpa using j2)
            simpa using this
          · have := rcLt_alikeAll xs ys A.in1 s vs.toList vs'.toList _ _ h4 k4 hal (room_in hu) j (by simpa using j1) (by simpa using j2) hj
            simpa using this
          · exact wpAny_truthy_bool hq
    | _ => exact absurd h (by simp [alike])
end
/-- tuples, the first item of each, if it has one -/
inductive Mix (h : Heap) : List Value → List (Option Value) → Prop
  | nil : Mix h [] []
  | cons {a : Addr} {o : Obj} {xs : Array Value} {n : Nat} {vs : List Value} {fs : List (Option Value)} (ho : h.get? a = some o) (hc : o.cls = .type "tuple") (hd : o.data = .seq xs n) (r : Mix h vs fs) : Mix h (.ref a :: vs) (xs[0]? :: fs)
section
variable {M : Model} {A : Around} {E : Value → Shared → Prop} {s : Shared}
theorem mix_firsts : ∀ {vs : List Value} {fs : List (Option Value)} {Q : List (Option Value) → Shared → Prop}, Mix s.heap vs fs → Q fs s → wpAny M A (vs.mapM firstOfTuple') Q E s
  | _, _, _, .nil, h => by rw [List.mapM_nil]; exact wpAny_pure h
  | _, _, Q, .cons (a := a) (o := o) (xs := xs) (fs := fs) ho hc hd t, h => by
    rw [List.mapM_cons]
    refine wpAny_bind ?_
    rw [kas_first_eq]
    refine wpAny_bind (Looks.here (show Looks M s.heap (typeOf (.ref a)) o.cls from (Looks.ld ho).andThen .now) ?_)
    rw [hc, if_neg (by first | decide | simp)]
    refine wpAny_bind (listItems_at ho hd (wpAny_pure ?_))
    exact wpAny_bind (mix_firsts (Q := fun bs s' => wpAny M A (pure (xs[0]? :: bs)) Q E s') t (wpAny_pure h))
theorem Mix.length {h : Heap} : ∀ {vs : List Value} {fs : List (Option Value)}, Mix h vs fs → vs.length = fs.length
  | _, _, .nil => rfl
  | _, _, .cons _ _ _ t => congrArg (· + 1) t.length
theorem Mix.looks {h : Heap} : ∀ {vs : List Value} {fs : List (Option Value)}, Mix h vs fs → ∀ v ∈ vs, Looks M h (typeOf v) (Value.type "tuple")
  | _, _, .nil, v, hv => by simp at hv
  | _, _, .cons (a := a) (o := o) ho hc hd t, v, hv => by
    rcases List.mem_cons.mp hv with e | hv
    · rw [e]
      exact hc ▸ (Looks.ld ho).andThen .now
    · exact t.looks v hv
/-- one of them is (): then the first one tells -/
theorem mix_kind {vs : List Value} {fs : List (Option Value)} {f : Option Value} {fr : List (Option Value)} {Q : SortKind → Shared → Prop} (t : Mix s.heap vs fs) (hf : fs = f :: fr) (hno : (fs.all fun x => x.isSome) = false) (h : Q (if f.isSome = true then general' else oneType') s) :
    wpAny M A (keyKind' vs.toArray) Q E s := by
  subst hf
  rw [keyKind'_eq, List.mapM_toArray, map_eq_pure_bind]
  refine wpAny_bind (wpAny_bind (mix_firsts t (wpAny_pure ?_)))
  have h1 : ((f :: fr).toArray.all fun x => x.isSome) = false := by simpa using hno
  rw [h1, if_neg (by simp)]
  have h2 : ((f :: fr).toArray[0]?.bind id) = f := by simp
  rw [h2]
  by_cases hs : f.isSome = true
  · rw [if_pos hs]
    rw [if_pos hs] at h
    exact wpAny_pure h
  · rw [if_neg hs]
    rw [if_neg hs] at h
    rw [oneTypeOnly'_eq, List.mapM_toArray, map_eq_pure_bind]
    refine wpAny_bind (wpAny_bind (wpAny_bind (kas_mapM (r := Value.type "tuple") _ (fun v hv Q' hq => (t.looks v hv).here hq) (wpAny_pure ?_))))
    obtain ⟨v₁, rest, rfl⟩ : ∃ v₁ rest, vs = v₁ :: rest := by
      cases t with
      | cons ho hc hd r => exact ⟨_, _, rfl⟩
    have hall : ((List.map (fun _ => Value.type "tuple") (v₁ :: rest)).toArray.all fun x => x == Value.type "tuple") = true := by
      simp only [List.all_toArray, List.all_map, List.all_eq_true]
      intro _ _
      exact beq_self_eq_true _
    have h0 : (List.map (fun _ => Value.type "tuple") (v₁ :: rest)).toArray[0]? = some (Value.type "tuple") := by simp
    rw [h0]
    simp only [hall, if_true]
    exact wpAny_pure (wpAny_pure h)
end
theorem each_mix {h : Heap} : ∀ {vs : List Value} {ds : List PyData}, EachIs (fun v d => ∃ as, Reads h v d as) vs ds → (∀ d, d ∈ ds → ∃ xs, d = .tuple xs) → ∃ fs, Mix h vs fs ∧ ∀ i : Nat, (∀ d : PyData, ds[i]? = some d → (∃ f, fs[i]? = some f ∧ (f.isSome = true ↔ ∃ x r, d = .tuple (x :: r))))
  | _, _, .nil, _ => ⟨[], .nil, fun i d hd => by simp at hd⟩
  | _, _, .cons (b := d) ⟨as, r⟩ t, ht => by
    obtain ⟨fs, h1, h2⟩ := each_mix t fun d hd => ht d (List.mem_cons_of_mem _ hd)
    obtain ⟨xs, rfl⟩ := ht d (List.mem_cons_self ..)
    cases r with
    | @tuple a o its n _ _ ho hc hd hr =>
      refine ⟨its[0]? :: fs, .cons ho hc hd h1, fun i d' hi => ?_⟩
      cases i with
      | succ i => exact h2 i d' (by simpa using hi)
      | zero =>
        have e : d' = .tuple xs := by simpa using hi.symm
        subst e
        refine ⟨_, rfl, ?_⟩
        have hl : its.size = xs.length := by simpa using SeqAt.ReadsAll.length _ _ _ hr
        cases xs with
        | nil =>
          have : its[0]? = none := by
            rw [Array.getElem?_eq_none]
            simp at hl
            simp [hl]
          rw [this]
          simp
        | cons x r =>
          have : its[0]?.isSome = true := by
            have : 0 < its.size := by rw [hl]; simp
            simp [this]
          exact ⟨fun _ => ⟨x, r, rfl⟩, fun _ => this⟩
section
variable {prog : Program} {w : World} {A : Around} {s : Shared}
/-- any alike values but None can be sorted -/
theorem SortsAt.any {vs : List Value} {ds : List PyData} (e : EachIs (fun v d => ∃ as, Reads s.heap v d as) vs ds) (hal : AllAlike ds) (hn : ∀ d, d ∈ ds → d ≠ .none) (hu : ∀ d, d ∈ ds → A.units + d.depth < cLine) : SortsAt prog w A s (dataKind s.heap ds) vs := by
  by_cases hk : Sortable ds
  · exact SortsAt.data e hal hk hu
  · have room : ∀ {d d' : PyData}, d ∈ ds → A.units + min d.depth d'.depth < cLine := fun {d d'} hd => Nat.lt_of_le_of_lt (Nat.add_le_add_left (Nat.min_le_left _ _) _) (hu d hd)
    have ht : ∀ d, d ∈ ds → ∃ xs, d = .tuple xs := by
      by_cases z : ∃ d ∈ ds, ∃ xs, d = .tuple xs
      · obtain ⟨d0, h0, xs0, rfl⟩ := z
        intro d hd
        have := hal d hd _ h0
        cases d with
        | tuple xs => exact ⟨xs, rfl⟩
        | _ => exact absurd this (by simp [alike])
      · exact absurd (.inr fun d hd => ⟨hn d hd, fun xs ex => z ⟨d, hd, xs, ex⟩⟩) hk
    obtain ⟨fs, m, hm⟩ := each_mix e ht
    have hne : ∃ d ∈ ds, d = .tuple [] := by
      by_cases z : ∃ d ∈ ds, d = .tuple []
      · exact z
      · refine absurd (.inl fun d hd => ?_) hk
        obtain ⟨xs, rfl⟩ := ht d hd
        cases xs with
        | nil => exact absurd ⟨_, hd, rfl⟩ z
        | cons x r => exact ⟨x, r, rfl⟩
    obtain ⟨d0, hd0, rfl⟩ := hne
    obtain ⟨i0, hi0⟩ := List.getElem?_of_mem hd0
    obtain ⟨f0, hf0, q0⟩ := hm i0 _ hi0
    have hno : (fs.all fun x => x.isSome) = false := by
      rw [Bool.eq_false_iff]
      intro z
      rw [List.all_eq_true] at z
      have := q0.mp (z f0 (List.mem_of_getElem? hf0))
      obtain ⟨x, r, h⟩ := this
      cases h
    cases hfs : fs with
    | nil =>
      rw [hfs] at hf0
      simp at hf0
    | cons f fr =>
      have lt : ∀ b : Bool, H.LtAt prog w A s (dataKind s.heap ds) (if b = true then general' else oneType') := by
        intro b E x y a b' Q ha hb hq
        obtain ⟨d, as, hd, ra, rfl⟩ := dataKind_inv ha
        obtain ⟨d', as', hd', rb, rfl⟩ := dataKind_inv hb
        cases b with
        | true => exact oneLt_any (f := false) ra rb (hal d hd d' hd') (hn d hd) (room hd) hq
        | false => exact oneLt_any (f := true) ra rb (hal d hd d' hd') (hn d hd) (room hd) hq
      refine ⟨fun v hv => ?_, (if f.isSome = true then general' else oneType'), lt _, fun _ E Q hq => mix_kind m hfs hno hq⟩
      obtain ⟨d, hd, as, r⟩ := e.left v hv
      exact ⟨_, dataKind_some hal hd r⟩
end
end PySem.W
end

section
set_option Elab.async false
set_option linter.all false
set_option maxRecDepth 100000
set_option maxHeartbeats 1000000
/-! Part q: sorted(xs) of a list of alike trees. -/
namespace PySem.W
open PySem PySem.Calls PyProof.Rows
section
variable {prog : Program} {w : World} {A : Around} {E : Value → Shared → Prop} {s : Shared} {β : Type} {vs : List Value} {bs : List β} {enc : β → PyData} {R : Value → β → Prop}
theorem sorted_any' {l : Addr} {Q : Value → Shared → Prop} (hl : s.heap.IsList l vs.toArray) (e : EachIs R vs bs) (er : EachIs (fun v b => ∃ as, Reads s.heap v (enc b) as) vs bs) (hal : AllAlike (bs.map enc)) (hk : ∀ d, d ∈ bs.map enc → d ≠ .none) (hL : bs.length ≤ sizeLine)
    (hu : ∀ b, b ∈ bs → A.units + 2 + (enc b).depth < cLine) (h : ∀ out, out.length = bs.length → EachIs R out (bs.mergeSort (dataLe false enc)) → Q (.ref (s.heap.objs.size + 1)) { s with heap := sortedAll s.heap vs (List.toArray out) }) :
    wpAny (model prog w) A (call (.builtin "sorted") [.ref l]) Q E s := by
  have er' : EachIs (fun v b => ∃ as, Reads (sortingHeap (copyHeap s.heap vs) (s.heap.objs.size + 1) vs) v (enc b) as) vs bs := er.mono fun _ _ ⟨as, r⟩ => ⟨as, PyProof.Rows.Reads.keeps (fun _ _ => sorting_copy_old) r⟩
  exact sorted_vals hl (SortsAt.any (s := { s with heap := sortingHeap (copyHeap s.heap vs) (s.heap.objs.size + 1) vs }) (each_map (R := fun v d => ∃ as, Reads (sortingHeap (copyHeap s.heap vs) (s.heap.objs.size + 1) vs) v d as) enc er') hal hk (bound_map hu)) (by rw [e.length]; exact hL)
    (h _ (by rw [sortVals_length false rfl]; exact e.length) (sortVals_data false e er' hal))
end
end PySem.W
namespace DS
open PySem PySem.Spec PyProof.Rows L2
/-- a before b in a sorted list, or as good -/
def leD (a b : D) : Bool := !PySem.W.dataLt b a
def rSortA (K : PySem.W.Frag) : List V → Hp → VK → Prop := fun vs H Q => ∃ a xs ds, vs = [.ref a] ∧ SqL K H a xs ∧ DpAll K H xs ds ∧ xs.length = ds.length ∧ allCmp ds = true ∧ ∀ p, H p = none → Q (.ref p) (upd H p (.lst (((xs.zip ds).mergeSort (fun u v => leD u.2 v.2)).map (·.1))))
section
variable {X : Cx} {K : PySem.W.Frag}
theorem each_zip {R : Value → V → Prop} : ∀ {us : List Value} {xs : List V} {ds : List D}, us.length = xs.length → xs.length = ds.length → (∀ (i : Nat) (u : Value) (x : V), us[i]? = some u → xs[i]? = some x → R u x) → PySem.W.EachIs (fun u b => R u b.1) us (xs.zip ds)
  | [], [], [], _, _, _ => .nil
  | u :: us, x :: xs, d :: ds, h1, h2, h => .cons (h 0 u x rfl rfl) (each_zip (by simpa using h1) (by simpa using h2) fun i u' x' e1 e2 => h (i + 1) u' x' (by simpa using e1) (by simpa using e2))
  | [], _ :: _, _, h1, _, _ => by simp at h1
  | _ :: _, [], _, h1, _, _ => by simp at h1
  | [], [], _ :: _, _, h2, _ => by simp at h2
  | _ :: _, _ :: _, [], _, h2, _ => by simp at h2
theorem each_reads {h : Heap} : ∀ {us : List Value} {xs : List V} {ds : List D} {as : List Addr}, ReadsAll h us ds as → xs.length = ds.length → PySem.W.EachIs (fun u b => ∃ as, Reads h u b.2 as) us (xs.zip ds)
  | _, [], _, _, .nil, _ => .nil
  | _, x :: xs, _, _, .cons r t, hl => .cons ⟨_, r⟩ (each_reads t (by simpa using hl))
  | _, _ :: _, _, _, .nil, hl => by simp at hl
  | _, [], _, _, .cons r t, hl => by simp at hl
theorem each_vals : ∀ {us : List Value} {zs : List (V × D)}, PySem.W.EachIs (fun u b => RelV b.1 u) us zs → Vals (zs.map (·.1)) us
  | _, _, .nil => .nil
  | _, _, .cons r t => .cons r (each_vals t)
theorem zip_snd {α β : Type} : ∀ {xs : List α} {ds : List β}, xs.length = ds.length → (xs.zip ds).map (·.2) = ds
  | [], [], _ => rfl
  | x :: xs, d :: ds, h => by
    simp only [List.zip_cons_cons, List.map_cons]
    rw [zip_snd (by simpa using h)]
  | [], _ :: _, h => by simp at h
  | _ :: _, [], h => by simp at h
theorem depth_mem : ∀ {ds : List D} {d : D}, d ∈ ds → d.depth ≤ PyData.depthAll ds
  | x :: ds, d, h => by
    rw [PyData.depthAll]
    rcases List.mem_cons.mp h with e | h
    · rw [e]; omega
    · have := depth_mem h
      omega
theorem cr_sortedA (hu : X.A.units + 64 < cLine) : CallR X (.builtin "sorted") (rSortA X.K) := by
  intro pins s σ H vs us Q I r h
  obtain ⟨a, xs, ds, rfl, hs, dp, hlen, ok, q⟩ := h
  obtain ⟨f1, f2, f3⟩ := allCmp_facts ok
  obtain ⟨its, rv, hl, hz⟩ := I.list hs
  rw [Vals.ref1 r]
  obtain ⟨as, ra⟩ := Dp.readsAll I _ _ _ dp rv
  have zs : (xs.zip ds).map (fun b : V × D => b.2) = ds := zip_snd hlen
  refine PySem.W.sorted_any' (bs := xs.zip ds) (enc := fun b => b.2) (R := fun u b => RelV b.1 u) hl.isList
    (each_zip rv.length.symm hlen fun i u x e1 e2 => by
      obtain ⟨u', e3, r3⟩ := rv.get e2
      rw [e1] at e3
      cases e3
      exact r3)
    (each_reads ra hlen) (by rw [zs]; exact f3.1) (by rw [zs]; exact f3.2) (by rw [List.length_zip, ← hlen, Nat.min_self]; exact hz) (fun b hb => ?_) (fun out hol ho => ?_)
  · have : b.2 ∈ ds := (List.of_mem_zip hb).2
    have := depth_mem this
    omega
  · obtain ⟨ep, he'⟩ := PyProof.Rows.sortedAll_at s.heap its out.toArray
    have hv := each_vals ho
    refine ⟨.ref (s.heap.objs.size + 1), upd H (s.heap.objs.size + 1) (.lst (((xs.zip ds).mergeSort (fun u v => leD u.2 v.2)).map (·.1))), I.laid (t' := s.toks) (fun _ _ => PyProof.Rows.sortedAll_old) (Nat.le_succ _) ⟨?_, out, ep, hv, he'⟩, rfl, q _ (I.hok.fresh (Nat.le_succ _))⟩
    rw [List.length_map, List.length_mergeSort, List.length_zip, ← hlen, Nat.min_self]
    exact hz
end
def dSorted : D → Option D
  | .list ds => if allCmp ds = true then some (.list (ds.mergeSort leD)) else none
  | _ => none
section
variable {K : PySem.W.Frag}
theorem sort_snd {xs : List V} {ds : List D} (h : xs.length = ds.length) : ((xs.zip ds).mergeSort (fun u v => leD u.2 v.2)).map (·.2) = ds.mergeSort leD := by
  have := PySem.W.sort_maps (r := fun u v : V × D => leD u.2 v.2) (s := leD) (fun b : V × D => b.2) (l := xs.zip ds) fun _ _ _ _ => rfl
  rw [this, zip_snd h]
theorem RA.sorted {H : Hp} {xs : List V} {ds : List D} (r : RA K H xs ds) : RA K H (((xs.zip ds).mergeSort (fun u v => leD u.2 v.2)).map (·.1)) (ds.mergeSort leD) := by
  rw [← sort_snd r.length]
  have all : ∀ p ∈ xs.zip ds, R K H p.1 p.2 := by
    intro p hp
    obtain ⟨i, hi⟩ := List.getElem?_of_mem hp
    have := List.getElem?_zip_eq_some.mp hi
    obtain ⟨y, e, ry⟩ := r.get this.2
    rw [this.1] at e
    cases e
    exact ry
  have go : ∀ l : List (V × D), (∀ p ∈ l, R K H p.1 p.2) → RA K H (l.map (·.1)) (l.map (·.2)) := by
    intro l hl
    induction l with
    | nil => exact .nil
    | cons p l ih => exact .cons (hl p (.head _)) (ih fun q hq => hl q (.tail _ hq))
  exact go _ fun p hp => all p ((List.mergeSort_perm _ _).mem_iff.mp hp)
theorem cd_sorted : CallD K (rSortA K) (d1 dSorted) := by
  intro B vs ds d H Q ok hl r h q
  obtain ⟨x, rfl, h'⟩ := d1_some h
  obtain ⟨v, rfl, rv⟩ := one_of hl r
  unfold dSorted at h'
  split at h'
  · rename_i es
    obtain ⟨hc, e⟩ := ite_some h'
    subst e
    obtain ⟨p, ys, rfl, h1, h2⟩ := rv.list1
    have h3 := h2.mono same_unhid
    refine ⟨p, ys, es, rfl, SqL.of h1, RA.toDp h3 (allCmp_facts hc).1, h2.length, hc, fun l hn => q _ _ (same_upd hn) fun κ hκ => Post.new ok.trk hn upd_same (h2.sorted.mono (same_hidC hn)) hκ⟩
  · cases h'
end
end DS
end

section
set_option Elab.async false
set_option linter.all false
set_option maxRecDepth 100000
set_option maxHeartbeats 1000000
/-! Part r: min(xs, default=d), max(xs, default=d). -/
namespace DS
open PySem PySem.Spec PyProof.Rows L2
def rBestD (K : PySem.W.Frag) (g : D → List D → D) : List V → List V → Hp → VK → Prop := fun vs zs H Q => ∃ a xs ds z, vs = [.ref a] ∧ zs = [z] ∧ (SqL K H a xs ∨ SqT K H a xs) ∧ DpAll K H xs ds ∧ allCmp ds = true ∧ (ds = [] → Q z H) ∧ ∀ (x : D) (r : List D), ds = x :: r → ∀ (i : Nat) (y : V), xs[i]? = some y → ds[i]? = some (g x r) → Q y H
section
variable {X : Cx} {K : PySem.W.Frag}
theorem crk_maxD (hc : X.calm = true) (hu : X.A.units + 64 < cLine) : CallRK X (.builtin "max") [Str.ofString "default"] (rBestD X.K PySem.W.maxD) := by
  intro pins s σ H vs zs us ws Q I r rz h
  obtain ⟨a, xs, ds, z, rfl, rfl, hs, dp, ok, q0, q⟩ := h
  obtain ⟨f1, f2, f3⟩ := allCmp_facts ok
  rw [Vals.ref1 r]
  obtain ⟨wz, rfl, rw'⟩ := vals1 rz
  show wpAny _ _ (call (.builtin "max") [.ref a] [(Str.ofString "default", wz)]) _ _ _
  rcases hs with hs | hs
  · obtain ⟨its, rv, hl, _⟩ := I.list hs
    obtain ⟨as, ra⟩ := Dp.readsAll I _ _ _ dp rv
    refine PySem.W.max_list_default (I.ok.hd hc) hl.isList (by simpa using ra) f3 (by omega) (fun e h' tk hk => ⟨z, H, I.kept hk, rw', q0 e⟩) fun y ys i v h' tk bs e hv rd hk => ?_
    subst e
    obtain ⟨y', e1, e2, e3⟩ := best_at rv ra f3 (maxD_mem y ys) hk hv rd
    exact ⟨y', H, I.kept hk, e2, q y ys rfl i y' e1 e3⟩
  · obtain ⟨its, rv, hl, _⟩ := I.tuple hs
    obtain ⟨as, ra⟩ := Dp.readsAll I _ _ _ dp rv
    refine PySem.W.max_tuple_default (I.ok.hd hc) hl (by simpa using ra) f3 (by omega) (fun e h' tk hk => ⟨z, H, I.kept hk, rw', q0 e⟩) fun y ys i v h' tk bs e hv rd hk => ?_
    subst e
    obtain ⟨y', e1, e2, e3⟩ := best_at rv ra f3 (maxD_mem y ys) hk hv rd
    exact ⟨y', H, I.kept hk, e2, q y ys rfl i y' e1 e3⟩
theorem crk_minD (hc : X.calm = true) (hu : X.A.units + 64 < cLine) : CallRK X (.builtin "min") [Str.ofString "default"] (rBestD X.K PySem.W.minD) := by
  intro pins s σ H vs zs us ws Q I r rz h
  obtain ⟨a, xs, ds, z, rfl, rfl, hs, dp, ok, q0, q⟩ := h
  obtain ⟨f1, f2, f3⟩ := allCmp_facts ok
  rw [Vals.ref1 r]
  obtain ⟨wz, rfl, rw'⟩ := vals1 rz
  show wpAny _ _ (call (.builtin "min") [.ref a] [(Str.ofString "default", wz)]) _ _ _
  rcases hs with hs | hs
  · obtain ⟨its, rv, hl, _⟩ := I.list hs
    obtain ⟨as, ra⟩ := Dp.readsAll I _ _ _ dp rv
    refine PySem.W.min_list_default (I.ok.hd hc) hl.isList (by simpa using ra) f3 (by omega) (fun e h' tk hk => ⟨z, H, I.kept hk, rw', q0 e⟩) fun y ys i v h' tk bs e hv rd hk => ?_
    subst e
    obtain ⟨y', e1, e2, e3⟩ := best_at rv ra f3 (minD_mem y ys) hk hv rd
    exact ⟨y', H, I.kept hk, e2, q y ys rfl i y' e1 e3⟩
  · obtain ⟨its, rv, hl, _⟩ := I.tuple hs
    obtain ⟨as, ra⟩ := Dp.readsAll I _ _ _ dp rv
    refine PySem.W.min_tuple_default (I.ok.hd hc) hl (by simpa using ra) f3 (by omega) (fun e h' tk hk => ⟨z, H, I.kept hk, rw', q0 e⟩) fun y ys i v h' tk bs e hv rd hk => ?_
    subst e
    obtain ⟨y', e1, e2, e3⟩ := best_at rv ra f3 (minD_mem y ys) hk hv rd
    exact ⟨y', H, I.kept hk, e2, q y ys rfl i y' e1 e3⟩
end
/-- the best of xs, or z where there is none -/
def bestOr (g : D → List D → D) : List D → D → Option D
  | [], z => if flat z = true then some z else none
  | x :: r, _ => bestOf g (x :: r)
def dMaxD : D → D → Option D
  | .list ds, z => bestOr PySem.W.maxD ds z
  | .tuple ds, z => bestOr PySem.W.maxD ds z
  | _, _ => none
def dMinD : D → D → Option D
  | .list ds, z => bestOr PySem.W.minD ds z
  | .tuple ds, z => bestOr PySem.W.minD ds z
  | _, _ => none
def CallKF (K : PySem.W.Frag) (r : List V → List V → Hp → VK → Prop) (op : D → D → Option D) : Prop := ∀ (v z : V) (dv dz d : D) (H : Hp) (Q : VK), R K H v dv → R K H z dz → op dv dz = some d → (∀ u, R K H u d → flat d = true → Q u H) → r [v] [z] H Q
section
variable {K : PySem.W.Frag}
theorem bestOr_ok {g : D → List D → D} {a : Addr} {xs : List V} {ds : List D} {z : V} {dz d : D} {H : Hp} {Q : VK} (hs : SqL K H a xs ∨ SqT K H a xs) (ra : RA K H xs ds) (rz : R K H z dz) (h : bestOr g ds dz = some d) (q : ∀ v, R K H v d → flat d = true → Q v H) : rBestD K g [.ref a] [z] H Q := by
  unfold bestOr at h
  split at h
  · obtain ⟨hc, e⟩ := ite_some h
    subst e
    exact ⟨a, xs, [], z, rfl, rfl, hs, RA.toDp ra rfl, rfl, fun _ => q z rz hc, fun x r e => by cases e⟩
  · rename_i x r z'
    unfold bestOf at h
    obtain ⟨hc, e⟩ := ite_some h
    subst e
    rw [Bool.and_eq_true] at hc
    refine ⟨a, xs, _, z, rfl, rfl, hs, RA.toDp ra (allCmp_facts hc.1).1, hc.1, fun e => by (cases e), fun x' r' e i y e1 e2 => ?_⟩
    cases e
    obtain ⟨y', e3, rr⟩ := ra.get e2
    rw [e1] at e3
    cases e3
    exact q y rr hc.2
theorem ck_max : CallKF K (rBestD K PySem.W.maxD) dMaxD := by
  intro v z dv dz d H Q rv rz h q
  unfold dMaxD at h
  split at h
  · cases rv with
    | lst e1 e2 => exact bestOr_ok (.inl (SqL.of e1)) e2 rz h q
  · cases rv with
    | tup e1 e2 => exact bestOr_ok (.inr (.inl (.inl e1))) e2 rz h q
  · cases h
theorem ck_min : CallKF K (rBestD K PySem.W.minD) dMinD := by
  intro v z dv dz d H Q rv rz h q
  unfold dMinD at h
  split at h
  · cases rv with
    | lst e1 e2 => exact bestOr_ok (.inl (SqL.of e1)) e2 rz h q
  · cases rv with
    | tup e1 e2 => exact bestOr_ok (.inr (.inl (.inl e1))) e2 rz h q
  · cases h
end
section
variable {X : Cx} {K : PySem.W.Frag} {κ : Mo} {x : Str} {p pos kpos : Pos} {e o : Expr} {f g : FE} {c c2 : Esc} {id : String} {nm : Str} {r : List V → List V → Hp → VK → Prop} {op : D → D → Option D}
/-- f(e, nm=o) -/
theorem qe_k1 (hc : CallRK X (.builtin id) [nm] r) (hd : CallKF K r op) (hg : Gl X x) (hm : X.mg x = none) (hv : bootBuiltins x = some (.builtin id)) (ha : PE X e (tD K (.br 1) f c)) (hk : PE X o (tD K (.br 1) g c2)) (hn : x ≠ "__name__" := by decide) (hdb : (x == ("__debug__" : Str)) = false := by decide)
    (hs : starEach [e] X.env = (false, eval e X.env) :: starEach [] X.env := by rfl)
    (he : backTo pos (starEach [e] X.env) = (false, eval e X.env) :: backTo pos (starEach [] X.env) := by rfl) (hpl : (backTo pos (starEach [e] X.env)).any (·.1) = false := by rfl)
    (hall : (backToKw pos (keywordEach [{ arg := some nm, value := o, pos := kpos }] X.env)).all (·.1.isSome) = true := by rfl) (hnone : (backToKw pos (keywordEach [{ arg := some nm, value := o, pos := kpos }] X.env)).any (·.1.isNone) = false := by rfl) (hks : (backToKw pos (keywordEach [{ arg := some nm, value := o, pos := kpos }] X.env)).filterMap (·.1) = [nm] := by rfl) :
    PE X (.Call (.Name x p) [e] [{ arg := some nm, value := o, pos := kpos }] pos) (tD K κ (eOp op f g) []) :=
  (pe_callBK hc hg hm hv (pa_cons ha pa_nil hs) (pk_cons hk pk_nil) hn hdb he hpl hall hnone hks).imp fun σ H Q ⟨B, L, ρ, d, gd, es, hf, q⟩ => by
    obtain ⟨dx, dy, h1, h2, h3⟩ := o2_some hf
    refine ⟨[], _, ρ, dx, gd.zero, .zero, h1, fun v H1 s1 p1 => ⟨[], _, ρ, dy, (gd.mono s1).zero, .zero, h2, fun z H2 s2 p2 => ?_⟩⟩
    exact hd v z dx dy d H2 Q ((RL.r0 p1).mono s2) (RL.r0 p2) h3 fun u ru fl => q u H2 (s1.trans s2) (Post.of_flat (ru.hidF ((gd.ok.mono s1).mono s2).noTup fl) (flat_top fl))
end
end DS
end

section
set_option Elab.async false
set_option linter.all false
set_option maxRecDepth 100000
set_option maxHeartbeats 1000000
/-! Part t: is, is not of truth values; found *= x. -/
namespace DS
open PySem PySem.Spec PyProof.Rows L2
def dIs : D → D → Option Bool
  | .bool a, .bool b => some (decide (a = b))
  | _, _ => none
def dIsNot : D → D → Option Bool
  | .bool a, .bool b => some (!decide (a = b))
  | _, _ => none
section
variable {X : Cx} {K : PySem.W.Frag}
theorem oc_is : OpC K rIsB dIs := by
  intro x y dx dy b H Q rx ry h q
  unfold dIs at h
  split at h
  · cases (Option.some.inj h)
    exact ⟨_, _, rx.bl', ry.bl', q⟩
  · cases h
theorem oc_isNot : OpC K rNotB dIsNot := by
  intro x y dx dy b H Q rx ry h q
  unfold dIsNot at h
  split at h
  · cases (Option.some.inj h)
    exact ⟨_, _, rx.bl', ry.bl', q⟩
  · cases h
def ipM : TIp := fun x y H Q => ∃ i j, x = .int i ∧ y = .int j ∧ mulOk i j = true ∧ Q (.int (i * j)) H
theorem ip_mul : PIp X .Mult ipM := by
  intro pins s σ H x y v u Q I r1 r2 h
  obtain ⟨i, j, e1, e2, hm, q⟩ := h
  subst e1; subst e2
  obtain ⟨t, rfl⟩ := r1
  obtain ⟨t', rfl⟩ := r2
  exact imul_int ⟨.int _, H, I.tok _, ⟨_, rfl⟩, q⟩ (mulOk_ok hm)
def dMulI : D → D → Option D
  | .int i, .int j => if mulOk i j = true then some (.int (i * j)) else none
  | _, _ => none
theorem ss_augMul (i : Nat) {x : Str} {e : Expr} {f : FE} {c : Esc} {pos pos' : Pos} (hN : X.N.Nodup) (he : PE X e (tD K (.br 1) f c)) (hi : X.N[i]? = some x := by rfl) (hx : Loc X.env.scope x := by first | exact Or.inl rfl | exact Or.inr rfl) (hf : X.fn x = true ∨ X.env.scope.names.lookup x = some .local := by first | exact .inl rfl | exact .inr rfl) :
    PS X (.AugAssign (.Name x pos') .Mult e pos) (tS K (sAug i dMulI f)) := ss_aug i ip_mul (fun B x y dx dy d H Q ok rx ry h q => by
      unfold dMulI at h
      split at h
      · obtain ⟨hc, e⟩ := ite_some h
        subst e
        exact ⟨_, _, rx.int', ry.int', hc, q _ H (Same.refl H) (.int _)⟩
      · cases h) hN he hi hx hf
end
end DS
end

section
set_option Elab.async false
set_option linter.all false
set_option maxRecDepth 100000
set_option maxHeartbeats 1000000
/-! Part u: x[i], y[j] = a, b with flat values. -/
namespace DS
open PySem PySem.Spec PyProof.Rows L2
def sPutC (i : Nat) (j : FE) (d : D) : FS := fun s => match eVar i s.1, j s.1 with
  | some (.list ds), some (.int k) => match ixN ds.length k with
    | none => .stuck
    | some n => if lv s.2 i = 1 then .next (s.1.set i (some (.list (ds.set n d))), s.2) else .stuck
  | _, _ => .stuck
def sPut2 (i1 : Nat) (j1 : FE) (i2 : Nat) (j2 : FE) (f : FE) : FS := fun s => match f s.1 with
  | some (.tuple [a, b]) => if (flat a && flat b) = true then (match sPutC i1 j1 a s with
    | .next s1 => sPutC i2 j2 b s1
    | _ => .stuck) else .stuck
  | _ => .stuck
section
variable {X : Cx} {K : PySem.W.Frag}
theorem flat_write {H : Hp} {a : Addr} {xs xs' : List V} {w : V} {e : D} (r : R K H w e) (hf : flat e = true) (ha : H a = some (.lst xs)) : R K (upd H a (.lst xs')) w e := by
  have nt : NoTup [a] H := fun b hb ys rd => by
    have : b = a := by simpa using hb
    subst this
    rcases rd with rd | ⟨u, rd⟩ <;> rw [rd] at ha <;> cases ha
  refine (r.hidF nt hf).mono fun b o q => ?_
  obtain ⟨q1, q2⟩ := hid_some q
  rw [upd_ne fun z => q1 (by rw [z]; exact List.mem_cons_self)]
  exact q2
theorem putC_ok {B0 : List Addr} {G H : Hp} {σ : St} {s s' : S} {i : Nat} {j : FE} {cj : Esc} {d : D} {v : V} {Q : St → Hp → Prop} (hs : GS K B0 G σ H s) (hv : R K H v d) (hfl : flat d = true) (he : sPutC i j d s = .next s')
    (q : ∀ H', GS K B0 G σ H' s' → (∀ w e, R K H w e → flat e = true → R K H' w e) → Q σ H') : gSub (tVar i) (tD K (.br 1) j cj) rSetL v σ H Q := by
  unfold sPutC at he
  split at he
  · rename_i ds k hi hk
    have hi := eVar_some hi
    split at he
    · cases he
    · rename_i n hn
      split at he
      · rename_i hl
        cases he
        obtain ⟨O, B, g⟩ := hs
        obtain ⟨a, xs, h1, h2, h3, _⟩ := g.write hi hl
        refine ⟨.ref a, h1, [], _, s.1, _, g.good.zero, .zero, hk, fun w H2 s2 p2 => ?_⟩
        obtain ⟨a', xs', h1', h2', h3', h4'⟩ := (g.mono s2).write hi hl
        rw [h1] at h1'
        cases h1'
        have h5 := s2 _ _ h2
        rw [h5] at h2'
        cases h2'
        refine ⟨a, xs, _, n, rfl, RL.int p2, h5, by rw [h3.length]; exact hn, ?_⟩
        exact q _ (h4' _ _ (h3'.set ((hv.mono s2).hidF ((g.ok.mono s2).noTup) hfl) n)) fun w' e' r' f' => flat_write (r'.mono s2) f' h5
      · cases he
  · cases he
theorem put2_ok {i1 i2 : Nat} {j1 j2 f : FE} {c c1 c2 : Esc} : ∀ E σ H, tS K (sPut2 i1 j1 i2 j2 f) E σ H →
    tAsg (tD K (.br 0) f c) (gTup K 2 (gCons (gSub (tVar i1) (tD K (.br 1) j1 c1) rSetL) (gCons (gSub (tVar i2) (tD K (.br 1) j2 c2) rSetL) gNil))) E σ H := fun E σ H ⟨B0, G, s, hs, q⟩ => by
  unfold sPut2 at q
  split at q
  · rename_i a b hd
    split at q
    · rename_i hfl
      rw [Bool.and_eq_true] at hfl
      split at q
      · rename_i s1 e1
        cases e2 : sPutC i2 j2 b s1 with
        | next s2 =>
          rw [e2] at q
          obtain ⟨O, B, g⟩ := id hs
          refine ⟨[], _, s.1, _, g.good.zero, .zero, hd, fun v H1 st p1 => ?_⟩
          have rv := RL.r0 p1
          cases rv with
          | tup t1 t2 =>
            cases t2 with
            | cons ra t3 =>
              cases t3 with
              | cons rb t4 =>
                cases t4
                refine ⟨_, _, rfl, (.inl (.inl t1)), rfl, _, _, rfl, ?_⟩
                have hs1 : GS K B0 G σ H1 s := ⟨O, B, g.mono st⟩
                refine putC_ok hs1 ra hfl.1 e1 fun H2 gs2 kp => ?_
                refine ⟨_, _, rfl, putC_ok gs2 (kp _ _ rb hfl.2) hfl.2 e2 fun H3 gs3 _ => ⟨rfl, q σ H3 gs3⟩⟩
        | ret d =>
          unfold sPutC at e2
          split at e2
          · split at e2
            · cases e2
            · split at e2 <;> cases e2
          · cases e2
        | brk s2 =>
          unfold sPutC at e2
          split at e2
          · split at e2
            · cases e2
            · split at e2 <;> cases e2
          · cases e2
        | cont s2 =>
          unfold sPutC at e2
          split at e2
          · split at e2
            · cases e2
            · split at e2 <;> cases e2
          · cases e2
        | stuck => rw [e2] at q; exact q.elim
      · exact q.elim
    · exact q.elim
  · exact q.elim
theorem ss_put2 (i1 i2 : Nat) {tg e : Expr} {j1 j2 f : FE} {c c1 c2 : Esc} {pos : Pos} (ps : PS X (.Assign [tg] e pos) (tAsg (tD K (.br 0) f c) (gTup K 2 (gCons (gSub (tVar i1) (tD K (.br 1) j1 c1) rSetL) (gCons (gSub (tVar i2) (tD K (.br 1) j2 c2) rSetL) gNil))))) :
    PS X (.Assign [tg] e pos) (tS K (sPut2 i1 j1 i2 j2 f)) := ps.imp put2_ok
end
end DS
end

section
set_option Elab.async false
set_option linter.all false
set_option maxRecDepth 100000
set_option maxHeartbeats 1000000
/-! Part v: sorted(xs, reverse=True). -/
namespace PySem.W
open PySem PySem.Calls PyProof.Rows
section
variable {prog : Program} {w : World} {A : Around} {E : Value → Shared → Prop} {s : Shared} {β : Type} {vs : List Value} {bs : List β} {enc : β → PyData} {R : Value → β → Prop}
theorem sorted_rev_any' {l : Addr} {b : Bool} {Q : Value → Shared → Prop} (hl : s.heap.IsList l vs.toArray) (e : EachIs R vs bs) (er : EachIs (fun v b => ∃ as, Reads s.heap v (enc b) as) vs bs) (hal : AllAlike (bs.map enc)) (hk : ∀ d, d ∈ bs.map enc → d ≠ .none) (hL : bs.length ≤ sizeLine)
    (hu : ∀ b, b ∈ bs → A.units + 2 + (enc b).depth < cLine) (h : ∀ out, out.length = bs.length → EachIs R out (bs.mergeSort (dataLe b enc)) → Q (.ref (s.heap.objs.size + 1)) { s with heap := sortedAll s.heap vs (List.toArray out) }) :
    wpAny (model prog w) A (call (.builtin "sorted") [.ref l] [(Str.ofString "reverse", .bool b)]) Q E s := by
  have er' : EachIs (fun v b => ∃ as, Reads (sortingHeap (copyHeap s.heap vs) (s.heap.objs.size + 1) vs) v (enc b) as) vs bs := er.mono fun _ _ ⟨as, r⟩ => ⟨as, PyProof.Rows.Reads.keeps (fun _ _ => sorting_copy_old) r⟩
  exact sorted_rev_vals hl (SortsAt.any (s := { s with heap := sortingHeap (copyHeap s.heap vs) (s.heap.objs.size + 1) vs }) (each_map (R := fun v d => ∃ as, Reads (sortingHeap (copyHeap s.heap vs) (s.heap.objs.size + 1) vs) v d as) enc er') hal hk (bound_map hu)) (by rw [e.length]; exact hL)
    (h _ (by rw [sortVals_length b rfl]; exact e.length) (sortVals_data b e er' hal))
end
end PySem.W
namespace DS
open PySem PySem.Spec PyProof.Rows L2
/-- a before b in a list sorted downwards, or as good -/
def geD (a b : D) : Bool := !PySem.W.dataLt a b
def rSortRv (K : PySem.W.Frag) : List V → List V → Hp → VK → Prop := fun vs zs H Q => ∃ a xs ds, vs = [.ref a] ∧ zs = [.bl true] ∧ SqL K H a xs ∧ DpAll K H xs ds ∧ xs.length = ds.length ∧ allCmp ds = true ∧ ∀ p, H p = none → Q (.ref p) (upd H p (.lst (((xs.zip ds).mergeSort (fun u v => geD u.2 v.2)).map (·.1))))
section
variable {X : Cx} {K : PySem.W.Frag}
theorem crk_sortedRv (hu : X.A.units + 64 < cLine) : CallRK X (.builtin "sorted") [Str.ofString "reverse"] (rSortRv X.K) := by
  intro pins s σ H vs zs us ws Q I r rz h
  obtain ⟨a, xs, ds, rfl, rfl, hs, dp, hlen, ok, q⟩ := h
  obtain ⟨f1, f2, f3⟩ := allCmp_facts ok
  obtain ⟨its, rv, hl, hz⟩ := I.list hs
  rw [Vals.ref1 r]
  obtain ⟨wz, rfl, rw'⟩ := vals1 rz
  cases (show wz = Value.bool true from rw')
  show wpAny _ _ (call (.builtin "sorted") [.ref a] [(Str.ofString "reverse", .bool true)]) _ _ _
  obtain ⟨as, ra⟩ := Dp.readsAll I _ _ _ dp rv
  have zz : (xs.zip ds).map (fun b : V × D => b.2) = ds := zip_snd hlen
  refine PySem.W.sorted_rev_any' (b := true) (bs := xs.zip ds) (enc := fun b => b.2) (R := fun u b => RelV b.1 u) hl.isList
    (each_zip rv.length.symm hlen fun i u x e1 e2 => by
      obtain ⟨u', e3, r3⟩ := rv.get e2
      rw [e1] at e3
      cases e3
      exact r3)
    (each_reads ra hlen) (by rw [zz]; exact f3.1) (by rw [zz]; exact f3.2) (by rw [List.length_zip, ← hlen, Nat.min_self]; exact hz) (fun b hb => ?_) (fun out hol ho => ?_)
  · have : b.2 ∈ ds := (List.of_mem_zip hb).2
    have := depth_mem this
    omega
  · obtain ⟨ep, he'⟩ := PyProof.Rows.sortedAll_at s.heap its out.toArray
    have hv := each_vals ho
    refine ⟨.ref (s.heap.objs.size + 1), upd H (s.heap.objs.size + 1) (.lst (((xs.zip ds).mergeSort (fun u v => geD u.2 v.2)).map (·.1))), I.laid (t' := s.toks) (fun _ _ => PyProof.Rows.sortedAll_old) (Nat.le_succ _) ⟨?_, out, ep, hv, he'⟩, rfl, q _ (I.hok.fresh (Nat.le_succ _))⟩
    rw [List.length_map, List.length_mergeSort, List.length_zip, ← hlen, Nat.min_self]
    exact hz
end
def dSortRv : D → D → Option D
  | .list ds, .bool true => if allCmp ds = true then some (.list (ds.mergeSort geD)) else none
  | _, _ => none
/-- f(e, nm=o) makes something new -/
def CallKD (K : PySem.W.Frag) (r : List V → List V → Hp → VK → Prop) (op : D → D → Option D) : Prop := ∀ (B : List Addr) (v z : V) (dv dz d : D) (H : Hp) (Q : VK), Ok B H → RL K B H 1 v dv → RL K B H 1 z dz → op dv dz = some d →
  (∀ u H', Same H H' → (∀ κ : Mo, κ.one = true → Post K B H H' κ u d) → Q u H') → r [v] [z] H Q
section
variable {K : PySem.W.Frag}
theorem sort_snd' {xs : List V} {ds : List D} (h : xs.length = ds.length) : ((xs.zip ds).mergeSort (fun u v => geD u.2 v.2)).map (·.2) = ds.mergeSort geD := by
  have := PySem.W.sort_maps (r := fun u v : V × D => geD u.2 v.2) (s := geD) (fun b : V × D => b.2) (l := xs.zip ds) fun _ _ _ _ => rfl
  rw [this, zip_snd h]
theorem RA.sorted' {H : Hp} {xs : List V} {ds : List D} (r : RA K H xs ds) : RA K H (((xs.zip ds).mergeSort (fun u v => geD u.2 v.2)).map (·.1)) (ds.mergeSort geD) := by
  rw [← sort_snd' r.length]
  have all : ∀ p ∈ xs.zip ds, R K H p.1 p.2 := by
    intro p hp
    obtain ⟨i, hi⟩ := List.getElem?_of_mem hp
    have := List.getElem?_zip_eq_some.mp hi
    obtain ⟨y, e, ry⟩ := r.get this.2
    rw [this.1] at e
    cases e
    exact ry
  have go : ∀ l : List (V × D), (∀ p ∈ l, R K H p.1 p.2) → RA K H (l.map (·.1)) (l.map (·.2)) := by
    intro l hl
    induction l with
    | nil => exact .nil
    | cons p l ih => exact .cons (hl p (.head _)) (ih fun q hq => hl q (.tail _ hq))
  exact go _ fun p hp => all p ((List.mergeSort_perm _ _).mem_iff.mp hp)
theorem ckd_sortedRv : CallKD K (rSortRv K) dSortRv := by
  intro B v z dv dz d H Q ok rv rz h q
  unfold dSortRv at h
  split at h
  · rename_i es
    obtain ⟨hc, e⟩ := ite_some h
    subst e
    obtain ⟨p, ys, rfl, h1, h2⟩ := rv.list1
    have h3 := h2.mono same_unhid
    have ez : z = .bl true := (RL.open rz).bl'
    subst ez
    refine ⟨p, ys, es, rfl, rfl, SqL.of h1, RA.toDp h3 (allCmp_facts hc).1, h2.length, hc, fun l hn => q _ _ (same_upd hn) fun κ hκ => Post.new ok.trk hn upd_same (h2.sorted'.mono (same_hidC hn)) hκ⟩
  · cases h
end
section
variable {X : Cx} {K : PySem.W.Frag} {κ : Mo} {x : Str} {p pos kpos : Pos} {e o : Expr} {f g : FE} {c c2 : Esc} {id : String} {nm : Str} {r : List V → List V → Hp → VK → Prop} {op : D → D → Option D}
theorem qe_k1D (hc : CallRK X (.builtin id) [nm] r) (hd : CallKD K r op) (hg : Gl X x) (hm : X.mg x = none) (hv : bootBuiltins x = some (.builtin id)) (ha : PE X e (tD K (.br 1) f c)) (hk : PE X o (tD K (.br 1) g c2)) (hκ : κ.one = true := by rfl) (hn : x ≠ "__name__" := by decide) (hdb : (x == ("__debug__" : Str)) = false := by decide)
    (hs : starEach [e] X.env = (false, eval e X.env) :: starEach [] X.env := by rfl)
    (he : backTo pos (starEach [e] X.env) = (false, eval e X.env) :: backTo pos (starEach [] X.env) := by rfl) (hpl : (backTo pos (starEach [e] X.env)).any (·.1) = false := by rfl)
    (hall : (backToKw pos (keywordEach [{ arg := some nm, value := o, pos := kpos }] X.env)).all (·.1.isSome) = true := by rfl) (hnone : (backToKw pos (keywordEach [{ arg := some nm, value := o, pos := kpos }] X.env)).any (·.1.isNone) = false := by rfl) (hks : (backToKw pos (keywordEach [{ arg := some nm, value := o, pos := kpos }] X.env)).filterMap (·.1) = [nm] := by rfl) :
    PE X (.Call (.Name x p) [e] [{ arg := some nm, value := o, pos := kpos }] pos) (tD K κ (eOp op f g) (c ++ c2)) :=
  (pe_callBK hc hg hm hv (pa_cons ha pa_nil hs) (pk_cons hk pk_nil) hn hdb he hpl hall hnone hks).imp fun σ H Q ⟨B, L, ρ, d, gd, es, hf, q⟩ => by
    obtain ⟨dx, dy, h1, h2, h3⟩ := o2_some hf
    refine ⟨B, L, ρ, dx, gd, es.left, h1, fun v H1 s1 p1 => ⟨B, L, ρ, dy, gd.mono s1, es.right, h2, fun z H2 s2 p2 => ?_⟩⟩
    refine hd B v z dx dy d H2 Q ((gd.ok.mono s1).mono s2) (RL.mono s2 (same_hid s2) p1) p2 h3 fun u H' s3 p3 => q u H' ((s1.trans s2).trans s3) ?_
    have p := p3 κ hκ
    cases κ with
    | br m => exact p
    | fr =>
      obtain ⟨o, h1, h2, h3⟩ := p
      exact ⟨o, fun a z => (s1.trans s2).free (h1 a z), h2, h3⟩
    | fr2 => cases hκ
end
end DS
end

section
set_option Elab.async false
set_option linter.all false
set_option maxRecDepth 100000
set_option maxHeartbeats 1000000
/-! Part x: y = o + (l.pop(e),) of an owned list l. -/
namespace DS
open PySem PySem.Spec PyProof.Rows L2
theorem RA.erase {K : PySem.W.Frag} {H : Hp} : ∀ {v : List V} {d : List D} (n : Nat), RA K H v d → RA K H (v.eraseIdx n) (d.eraseIdx n)
  | _, _, _, .nil => .nil
  | _, _, 0, .cons h t => t
  | _, _, n + 1, .cons h t => .cons h (RA.erase n t)
/-- the list at l without its item at j, and that item -/
def popAt (l : Nat) (j : FE) (s : S) : Option (S × D) := match eVar l s.1, j s.1 with
  | some (.list ds), some (.int k) => match ixN ds.length k with
    | none => none
    | some n => match ds[n]? with
      | none => none
      | some d => if (flat d && decide (lv s.2 l = 1) && decide (ds.length ≤ sz)) = true then some ((s.1.set l (some (.list (ds.eraseIdx n))), s.2), d) else none
  | _, _ => none
def sPopCat (i o l : Nat) (j : FE) : FS := fun s => match eVar o s.1, popAt l j s with
  | some (.tuple xs), some (s1, d) => if (flats xs && decide (xs.length + 1 ≤ sz)) = true then .next (s1.1.set i (some (.tuple (xs ++ [d]))), s1.2.set i 0) else .stuck
  | _, _ => .stuck
section
variable {X : Cx} {K : PySem.W.Frag}
abbrev tPop (K : PySem.W.Frag) (l : Nat) (j : FE) (cj : Esc) : TE := tBM K "list" rPopAt (tVar l) (tCons (tD K (.br 1) j cj) tNil)
theorem pop_ok {B0 : List Addr} {G H : Hp} {σ : St} {s s1 : S} {l : Nat} {j : FE} {cj : Esc} {d : D} {Q : VK} (hs : GS K B0 G σ H s) (he : popAt l j s = some (s1, d))
    (q : ∀ y H', GS K B0 G σ H' s1 → R K H' y d → (∀ w e, R K H w e → flat e = true → R K H' w e) → Q y H') : tPop K l j cj σ H Q := by
  unfold popAt at he
  split at he
  · rename_i ds k hi hk
    have hi := eVar_some hi
    split at he
    · cases he
    · rename_i n hn
      split at he
      · cases he
      · rename_i d' hd
        obtain ⟨hc, e⟩ := ite_some he
        cases e
        simp only [Bool.and_eq_true, decide_eq_true_eq] at hc
        obtain ⟨⟨hfl, hl⟩, hz⟩ := hc
        obtain ⟨O, B, g⟩ := hs
        obtain ⟨a, xs, h1, h2, h3, _⟩ := g.write hi hl
        refine ⟨.ref a, h1, .inl ⟨rfl, xs, SqL.of h2⟩, [], _, s.1, _, g.good.zero, .zero, hk, fun w H2 s2 p2 => ?_⟩
        obtain ⟨a', xs', h1', h2', h3', h4'⟩ := (g.mono s2).write hi hl
        rw [h1] at h1'
        cases h1'
        have h5 := s2 _ _ h2
        rw [h5] at h2'
        cases h2'
        obtain ⟨y, hy, ry⟩ := h3'.get hd
        have sq := ixN_seq (n := xs.length) (i := k) (j := n) (by rw [h3.length]; exact hn)
        have hlen : (xs.length : Int) ≤ 16777216 := by
          have : xs.length ≤ 16777216 := by rw [h3.length]; exact hz
          omega
        refine ⟨a, xs, k, n, y, rfl, by rw [RL.int p2], h5, by omega, by omega, sq.1, hy, ?_⟩
        exact q y _ (h4' _ _ (h3'.erase n)) (flat_write (ry.mono same_unhid) hfl h5) fun w' e' r' f' => flat_write (r'.mono s2) f' h5
  · cases he
theorem popCat_ok {i o l : Nat} {j : FE} {cj : Esc} : ∀ E σ H, tS K (sPopCat i o l j) E σ H → tAsg (tOp (rCatA K) (tVar o) (tTup (tCons (tPop K l j cj) tNil))) (gName i) E σ H := fun E σ H ⟨B0, G, s, hs, q⟩ => by
  unfold sPopCat at q
  split at q
  · rename_i xs s1 d ho hp
    split at q
    · rename_i hc
      simp only [Bool.and_eq_true, decide_eq_true_eq] at hc
      obtain ⟨O, B, g⟩ := id hs
      obtain ⟨v, e1, rv⟩ := g.good.slot o _ (eVar_some ho)
      have rv0 : R K H v (.tuple xs) := rv.open
      refine ⟨v, e1, pop_ok hs hp fun y H1 gs1 ry kp => ?_⟩
      have rv1 := kp _ _ rv0 (by simpa [flat] using hc.1)
      have fd : flat d = true := by
        unfold popAt at hp
        split at hp
        · split at hp
          · cases hp
          · split at hp
            · cases hp
            · obtain ⟨hc', e⟩ := ite_some hp
              cases e
              simp only [Bool.and_eq_true] at hc'
              exact hc'.1.1
        · cases hp
      refine ⟨by rw [sz_eq]; show 1 ≤ sz; decide, fun p np => ?_⟩
      have st : Same H1 (upd H1 p (.tup [y])) := same_upd np
      have ft : flat (.tuple (xs ++ [d])) = true := by
        have : ∀ (l : List D), flats l = true → flats (l ++ [d]) = true := by
          intro l
          induction l with
          | nil => intro _; simp [flats, fd]
          | cons x l ih =>
            intro h
            simp only [flats, Bool.and_eq_true, List.cons_append] at h ⊢
            exact ⟨h.1, ih h.2⟩
        simpa [flat] using this xs hc.1
      have fin : ∀ (u : V) (H3 : Hp), Same H1 H3 → R K H3 u (.tuple (xs ++ [d])) → E.nx (σ.set i (some u)) H3 := fun u H3 s3 ru => by
        obtain ⟨O1, B1, g1⟩ := gs1
        obtain ⟨O', B', g', _⟩ := (g1.mono s3).assign0 (i := i) (ru.hidF ((g1.ok.mono s3).noTup) ft)
        exact q _ _ ⟨O', B', g'⟩
      have rv2 := rv1.mono st
      cases rv2 with
      | @tup a0 vs0 _ t1 t2 =>
        have hp' : SqT K (upd H1 p (.tup [y])) p [y] := .inl (.inl upd_same)
        refine ⟨_, p, _, [y], rfl, rfl, (.inl (.inl t1)), hp', by rw [t2.length, sz_eq]; exact hc.2, fun e => ?_, fun _ e => by (cases e), fun _ _ t nt => ?_⟩
        · subst e
          cases t2
          exact fin _ _ st (.tup upd_same (.cons (ry.mono st) .nil))
        · have s' := same_upd (o := HO.tup (vs0 ++ [y])) nt
          exact fin _ _ (st.trans s') (.tup upd_same ((t2.mono s').append (.cons (ry.mono (st.trans s')) .nil)))
    · exact q.elim
  · exact q.elim
theorem ss_popCat (i o l : Nat) {tg e : Expr} {j : FE} {cj : Esc} {pos : Pos} (ps : PS X (.Assign [tg] e pos) (tAsg (tOp (rCatA K) (tVar o) (tTup (tCons (tPop K l j cj) tNil))) (gName i))) :
    PS X (.Assign [tg] e pos) (tS K (sPopCat i o l j)) := ps.imp popCat_ok
end
end DS
end

section
set_option Elab.async false
set_option linter.all false
set_option maxRecDepth 100000
set_option maxHeartbeats 1000000
/-! Part y: a, b = [..], flat: the new list is a's own. -/
namespace DS
open PySem PySem.Spec PyProof.Rows L2
def sParF (i j : Nat) (f g : FE) (c : Esc) : FS := fun s => match f s.1, g s.1 with
  | some d, some e => if flat e = true then .next ((s.1.set i (some d)).set j (some e), ((demote c s.2).set i 1).set j 0) else .stuck
  | _, _ => .stuck
section
variable {X : Cx} {K : PySem.W.Frag}
theorem fresh_two {B0 : List Addr} {G H : Hp} {O : Nat → List Addr} {B : List Addr} {σ : St} {ρ : PEnv} {L : List Nat} {H1 H2 : Hp} {v : V} {d : D} {i : Nat} (g : GoodS K B0 G O B σ H ρ L) (e1 : Same H H1) (e2 : Same H1 H2) (p : Post K B H H1 .fr v d) :
    ∃ O' B', GoodS K B0 G O' B' (σ.set i (some v)) H2 (ρ.set i (some d)) (L.set i 1) := by
  obtain ⟨o, hn, hd, ro⟩ := p
  have r2 : RO K (o ++ B) H2 1 o v d := ro.mono_aux (same_hid e2) fun a ha => by
    obtain ⟨x, hx, _⟩ := ro.mut_aux a ha
    rw [hx, e2 _ _ hx]
  obtain ⟨O', B', g', _⟩ := g.assign (i := i) (e1.trans e2) hn hd r2
  exact ⟨O', B', g'⟩
theorem ss_parF (i j : Nat) {x y : Str} {a b : Expr} {f g : FE} {c c' : Esc} {px py pt pos : Pos} {kt k2 pt2} (hc : X.calm = true) (hN : X.N.Nodup) (ha : PE X a (tD K .fr f c)) (hb : PE X b (tD K (.br 0) g c'))
    (hw : swappedStores [.Tuple [.Name x px, .Name y py] kt pt] (.Tuple [a, b] k2 pt2) X.env = pure (some [x, y])) (hi : X.N[i]? = some x := by rfl) (hj : X.N[j]? = some y := by rfl) (hij : i ≠ j := by decide)
    (hx : X.env.scope.names.lookup x = some .local := by rfl) (hy : X.env.scope.names.lookup y = some .local := by rfl)
    (hs : swapsWithSole [.Tuple [.Name x px, .Name y py] kt pt] (.Tuple [a, b] k2 pt2) pos.line X.env = pure false := by rfl) (hs1 : starEach [a, b] X.env = (false, eval a X.env) :: starEach [b] X.env := by rfl) (hs2 : starEach [b] X.env = (false, eval b X.env) :: starEach [] X.env := by rfl) :
    PS X (.Assign [.Tuple [.Name x px, .Name y py] kt pt] (.Tuple [a, b] k2 pt2) pos) (tS K (sParF i j f g c)) := (ps_par hc hN hi hj hij hx hy (pa_cons ha (pa_cons hb pa_nil hs2) hs1) hw hs).imp fun E σ H ⟨B0, G, s, hs, q⟩ => by
  unfold sParF at q
  split at q
  · rename_i d e hd he
    split at q
    · rename_i hfl
      obtain ⟨O, B, gd⟩ := hs
      obtain ⟨O', B', g', _⟩ := gd.demote c
      refine ⟨B', lv (demote c s.2), s.1, d, g'.good, demote_ok _ s.2, hd, fun v H1 e1 p1 => ?_⟩
      refine ⟨[], _, s.1, e, (gd.mono e1).good.zero, .zero, he, fun w H2 e2 p2 => ?_⟩
      refine ⟨v, w, rfl, q _ H2 ?_⟩
      obtain ⟨O1, B1, g1⟩ := fresh_two (i := i) g' e1 e2 p1
      obtain ⟨O2, B2, g2, _⟩ := g1.assign0 (i := j) ((RL.r0 p2).hidF g1.ok.noTup hfl)
      exact ⟨O2, B2, g2⟩
    · exact q.elim
  · exact q.elim
end
def sPar3A (i j k : Nat) (f g h : FE) (c : Esc) : FS := fun s => match f s.1, g s.1, h s.1 with
  | some d, some e, some u => if (flat e && flat u) = true then .next (((s.1.set i (some d)).set j (some e)).set k (some u), (((demote c s.2).set i 1).set j 0).set k 0) else .stuck
  | _, _, _ => .stuck
section
variable {X : Cx} {K : PySem.W.Frag}
theorem ss_sPar3A (i j k : Nat) {x y z : Str} {a b c : Expr} {f g h : FE} {ca cb cc : Esc} {px py pz pt pos : Pos} {kt k2 pt2} (hc : X.calm = true) (hN : X.N.Nodup) (ha : PE X a (tD K (.fr) f ca)) (hb : PE X b (tD K (.br 0) g cb)) (hcc : PE X c (tD K (.br 0) h cc))
    (hw : swappedStores [.Tuple [.Name x px, .Name y py, .Name z pz] kt pt] (.Tuple [a, b, c] k2 pt2) X.env = pure (some [x, y, z])) (hi : X.N[i]? = some x := by rfl) (hj : X.N[j]? = some y := by rfl) (hk : X.N[k]? = some z := by rfl) (hij : i ≠ j := by decide) (hik : i ≠ k := by decide) (hjk : j ≠ k := by decide)
    (hx : X.env.scope.names.lookup x = some .local := by rfl) (hy : X.env.scope.names.lookup y = some .local := by rfl) (hz : X.env.scope.names.lookup z = some .local := by rfl)
    (hs : swapsWithSole [.Tuple [.Name x px, .Name y py, .Name z pz] kt pt] (.Tuple [a, b, c] k2 pt2) pos.line X.env = pure false := by rfl) (hs1 : starEach [a, b, c] X.env = (false, eval a X.env) :: starEach [b, c] X.env := by rfl) (hs2 : starEach [b, c] X.env = (false, eval b X.env) :: starEach [c] X.env := by rfl) (hs3 : starEach [c] X.env = (false, eval c X.env) :: starEach [] X.env := by rfl) :
    PS X (.Assign [.Tuple [.Name x px, .Name y py, .Name z pz] kt pt] (.Tuple [a, b, c] k2 pt2) pos) (tS K (sPar3A i j k f g h ca)) := (ps_par3 hc hN hi hj hk hij hik hjk hx hy hz (pa_cons ha (pa_cons hb (pa_cons hcc pa_nil hs3) hs2) hs1) hw hs).imp fun E σ H ⟨B0, G, s, hs, q⟩ => by
  unfold sPar3A at q
  split at q
  · rename_i d e u hd he hu
    split at q
    · rename_i hfl
      rw [Bool.and_eq_true] at hfl
      obtain ⟨O, B, gd⟩ := hs
      obtain ⟨O', B', g', _⟩ := gd.demote ca
      refine ⟨B', lv (demote ca s.2), s.1, d, g'.good, demote_ok _ s.2, hd, fun v1 H1 e1 p1 => ?_⟩
      refine ⟨[], _, s.1, e, (gd.mono e1).good.zero, .zero, he, fun v2 H2 e2 p2 => ?_⟩
      refine ⟨[], _, s.1, u, ((gd.mono e1).mono e2).good.zero, .zero, hu, fun v3 H3 e3 p3 => ?_⟩
      refine ⟨v1, v2, v3, rfl, q _ H3 ?_⟩
      obtain ⟨O1, B1, g1⟩ := fresh_two (i := i) g' e1 (e2.trans e3) p1
      obtain ⟨O2, B2, g2, _⟩ := g1.assign0 (i := j) (((RL.r0 p2).mono e3).hidF g1.ok.noTup hfl.1)
      obtain ⟨O3, B3, g3, _⟩ := g2.assign0 (i := k) ((RL.r0 p3).hidF g2.ok.noTup hfl.2)
      exact ⟨O3, B3, g3⟩
    · exact q.elim
  · exact q.elim
end
def sPar3B (i j k : Nat) (f g h : FE) (c : Esc) : FS := fun s => match f s.1, g s.1, h s.1 with
  | some d, some e, some u => if (flat d && flat u) = true then .next (((s.1.set i (some d)).set j (some e)).set k (some u), (((demote c s.2).set i 0).set j 1).set k 0) else .stuck
  | _, _, _ => .stuck
section
variable {X : Cx} {K : PySem.W.Frag}
theorem ss_sPar3B (i j k : Nat) {x y z : Str} {a b c : Expr} {f g h : FE} {ca cb cc : Esc} {px py pz pt pos : Pos} {kt k2 pt2} (hc : X.calm = true) (hN : X.N.Nodup) (ha : PE X a (tD K (.br 0) f ca)) (hb : PE X b (tD K (.fr) g cb)) (hcc : PE X c (tD K (.br 0) h cc))
    (hw : swappedStores [.Tuple [.Name x px, .Name y py, .Name z pz] kt pt] (.Tuple [a, b, c] k2 pt2) X.env = pure (some [x, y, z])) (hi : X.N[i]? = some x := by rfl) (hj : X.N[j]? = some y := by rfl) (hk : X.N[k]? = some z := by rfl) (hij : i ≠ j := by decide) (hik : i ≠ k := by decide) (hjk : j ≠ k := by decide)
    (hx : X.env.scope.names.lookup x = some .local := by rfl) (hy : X.env.scope.names.lookup y = some .local := by rfl) (hz : X.env.scope.names.lookup z = some .local := by rfl)
    (hs : swapsWithSole [.Tuple [.Name x px, .Name y py, .Name z pz] kt pt] (.Tuple [a, b, c] k2 pt2) pos.line X.env = pure false := by rfl) (hs1 : starEach [a, b, c] X.env = (false, eval a X.env) :: starEach [b, c] X.env := by rfl) (hs2 : starEach [b, c] X.env = (false, eval b X.env) :: starEach [c] X.env := by rfl) (hs3 : starEach [c] X.env = (false, eval c X.env) :: starEach [] X.env := by rfl) :
    PS X (.Assign [.Tuple [.Name x px, .Name y py, .Name z pz] kt pt] (.Tuple [a, b, c] k2 pt2) pos) (tS K (sPar3B i j k f g h cb)) := (ps_par3 hc hN hi hj hk hij hik hjk hx hy hz (pa_cons ha (pa_cons hb (pa_cons hcc pa_nil hs3) hs2) hs1) hw hs).imp fun E σ H ⟨B0, G, s, hs, q⟩ => by
  unfold sPar3B at q
  split at q
  · rename_i d e u hd he hu
    split at q
    · rename_i hfl
      rw [Bool.and_eq_true] at hfl
      obtain ⟨O, B, gd⟩ := hs
      obtain ⟨O', B', g', _⟩ := gd.demote cb
      refine ⟨[], _, s.1, d, gd.good.zero, .zero, hd, fun v1 H1 e1 p1 => ?_⟩
      refine ⟨B', lv (demote cb s.2), s.1, e, (g'.mono e1).good, demote_ok _ s.2, he, fun v2 H2 e2 p2 => ?_⟩
      refine ⟨[], _, s.1, u, ((gd.mono e1).mono e2).good.zero, .zero, hu, fun v3 H3 e3 p3 => ?_⟩
      refine ⟨v1, v2, v3, rfl, q _ H3 ?_⟩
      obtain ⟨O1, B1, g1⟩ := fresh_two (i := j) (g'.mono e1) e2 e3 p2
      obtain ⟨O2, B2, g2, _⟩ := g1.assign0 (i := i) (((RL.r0 p1).mono (e2.trans e3)).hidF g1.ok.noTup hfl.1)
      obtain ⟨O3, B3, g3, _⟩ := g2.assign0 (i := k) ((RL.r0 p3).hidF g2.ok.noTup hfl.2)
      rw [List.set_comm _ _ (Ne.symm hij), List.set_comm _ _ (Ne.symm hij), List.set_comm _ _ (Ne.symm hij)] at g3
      exact ⟨O3, B3, g3⟩
    · exact q.elim
  · exact q.elim
end
end DS
end

section
set_option Elab.async false
set_option linter.all false
set_option maxRecDepth 100000
set_option maxHeartbeats 4000000
/-! Part z: (x, ..) * n for any n. -/
namespace DS
open PySem PySem.Spec PyProof.Rows L2
theorem tuple_mul1 (l : Addr) (items : Array Value) (n : Nat) (dd : Option Addr) (sl : Array (Option Value)) (u : Tok) :
    Meets (Builtin.«tuple.__mul__» ⟨[.ref l, .int 1 u], []⟩) (fun _ R s => s.heap.get? l = some { cls := .type "tuple", dict := dd, data := .seq items n, slots := sl } ∧
      R (.ok (.ret (Value.ref l))) s) :=
  .of_wp fun prog w A R s h => by
    obtain ⟨hp, g, d, tk, os⟩ := s
    obtain ⟨hl, h⟩ := h
    have f1 := AutoSeq1.idx_int
    wp_walk using wpAny_loadPart' hl
    repeat (first
      | (refine wpAny_ite_false (by simp) ?_; wp_walk using wpAny_loadPart' hl)
      | (refine wpAny_ite_true (by simp) ?_; wp_walk using wpAny_loadPart' hl))
    exact ⟨_, rfl, h⟩
theorem tuple_mul0 (l : Addr) (items : Array Value) (n : Nat) (dd : Option Addr) (sl : Array (Option Value)) (x : Int) (u : Tok) (c0 : (decide (x < -(2 ^ 63)) || decide (x ≥ 2 ^ 63)) = false) (c1 : (items.isEmpty || x == 1) = false) (c2 : (decide (x ≤ 0) || items.isEmpty) = true) :
    Meets (Builtin.«tuple.__mul__» ⟨[.ref l, .int x u], []⟩) (fun _ R s => s.heap.get? l = some { cls := .type "tuple", dict := dd, data := .seq items n, slots := sl } ∧
      R (.ok (.ret (Value.ref s.heap.objs.size))) { s with heap := s.heap.push { cls := Value.type "tuple", data := Data.seq #[] }, toks := s.toks }) :=
  .of_wp fun prog w A R s h => by
    obtain ⟨hp, g, d, tk, os⟩ := s
    obtain ⟨hl, h⟩ := h
    have f1 := AutoSeq1.idx_int
    wp_walk using wpAny_loadPart' hl
    repeat (first
      | (refine wpAny_ite_false (decide_eq_false (by rw [c0]; exact Bool.false_ne_true)) ?_; wp_walk using wpAny_loadPart' hl)
      | (refine wpAny_ite_false (decide_eq_false (by rw [c1]; exact Bool.false_ne_true)) ?_; wp_walk using wpAny_loadPart' hl)
      | (refine wpAny_ite_true (decide_eq_true c2) ?_; wp_walk using wpAny_loadPart' hl))
    exact ⟨_, rfl, h⟩
def rRep01 (K : PySem.W.Frag) : R2 := fun x y H Q => ∃ l k xs, x = .ref l ∧ y = .int k ∧ SqT K H l xs ∧ xs ≠ [] ∧ -1000000 ≤ k ∧ ((k = 1 ∧ Q (.ref l) H) ∨ (k ≤ 0 ∧ ∀ p, H p = none → Q (.ref p) (upd H p (.tup []))))
section
variable {X : Cx}
theorem op_rep01 : OpR X (binaryOp .Mult) (rRep01 X.K) := by
  intro pins s σ H x y v u Q I rx ry h
  obtain ⟨l, k, xs, rfl, rfl, hT, hne, hk, q⟩ := h
  cases rx
  obtain ⟨t, rfl⟩ := ry
  obtain ⟨its, r, ⟨⟨cls, dd, data, sl⟩, ho, hc, n, hd⟩, hs⟩ := I.tuple hT
  simp only at hc hd
  subst hc hd
  have hle : its.length = xs.length := r.length.symm
  have hn : its ≠ [] := fun e => hne (by
    rw [e] at hle
    exact List.eq_nil_of_length_eq_zero hle.symm)
  have hi : its.toArray.isEmpty = false := by
    cases its with
    | nil => exact absurd rfl hn
    | cons a b => rfl
  rcases q with ⟨rfl, q⟩ | ⟨h0, q⟩
  · refine wpAny_binaryOp_repeat_ref (T := "tuple") (U := "int") (by decide) ⟨_, ho, rfl⟩ (fun s' => typeIs_int s' 1 t) noFill_tuple_mul F.fills_int_mul F.slot_int_rmul repeat_tuple F.slot_int_index.lookup
      (call_meets F.slot_int_rmul (typeIs_int s 1 t) F.entry_int_rmul (F.args_int_rmul_2 _ _) (int_rmul_tuple 1 t l its.toArray n dd sl)
        ⟨ho, rfl, ⟨_, ho, rfl⟩, call_meets F.slot_tuple_mul ⟨_, ho, rfl⟩ F.entry_tuple_mul (F.args_tuple_mul_2 _ _) (tuple_mul1 l its.toArray n dd sl t) ⟨ho, ?_⟩⟩)
    exact ⟨.ref l, H, I, rfl, q⟩
  · have c0 : (decide (k < -(2 ^ 63)) || decide (k ≥ 2 ^ 63)) = false := by
      rw [decide_eq_false (by omega), decide_eq_false (by omega)] <;> rfl
    have c1 : (its.toArray.isEmpty || k == 1) = false := by
      rw [hi, Bool.false_or]
      exact beq_eq_false_iff_ne.mpr (by omega)
    have c2 : (decide (k ≤ 0) || its.toArray.isEmpty) = true := by
      rw [decide_eq_true h0]; rfl
    refine wpAny_binaryOp_repeat_ref (T := "tuple") (U := "int") (by decide) ⟨_, ho, rfl⟩ (fun s' => typeIs_int s' k t) noFill_tuple_mul F.fills_int_mul F.slot_int_rmul repeat_tuple F.slot_int_index.lookup
      (call_meets F.slot_int_rmul (typeIs_int s k t) F.entry_int_rmul (F.args_int_rmul_2 _ _) (int_rmul_tuple k t l its.toArray n dd sl)
        ⟨ho, rfl, ⟨_, ho, rfl⟩, call_meets F.slot_tuple_mul ⟨_, ho, rfl⟩ F.entry_tuple_mul (F.args_tuple_mul_2 _ _) (tuple_mul0 l its.toArray n dd sl k t c0 c1 c2) ⟨ho, ?_⟩⟩)
    refine ⟨.ref s.heap.objs.size, _, I.laid (t' := s.toks) (o := .tup []) (fun b ob q => Heap.get?_push_of_some _ q) (Nat.le_refl _) ?_, rfl, q _ (I.hok.fresh (Nat.le_refl _))⟩
    exact ⟨by rw [sizeLine_eq]; decide, [], .nil, IsTup.new _ _⟩
end
/-- (x, ..) * n -/
def dMulT : D → D → Option D
  | .tuple x, .int j => if x ≠ [] ∧ x.length ≤ 1000 ∧ -1000000 ≤ j ∧ j ≤ 1000 then some (.tuple (List.replicate j.toNat x).flatten) else none
  | _, _ => none
section
variable {X : Cx} {K : PySem.W.Frag} {κ : Mo} {a b : Expr} {fa fb : FE} {ca cb : Esc} {pos : Pos}
theorem qe_mulT (ha : PE X a (tD K (.br 1) fa ca)) (hb : PE X b (tD K (.br 1) fb cb)) (hX : X.K = K := by rfl) (hκ : κ.one = true := by rfl) : PE X (.BinOp a .Mult b pos) (tD K κ (eOp dMulT fa fb) (ca ++ cb)) := by
  subst hX
  refine qe_op (op_repT.or op_rep01) ?_ ha hb hκ
  intro B x y dx dy d H Q hB rx ry ho q
  unfold dMulT at ho
  split at ho
  · rename_i x' j'
    obtain ⟨⟨c0, c1, c2, c3⟩, rfl⟩ := ite_some ho
    obtain ⟨p, xs, rfl, h1, h1', h2⟩ := rx.tup
    have hne : xs ≠ [] := fun e => c0 (by
      subst e
      cases h2
      rfl)
    by_cases h2' : 2 ≤ j'
    · refine .inl ⟨p, _, xs, rfl, ry.int, h1, hne, h2', c3, by rw [h2.length]; exact c1, fun t nt => ?_⟩
      have s := same_upd (o := HO.tup (List.replicate j'.toNat xs).flatten) nt
      refine q _ _ s fun κ _ => Post.of_flat (.tup (a := t) (xs := (List.replicate j'.toNat xs).flatten) ?_ ((h2.rep _).mono (same_hid s))) rfl
      rw [hid_out (hB.trk.new nt), upd_same]
    · refine .inr ⟨p, _, xs, rfl, ry.int, h1, hne, c2, ?_⟩
      by_cases h1' : j' = 1
      · subst h1'
        refine .inl ⟨rfl, ?_⟩
        have e : (List.replicate (1 : Int).toNat x').flatten = x' := by simp
        rw [e] at q
        refine q _ H (Same.refl H) fun κ _ => Post.of_flat (.tup ?_ h2) rfl
        assumption
      · refine .inr ⟨by omega, fun t nt => ?_⟩
        have e : j'.toNat = 0 := by omega
        rw [e] at q
        have s := same_upd (o := HO.tup []) nt
        refine q _ _ s fun κ _ => Post.of_flat (.tup (a := t) (xs := []) ?_ .nil) rfl
        rw [hid_out (hB.trk.new nt), upd_same]
  · cases ho
end
end DS
end

section
set_option Elab.async false
set_option linter.all false
set_option maxRecDepth 100000
set_option maxHeartbeats 4000000
/-! Part w: range(n) as a value; a range walked. -/
namespace DS
open PySem PySem.Spec PyProof.Rows L2
def rgd (lo hi : Int) : D := .dict [(.none, .tuple [.int lo, .int hi])]
section
variable {X : Cx} {K : PySem.W.Frag} {κ : Mo} {m : Nat} {tg : Expr} {B : List Addr} {H : Hp}
theorem RL.rng {v : V} {lo hi : Int} (h : RL K B H m v (rgd lo hi)) : ∃ a, v = .ref a ∧ hid B H a = some (.rng lo hi) := by
  generalize hd : rgd lo hi = d at h
  cases h with
  | z h =>
    cases h with
    | rng h1 =>
      unfold rgd at hd
      simp at hd
      obtain ⟨rfl, rfl⟩ := hd
      exact ⟨_, rfl, h1⟩
    | frz _ _ => unfold rgd at hd; simp at hd
    | dk _ h2 =>
      unfold rgd at hd
      cases hd
      exact absurd rfl h2.key
    | dt _ h2 =>
      unfold rgd at hd
      cases hd
      exact absurd rfl h2.key
    | _ => cases hd
  | l => cases hd
  | dk _ h2 =>
    unfold rgd at hd
    cases hd
    exact absurd rfl h2.key
  | dt _ h2 =>
    unfold rgd at hd
    cases hd
    exact absurd rfl h2.key
/-- range(n) -/
def eRgV (f : FE) : FE := fun ρ => o1 (f ρ) fun d => match d with
  | .int n => some (rgd 0 n)
  | _ => none
theorem qe_rgV {a : Expr} {f : FE} {c : Esc} {p pos : Pos} (hg : Gl X "range") (hm : X.mg "range" = none) (ha : PE X a (tD K (.br 1) f c)) (hX : X.K = K := by rfl) (na : starEach [a] X.env = (false, eval a X.env) :: starEach [] X.env := by rfl) : PE X (.Call (.Name "range" p) [a] [] pos) (tD K κ (eRgV f) c) := by
  subst hX
  refine ⟨fun pins s σ H Q I ⟨B, L, ρ, d, g, es, hf, q⟩ => ?_⟩
  obtain ⟨e, h1, h2⟩ := o1_some hf
  refine Call_ (ld_blt I hg hm boot_range (PyProof.Rows.callWith_type1 (one_arg ha I ⟨B, L, ρ, e, g, es, h1, fun v H1 s1 p1 => (⟨s1, p1⟩ : Same H H1 ∧ RL X.K B H1 1 v e)⟩ (fun v s2 x H2 I2 r q2 => ?_) na) na))
  obtain ⟨s12, p12⟩ := q2
  split at h2
  · rename_i n
    cases (Option.some.inj h2)
    obtain rfl := RL.int p12
    obtain ⟨t, rfl⟩ := r
    have hok := (g.mono s12).ok
    have nt := I2.hok.fresh (Nat.le_refl _)
    refine call_range_1 ⟨.ref s2.heap.objs.size, upd H2 s2.heap.objs.size (.rng 0 n), I2.laid (t' := s2.toks + 1 + 1) (fun b o e => Heap.get?_push_of_some _ e) (Nat.le_refl _) ?_, rfl, q _ _ (s12.trans (same_upd nt)) (Post.of_flat (.rng ?_) rfl)⟩
    · exact ⟨s2.toks, t, s2.toks + 1, Heap.get?_push_size _ rfl⟩
    · rw [hid_out (hok.trk.new nt), upd_same]
  · cases h2
/-- a name that holds a range, walked -/
def iRgV (f : FE) : FA := fun ρ => o1 (f ρ) fun d => match d with
  | .dict [(.none, .tuple [.int lo, .int hi])] => if rngOk lo hi = true then some (rngD lo (hi - lo).toNat) else none
  | _ => none
def iRV (tl : TE) : TI := fun σ H R => tl σ H fun x H1 => ∃ a lo hi, x = .ref a ∧ H1 a = some (.rng lo hi) ∧ (-(2 ^ 62) ≤ lo ∧ lo < 2 ^ 62 ∧ -(2 ^ 62) ≤ hi ∧ hi < 2 ^ 62) ∧ R (Itr lo (hi - lo).toNat) H1
theorem pi_rv {l : Expr} {tl : TE} (hl : PE X l tl) : PI X tg l (iRV tl) := by
  refine ⟨fun pins s σ H R I h => ?_⟩
  refine thn (hl.run pins s σ H _ I h) fun v s1 ⟨x, H1, I1, r1, q1⟩ => ?_
  obtain ⟨a, lo, hi, e, ha, ⟨h1, h2, h3, h4⟩, q⟩ := q1
  subst e
  cases r1
  obtain ⟨t, u, v, ho⟩ := I1.hok a _ ha
  refine wpAny_pyIter_range (a := lo) (b := hi) (c := 1) (t := t) (u := u) (v := v) ho (small_one h1 h2 h3 h4) ?_
  refine ⟨s1.heap.objs.size, [s1.heap.objs.size], _, _, H1, rfl, I1.kept (t' := s1.toks) fun b o e => Heap.get?_push_of_some _ e, turn_range _ lo (hi - lo).toNat, ?_, fun b hb => ?_, q⟩
  · have e1 : lo + ((0 : Nat) : Int) * 1 = lo := by simp
    have e2 : (((hi - lo).toNat : Nat) : Int) - ((0 : Nat) : Int) = Builtin.Range.rangeSize lo hi 1 := by rw [rangeSize_one]; split <;> omega
    show IsRangeIter _ _ (lo + ((0 : Nat) : Int) * 1) ((((hi - lo).toNat : Nat) : Int) - ((0 : Nat) : Int)) 1
    rw [e1, e2]
    exact Heap.get?_push_size _ rfl
  · have e : b = s1.heap.objs.size := by simpa using hb
    subst e
    exact I1.fpOk (Nat.le_refl _) (I1.hok.fresh (Nat.le_refl _))
theorem qi_rgV {e : Expr} {f : FE} {c : Esc} (h : PE X e (tD K (.br m) f c)) (hX : X.K = K := by rfl) : PI X tg e (tI K m (iRgV f) c) := by
  subst hX
  refine (pi_rv h).imp fun σ H Rr ⟨B, L, ρ, ds, g, es, hf, q⟩ => ?_
  obtain ⟨d, h1, h2⟩ := o1_some hf
  refine ⟨B, L, ρ, d, g, es, h1, fun v H1 s1 p1 => ?_⟩
  split at h2
  · rename_i lo hi
    obtain ⟨h3, h4⟩ := ite_some h2
    subst h4
    obtain ⟨a, rfl, e1⟩ := RL.rng (lo := lo) (hi := hi) p1
    exact ⟨a, lo, hi, rfl, (hid_some e1).2, rngOk_ok h3, q _ H1 s1 walks_rng⟩
  · cases h2
end
end DS
end

section
set_option Elab.async false
set_option linter.all false
set_option maxRecDepth 100000
/-! Dicts, part a: a dict that is locked while it is walked. -/
namespace DS
open PySem PySem.Spec PyProof.Rows L2
def IsDk : HO → Prop
  | .dK _ => True
  | .dT _ => True
  | _ => False
theorem IsDk.mut {u : HO} (h : IsDk u) : Mut (some u) := by cases u <;> first | exact True.intro | exact h.elim
theorem nf_lst (xs : List V) : ∀ o x, HO.lst xs ≠ .frz o x := fun _ _ z => nomatch z
theorem nf_tup (xs : List V) : ∀ o x, HO.tup xs ≠ .frz o x := fun _ _ z => nomatch z
theorem nf_rng (a b : Int) : ∀ o x, HO.rng a b ≠ .frz o x := fun _ _ z => nomatch z
theorem nf_dk (k : List (Key × V)) : ∀ o x, HO.dK k ≠ .frz o x := fun _ _ z => nomatch z
theorem nf_dt (k : List (List Key × V)) : ∀ o x, HO.dT k ≠ .frz o x := fun _ _ z => nomatch z
theorem IsDk.nf {u : HO} (h : IsDk u) : ∀ o w, u ≠ .frz o w := fun o w e => by subst e; exact h
section
variable {K : PySem.W.Frag} {H : Hp} {d : Addr} {od : Obj} {u : HO}
theorem rd_lock (hd : H d = some u) (hu : IsDk u) {a : Addr} {w : HO} (h : Rd H a w) : Rd (upd H d (.frz od u)) a w := by
  by_cases e : a = d
  · subst e
    rcases h with h | ⟨o, h⟩
    · rw [hd] at h; cases h; exact .inr ⟨od, upd_same⟩
    · rw [hd] at h; cases h; exact hu.elim
  · rcases h with h | ⟨o, h⟩
    · exact .inl (by rw [upd_ne e]; exact h)
    · exact .inr ⟨o, by rw [upd_ne e]; exact h⟩
theorem rd_unlock (hd : H d = some (.frz od u)) {a : Addr} {w : HO} (hw : ∀ o x, w ≠ .frz o x) (h : Rd H a w) : Rd (upd H d u) a w := by
  by_cases e : a = d
  · subst e
    rcases h with h | ⟨o, h⟩
    · rw [hd] at h; cases h; exact absurd rfl (hw _ _)
    · rw [hd] at h; cases h; exact .inl upd_same
  · rcases h with h | ⟨o, h⟩
    · exact .inl (by rw [upd_ne e]; exact h)
    · exact .inr ⟨o, by rw [upd_ne e]; exact h⟩
theorem sqL_lock (hd : H d = some u) (hu : IsDk u) {a : Addr} {xs : List V} (h : SqL K H a xs) : SqL K (upd H d (.frz od u)) a xs := by
  rcases h with h | h
  · exact .inl (rd_lock hd hu h)
  · exact .inr h
theorem sqT_lock (hd : H d = some u) (hu : IsDk u) {a : Addr} {xs : List V} (h : SqT K H a xs) : SqT K (upd H d (.frz od u)) a xs := by
  rcases h with h | h
  · exact .inl (rd_lock hd hu h)
  · exact .inr h
theorem sqL_unlock (hd : H d = some (.frz od u)) {a : Addr} {xs : List V} (h : SqL K H a xs) : SqL K (upd H d u) a xs := by
  rcases h with h | h
  · exact .inl (rd_unlock hd (fun _ _ z => nomatch z) h)
  · exact .inr h
theorem sqT_unlock (hd : H d = some (.frz od u)) {a : Addr} {xs : List V} (h : SqT K H a xs) : SqT K (upd H d u) a xs := by
  rcases h with h | h
  · exact .inl (rd_unlock hd (fun _ _ z => nomatch z) h)
  · exact .inr h
theorem ne_dk {a : Addr} {w : HO} (hd : H d = some u) (hu : IsDk u) (h : H a = some w) (hw : ¬ IsDk w) : a ≠ d := fun e => by
  subst e; rw [hd] at h; cases h; exact hw hu
theorem ne_fz {a : Addr} {w : HO} (hd : H d = some (.frz od u)) (h : H a = some w) (hw : ∀ o x, w ≠ .frz o x) : a ≠ d := fun e => by
  subst e; rw [hd] at h; cases h; exact hw _ _ rfl
mutual
theorem R.lock (hd : H d = some u) (hu : IsDk u) : ∀ {v : V} {e : D}, R K H v e → R K (upd H d (.frz od u)) v e
  | _, _, .non => .non
  | _, _, .bl b => .bl b
  | _, _, .int i => .int i
  | _, _, .str x => .str x
  | _, _, .lst h a => .lst (by rw [upd_ne (ne_dk hd hu h (fun z => z))]; exact h) (RA.lock hd hu a)
  | _, _, .frz h a => .frz (sqL_lock hd hu h) (RA.lock hd hu a)
  | _, _, .tup h a => .tup (by rw [upd_ne (ne_dk hd hu h (fun z => z))]; exact h) (RA.lock hd hu a)
  | _, _, .rng h => .rng (by rw [upd_ne (ne_dk hd hu h (fun z => z))]; exact h)
  | _, _, .dk h a => .dk (rd_lock hd hu h) (RK.lock hd hu a)
  | _, _, .dt h a => .dt (rd_lock hd hu h) (RT.lock hd hu a)
theorem RA.lock (hd : H d = some u) (hu : IsDk u) : ∀ {v : List V} {e : List D}, RA K H v e → RA K (upd H d (.frz od u)) v e
  | _, _, .nil => .nil
  | _, _, .cons h t => .cons (R.lock hd hu h) (RA.lock hd hu t)
theorem RK.lock (hd : H d = some u) (hu : IsDk u) : ∀ {v : List (Key × V)} {e : List (D × D)}, RK K H v e → RK K (upd H d (.frz od u)) v e
  | _, _, .nil => .nil
  | _, _, .cons h t => .cons (R.lock hd hu h) (RK.lock hd hu t)
theorem RT.lock (hd : H d = some u) (hu : IsDk u) : ∀ {v : List (List Key × V)} {e : List (D × D)}, RT K H v e → RT K (upd H d (.frz od u)) v e
  | _, _, .nil => .nil
  | _, _, .cons h t => .cons (R.lock hd hu h) (RT.lock hd hu t)
end
mutual
theorem R.unlock (hd : H d = some (.frz od u)) : ∀ {v : V} {e : D}, R K H v e → R K (upd H d u) v e
  | _, _, .non => .non
  | _, _, .bl b => .bl b
  | _, _, .int i => .int i
  | _, _, .str x => .str x
  | _, _, .lst h a => .lst (by rw [upd_ne (ne_fz hd h (nf_lst _))]; exact h) (RA.unlock hd a)
  | _, _, .frz h a => .frz (sqL_unlock hd h) (RA.unlock hd a)
  | _, _, .tup h a => .tup (by rw [upd_ne (ne_fz hd h (nf_tup _))]; exact h) (RA.unlock hd a)
  | _, _, .rng h => .rng (by rw [upd_ne (ne_fz hd h (nf_rng _ _))]; exact h)
  | _, _, .dk h a => .dk (rd_unlock hd (nf_dk _) h) (RK.unlock hd a)
  | _, _, .dt h a => .dt (rd_unlock hd (nf_dt _) h) (RT.unlock hd a)
theorem RA.unlock (hd : H d = some (.frz od u)) : ∀ {v : List V} {e : List D}, RA K H v e → RA K (upd H d u) v e
  | _, _, .nil => .nil
  | _, _, .cons h t => .cons (R.unlock hd h) (RA.unlock hd t)
theorem RK.unlock (hd : H d = some (.frz od u)) : ∀ {v : List (Key × V)} {e : List (D × D)}, RK K H v e → RK K (upd H d u) v e
  | _, _, .nil => .nil
  | _, _, .cons h t => .cons (R.unlock hd h) (RK.unlock hd t)
theorem RT.unlock (hd : H d = some (.frz od u)) : ∀ {v : List (List Key × V)} {e : List (D × D)}, RT K H v e → RT K (upd H d u) v e
  | _, _, .nil => .nil
  | _, _, .cons h t => .cons (R.unlock hd h) (RT.unlock hd t)
end
theorem hid_upd {B : List Addr} {o : HO} (h : d ∉ B) : hid B (upd H d o) = upd (hid B H) d o := by
  funext a
  by_cases e : a = d
  · subst e; rw [hid_out h, upd_same, upd_same]
  · rw [upd_ne e]
    unfold hid
    rw [upd_ne e]
end
section
variable {K : PySem.W.Frag} {B : List Addr} {H : Hp} {d : Addr} {od : Obj} {u : HO}
theorem RL.lock (hB : d ∉ B) (hd : H d = some u) (hu : IsDk u) {m : Nat} {v : V} {e : D} (h : RL K B H m v e) : RL K B (upd H d (.frz od u)) m v e := by
  have hd' : hid B H d = some u := by rw [hid_out hB]; exact hd
  induction h with
  | z r => exact .z (by rw [hid_upd hB]; exact r.lock hd' hu)
  | l h1 h2 _ ih => exact .l (by rw [upd_ne (ne_dk hd hu h1 (fun z => z))]; exact h1) h2 ih
  | @dk m a kvs es h1 h2 =>
    by_cases e : a = d
    · subst e
      refine .z (.dk (kvs := kvs) ?_ (by rw [hid_upd hB]; exact h2.lock hd' hu))
      rw [hid_upd hB]
      exact rd_lock hd' hu (.inl (by rw [hid_out hB]; exact h1))
    · exact .dk (by rw [upd_ne e]; exact h1) (by rw [hid_upd hB]; exact h2.lock hd' hu)
  | @dt m a kvs es h1 h2 =>
    by_cases e : a = d
    · subst e
      refine .z (.dt (kvs := kvs) ?_ (by rw [hid_upd hB]; exact h2.lock hd' hu))
      rw [hid_upd hB]
      exact rd_lock hd' hu (.inl (by rw [hid_out hB]; exact h1))
    · exact .dt (by rw [upd_ne e]; exact h1) (by rw [hid_upd hB]; exact h2.lock hd' hu)
theorem RL.unlock (hB : d ∉ B) (hd : H d = some (.frz od u)) {m : Nat} {v : V} {e : D} (h : RL K B H m v e) : RL K B (upd H d u) m v e := by
  have hd' : hid B H d = some (.frz od u) := by rw [hid_out hB]; exact hd
  induction h with
  | z r => exact .z (by rw [hid_upd hB]; exact r.unlock hd')
  | l h1 h2 _ ih => exact .l (by rw [upd_ne (ne_fz hd h1 (fun _ _ z => nomatch z))]; exact h1) h2 ih
  | dk h1 h2 => exact .dk (by rw [upd_ne (ne_fz hd h1 (fun _ _ z => nomatch z))]; exact h1) (by rw [hid_upd hB]; exact h2.unlock hd')
  | dt h1 h2 => exact .dt (by rw [upd_ne (ne_fz hd h1 (fun _ _ z => nomatch z))]; exact h1) (by rw [hid_upd hB]; exact h2.unlock hd')
theorem RO.lock (hB : d ∉ B) (hd : H d = some u) (hu : IsDk u) {l : Nat} {o : List Addr} {v : V} {e : D} (h : RO K B H l o v e) : d ∉ o → RO K B (upd H d (.frz od u)) l o v e := by
  have hd' : hid B H d = some u := by rw [hid_out hB]; exact hd
  refine RO.rec (K := K) (B := B) (H := H) (motive_1 := fun l o v e _ => d ∉ o → RO K B (upd H d (.frz od u)) l o v e)
    (motive_2 := fun l os vs ds _ => d ∉ os.flatten → ROA K B (upd H d (.frz od u)) l os vs ds) ?_ ?_ ?_ ?_ ?_ ?_ h
  · intro l v e hl r _
    exact .z hl (by rw [hid_upd hB]; exact r.lock hd' hu)
  · intro l a os xs ds h1 _ ih hn
    exact .l (by rw [upd_ne (ne_dk hd hu h1 (fun z => z))]; exact h1) (ih fun z => hn (List.mem_cons_of_mem _ z))
  · intro l a kvs es ht h1 h2 hn
    exact .dk ht (by rw [upd_ne (fun z => hn (by rw [z]; exact List.mem_cons_self))]; exact h1) (by rw [hid_upd hB]; exact h2.lock hd' hu)
  · intro l a kvs es ht h1 h2 hn
    exact .dt ht (by rw [upd_ne (fun z => hn (by rw [z]; exact List.mem_cons_self))]; exact h1) (by rw [hid_upd hB]; exact h2.lock hd' hu)
  · intro l _
    exact .nil
  · intro l o os v e vs ds _ _ ih1 ih2 hn
    exact .cons (ih1 fun z => hn (by rw [List.flatten_cons]; exact List.mem_append_left _ z)) (ih2 fun z => hn (by rw [List.flatten_cons]; exact List.mem_append_right _ z))
theorem RO.unlock (hB : d ∉ B) (hd : H d = some (.frz od u)) {l : Nat} {o : List Addr} {v : V} {e : D} (h : RO K B H l o v e) : RO K B (upd H d u) l o v e := by
  have hd' : hid B H d = some (.frz od u) := by rw [hid_out hB]; exact hd
  refine RO.rec (K := K) (B := B) (H := H) (motive_1 := fun l o v e _ => RO K B (upd H d u) l o v e)
    (motive_2 := fun l os vs ds _ => ROA K B (upd H d u) l os vs ds) ?_ ?_ ?_ ?_ ?_ ?_ h
  · intro l v e hl r
    exact .z hl (by rw [hid_upd hB]; exact r.unlock hd')
  · intro l a os xs ds h1 _ ih
    exact .l (by rw [upd_ne (ne_fz hd h1 (fun _ _ z => nomatch z))]; exact h1) ih
  · intro l a kvs es ht h1 h2
    exact .dk ht (by rw [upd_ne (ne_fz hd h1 (fun _ _ z => nomatch z))]; exact h1) (by rw [hid_upd hB]; exact h2.unlock hd')
  · intro l a kvs es ht h1 h2
    exact .dt ht (by rw [upd_ne (ne_fz hd h1 (fun _ _ z => nomatch z))]; exact h1) (by rw [hid_upd hB]; exact h2.unlock hd')
  · intro l
    exact .nil
  · intro l o os v e vs ds _ _ ih1 ih2
    exact .cons ih1 ih2
theorem Ok.lock (h : Ok B H) (hB : d ∉ B) {o : HO} : Ok B (upd H d o) := fun a ha => by
  obtain ⟨x, h1, h2⟩ := h a ha
  exact ⟨x, by rw [upd_ne fun e => hB (by rw [← e]; exact ha)]; exact h1, h2⟩
theorem Good.lock {L : Nat → Nat} {σ : St} {ρ : PEnv} (g : Good K B L σ H ρ) (hB : d ∉ B) (hd : H d = some u) (hu : IsDk u) : Good K B L σ (upd H d (.frz od u)) ρ :=
  ⟨g.ok.lock hB, g.len, fun i e h => let ⟨v, h1, h2⟩ := g.slot i e h; ⟨v, h1, h2.lock hB hd hu⟩⟩
theorem same_back {H' : Hp} (s : Same (upd H d (.frz od u)) H') (hd : H d = some u) : H' d = some (.frz od u) ∧ Same H (upd H' d u) :=
  ⟨s _ _ upd_same, fun a o h => by
    by_cases e : a = d
    · subst e; rw [hd] at h; cases h; exact upd_same
    · rw [upd_ne e]; exact s a o (by rw [upd_ne e]; exact h)⟩
theorem Post.unlock {H' : Hp} {κ : Mo} {v : V} {e : D} (hB : d ∉ B) (hd : H d = some u) (hd' : H' d = some (.frz od u)) (h : Post K B (upd H d (.frz od u)) H' κ v e) : Post K B H (upd H' d u) κ v e := by
  have go : ∀ (l : Nat), (∃ o : List Addr, (∀ a ∈ o, (upd H d (.frz od u)) a = none) ∧ o.Nodup ∧ RO K (o ++ B) H' l o v e) → ∃ o : List Addr, (∀ a ∈ o, H a = none) ∧ o.Nodup ∧ RO K (o ++ B) (upd H' d u) l o v e := by
    rintro l ⟨o, h1, h2, h3⟩
    have hno : ∀ a ∈ o, a ≠ d := fun a ha z => by
      have := h1 a ha
      rw [z, upd_same] at this
      cases this
    refine ⟨o, fun a ha => ?_, h2, h3.unlock (fun z => ?_) hd'⟩
    · have := h1 a ha
      rw [upd_ne (hno a ha)] at this
      exact this
    · rcases List.mem_append.mp z with z | z
      · exact hno d z rfl
      · exact hB z
  cases κ with
  | br m => exact RL.unlock hB hd' h
  | fr => exact go 1 h
  | fr2 => exact go 2 h
/-- a dict that can be seen -/
theorem dict_seen {v : V} {es : List (D × D)} (hn : ∀ k r, es = k :: r → k.1 ≠ .none) (h : R K (hid B H) v (.dict es)) : ∃ a, v = .ref a ∧ a ∉ B ∧ ∃ u, IsDk u ∧ Rd H a u ∧
    ((∃ kvs, u = .dK kvs ∧ RK K (hid B H) kvs es) ∨ ∃ kvs, u = .dT kvs ∧ RT K (hid B H) kvs es) := by
  have vis : ∀ {a : Addr} {w : HO}, Rd (hid B H) a w → a ∉ B ∧ Rd H a w := fun {a w} h => by
    rcases h with h | ⟨o, h⟩
    · exact ⟨(hid_some h).1, .inl (hid_some h).2⟩
    · exact ⟨(hid_some h).1, .inr ⟨o, (hid_some h).2⟩⟩
  cases h with
  | frz _ _ => exact absurd rfl (hn _ _ rfl)
  | rng _ => exact absurd rfl (hn _ _ rfl)
  | dk h1 h2 => exact ⟨_, rfl, (vis h1).1, .dK _, True.intro, (vis h1).2, .inl ⟨_, rfl, h2⟩⟩
  | dt h1 h2 => exact ⟨_, rfl, (vis h1).1, .dT _, True.intro, (vis h1).2, .inr ⟨_, rfl, h2⟩⟩
end
end DS
end

section
set_option Elab.async false
set_option linter.all false
set_option maxRecDepth 100000
/-! Dicts, part b: for k in d, [.. for k in d ..]. -/
namespace DS
open PySem PySem.Spec PyProof.Rows L2
/-- the keys of a dict -/
def keysD : D → Option (List D)
  | .dict ((.none, _) :: _) => none
  | .dict es => some (es.map (·.1))
  | _ => none
def iDk (f : FE) : FA := fun ρ => o1 (f ρ) keysD
theorem keysD_some {d : D} {ds : List D} (h : keysD d = some ds) : ∃ es, d = .dict es ∧ ds = es.map (·.1) ∧ ∀ k r, es = k :: r → k.1 ≠ .none := by
  unfold keysD at h
  split at h
  · cases h
  · rename_i es hne
    refine ⟨es, rfl, (Option.some.inj h).symm, fun k r e z => ?_⟩
    subst e
    obtain ⟨k1, k2⟩ := k
    simp only at z
    subst z
    exact hne _ _ rfl
  · cases h
section
variable {K : PySem.W.Frag} {H : Hp}
theorem R.key (k : Key) : R K H (kV k) (keyD k) := by
  cases k with
  | inl i => exact .int i
  | inr x => exact .str x
theorem RA.keys : ∀ (k : List Key), RA K H (k.map kV) (k.map keyD)
  | [] => .nil
  | k :: r => .cons (R.key k) (RA.keys r)
theorem RK.keys : ∀ {kvs : List (Key × V)} {es : List (D × D)}, RK K H kvs es → es.map (·.1) = kvs.map fun p => keyD p.1
  | _, _, .nil => rfl
  | _, _, .cons _ t => by rw [List.map_cons, List.map_cons, RK.keys t]
theorem RT.keys : ∀ {kvs : List (List Key × V)} {es : List (D × D)}, RT K H kvs es → es.map (·.1) = kvs.map fun p => .tuple (p.1.map keyD)
  | _, _, .nil => rfl
  | _, _, .cons _ t => by rw [List.map_cons, List.map_cons, RT.keys t]
theorem walks_dk {G : Hp} {B : List Addr} {a : Addr} {od : Obj} {kvs : List (Key × V)} {ds : List D} (h : G a = some (.frz od (.dK kvs))) (e : ds = kvs.map fun p => keyD p.1) : Walks K G B (Itk a od kvs) ds where
  go := fun i H hi s => ⟨s _ _ h, by rw [e, List.length_map] at hi; exact hi⟩
  stop := fun H s => ⟨s _ _ h, by rw [e, List.length_map]; exact Nat.le_refl _⟩
  yld := fun i H x H' d hd s y => by
    obtain ⟨rfl, k, v, hk, rfl⟩ := y
    refine ⟨Same.refl _, fun B' _ _ => ?_⟩
    rw [e, List.getElem?_map, hk] at hd
    cases (Option.some.inj hd)
    exact R.key k
theorem walks_dt {G : Hp} {B : List Addr} {a : Addr} {od : Obj} {kvs : List (List Key × V)} {ds : List D} (h : G a = some (.frz od (.dT kvs))) (e : ds = kvs.map fun p => .tuple (p.1.map keyD)) : Walks K G B (Itkt a od kvs) ds where
  go := fun i H hi s => ⟨s _ _ h, by rw [e, List.length_map] at hi; exact hi⟩
  stop := fun H s => ⟨s _ _ h, by rw [e, List.length_map]; exact Nat.le_refl _⟩
  yld := fun i H x H' d hd s y => by
    obtain ⟨rfl, k, v, q, hk, rfl, hq⟩ := y
    refine ⟨Same.refl _, fun B' ok _ => ?_⟩
    rw [e, List.getElem?_map, hk] at hd
    cases (Option.some.inj hd)
    refine .tup (xs := k.map kV) ?_ (RA.keys k)
    rw [hid_out fun z => ?_]
    · exact hq
    · obtain ⟨o, h1, h2⟩ := ok q z
      rw [hq] at h1; cases h1; cases h2
theorem hti_dict {m : Nat} {B : List Addr} {L : Nat → Nat} {ds : List D} {σ : St} {ρ : PEnv} {i : Nat} {a : Addr} {od : Obj} {u : HO} (g : Good K B L σ H ρ) (hL : L i ≤ 0) (hf : iDk (eVar i) ρ = some ds) (hv : σ[i]? = some (some (.ref a))) (hfz : H a = some (.frz od u))
    (Rr : It → Hp → Prop) (hR : ∀ J H1, Same H H1 → Walks K (gOf m B H1) B J ds → Rr J H1) : iKeys (tVar i) σ H Rr := by
  obtain ⟨d, h1, h2⟩ := o1_some hf
  obtain ⟨es, rfl, rfl, hn⟩ := keysD_some h2
  have hρ : ρ[i]? = some (some (.dict es)) := by
    unfold eVar at h1
    split at h1
    · rename_i x hx
      cases (Option.some.inj h1)
      exact hx
    · cases h1
  obtain ⟨v, e1, r⟩ := g.slot i _ hρ
  rw [hv] at e1
  cases e1
  have e0 : L i = 0 := by omega
  rw [e0] at r
  have r := r.r
  refine ⟨.ref a, hv, a, od, rfl, ?_⟩
  have gof : ∀ {w : HO}, a ∉ B → H a = some w → gOf m B H a = some w := fun {w} hb hw => by
    cases m with
    | zero => show hid B H a = _; rw [hid_out hb]; exact hw
    | succ m => exact hw
  cases r with
  | frz _ _ => exact absurd rfl (hn _ _ rfl)
  | rng _ => exact absurd rfl (hn _ _ rfl)
  | @dk a kvs es hr rk =>
    rcases hr with hr | ⟨o, hr⟩
    · have := (hid_some hr).2
      rw [hfz] at this
      cases this
    · obtain ⟨nb, hr⟩ := hid_some hr
      rw [hfz] at hr
      cases hr
      exact .inl ⟨kvs, hfz, hR _ H (Same.refl H) (walks_dk (gof nb hfz) rk.keys)⟩
  | @dt a kvs es hr rk =>
    rcases hr with hr | ⟨o, hr⟩
    · have := (hid_some hr).2
      rw [hfz] at this
      cases this
    · obtain ⟨nb, hr⟩ := hid_some hr
      rw [hfz] at hr
      cases hr
      exact .inr ⟨kvs, hfz, hR _ H (Same.refl H) (walks_dt (gof nb hfz) rk.keys)⟩
end
section
variable {X : Cx} {K : PySem.W.Frag} {κ : Mo}
/-- the ends of what runs while the dict at d is locked -/
def lockE (E : Ends) (d : Addr) (od : Obj) (u : HO) : Ends := ⟨fun σ' H' => H' d = some (.frz od u) ∧ E.nx σ' (upd H' d u), fun v H' => H' d = some (.frz od u) ∧ E.rt v (upd H' d u), fun σ' H' => H' d = some (.frz od u) ∧ E.bk σ' (upd H' d u), fun σ' H' => H' d = some (.frz od u) ∧ E.ct σ' (upd H' d u)⟩
/-- what stands, all that no name owns -/
theorem GS.lock {B0 B : List Addr} {G : Hp} {O : Nat → List Addr} {σ : St} {H : Hp} {ρ : PEnv} {L : List Nat} {d : Addr} {od : Obj} {u : HO} (g : GoodS K B0 G O B σ H ρ L) (hB : d ∉ B) (hd : H d = some u) (hu : IsDk u) :
    ∃ G', (∀ σ' H' s', GS K B0 G' σ' H' s' → H' d = some (.frz od u) ∧ GS K B0 G σ' (upd H' d u) s') ∧ (∀ H', Same G' H' → H' d = some (.frz od u) ∧ Same G (upd H' d u)) ∧ GS K B0 G' σ (upd H d (.frz od u)) (ρ, L) := by
  let H_f : Hp := upd H d (.frz od u)
  let G' : Hp := fun a => if a ∈ B ∧ a ∉ B0 then none else H_f a
  have hGd : G' d = some (.frz od u) := by
    simp only [G']
    rw [if_neg fun z => hB z.1]
    exact upd_same
  have hs : ∀ H', Same G' H' → H' d = some (.frz od u) ∧ Same G (upd H' d u) := fun H' s => by
    refine ⟨s _ _ hGd, fun a o e => ?_⟩
    have eH := g.same _ _ e
    by_cases ea : a = d
    · subst ea
      rw [hd] at eH
      cases eH
      exact upd_same
    · rw [upd_ne ea]
      refine s a o ?_
      simp only [G']
      rw [if_neg fun z => ?_]
      · show upd H d _ a = _
        rw [upd_ne ea]; exact eH
      · rcases (g.memB a).mp z.1 with h | ⟨i, h⟩
        · exact z.2 h
        · rw [g.gO i a h] at e; cases e
  refine ⟨G', ?_, hs, ?_⟩
  · rintro σ' H' s' ⟨O2, B2, g2⟩
    obtain ⟨e1, e2⟩ := hs H' g2.same
    have hd2 : d ∉ B2 := fun z => by
      obtain ⟨o, h1, h2⟩ := g2.ok d z
      rw [e1] at h1; cases h1; cases h2
    refine ⟨e1, O2, B2, g2.memB, fun a ha => ?_, e2, g.g0, fun i a h => ?_, g2.nd, g2.dj, g2.len, g2.lenL, fun i e h => ?_⟩
    · obtain ⟨o, h1, h2⟩ := g2.ok a ha
      exact ⟨o, by rw [upd_ne fun z => hd2 (by rw [← z]; exact ha)]; exact h1, h2⟩
    · have hn := g2.gO i a h
      cases eg : G a with
      | none => rfl
      | some o =>
        exfalso
        have eH := g.same _ _ eg
        simp only [G'] at hn
        by_cases q : a ∈ B ∧ a ∉ B0
        · rcases (g.memB a).mp q.1 with h | ⟨j, h⟩
          · exact q.2 h
          · rw [g.gO j a h] at eg; cases eg
        · rw [if_neg q] at hn
          have : H_f a = none := hn
          by_cases ea : a = d
          · subst ea
            rw [show H_f a = some (.frz od u) from upd_same] at this; cases this
          · rw [show H_f a = H a from upd_ne ea, eH] at this; cases this
    · obtain ⟨v, h1, h2⟩ := g2.slot i e h
      exact ⟨v, h1, h2.unlock hd2 e1⟩
  · refine ⟨O, B, g.memB, g.ok.lock hB, fun b o e => ?_, fun a ha => ?_, fun i a h => ?_, g.nd, g.dj, g.len, g.lenL, fun i e h => ?_⟩
    · simp only [G'] at e
      split at e
      · cases e
      · exact e
    · simp only [G']
      rw [if_neg fun z => z.2 ha]
      intro z
      have hx := g.g0 a ha
      cases eg : G a with
      | none => exact hx eg
      | some o =>
        have eH := g.same _ _ eg
        by_cases ea : a = d
        · subst ea
          rw [show H_f a = some (.frz od u) from upd_same] at z; cases z
        · rw [show H_f a = H a from upd_ne ea, eH] at z; cases z
    · simp only [G']
      rw [if_pos ⟨(g.memB a).mpr (.inr ⟨i, h⟩), fun z => g.g0 a z (g.gO i a h)⟩]
    · obtain ⟨v, h1, h2⟩ := g.slot i e h
      exact ⟨v, h1, h2.lock hB hd hu fun z => hB ((g.memB d).mpr (.inr ⟨i, z⟩))⟩
theorem Fin.lock {B0 : List Addr} {G G' : Hp} {E : Ends} {d : Addr} {od : Obj} {u : HO} {o : Out} (hg : ∀ σ' H' s', GS K B0 G' σ' H' s' → H' d = some (.frz od u) ∧ GS K B0 G σ' (upd H' d u) s') (hs : ∀ H', Same G' H' → H' d = some (.frz od u) ∧ Same G (upd H' d u)) (h0 : d ∉ B0) (q : Fin K B0 G E o) :
    Fin K B0 G' (lockE E d od u) o := by
  cases o with
  | stuck => exact q
  | next s => exact fun σ' H' z => let ⟨e, z'⟩ := hg σ' H' s z; ⟨e, q σ' _ z'⟩
  | brk s => exact fun σ' H' z => let ⟨e, z'⟩ := hg σ' H' s z; ⟨e, q σ' _ z'⟩
  | cont s => exact fun σ' H' z => let ⟨e, z'⟩ := hg σ' H' s z; ⟨e, q σ' _ z'⟩
  | ret x =>
    intro v H' s r
    obtain ⟨e, s'⟩ := hs H' s
    refine ⟨e, q v _ s' ?_⟩
    rw [hid_upd h0]
    exact r.unlock (by rw [hid_out h0]; exact e)
theorem PS.either {st : Stmt} {t t' : TS} (h : PS X st t) (h' : PS X st t') : PS X st (fun E σ H => t E σ H ∨ t' E σ H) :=
  ⟨fun pins s σ H D I q => q.elim (h.run pins s σ H D I) (h'.run pins s σ H D I)⟩
theorem PE.either {e : Expr} {t t' : TE} (h : PE X e t) (h' : PE X e t') : PE X e (fun σ H Q => t σ H Q ∨ t' σ H Q) :=
  ⟨fun pins s σ H Q I q => q.elim (h.run pins s σ H Q I) (h'.run pins s σ H Q I)⟩
/-- for k in d -/
theorem ss_forD (i : Nat) {tg : Expr} {x : Str} {p : Pos} {body : List Stmt} {pos : Pos} {t : Tg} {fb : FS} (hp : PassesOwn (model X.prog X.w) X.A X.env X.xe) (hc : X.calm = true) (hx : PE X (.Name x p) (tVar i)) (hg : PG X tg (tG K t)) (hb : PSs X body (tS K fb))
    (hs : ∀ y, foldedSetIterable (.Name x p) X.env y = pure y := by intro _; rfl) : PS X (.For tg (.Name x p) body [] pos) (tS K (sFor (iDk (eVar i)) [(i, 0)] t fb)) :=
  (PS.either (ps_lock (ps_for hp hc (pi_keys hx) hg hb hs)) (ps_for hp hc (pi_keys hx) hg hb hs)).imp fun E σ H ⟨B0, G, s, hs, q⟩ => by
    have q0 := q
    unfold sFor at q
    split at q
    · exact q.elim
    · rename_i ds hds
      obtain ⟨O, B, g0⟩ := hs
      obtain ⟨O', B', g, _⟩ := g0.demote [(i, 0)]
      have hL : lv (demote [(i, 0)] s.2) i ≤ 0 := demote_ok [(i, 0)] s.2 (i, 0) List.mem_cons_self
      obtain ⟨d, h1, h2⟩ := o1_some hds
      obtain ⟨es, rfl, rfl, hn⟩ := keysD_some h2
      obtain ⟨v, e1, r⟩ := g.good.slot i _ (eVar_some h1)
      rw [show lv (demote [(i, 0)] s.2) i = 0 by omega] at r
      obtain ⟨a, rfl, ha, u, hu, hr, _⟩ := dict_seen hn r.r
      have zero : ∀ {L : Nat → Nat}, EscOk [(i, 0)] L → L i ≤ 0 := fun es => es (i, 0) List.mem_cons_self
      rcases hr with hr | ⟨od, hr⟩
      · refine .inl ⟨a, u, hr, hu.mut, fun od => ?_⟩
        obtain ⟨G', k1, k2, k3⟩ := GS.lock (od := od) g ha hr hu
        refine for_core (c := [(i, 0)]) (fi := iDk (eVar i)) k3 (E := lockE E a od u) (G := G') ?_ fun B L ds g es hf Rr hR => hti_dict g (zero es) hf e1 upd_same Rr hR
        have h0 : a ∉ B0 := fun z => ha ((g.memB a).mpr (.inl z))
        refine Fin.lock k1 k2 h0 ?_
        have e2 : sFor (iDk (eVar i)) [(i, 0)] t fb (s.1, demote [(i, 0)] s.2) = sFor (iDk (eVar i)) [(i, 0)] t fb s := by
          unfold sFor
          have : demote [(i, 0)] (demote [(i, 0)] s.2) = demote [(i, 0)] s.2 := by
            show (if lv (demote [(i, 0)] s.2) i ≤ 0 then demote [(i, 0)] s.2 else _) = _
            rw [if_pos hL]
          rw [this]
        rw [e2]
        exact q0
      · exact .inr (for_core (c := [(i, 0)]) (fi := iDk (eVar i)) ⟨O, B, g0⟩ q0 fun B L ds g es hf Rr hR => hti_dict g (zero es) hf e1 hr Rr hR)
end
end DS
end

section
set_option Elab.async false
set_option linter.all false
set_option maxRecDepth 100000
/-! Dicts, part c: looking up, storing, displays, comprehensions over keys. -/
namespace DS
open PySem PySem.Spec PyProof.Rows L2
/-! keys as trees -/
def keyOf : D → Option Key
  | .int i => some (.inl i)
  | .str x => some (.inr x)
  | _ => none
def keysOf : List D → Option (List Key)
  | [] => some []
  | d :: ds => match keyOf d, keysOf ds with
    | some k, some ks => some (k :: ks)
    | _, _ => none
def keyK : D → Option (Key ⊕ List Key)
  | .tuple ds => (keysOf ds).map .inr
  | d => (keyOf d).map .inl
def isT : D → Bool
  | .tuple _ => true
  | _ => false
def dFind (es : List (D × D)) (k : D) : Option D := (es.find? fun p => PyData.eqv p.1 k).map (·.2)
def putD (es : List (D × D)) (k v : D) : List (D × D) := if (es.any fun p => PyData.eqv p.1 k) = true then es.map fun p => if PyData.eqv p.1 k = true then (p.1, v) else p else es ++ [(k, v)]
/-- the key may be asked of the dict: one of its kind, or the dict is empty -/
def kindOk : List (D × D) → D → Bool
  | [], k => (keyK k).isSome
  | p :: _, k => (keyK k).isSome && !noneD p.1 && (isT p.1 == isT k)
def dGetD : D → D → Option D
  | .dict es, k => if kindOk es k = true then dFind es k else none
  | _, _ => none
def dInD : D → D → Option Bool
  | k, .dict es => if kindOk es k = true then some (dFind es k).isSome else none
  | _, _ => none
def dNotInD (k d : D) : Option Bool := o1 (dInD k d) fun b => some (!b)
theorem keyOf_some {d : D} {k : Key} (h : keyOf d = some k) : d = keyD k := by
  cases d <;> simp [keyOf] at h <;> subst h <;> rfl
theorem keysOf_some : ∀ {ds : List D} {ks : List Key}, keysOf ds = some ks → ds = ks.map keyD
  | [], ks, h => by simp [keysOf] at h; subst h; rfl
  | d :: ds, ks, h => by
    unfold keysOf at h
    split at h
    · rename_i k ks' h1 h2
      cases (Option.some.inj h)
      rw [List.map_cons, ← keyOf_some h1, ← keysOf_some h2]
    · cases h
theorem eqv_key (a b : Key) : PyData.eqv (keyD a) (keyD b) = decide (a = b) := by
  cases a with
  | inl i => cases b with
    | inl j => simp [keyD, PyData.eqv]; rw [Bool.eq_iff_iff]; simp
    | inr y => simp [keyD, PyData.eqv]
  | inr x => cases b with
    | inl j => simp [keyD, PyData.eqv]
    | inr y => simp [keyD, PyData.eqv]; rw [Bool.eq_iff_iff]; simp
theorem eqv_keys : ∀ (a b : List Key), PyData.eqv (.tuple (a.map keyD)) (.tuple (b.map keyD)) = decide (a = b) := by
  have go : ∀ (a b : List Key), PyData.eqvAll (a.map keyD) (b.map keyD) = decide (a = b) := by
    intro a
    induction a with
    | nil => intro b; cases b <;> simp [PyData.eqvAll]
    | cons x a ih =>
      intro b
      cases b with
      | nil => simp [PyData.eqvAll]
      | cons y b =>
        simp only [List.map_cons, PyData.eqvAll, eqv_key, ih]
        rw [Bool.eq_iff_iff]; simp
  intro a b
  rw [← go]
  simp [PyData.eqv]
section
variable {K : PySem.W.Frag} {H : Hp}
theorem RA.key_inv : ∀ {ks : List Key} {xs : List V}, RA K H xs (ks.map keyD) → xs = ks.map kV
  | [], _, .nil => rfl
  | k :: ks, _, .cons h t => by
    rw [RA.key_inv t, List.map_cons]
    cases k with
    | inl i => rw [h.int']; rfl
    | inr x => rw [h.str']; rfl
/-- what a key is -/
theorem key_is {y : V} {k : D} (h : R K H y k) (hk : (keyK k).isSome = true) : (∃ kk : Key, k = keyD kk ∧ y = kV kk ∧ isT k = false) ∨ ∃ (ks : List Key) (b : Addr), k = .tuple (ks.map keyD) ∧ y = .ref b ∧ H b = some (.tup (ks.map kV)) ∧ isT k = true := by
  cases k with
  | int i => exact .inl ⟨.inl i, rfl, h.int', rfl⟩
  | str x => exact .inl ⟨.inr x, rfl, h.str', rfl⟩
  | tuple ds =>
    have hk : ((keysOf ds).map Sum.inr : Option (Key ⊕ List Key)).isSome = true := hk
    cases e : keysOf ds with
    | none => rw [e] at hk; cases hk
    | some ks =>
      have e := keysOf_some e
      subst e
      cases h with
      | tup h1 h2 =>
        have := h2.key_inv
        subst this
        exact .inr ⟨ks, _, rfl, rfl, h1, rfl⟩
  | none => simp [keyK, keyOf] at hk
  | bool b => simp [keyK, keyOf] at hk
  | list ds => simp [keyK, keyOf] at hk
  | dict es => simp [keyK, keyOf] at hk
theorem RK.find : ∀ {kvs : List (Key × V)} {es : List (D × D)} (k : Key), RK K H kvs es → (valV kvs k = none ∧ dFind es (keyD k) = none) ∨ ∃ v d, valV kvs k = some v ∧ dFind es (keyD k) = some d ∧ R K H v d
  | _, _, k, .nil => .inl ⟨rfl, rfl⟩
  | (a, v) :: kvs, _, k, .cons (d := d) (ds := es) h t => by
    by_cases e : a = k
    · refine .inr ⟨v, d, valV_pos e, ?_, h⟩
      unfold dFind
      rw [List.find?_cons_of_pos (by rw [eqv_key]; exact decide_eq_true e)]
      rfl
    · rw [valV_neg e]
      have : dFind ((keyD a, d) :: es) (keyD k) = dFind es (keyD k) := by
        unfold dFind
        rw [List.find?_cons_of_neg (by rw [eqv_key]; simpa using e)]
      rw [this]
      exact RK.find k t
theorem RT.find : ∀ {kvs : List (List Key × V)} {es : List (D × D)} (k : List Key), RT K H kvs es → (valV kvs k = none ∧ dFind es (.tuple (k.map keyD)) = none) ∨ ∃ v d, valV kvs k = some v ∧ dFind es (.tuple (k.map keyD)) = some d ∧ R K H v d
  | _, _, k, .nil => .inl ⟨rfl, rfl⟩
  | (a, v) :: kvs, _, k, .cons (d := d) (ds := es) h t => by
    by_cases e : a = k
    · refine .inr ⟨v, d, valV_pos e, ?_, h⟩
      unfold dFind
      rw [List.find?_cons_of_pos (by rw [eqv_keys]; exact decide_eq_true e)]
      rfl
    · rw [valV_neg e]
      have : dFind ((.tuple (a.map keyD), d) :: es) (.tuple (k.map keyD)) = dFind es (.tuple (k.map keyD)) := by
        unfold dFind
        rw [List.find?_cons_of_neg (by rw [eqv_keys]; simpa using e)]
      rw [this]
      exact RT.find k t
theorem RK.head {kvs : List (Key × V)} {p : D × D} {es : List (D × D)} (h : RK K H kvs (p :: es)) : isT p.1 = false := by
  cases h with
  | @cons k _ _ _ _ _ _ => cases k <;> rfl
theorem RT.head {kvs : List (List Key × V)} {p : D × D} {es : List (D × D)} (h : RT K H kvs (p :: es)) : isT p.1 = true := by
  cases h with
  | cons _ _ => rfl
theorem RK.nil_inv {kvs : List (Key × V)} (h : RK K H kvs []) : kvs = [] := by cases h; rfl
theorem RT.nil_inv {kvs : List (List Key × V)} (h : RT K H kvs []) : kvs = [] := by cases h; rfl
/-- a dict seen through, whatever its levels -/
theorem dict_open {v : V} {es : List (D × D)} (hn : ∀ k r, es = k :: r → noneD k.1 = false) (h : R K H v (.dict es)) : ∃ a, v = .ref a ∧ ((∃ kvs, Rd H a (.dK kvs) ∧ RK K H kvs es) ∨ ∃ kvs, Rd H a (.dT kvs) ∧ RT K H kvs es) := by
  cases h with
  | frz _ _ => exact absurd (hn _ _ rfl) (by simp [noneD])
  | rng _ => exact absurd (hn _ _ rfl) (by simp [noneD])
  | dk h1 h2 => exact ⟨_, rfl, .inl ⟨_, h1, h2⟩⟩
  | dt h1 h2 => exact ⟨_, rfl, .inr ⟨_, h1, h2⟩⟩
theorem kind_none {es : List (D × D)} {k : D} (h : kindOk es k = true) : (keyK k).isSome = true ∧ (∀ p r, es = p :: r → noneD p.1 = false) ∧ ∀ p r, es = p :: r → isT p.1 = isT k := by
  cases es with
  | nil => exact ⟨h, fun _ _ e => (by cases e), fun _ _ e => (by cases e)⟩
  | cons p es =>
    simp only [kindOk, Bool.and_eq_true, Bool.not_eq_true', beq_iff_eq] at h
    exact ⟨h.1.1, fun _ _ e => (by cases e; exact h.1.2), fun _ _ e => (by cases e; exact h.2)⟩
end
/-- what a dict holds at a key, or nothing: an empty dict is asked for a key of the other kind -/
def DGet' (H : Hp) (a : Addr) (y : V) (o : Option V) : Prop := DGet H a y o ∨ (o = none ∧ ((Rd H a (.dK []) ∧ ∃ (ks : List Key) (b : Addr), y = .ref b ∧ H b = some (.tup (ks.map kV))) ∨ (Rd H a (.dT []) ∧ ∃ kk : Key, y = kV kk)))
section
variable {K : PySem.W.Frag} {H : Hp}
theorem get_ok {v y : V} {es : List (D × D)} {k : D} (hv : R K H v (.dict es)) (hy : R K H y k) (hk : kindOk es k = true) : ∃ a o, v = .ref a ∧ DGet' H a y o ∧ o.isSome = (dFind es k).isSome ∧ ∀ d, dFind es k = some d → ∃ z, o = some z ∧ R K H z d ∧ DGet H a y o := by
  obtain ⟨k1, k2, k3⟩ := kind_none hk
  obtain ⟨a, rfl, h⟩ := dict_open k2 hv
  rcases key_is hy k1 with ⟨kk, rfl, rfl, ht⟩ | ⟨ks, b, rfl, rfl, hb, ht⟩
  · rcases h with ⟨kvs, h1, h2⟩ | ⟨kvs, h1, h2⟩
    · have g : DGet H a (kV kk) (valV kvs kk) := .inl ⟨kvs, kk, h1, rfl, rfl⟩
      rcases h2.find kk with ⟨e1, e2⟩ | ⟨z, d, e1, e2, r⟩
      · exact ⟨a, _, rfl, .inl g, by rw [e1, e2]; rfl, fun d e => by rw [e2] at e; cases e⟩
      · exact ⟨a, _, rfl, .inl g, by rw [e1, e2]; rfl, fun d' e => by rw [e2] at e; cases e; exact ⟨z, e1, r, g⟩⟩
    · cases es with
      | nil =>
        have := h2.nil_inv
        subst this
        exact ⟨a, none, rfl, .inr ⟨rfl, .inr ⟨h1, kk, rfl⟩⟩, rfl, fun d e => by cases e⟩
      | cons p es =>
        have := h2.head
        rw [k3 _ _ rfl, ht] at this
        cases this
  · rcases h with ⟨kvs, h1, h2⟩ | ⟨kvs, h1, h2⟩
    · cases es with
      | nil =>
        have := h2.nil_inv
        subst this
        exact ⟨a, none, rfl, .inr ⟨rfl, .inl ⟨h1, ks, b, rfl, hb⟩⟩, rfl, fun d e => by cases e⟩
      | cons p es =>
        have := h2.head
        rw [k3 _ _ rfl, ht] at this
        cases this
    · have g : DGet H a (.ref b) (valV kvs ks) := .inr ⟨kvs, ks, b, h1, rfl, hb, rfl⟩
      rcases h2.find ks with ⟨e1, e2⟩ | ⟨z, d, e1, e2, r⟩
      · exact ⟨a, _, rfl, .inl g, by rw [e1, e2]; rfl, fun d e => by rw [e2] at e; cases e⟩
      · exact ⟨a, _, rfl, .inl g, by rw [e1, e2]; rfl, fun d' e => by rw [e2] at e; cases e; exact ⟨z, e1, r, g⟩⟩
end
section
variable {P : Program} {w : World} {H : Hp} {h : Heap} {a : Addr}
theorem nil_K_T (ok : HOk P w H h) (e : Rd H a (.dK [])) : (a == sysModules) = false ∧ h.DictOfH (tupleKind (mixKind P w)) a [] := by
  obtain ⟨_, hd, vs, rel, o, es, ep, h1, h2, h3, _, pr, _⟩ := dk_rd ok e
  cases rel
  have : es.toList = [] := by
    cases q : es.toList with
    | nil => rfl
    | cons x xs => rw [q] at pr; exact absurd pr.length (by simp)
  exact ⟨hd, o, es, ep, h1, h2, h3, by rw [this]; rfl, (fun x hx => by simp at hx), List.nodup_nil⟩
theorem nil_T_K (ok : HOk P w H h) (e : Rd H a (.dT [])) : (a == sysModules) = false ∧ h.DictOf (mixKind P w) a [] := by
  obtain ⟨_, hd, xs, rel, o, es, ep, h1, h2, h3, h4, _, _⟩ := dt_rd ok e
  cases rel
  have h5 : es = #[] := by
    apply Array.ext'
    simpa using h4
  subst h5
  refine ⟨hd, o, #[], ep, h1, h2, h3, ?_, ?_, List.nodup_nil⟩
  · intro en hen
    simp at hen
  · first | exact .nil | trivial | exact List.Forall₂.nil
end
end DS
end

section
set_option Elab.async false
set_option linter.all false
set_option maxRecDepth 100000
/-! Dicts, part d: k in d, d[k], d[k] = v, {}, {k: v}, [.. for k in d ..]. -/
namespace DS
open PySem PySem.Spec PyProof.Rows L2
section
variable {X : Cx} {K : PySem.W.Frag} {κ : Mo}
def rInDk : R2 := fun x y H Q => ∃ a o, y = .ref a ∧ DGet' H a x o ∧ Q (.bl o.isSome) H
def rNotInDk : R2 := fun x y H Q => ∃ a o, y = .ref a ∧ DGet' H a x o ∧ Q (.bl (!o.isSome)) H
theorem op_inDk (hu : X.A.units + 1 < cLine) : OpR X (compareOp .In) rInDk := by
  intro pins s σ H x y v u Q I rx ry h
  obtain ⟨a, o, rfl, g, q⟩ := h
  obtain rfl : u = Value.ref a := ry
  rcases g with g | ⟨rfl, g⟩
  · exact d_in hu I g rx fun s3 I3 => ⟨.bl o.isSome, H, I3, rfl, q⟩
  · rcases g with ⟨e, ks, b, rfl, hb⟩ | ⟨e, kk, rfl⟩
    · cases (show v = Value.ref b from rx)
      obtain ⟨hd, dd⟩ := nil_K_T I.hok e
      exact wpAny_in_heap (tupleKind_room_in1 hu) (key_of I.hok hb) hd dd ⟨.bl false, H, I.tok _, rfl, q⟩
    · obtain ⟨hd, dd⟩ := nil_T_K I.hok e
      exact wpAny_in_of (kV_is rx) hd dd.mapOf ⟨.bl false, H, I.tok _, rfl, q⟩
theorem op_notInDk (hu : X.A.units + 1 < cLine) : OpR X (compareOp .NotIn) rNotInDk := by
  intro pins s σ H x y v u Q I rx ry h
  obtain ⟨a, o, rfl, g, q⟩ := h
  obtain rfl : u = Value.ref a := ry
  rcases g with g | ⟨rfl, g⟩
  · exact d_notIn hu I g rx fun s3 I3 => ⟨.bl (!o.isSome), H, I3, rfl, q⟩
  · rcases g with ⟨e, ks, b, rfl, hb⟩ | ⟨e, kk, rfl⟩
    · cases (show v = Value.ref b from rx)
      obtain ⟨hd, dd⟩ := nil_K_T I.hok e
      exact wpAny_notIn_heap (tupleKind_room_in1 hu) (key_of I.hok hb) hd dd ⟨.bl true, H, I.tok _, rfl, q⟩
    · obtain ⟨hd, dd⟩ := nil_T_K I.hok e
      exact wpAny_notIn_of (kV_is rx) hd dd.mapOf ⟨.bl true, H, I.tok _, rfl, q⟩
theorem oc_inDk : OpC K rInDk dInD := by
  intro x y dx dy b H Q rx ry h q
  unfold dInD at h
  split at h
  · rename_i es
    obtain ⟨hk, rfl⟩ := ite_some h
    obtain ⟨a, o, rfl, g, e, _⟩ := get_ok ry rx hk
    exact ⟨a, o, rfl, g, by rw [e]; exact q⟩
  · cases h
theorem oc_notInDk : OpC K rNotInDk dNotInD := by
  intro x y dx dy b H Q rx ry h q
  unfold dNotInD at h
  obtain ⟨b', h1, h2⟩ := o1_some h
  cases (Option.some.inj h2)
  unfold dInD at h1
  split at h1
  · rename_i es
    obtain ⟨hk, rfl⟩ := ite_some h1
    obtain ⟨a, o, rfl, g, e, _⟩ := get_ok ry rx hk
    exact ⟨a, o, rfl, g, by rw [e]; exact q⟩
  · cases h1
/-- d[k] -/
theorem qe_dget {a b : Expr} {fa fb : FE} {ca cb : Esc} {pos : Pos} {m : Nat} (hu : X.A.units + 1 < cLine) (ha : PE X a (tD K (.br 1) fa ca)) (hb : PE X b (tD K (.br 1) fb cb)) (hs : NoSl b) (hX : X.K = K := by rfl) :
    PE X (.Subscript a b pos) (tD K (.br m) (eOp dGetD fa fb) ca) := (pe_dget hu ha hb hs).imp fun σ H Q ⟨B, L, ρ, d, g, es, hf, q⟩ => by
  obtain ⟨dx, dy, h1, h2, h3⟩ := o2_some hf
  refine ⟨B, L, ρ, dx, g, es, h1, fun x H1 s1 p1 => ⟨[], _, ρ, dy, (g.mono s1).zero, .zero, h2, fun y H2 s2 p2 => ?_⟩⟩
  have p1 : RL K B H2 1 x dx := RL.mono s2 (same_hid s2) p1
  unfold dGetD at h3
  split at h3
  · rename_i es' _
    obtain ⟨hk, hd⟩ : kindOk es' dy = true ∧ dFind es' dy = some d := by
      split at h3
      · rename_i hk; exact ⟨hk, h3⟩
      · cases h3
    obtain ⟨a, o, rfl, g1, e, hz⟩ := get_ok p1.open (RL.r0 p2) hk
    obtain ⟨z, rfl, rz, g2⟩ := hz d hd
    refine ⟨a, z, rfl, g2, ?_⟩
    refine q z H2 (s1.trans s2) ?_
    -- the value is seen
    obtain ⟨k1, k2, k3⟩ := kind_none hk
    have hv : ∃ a', V.ref a = .ref a' ∧ ((∃ kvs, Rd H2 a' (.dK kvs) ∧ RK K (hid B H2) kvs es') ∨ ∃ kvs, Rd H2 a' (.dT kvs) ∧ RT K (hid B H2) kvs es') := by
      cases p1 with
      | z r =>
        obtain ⟨a', e', h⟩ := dict_open k2 r
        refine ⟨a', e', ?_⟩
        rcases h with ⟨kvs, h1, h2⟩ | ⟨kvs, h1, h2⟩
        · exact .inl ⟨kvs, rd_mono same_unhid h1, h2⟩
        · exact .inr ⟨kvs, rd_mono same_unhid h1, h2⟩
      | dk h1 h2 => exact ⟨_, rfl, .inl ⟨_, .inl h1, h2⟩⟩
      | dt h1 h2 => exact ⟨_, rfl, .inr ⟨_, .inl h1, h2⟩⟩
    obtain ⟨a', e', hv⟩ := hv
    cases e'
    have one : ∀ {u w : HO}, IsDk u → IsDk w → Rd H2 a u → Rd H2 a w → u = w := fun {u w} hu hw h h' => by
      rcases h with h | ⟨o, h⟩ <;> rcases h' with h' | ⟨o', h'⟩ <;> rw [h] at h' <;> cases h'
      · rfl
      · exact hu.elim
      · exact hw.elim
      · rfl
    rcases g2 with ⟨kvs, kk, e1, e2, e3⟩ | ⟨kvs, ks, b, e1, e2, e3, e4⟩
    · rcases hv with ⟨kvs', w1, w2⟩ | ⟨kvs', w1, w2⟩
      · cases one (u := .dK kvs) (w := .dK kvs') True.intro True.intro e1 w1
        subst e2
        rcases key_is (RL.r0 p2) k1 with ⟨kk', rfl, hy, _⟩ | ⟨ks, b, rfl, hy, _, _⟩
        · cases kV_inj hy
          rcases w2.find kk with ⟨f1, f2⟩ | ⟨z', d', f1, f2, r⟩
          · rw [f1] at e3; cases e3
          · rw [f1] at e3; cases e3
            rw [hd] at f2; cases f2
            exact .z r
        · cases kk <;> cases hy
      · have := one (u := .dK kvs) (w := .dT kvs') True.intro True.intro e1 w1
        cases this
    · rcases hv with ⟨kvs', w1, w2⟩ | ⟨kvs', w1, w2⟩
      · have := one (u := .dT kvs) (w := .dK kvs') True.intro True.intro e1 w1
        cases this
      · cases one (u := .dT kvs) (w := .dT kvs') True.intro True.intro e1 w1
        subst e2
        rcases key_is (RL.r0 p2) k1 with ⟨kk', rfl, hy, _⟩ | ⟨ks', b', rfl, hy, hb', _⟩
        · cases kk' <;> cases hy
        · cases hy
          rw [e3] at hb'
          have ek : ks = ks' := kVs_inj (HO.tup.inj (Option.some.inj hb'))
          subst ek
          rcases w2.find ks with ⟨f1, f2⟩ | ⟨z', d', f1, f2, r⟩
          · rw [f1] at e4; cases e4
          · rw [f1] at e4; cases e4
            rw [hd] at f2; cases f2
            exact .z r
  · cases h3
/-- [.. for k in d ..] -/
theorem qe_lcD (i : Nat) {elt tg : Expr} {x : Str} {p : Pos} {ifs : List Expr} {scope : Scope} {own : List (Str × Nat)} {pos : Pos} {ce : Esc} {t : Tg} {ft : FT} {fe : FE} (hc : X.calm = true) (hN : X.N.Nodup) (hx : PE X (.Name x p) (tVar i)) (ok : BlkOk X.N X.env.scope scope own)
    (hg : ∀ (s : Shared) (H : Hp) (C : Addr) (cl : List (Str × Addr)) (fp : List Addr), PG (X.blk s H scope (compEnvC scope cl C X.env) fp) tg (tG K t)) (ht : ∀ (s : Shared) (H : Hp) (C : Addr) (cl : List (Str × Addr)) (fp : List Addr), PTs (X.blk s H scope (compEnvC scope cl C X.env) fp) ifs (tT K ft))
    (he : ∀ (s : Shared) (H : Hp) (C : Addr) (cl : List (Str × Addr)) (fp : List Addr), PE (X.blk s H scope (compEnvC scope cl C X.env) fp) elt (tD K (.br 0) fe ce)) (hv : t.ix.all ((own.map (·.2)).contains ·) = true := by rfl) (hκ : κ.one = true := by rfl) (hs : ∀ y, foldedSetIterable (.Name x p) X.env y = pure y := by intro _; rfl) :
    PE X (.ListComp elt [⟨tg, .Name x p, ifs, 0⟩] scope pos) (tD K κ (eLc (iDk (eVar i)) t ft fe (own.map (·.2))) ([(i, 0)] ++ ce)) :=
  (PE.either (pe_lock (pe_lc hc hN (pi_keys hx) ok hg ht he hs)) (pe_lc hc hN (pi_keys hx) ok hg ht he hs)).imp fun σ H Q ⟨B, L, ρ, d, g, es, hf, q⟩ => by
    obtain ⟨ds, h1, h2⟩ := o1_some hf
    obtain ⟨dd, h3, h4⟩ := o1_some h1
    obtain ⟨es', rfl, rfl, hn⟩ := keysD_some h4
    have hL : L i ≤ 0 := es.left (i, 0) List.mem_cons_self
    obtain ⟨v, e1, r⟩ := g.slot i _ (eVar_some h3)
    rw [show L i = 0 by omega] at r
    obtain ⟨a, rfl, ha, u, hu, hr, _⟩ := dict_seen hn r.r
    rcases hr with hr | ⟨od, hr⟩
    · refine .inl ⟨a, u, hr, hu.mut, fun od => ?_⟩
      have g' := g.lock (od := od) ha hr hu
      refine lc_core (m := 1) rfl hv hκ σ _ _ B L ρ d g' es hf (fun w H' s p => ?_) fun ds Rr h1 hR => hti_dict g' hL h1 e1 upd_same Rr hR
      obtain ⟨b1, b2⟩ := same_back s hr
      exact ⟨b1, q w _ b2 (Post.unlock ha hr b1 p)⟩
    · exact .inr (lc_core (m := 1) rfl hv hκ σ H Q B L ρ d g es hf q fun ds Rr h1 hR => hti_dict g hL h1 e1 hr Rr hR)
end
end DS
end

section
set_option Elab.async false
set_option linter.all false
set_option maxRecDepth 100000
/-! Dicts, part e: d[k] = v, {}, {k: v}. -/
namespace DS
open PySem PySem.Spec PyProof.Rows L2
section
variable {K : PySem.W.Frag} {H : Hp}
theorem RK.any : ∀ {kvs : List (Key × V)} {es : List (D × D)} (k : Key), RK K H kvs es → (es.any fun p => PyData.eqv p.1 (keyD k)) = kvs.any fun p => decide (p.1 = k)
  | _, _, _, .nil => rfl
  | (a, v) :: kvs, _, k, .cons _ t => by
    rw [List.any_cons, List.any_cons, RK.any k t, eqv_key]
theorem RT.any : ∀ {kvs : List (List Key × V)} {es : List (D × D)} (k : List Key), RT K H kvs es → (es.any fun p => PyData.eqv p.1 (.tuple (k.map keyD))) = kvs.any fun p => decide (p.1 = k)
  | _, _, _, .nil => rfl
  | (a, v) :: kvs, _, k, .cons _ t => by
    rw [List.any_cons, List.any_cons, RT.any k t, eqv_keys]
theorem RK.map {z : V} {d : D} (r : R K H z d) (k : Key) : ∀ {kvs : List (Key × V)} {es : List (D × D)}, RK K H kvs es → RK K H (kvs.map fun p => if p.1 = k then (p.1, z) else p) (es.map fun p => if PyData.eqv p.1 (keyD k) = true then (p.1, d) else p)
  | _, _, .nil => .nil
  | (a, v) :: kvs, _, .cons (d := e) h t => by
    rw [List.map_cons, List.map_cons]
    by_cases q : a = k
    · rw [if_pos q, if_pos (by rw [eqv_key]; exact decide_eq_true q)]
      exact .cons r (RK.map r k t)
    · rw [if_neg q, if_neg (by rw [eqv_key]; simpa using q)]
      exact .cons h (RK.map r k t)
theorem RT.map {z : V} {d : D} (r : R K H z d) (k : List Key) : ∀ {kvs : List (List Key × V)} {es : List (D × D)}, RT K H kvs es → RT K H (kvs.map fun p => if p.1 = k then (p.1, z) else p) (es.map fun p => if PyData.eqv p.1 (.tuple (k.map keyD)) = true then (p.1, d) else p)
  | _, _, .nil => .nil
  | (a, v) :: kvs, _, .cons (d := e) h t => by
    rw [List.map_cons, List.map_cons]
    by_cases q : a = k
    · rw [if_pos q, if_pos (by rw [eqv_keys]; exact decide_eq_true q)]
      exact .cons r (RT.map r k t)
    · rw [if_neg q, if_neg (by rw [eqv_keys]; simpa using q)]
      exact .cons h (RT.map r k t)
theorem RK.snoc {z : V} {d : D} (r : R K H z d) (k : Key) : ∀ {kvs : List (Key × V)} {es : List (D × D)}, RK K H kvs es → RK K H (kvs ++ [(k, z)]) (es ++ [(keyD k, d)])
  | _, _, .nil => .cons r .nil
  | _, _, .cons h t => .cons h (RK.snoc r k t)
theorem RT.snoc {z : V} {d : D} (r : R K H z d) (k : List Key) : ∀ {kvs : List (List Key × V)} {es : List (D × D)}, RT K H kvs es → RT K H (kvs ++ [(k, z)]) (es ++ [(.tuple (k.map keyD), d)])
  | _, _, .nil => .cons r .nil
  | _, _, .cons h t => .cons h (RT.snoc r k t)
theorem RK.put {z : V} {d : D} {kvs : List (Key × V)} {es : List (D × D)} (h : RK K H kvs es) (r : R K H z d) (k : Key) : RK K H (putK kvs k z) (putD es (keyD k) d) := by
  unfold putK putD
  rw [h.any k]
  split
  · exact h.map r k
  · exact h.snoc r k
theorem RT.put {z : V} {d : D} {kvs : List (List Key × V)} {es : List (D × D)} (h : RT K H kvs es) (r : R K H z d) (k : List Key) : RT K H (putK kvs k z) (putD es (.tuple (k.map keyD)) d) := by
  unfold putK putD
  rw [h.any k]
  split
  · exact h.map r k
  · exact h.snoc r k
theorem RK.length : ∀ {kvs : List (Key × V)} {es : List (D × D)}, RK K H kvs es → kvs.length = es.length
  | _, _, .nil => rfl
  | _, _, .cons _ t => congrArg (· + 1) (RK.length t)
theorem RT.length : ∀ {kvs : List (List Key × V)} {es : List (D × D)}, RT K H kvs es → kvs.length = es.length
  | _, _, .nil => rfl
  | _, _, .cons _ t => congrArg (· + 1) (RT.length t)
/-- what stands at a owned dict's address -/
def Dk (K : PySem.W.Frag) (H : Hp) (u : HO) (es : List (D × D)) : Prop := (∃ kvs, u = .dK kvs ∧ RK K H kvs es) ∨ ∃ kvs, u = .dT kvs ∧ RT K H kvs es
end
section
variable {K : PySem.W.Frag}
/-- the owned dict at a name, changed -/
theorem GoodS.writeD {B0 B : List Addr} {G H : Hp} {O : Nat → List Addr} {σ : St} {ρ : PEnv} {L : List Nat} {i : Nat} {es : List (D × D)} (g : GoodS K B0 G O B σ H ρ L) (hd : ρ[i]? = some (some (.dict es))) (hl : lv L i = 1) (ht : isTop (.dict es) = true) :
    ∃ a u, σ[i]? = some (some (.ref a)) ∧ H a = some u ∧ Dk K (hid B H) u es ∧ ∀ u' es', isTop (.dict es') = true → Dk K (hid B H) u' es' → GS K B0 G σ (upd H a u') (ρ.set i (some (.dict es')), L) := by
  obtain ⟨v, h1, h2⟩ := g.slot i _ hd
  rw [hl] at h2
  generalize hoi : O i = oi at h2
  have fin : ∀ {a : Addr} {u : HO}, oi = [a] → v = .ref a → H a = some u → Dk K (hid B H) u es → ∃ a u, σ[i]? = some (some (.ref a)) ∧ H a = some u ∧ Dk K (hid B H) u es ∧ ∀ u' es', isTop (.dict es') = true → Dk K (hid B H) u' es' → GS K B0 G σ (upd H a u') (ρ.set i (some (.dict es')), L) := by
    rintro a u rfl rfl e dk
    have aB : a ∈ B := (g.memB a).mpr (.inr ⟨i, by rw [hoi]; exact List.mem_cons_self⟩)
    refine ⟨a, u, h1, e, dk, fun u' es' ht' r => ?_⟩
    have hsame : Same (hid B H) (hid B (upd H a u')) := fun b o q => by
      obtain ⟨q1, q2⟩ := hid_some q
      rw [hid_out q1, upd_ne fun z => q1 (by rw [z]; exact aB)]
      exact q2
    have hm : mutO u' = true := by
      rcases r with ⟨_, rfl, _⟩ | ⟨_, rfl, _⟩ <;> rfl
    refine ⟨O, B, g.memB, fun b hb => ?_, fun b o q => ?_, g.g0, g.gO, g.nd, g.dj, by rw [List.length_set, g.len], by rw [List.length_set, g.lenL], fun j d h => ?_⟩
    · by_cases hba : b = a
      · rw [hba]; exact ⟨_, upd_same, hm⟩
      · rw [upd_ne hba]; exact g.ok b hb
    · rw [upd_ne fun z => ?_]
      · exact g.same _ _ q
      · rw [z] at q
        have := g.gO i a (by rw [hoi]; exact List.mem_cons_self)
        rw [this] at q; cases q
    · by_cases hj : j = i
      · subst hj
        have hi : j < ρ.length := (List.getElem?_eq_some_iff.mp hd).1
        simp only [List.getElem?_set_self hi] at h
        cases h
        refine ⟨.ref a, h1, ?_⟩
        rw [hoi]
        show RO K B _ (lv L j) _ _ _
        rw [hl]
        rcases r with ⟨kvs, rfl, r⟩ | ⟨kvs, rfl, r⟩
        · exact .dk ht' upd_same (r.mono hsame)
        · exact .dt ht' upd_same (r.mono hsame)
      · simp only [List.getElem?_set_ne (Ne.symm hj)] at h
        obtain ⟨w, h3, h4⟩ := g.slot j d h
        refine ⟨w, h3, h4.mono_aux hsame fun b hb => upd_ne fun z => ?_⟩
        exact g.dj j i hj b hb (by rw [hoi, z]; exact List.mem_cons_self)
  cases h2 with
  | z h _ =>
    rcases h with h | h
    · cases h
    · rw [ht] at h; cases h
  | dk _ e rk => exact fin rfl rfl e (.inl ⟨_, rfl, rk⟩)
  | dt _ e rk => exact fin rfl rfl e (.inr ⟨_, rfl, rk⟩)
end
/-- the heap behind a[y] = v: a dict without entries takes keys of either kind -/
def rSetD : V → V → V → Hp → (Hp → Prop) → Prop := fun o i v H Q => ∃ a, o = .ref a ∧ ((∃ H', DPut H a i v H' ∧ Q H') ∨ (H a = some (.dK []) ∧ ∃ (ks : List Key) (b : Addr), i = .ref b ∧ H b = some (.tup (ks.map kV)) ∧ Q (upd H a (.dT [(ks, v)]))) ∨ (H a = some (.dT []) ∧ ∃ kk : Key, i = kV kk ∧ Q (upd H a (.dK [(kk, v)]))))
section
variable {X : Cx} {K : PySem.W.Frag} {κ : Mo}
theorem set_dict (hu : X.A.units + 1 < cLine) : PSet X rSetD := by
  intro pins s σ H o i v ov iv u Q I ro ri rv h
  obtain ⟨a, rfl, h⟩ := h
  obtain rfl : ov = Value.ref a := ro
  rcases h with ⟨H', g, q⟩ | ⟨e, ks, b, rfl, hb, q⟩ | ⟨e, kk, rfl, q⟩
  · exact d_setItem hu I g ri rv fun s' I' => ⟨H', I', q⟩
  · cases (show iv = Value.ref b from ri)
    obtain ⟨hd, dd⟩ := nil_K_T I.hok (.inl e)
    refine wpAny_setItem_heap (hsz := by rw [sizeLine_eq]; simp) (tupleKind_room_in1 hu) (key_of I.hok hb) dd fun h' dd' hs => ⟨_, ?_, q⟩
    obtain ⟨q', es, ep, hq, h2, h3, h4, _, h5⟩ := dd'
    have rel : KT (upd H a (.dT [(ks, v)])) [(ks, v)] (storedH [] ks b u) := by
      refine .cons ⟨rfl, ?_, rv⟩ .nil
      rw [upd_ne (ne_of hb e (fun z => nomatch z))]
      exact hb
    exact d_write I (by rw [e]; exact True.intro) hs ⟨q', hq⟩ ⟨by rw [sizeLine_eq]; simp, hd, _, rel, q', es, ep, hq, h2, h3, h4, h5⟩
  · obtain ⟨hd, dd⟩ := nil_T_K I.hok (.inl e)
    refine wpAny_setItem_pairs (hsz := by rw [sizeLine_eq]; simp) (kV_is ri) dd fun h' dd' hs => ⟨_, ?_, q⟩
    have he : ∃ q, h'.get? a = some q := let ⟨q, _, _, hq, _⟩ := dd'; ⟨q, hq⟩
    exact d_write I (by rw [e]; exact True.intro) hs he (dk_new (by rw [sizeLine_eq]; simp) hd (KV.put .nil kk rv) dd')
/-- x[k] = v, v without lists -/
def sPutD (i : Nat) (j f : FE) : FS := fun s => match f s.1, eVar i s.1, j s.1 with
  | some d, some (.dict es), some k => if (flat d && kindOk es k && decide (es.length < sz) && decide (lv s.2 i = 1)) = true then .next (s.1.set i (some (.dict (putD es k d))), s.2) else .stuck
  | _, _, _ => .stuck
theorem putD_top {es : List (D × D)} {k d : D} (hk : kindOk es k = true) : isTop (.dict (putD es k d)) = true := by
  obtain ⟨k1, k2, k3⟩ := kind_none hk
  have top : ∀ l : List (D × D), (∀ p r, l = p :: r → noneD p.1 = false) → isTop (.dict l) = true := fun l h => by
    cases l with
    | nil => rfl
    | cons p r =>
      obtain ⟨a, b⟩ := p
      have := h _ _ rfl
      cases a <;> first | rfl | simp [noneD] at this
  have hkn : noneD k = false := by cases k <;> simp [keyK, keyOf, noneD] at k1 ⊢
  refine top _ fun p r e => ?_
  unfold putD at e
  split at e
  · cases es with
    | nil => cases e
    | cons q es =>
      rw [List.map_cons] at e
      have := k2 _ _ rfl
      injection e with e1 e2
      rw [← e1]
      split <;> exact this
  · cases es with
    | nil => injection e with e1 e2; rw [← e1]; exact hkn
    | cons q es =>
      injection e with e1 e2
      rw [← e1]
      exact k2 _ _ rfl
theorem dict_top {es : List (D × D)} {k : D} (hk : kindOk es k = true) : isTop (.dict es) = true := by
  obtain ⟨k1, k2, k3⟩ := kind_none hk
  cases es with
  | nil => rfl
  | cons p r =>
    obtain ⟨a, b⟩ := p
    have := k2 _ _ rfl
    cases a <;> first | rfl | simp [noneD] at this
theorem putD_ok {i : Nat} {j f : FE} {c cj : Esc} : ∀ E σ H, tS K (sPutD i j f) E σ H → tAsg (tD K (.br 0) f c) (gSub (tVar i) (tD K (.br 1) j cj) rSetD) E σ H := fun E σ H ⟨B0, G, s, hs, q⟩ => by
  unfold sPutD at q
  split at q
  · rename_i d es k hd hi hk
    have hi := eVar_some hi
    split at q
    · rename_i hc
      simp only [Bool.and_eq_true, decide_eq_true_eq] at hc
      obtain ⟨⟨⟨hfl, hkd⟩, hz⟩, hl⟩ := hc
      obtain ⟨k1, k2, k3⟩ := kind_none hkd
      obtain ⟨O, B, g⟩ := hs
      refine ⟨[], _, s.1, d, g.good.zero, .zero, hd, fun v H1 s1 p1 => ?_⟩
      obtain ⟨a, u, h1, h2, h3, _⟩ := (g.mono s1).writeD hi hl (dict_top hkd)
      refine ⟨.ref a, h1, [], _, s.1, _, (g.mono s1).good.zero, .zero, hk, fun w H2 s2 p2 => ?_⟩
      obtain ⟨a', u', h1', h2', h3', h4'⟩ := ((g.mono s1).mono s2).writeD hi hl (dict_top hkd)
      rw [h1] at h1'
      cases h1'
      have rv := ((RL.r0 p1).mono s2).hidF (((g.ok.mono s1).mono s2).noTup) hfl
      have hz' : es.length < sizeLine := by rw [sz_eq]; exact hz
      refine ⟨a, rfl, ?_⟩
      rcases key_is (RL.r0 p2) k1 with ⟨kk, rfl, rfl, ht⟩ | ⟨ks, b, rfl, rfl, hb, ht⟩
      · rcases h3' with ⟨kvs, rfl, rk⟩ | ⟨kvs, rfl, rk⟩
        · exact .inl ⟨_, .inl ⟨kvs, kk, h2', rfl, by rw [rk.length]; exact hz', rfl⟩, q _ _ (h4' _ _ (putD_top hkd) (.inl ⟨_, rfl, rk.put rv kk⟩))⟩
        · cases es with
          | nil =>
            have := rk.nil_inv
            subst this
            exact .inr (.inr ⟨h2', kk, rfl, q _ _ (h4' _ _ (putD_top hkd) (.inl ⟨_, rfl, .cons rv .nil⟩))⟩)
          | cons p r =>
            have := rk.head
            rw [k3 _ _ rfl, ht] at this
            cases this
      · rcases h3' with ⟨kvs, rfl, rk⟩ | ⟨kvs, rfl, rk⟩
        · cases es with
          | nil =>
            have := rk.nil_inv
            subst this
            exact .inr (.inl ⟨h2', ks, b, rfl, hb, q _ _ (h4' _ _ (putD_top hkd) (.inr ⟨_, rfl, .cons rv .nil⟩))⟩)
          | cons p r =>
            have := rk.head
            rw [k3 _ _ rfl, ht] at this
            cases this
        · exact .inl ⟨_, .inr ⟨kvs, ks, b, h2', rfl, hb, by rw [rk.length]; exact hz', rfl⟩, q _ _ (h4' _ _ (putD_top hkd) (.inr ⟨_, rfl, rk.put rv ks⟩))⟩
    · exact q.elim
  · exact q.elim
theorem ss_putD (i : Nat) {x : Str} {e ix : Expr} {j f : FE} {c cj : Esc} {pos p p2 : Pos} (ps : PS X (.Assign [.Subscript (.Name x p) ix p2] e pos) (tAsg (tD K (.br 0) f c) (gSub (tVar i) (tD K (.br 1) j cj) rSetD))) :
    PS X (.Assign [.Subscript (.Name x p) ix p2] e pos) (tS K (sPutD i j f)) := ps.imp putD_ok
/-! displays -/
theorem Post.newD {B : List Addr} {H0 H' : Hp} {p : Addr} {u : HO} {es : List (D × D)} (t : Trk B H0) (hn : H0 p = none) (h : H' p = some u) (ht : isTop (.dict es) = true) (r : Dk K (hid (p :: B) H') u es) (hκ : κ.one = true) : Post K B H0 H' κ (.ref p) (.dict es) := by
  have f : Post K B H0 H' .fr (.ref p) (.dict es) := by
    refine ⟨[p], by simpa using hn, by simp, ?_⟩
    rcases r with ⟨kvs, rfl, r⟩ | ⟨kvs, rfl, r⟩
    · exact .dk ht h r
    · exact .dt ht h r
  cases κ with
  | br m => exact f.weak t
  | fr => exact f
  | fr2 => cases hκ
/-- {} -/
def eD0 : FE := fun _ => some (.dict [])
theorem qe_d0 {pos : Pos} (hκ : κ.one = true := by rfl) : PE X (.Dict [] [] pos) (tD K κ eD0 []) := (pe_dnewK).imp fun σ H Q ⟨B, L, ρ, d, g, es, hf, q⟩ => fun p hp => by
  cases (Option.some.inj hf)
  exact q _ _ (same_upd hp) (Post.newD g.ok.trk hp upd_same rfl (.inl ⟨[], rfl, .nil⟩) hκ)
/-- {k: v} -/
def tDisp1 (tk tv : TE) : TE := fun σ H Q => ∀ p, H p = none → tPairs [(tk, tv)] σ (upd H p (.dK [])) fun ps H2 => H2 p = some (.dK []) ∧ ∃ x y, ps = [(x, y)] ∧ ((∃ kk : Key, x = kV kk ∧ Q (.ref p) (upd H2 p (.dK [(kk, y)]))) ∨ ∃ (ks : List Key) (b : Addr), x = .ref b ∧ H2 b = some (.tup (ks.map kV)) ∧ Q (.ref p) (upd H2 p (.dT [(ks, y)])))
theorem pe_disp1 {k v : Expr} {tk tv : TE} {pos : Pos} (hu : X.A.units + 1 < cLine) (hk : PE X k tk) (hv : PE X v tv) : PE X (.Dict [some k] [v] pos) (tDisp1 tk tv) := by
  refine ⟨fun pins s σ H Q I q => ?_⟩
  have hn := I.hok.fresh (Nat.le_refl s.heap.objs.size)
  have I1 := I.laid (a := s.heap.objs.size) (o := .dK []) (h' := s.heap.push { cls := .type "dict", data := .dict #[] }) (t' := s.toks) (fun _ _ q => Heap.get?_push_of_some _ q) (Nat.le_refl _) (dk_empty s.heap I.big)
  refine wpAny_Dict_any rfl rfl (by simp) (by simp) (thn ((pps_cons (pos := pos) hk hv (pps_nil (X := X) (pos := pos))).run pins _ σ _ _ I1 (q _ hn)) fun ws s2 ⟨ps, H2, I2, rel, e, x, y, ep, h⟩ => ?_)
  subst ep
  obtain ⟨u, w, rfl, ru, rw'⟩ : ∃ u w, ws = [(u, w)] ∧ L2.RelV x u ∧ L2.RelV y w := by
    cases rel with
    | cons r0 r1 => cases r1; exact ⟨_, _, rfl, r0.1, r0.2⟩
  rcases h with ⟨kk, rfl, q2⟩ | ⟨ks, b, rfl, hb, q2⟩
  · obtain ⟨z, hd, vs0, r0, dd⟩ := dk_of I2.hok e
    cases r0
    refine wpAny_storeAll (knd := mixKind X.prog X.w) [(u, w)] [(kk, w)] [] s2 _ ⟨kV_is ru, rfl, True.intro⟩ dd (by rw [sizeLine_eq]; simp) fun h' dd' hs => ⟨.ref s.heap.objs.size, _, ?_, show L2.RelV (.ref _) _ from rfl, q2⟩
    have he : ∃ q, h'.get? s.heap.objs.size = some q := let ⟨q, _, _, hq, _⟩ := dd'; ⟨q, hq⟩
    exact d_write I2 (by rw [e]; exact True.intro) hs he (dk_new (by rw [sizeLine_eq]; simp) hd (KV.put .nil kk rw') dd')
  · cases (show u = Value.ref b from ru)
    obtain ⟨hd, dd⟩ := nil_K_T I2.hok (.inl e)
    show wpAny _ _ (forIn [(Value.ref b, w)] PUnit.unit _) _ _ _
    rw [List.forIn_cons]
    refine wpAny_bind (wpAny_bind (wpAny_dictSet_heap (knd := tupleKind (mixKind X.prog X.w)) (hsz := by rw [sizeLine_eq]; simp) (show X.A.units < cLine by omega) (key_of I2.hok hb) dd fun h' dd' hs => wpAny_pure ?_))
    show wpAny _ _ (forIn ([] : List (Value × Value)) PUnit.unit _) _ _ _
    rw [List.forIn_nil]
    refine wpAny_pure ⟨.ref s.heap.objs.size, _, ?_, show L2.RelV (.ref _) _ from rfl, q2⟩
    obtain ⟨q', es, ep, hq, h2, h3, h4, _, h5⟩ := dd'
    have rel : KT (upd H2 s.heap.objs.size (.dT [(ks, y)])) [(ks, y)] (storedH [] ks b w) := by
      refine .cons ⟨rfl, ?_, rw'⟩ .nil
      rw [upd_ne (ne_of hb e (fun z => nomatch z))]
      exact hb
    exact d_write I2 (by rw [e]; exact True.intro) hs ⟨q', hq⟩ ⟨by rw [sizeLine_eq]; simp, hd, _, rel, q', es, ep, hq, h2, h3, h4, h5⟩
def dD1 (k v : D) : Option D := if ((keyK k).isSome && flat v) = true then some (.dict [(k, v)]) else none
theorem qe_d1 {k v : Expr} {fk fv : FE} {ck cv : Esc} {pos : Pos} (hu : X.A.units + 1 < cLine) (hk : PE X k (tD K (.br 1) fk ck)) (hv : PE X v (tD K (.br 1) fv cv)) (hκ : κ.one = true := by rfl) : PE X (.Dict [some k] [v] pos) (tD K κ (eOp dD1 fk fv) []) := (pe_disp1 hu hk hv).imp fun σ H Q ⟨B, L, ρ, d, g, es, hf, q⟩ => fun p hp => by
  obtain ⟨dx, dy, h1, h2, h3⟩ := o2_some hf
  obtain ⟨hc, rfl⟩ := ite_some h3
  simp only [Bool.and_eq_true] at hc
  have s0 : Same H (upd H p (.dK [])) := same_upd hp
  refine ⟨[], _, ρ, dx, (g.mono s0).zero, .zero, h1, fun x H1 s1 p1 => ?_⟩
  refine ⟨[], _, ρ, dy, ((g.mono s0).mono s1).zero, .zero, h2, fun y H2 s2 p2 => ?_⟩
  have e2 : H2 p = some (.dK []) := s2 _ _ (s1 _ _ upd_same)
  have rx : R K H2 x dx := (RL.r0 p1).mono s2
  have ry : R K H2 y dy := RL.r0 p2
  have top : isTop (.dict [(dx, dy)]) = true := by
    have := hc.1
    cases dx <;> first | rfl | simp [keyK, keyOf] at this
  have s02 : Same H H2 := (s0.trans s1).trans s2
  have ok2 : Ok (p :: B) H2 := (g.ok.mono s02).cons e2 rfl
  have hp2 : ∀ u, Same (hid (p :: B) H2) (hid (p :: B) (upd H2 p u)) := fun u b o q => by
    obtain ⟨q1, q2⟩ := hid_some q
    rw [hid_out q1, upd_ne fun z => q1 (by rw [z]; exact List.mem_cons_self)]
    exact q2
  have hs : ∀ u, Same H (upd H2 p u) := fun u b o q => by
    rw [upd_ne fun z => by rw [z, hp] at q; cases q]
    exact s02 _ _ q
  have ry' : ∀ u, R K (hid (p :: B) (upd H2 p u)) y dy := fun u => (R.hidF ok2.noTup ry hc.2).mono (hp2 u)
  refine ⟨e2, x, y, rfl, ?_⟩
  rcases key_is rx hc.1 with ⟨kk, rfl, rfl, _⟩ | ⟨ks, b, rfl, rfl, hb, _⟩
  · exact .inl ⟨kk, rfl, q _ _ (hs _) (Post.newD g.ok.trk hp upd_same top (.inl ⟨_, rfl, .cons (ry' _) .nil⟩) hκ)⟩
  · exact .inr ⟨ks, b, rfl, hb, q _ _ (hs _) (Post.newD g.ok.trk hp upd_same top (.inr ⟨_, rfl, .cons (ry' _) .nil⟩) hκ)⟩
end
end DS
end

section
set_option Elab.async false
set_option linter.all false
set_option maxRecDepth 100000
/-! Dicts, part f: name = [.. for k in d ..]. -/
namespace DS
open PySem PySem.Spec PyProof.Rows L2
section
variable {X : Cx} {K : PySem.W.Frag} {κ : Mo}
theorem eLc_list {fi : FA} {t : Tg} {ft : FT} {fe : FE} {vs : List Nat} {ρ : PEnv} {d : D} (h : eLc fi t ft fe vs ρ = some d) : flat d = false := by
  obtain ⟨ds, h1, h2⟩ := o1_some h
  split at h2
  · obtain ⟨ys, h3, h4⟩ := o1_some h2
    cases (Option.some.inj h4)
    rfl
  · cases h2
theorem eLc_it {fi : FA} {t : Tg} {ft : FT} {fe : FE} {vs : List Nat} {ρ : PEnv} {d : D} (h : eLc fi t ft fe vs ρ = some d) : ∃ ds, fi ρ = some ds := by
  obtain ⟨ds, h1, h2⟩ := o1_some h
  exact ⟨ds, h1⟩
theorem demote_app : ∀ {c c' : Esc} {L : List Nat}, demote (c ++ c') L = demote c' (demote c L)
  | [], _, _ => rfl
  | (_, _) :: c, c', L => demote_app (c := c)
theorem ss_setLcD (j i l : Nat) {y : Str} {py : Pos} {elt tg : Expr} {x : Str} {p : Pos} {ifs : List Expr} {scope : Scope} {own : List (Str × Nat)} {pos spos : Pos} {ce : Esc} {t : Tg} {ft : FT} {fe : FE} (hc : X.calm = true) (hN : X.N.Nodup) (hx : PE X (.Name x p) (tVar j)) (ok : BlkOk X.N X.env.scope scope own)
    (hg : ∀ (s : Shared) (H : Hp) (C : Addr) (cl : List (Str × Addr)) (fp : List Addr), PG (X.blk s H scope (compEnvC scope cl C X.env) fp) tg (tG K t)) (ht : ∀ (s : Shared) (H : Hp) (C : Addr) (cl : List (Str × Addr)) (fp : List Addr), PTs (X.blk s H scope (compEnvC scope cl C X.env) fp) ifs (tT K ft))
    (he : ∀ (s : Shared) (H : Hp) (C : Addr) (cl : List (Str × Addr)) (fp : List Addr), PE (X.blk s H scope (compEnvC scope cl C X.env) fp) elt (tD K (.br 0) fe ce)) (hl : l ≤ 1 := by decide) (hy : X.N[i]? = some y := by rfl) (hyl : X.env.scope.names.lookup y = some .local := by rfl)
    (hsw : swapsWith (.ListComp elt [⟨tg, .Name x p, ifs, 0⟩] scope pos) (some (.Name y py)) spos.line X.env = pure true := by exact sw_true rfl rfl rfl (by decide +kernel)) (hv : t.ix.all ((own.map (·.2)).contains ·) = true := by rfl) (hs : ∀ z, foldedSetIterable (.Name x p) X.env z = pure z := by intro _; rfl) :
    PS X (.Assign [.Name y py] (.ListComp elt [⟨tg, .Name x p, ifs, 0⟩] scope pos) spos) (tS K (sSet i l (eLc (iDk (eVar j)) t ft fe (own.map (·.2))) ([(j, 0)] ++ ce))) :=
  (PS.either (ps_lock (ps_setLc hc hN hy hyl hsw (pi_keys hx) ok hg ht he hs)) (ps_setLc hc hN hy hyl hsw (pi_keys hx) ok hg ht he hs)).imp fun E σ H ⟨B0, G, s, hs, q⟩ => by
    have hκ : (moOf l).one = true := by match l, hl with | 0, _ => rfl | 1, _ => rfl
    have q0 := q
    unfold sSet at q
    split at q
    · exact q.elim
    · rename_i d0 hd0
      obtain ⟨ds, hds⟩ := eLc_it hd0
      obtain ⟨O, B, g0⟩ := hs
      obtain ⟨O', B', g, _⟩ := g0.demote [(j, 0)]
      have hL : lv (demote [(j, 0)] s.2) j ≤ 0 := demote_ok [(j, 0)] s.2 (j, 0) List.mem_cons_self
      obtain ⟨d, h1, h2⟩ := o1_some hds
      obtain ⟨es, rfl, rfl, hn⟩ := keysD_some h2
      obtain ⟨v, e1, r⟩ := g.good.slot j _ (eVar_some h1)
      rw [show lv (demote [(j, 0)] s.2) j = 0 by omega] at r
      obtain ⟨a, rfl, ha, u, hu, hr, _⟩ := dict_seen hn r.r
      rcases hr with hr | ⟨od, hr⟩
      · refine .inl ⟨a, u, hr, hu.mut, fun od => ?_⟩
        obtain ⟨G', k1, k2, k3⟩ := GS.lock (od := od) g ha hr hu
        have h0 : a ∉ B0 := fun z => ha ((g.memB a).mpr (.inl z))
        have e2 : sSet i l (eLc (iDk (eVar j)) t ft fe (own.map (·.2))) ([(j, 0)] ++ ce) (s.1, demote [(j, 0)] s.2) = sSet i l (eLc (iDk (eVar j)) t ft fe (own.map (·.2))) ([(j, 0)] ++ ce) s := by
          unfold sSet
          simp only [hd0, eLc_list hd0]
          have : demote [(j, 0)] (demote [(j, 0)] s.2) = demote [(j, 0)] s.2 := by
            show (if lv (demote [(j, 0)] s.2) j ≤ 0 then demote [(j, 0)] s.2 else _) = _
            rw [if_pos hL]
          have e3 : demote ([(j, 0)] ++ ce) (demote [(j, 0)] s.2) = demote ([(j, 0)] ++ ce) s.2 := by
            rw [demote_app, demote_app, this]
          rw [e3]
          simp
        obtain ⟨B1, L1, ρ1, d1, gg, es1, hf1, qq⟩ := set_ok (K := K) (i := i) (l := l) (f := eLc (iDk (eVar j)) t ft fe (own.map (·.2))) (c := [(j, 0)] ++ ce) (by omega) (lockE E a od u) σ _ ⟨B0, G', _, k3, by rw [e2]; exact Fin.lock k1 k2 h0 q0⟩
        exact lc_core (m := 1) rfl hv hκ σ _ _ B1 L1 ρ1 d1 gg es1 hf1 qq fun ds Rr h1 hR => hti_dict gg (es1.left (j, 0) List.mem_cons_self) h1 e1 upd_same Rr hR
      · obtain ⟨B1, L1, ρ1, d1, gg, es1, hf1, qq⟩ := set_ok (K := K) (i := i) (l := l) (f := eLc (iDk (eVar j)) t ft fe (own.map (·.2))) (c := [(j, 0)] ++ ce) (by omega) E σ H ⟨B0, G, s, ⟨O, B, g0⟩, q0⟩
        exact .inr (lc_core (m := 1) rfl hv hκ σ _ _ B1 L1 ρ1 d1 gg es1 hf1 qq fun ds Rr h1 hR => hti_dict gg (es1.left (j, 0) List.mem_cons_self) h1 e1 hr Rr hR)
end
end DS
end

section
set_option Elab.async false
set_option linter.all false
set_option maxRecDepth 100000
set_option maxHeartbeats 1000000
/-! Part g: bits; a, b = [..], [..], both their own; a, b = flat, [..]. -/
namespace DS
open PySem PySem.Spec PyProof.Rows L2
def dAnd : D → D → Option D
  | .int i, .int j => some (.int (Builtin.bitAnd i j))
  | _, _ => none
def dOr : D → D → Option D
  | .int i, .int j => some (.int (Builtin.bitOr i j))
  | _, _ => none
theorem OpD.ii0 {K : PySem.W.Frag} {gV : Int → Int → Int} {op : D → D → Option D} (h : ∀ dx dy d, op dx dy = some d → ∃ i j, dx = .int i ∧ dy = .int j ∧ d = .int (gV i j)) : OpD K (rI0 fun i j => .int (gV i j)) op := by
  intro B x y dx dy d H Q hB rx ry ho q
  obtain ⟨i, j, rfl, rfl, rfl⟩ := h _ _ _ ho
  exact ⟨i, j, rx.int, ry.int, q _ H (Same.refl H) fun κ _ => Post.of_flat (.int _) rfl⟩
section
variable {X : Cx} {K : PySem.W.Frag} {κ : Mo} {a b : Expr} {fa fb : FE} {ca cb : Esc} {pos : Pos}
theorem qe_band (ha : PE X a (tD K (.br 1) fa ca)) (hb : PE X b (tD K (.br 1) fb cb)) (hκ : κ.one = true := by rfl) : PE X (.BinOp a .BitAnd b pos) (tD K κ (eOp dAnd fa fb) (ca ++ cb)) :=
  qe_op op_and (OpD.ii0 fun dx dy d h => by
    unfold dAnd at h
    split at h
    · exact ⟨_, _, rfl, rfl, (Option.some.inj h).symm⟩
    · cases h) ha hb hκ
theorem qe_bor (ha : PE X a (tD K (.br 1) fa ca)) (hb : PE X b (tD K (.br 1) fb cb)) (hκ : κ.one = true := by rfl) : PE X (.BinOp a .BitOr b pos) (tD K κ (eOp dOr fa fb) (ca ++ cb)) :=
  qe_op op_or (OpD.ii0 fun dx dy d h => by
    unfold dOr at h
    split at h
    · exact ⟨_, _, rfl, rfl, (Option.some.inj h).symm⟩
    · cases h) ha hb hκ
end
def sParFF (i j : Nat) (f g : FE) (c : Esc) : FS := fun s => match f s.1, g s.1 with
  | some d, some e => .next ((s.1.set i (some d)).set j (some e), ((demote c s.2).set i 1).set j 1)
  | _, _ => .stuck
def sParG (i j : Nat) (f g : FE) (c : Esc) : FS := fun s => match f s.1, g s.1 with
  | some d, some e => if flat d = true then .next ((s.1.set i (some d)).set j (some e), ((demote c s.2).set i 0).set j 1) else .stuck
  | _, _ => .stuck
section
variable {X : Cx} {K : PySem.W.Frag}
theorem ss_parFF (i j : Nat) {x y : Str} {a b : Expr} {f g : FE} {c c' : Esc} {px py pt pos : Pos} {kt k2 pt2} (hc : X.calm = true) (hN : X.N.Nodup) (ha : PE X a (tD K .fr f c)) (hb : PE X b (tD K .fr g c'))
    (hw : swappedStores [.Tuple [.Name x px, .Name y py] kt pt] (.Tuple [a, b] k2 pt2) X.env = pure (some [x, y])) (hi : X.N[i]? = some x := by rfl) (hj : X.N[j]? = some y := by rfl) (hij : i ≠ j := by decide)
    (hx : X.env.scope.names.lookup x = some .local := by rfl) (hy : X.env.scope.names.lookup y = some .local := by rfl)
    (hs : swapsWithSole [.Tuple [.Name x px, .Name y py] kt pt] (.Tuple [a, b] k2 pt2) pos.line X.env = pure false := by rfl) (hs1 : starEach [a, b] X.env = (false, eval a X.env) :: starEach [b] X.env := by rfl) (hs2 : starEach [b] X.env = (false, eval b X.env) :: starEach [] X.env := by rfl) :
    PS X (.Assign [.Tuple [.Name x px, .Name y py] kt pt] (.Tuple [a, b] k2 pt2) pos) (tS K (sParFF i j f g (c ++ c'))) := (ps_par hc hN hi hj hij hx hy (pa_cons ha (pa_cons hb pa_nil hs2) hs1) hw hs).imp fun E σ H ⟨B0, G, s, hs, q⟩ => by
  unfold sParFF at q
  split at q
  · rename_i d e hd he
    obtain ⟨O, B, gd⟩ := hs
    obtain ⟨O', B', g', _⟩ := gd.demote (c ++ c')
    have esc := demote_ok (c ++ c') s.2
    refine ⟨B', lv (demote (c ++ c') s.2), s.1, d, g'.good, esc.left, hd, fun v H1 e1 p1 => ?_⟩
    obtain ⟨o1, hn1, nd1, ro1⟩ := p1
    have gg := g'.good
    have sw : Same (hid B' H) (hid (o1 ++ B') H1) := same_hidW e1 fun a h => (List.mem_append.mp h).elim (fun h => .inr (hn1 a h)) .inl
    have gd2 : Good K (o1 ++ B') (lv (demote (c ++ c') s.2)) σ H1 s.1 := ⟨(ro1.mut_aux).append (g'.ok.mono e1), gg.len, fun k d h => let ⟨v, h1, h2⟩ := gg.slot k d h; ⟨v, h1, h2.mono e1 sw⟩⟩
    refine ⟨o1 ++ B', lv (demote (c ++ c') s.2), s.1, e, gd2, esc.right, he, fun w H2 e2 p2 => ?_⟩
    obtain ⟨o2, hn2, nd2, ro2⟩ := p2
    refine ⟨v, w, rfl, q _ H2 ?_⟩
    obtain ⟨O1, B1, g1, hB1⟩ := g'.assign (i := i) e1 hn1 nd1 ro1
    have ro3 : RO K (o2 ++ B1) H2 1 o2 w e := ro2.mono_aux (same_hidW (Same.refl H2) fun a h => .inl ((List.mem_append.mp h).elim (fun h => List.mem_append_left _ h) fun h => List.mem_append_right _ (hB1 a h))) fun _ _ => rfl
    obtain ⟨O2, B2, g2, _⟩ := g1.assign (i := j) e2 hn2 nd2 ro3
    exact ⟨O2, B2, g2⟩
  · exact q.elim
theorem ss_parG (i j : Nat) {x y : Str} {a b : Expr} {f g : FE} {c c' : Esc} {px py pt pos : Pos} {kt k2 pt2} (hc : X.calm = true) (hN : X.N.Nodup) (ha : PE X a (tD K (.br 0) f c)) (hb : PE X b (tD K .fr g c'))
    (hw : swappedStores [.Tuple [.Name x px, .Name y py] kt pt] (.Tuple [a, b] k2 pt2) X.env = pure (some [x, y])) (hi : X.N[i]? = some x := by rfl) (hj : X.N[j]? = some y := by rfl) (hij : i ≠ j := by decide)
    (hx : X.env.scope.names.lookup x = some .local := by rfl) (hy : X.env.scope.names.lookup y = some .local := by rfl)
    (hs : swapsWithSole [.Tuple [.Name x px, .Name y py] kt pt] (.Tuple [a, b] k2 pt2) pos.line X.env = pure false := by rfl) (hs1 : starEach [a, b] X.env = (false, eval a X.env) :: starEach [b] X.env := by rfl) (hs2 : starEach [b] X.env = (false, eval b X.env) :: starEach [] X.env := by rfl) :
    PS X (.Assign [.Tuple [.Name x px, .Name y py] kt pt] (.Tuple [a, b] k2 pt2) pos) (tS K (sParG i j f g c')) := (ps_par hc hN hi hj hij hx hy (pa_cons ha (pa_cons hb pa_nil hs2) hs1) hw hs).imp fun E σ H ⟨B0, G, s, hs, q⟩ => by
  unfold sParG at q
  split at q
  · rename_i d e hd he
    split at q
    · rename_i hfl
      obtain ⟨O, B, gd⟩ := hs
      obtain ⟨O', B', g', _⟩ := gd.demote c'
      refine ⟨[], _, s.1, d, gd.good.zero, .zero, hd, fun v H1 e1 p1 => ?_⟩
      refine ⟨B', lv (demote c' s.2), s.1, e, (g'.mono e1).good, demote_ok _ s.2, he, fun w H2 e2 p2 => ?_⟩
      obtain ⟨o2, hn2, nd2, ro2⟩ := p2
      refine ⟨v, w, rfl, q _ H2 ?_⟩
      obtain ⟨O1, B1, g1, hB1⟩ := (g'.mono e1).assign0 (i := i) ((RL.r0 p1).hidF (g'.mono e1).ok.noTup hfl)
      have ro3 : RO K (o2 ++ B1) H2 1 o2 w e := ro2.mono_aux (same_hidW (Same.refl H2) fun a h => .inl ((List.mem_append.mp h).elim (fun h => List.mem_append_left _ h) fun h => List.mem_append_right _ (hB1 a h))) fun _ _ => rfl
      obtain ⟨O2, B2, g2, _⟩ := g1.assign (i := j) e2 hn2 nd2 ro3
      exact ⟨O2, B2, g2⟩
    · exact q.elim
  · exact q.elim
end
end DS
end

section
set_option Elab.async false
set_option linter.all false
set_option maxRecDepth 100000
set_option maxHeartbeats 1000000
/-! Part h: lists of own lists: [[..] for ..], x[i][j] = v. -/
namespace DS
open PySem PySem.Spec PyProof.Rows L2
section
variable {K : PySem.W.Frag} {B B' : List Addr} {H H' : Hp}
theorem ROA.mono_aux (eh : Same (hid B H) (hid B' H')) {l : Nat} : ∀ {xs : List V} {os : List (List Addr)} {ds : List D}, ROA K B H l os xs ds → (∀ a ∈ os.flatten, H' a = H a) → ROA K B' H' l os xs ds
  | [], _, _, h, _ => by cases h; exact .nil
  | x :: xs, _, _, h, hb => by
    cases h with
    | @cons _ o os v d vs ds hr t =>
      exact .cons (hr.mono_aux eh fun a q => hb a (by rw [List.flatten_cons]; exact List.mem_append_left _ q)) (ROA.mono_aux eh t fun a q => hb a (by rw [List.flatten_cons]; exact List.mem_append_right _ q))
theorem ROA.append {l : Nat} : ∀ {xs : List V} {os : List (List Addr)} {ds : List D} {o : List Addr} {v : V} {d : D}, ROA K B H l os xs ds → RO K B H l o v d → ROA K B H l (os ++ [o]) (xs ++ [v]) (ds ++ [d])
  | [], _, _, _, _, _, h, r => by cases h; exact .cons r .nil
  | x :: xs, _, _, _, _, _, h, r => by
    cases h with
    | cons hr t => exact .cons hr (ROA.append t r)
theorem ROA.len {l : Nat} : ∀ {xs : List V} {os : List (List Addr)} {ds : List D}, ROA K B H l os xs ds → xs.length = ds.length
  | [], _, _, h => by cases h; rfl
  | x :: xs, _, _, h => by
    cases h with
    | cons hr t => rw [List.length_cons, List.length_cons, ROA.len t]
theorem ROA.mut {l : Nat} : ∀ {xs : List V} {os : List (List Addr)} {ds : List D}, ROA K B H l os xs ds → Ok os.flatten H
  | [], _, _, h => by cases h; exact Ok.nil
  | x :: xs, _, _, h => by
    cases h with
    | cons hr t => rw [List.flatten_cons]; exact hr.mut_aux.append (ROA.mut t)
theorem RO.one {o : List Addr} {v : V} {ds : List D} (h : RO K B H 1 o v (.list ds)) : ∃ a xs, o = [a] ∧ v = .ref a ∧ H a = some (.lst xs) ∧ RA K (hid B H) xs ds := by
  cases h with
  | z h _ => rcases h with h | h <;> cases h
  | @l _ a os xs _ e ra =>
    have h1 : ∀ {xs : List V} {os : List (List Addr)} {ds : List D}, ROA K B H 0 os xs ds → os.flatten = [] ∧ RA K (hid B H) xs ds := by
      intro xs
      induction xs with
      | nil => intro os ds h; cases h; exact ⟨rfl, .nil⟩
      | cons x xs ih =>
        intro os ds h
        cases h with
        | cons hr t =>
          obtain ⟨a1, a2⟩ := ih t
          cases hr with
          | z _ r => exact ⟨by rw [List.flatten_cons, a1]; rfl, .cons r a2⟩
    obtain ⟨a1, a2⟩ := h1 ra
    exact ⟨a, xs, by rw [a1], rfl, e, a2⟩
/-- the n-th of a list's own lists, written -/
theorem ROA.write : ∀ {xs : List V} {os : List (List Addr)} {ds : List D} {n : Nat} {es : List D}, ROA K B H 1 os xs ds → os.flatten.Nodup → (∀ a ∈ os.flatten, a ∈ B) → ds[n]? = some (.list es) →
    ∃ a ys, xs[n]? = some (.ref a) ∧ a ∈ os.flatten ∧ H a = some (.lst ys) ∧ RA K (hid B H) ys es ∧ ∀ ys' es', RA K (hid B H) ys' es' → ROA K B (upd H a (.lst ys')) 1 os xs (ds.set n (.list es'))
  | [], _, _, n, _, h, _, _, hn => by cases h; simp at hn
  | x :: xs, _, _, 0, es, h, nd, hB, hn => by
    cases h with
    | @cons _ o os v d vs ds hr t =>
      simp at hn
      subst hn
      obtain ⟨a, ys, rfl, rfl, e, ra⟩ := hr.one
      rw [List.flatten_cons] at nd hB ⊢
      have aB : a ∈ B := hB a (by simp)
      have hsame : ∀ u, Same (hid B H) (hid B (upd H a u)) := fun u b o q => by
        obtain ⟨q1, q2⟩ := hid_some q
        rw [hid_out q1, upd_ne fun z => q1 (by rw [z]; exact aB)]
        exact q2
      refine ⟨a, ys, rfl, by simp, e, ra, fun ys' es' r => ?_⟩
      rw [List.set_cons_zero]
      have nd' : a ∉ os.flatten := by
        rw [List.nodup_append] at nd
        intro z
        exact nd.2.2 a (by simp) a z rfl
      exact .cons (RO.l1 upd_same (r.mono (hsame _))) (ROA.mono_aux (hsame _) t fun b hb => upd_ne fun z => nd' (by rw [← z]; exact hb))
  | x :: xs, _, _, n + 1, es, h, nd, hB, hn => by
    cases h with
    | @cons _ o os v d vs ds hr t =>
      rw [List.flatten_cons] at nd hB ⊢
      rw [List.nodup_append] at nd
      obtain ⟨a, ys, h1, h2, h3, h4, h5⟩ := ROA.write (n := n) t nd.2.1 (fun a q => hB a (List.mem_append_right _ q)) (by simpa using hn)
      have aB : a ∈ B := hB a (List.mem_append_right _ h2)
      refine ⟨a, ys, by simpa using h1, List.mem_append_right _ h2, h3, h4, fun ys' es' r => ?_⟩
      rw [List.set_cons_succ]
      refine .cons (hr.mono_aux (fun b o q => ?_) fun b hb => upd_ne fun z => nd.2.2 b hb a h2 z) (h5 ys' es' r)
      obtain ⟨q1, q2⟩ := hid_some q
      rw [hid_out q1, upd_ne fun z => q1 (by rw [z]; exact aB)]
      exact q2
theorem GoodS.write2 {B0 B : List Addr} {G H : Hp} {O : Nat → List Addr} {σ : St} {ρ : PEnv} {L : List Nat} {i n : Nat} {ds es : List D} (g : GoodS K B0 G O B σ H ρ L) (hd : ρ[i]? = some (some (.list ds))) (hl : lv L i = 2) (hn : ds[n]? = some (.list es)) :
    ∃ a xs b ys, σ[i]? = some (some (.ref a)) ∧ H a = some (.lst xs) ∧ xs.length = ds.length ∧ xs[n]? = some (.ref b) ∧ H b = some (.lst ys) ∧ RA K (hid B H) ys es ∧ ∀ ys' es', RA K (hid B H) ys' es' → GS K B0 G σ (upd H b (.lst ys')) (ρ.set i (some (.list (ds.set n (.list es')))), L) := by
  obtain ⟨v, h1, h2⟩ := g.slot i _ hd
  rw [hl] at h2
  generalize hoi : O i = oi at h2
  cases h2 with
  | z h _ => rcases h with h | h <;> cases h
  | @l _ a os xs _ e ra =>
    have nd := g.nd i
    rw [hoi] at nd
    have inB : ∀ b ∈ a :: os.flatten, b ∈ B := fun b hb => (g.memB b).mpr (.inr ⟨i, by rw [hoi]; exact hb⟩)
    obtain ⟨b, ys, w1, w2, w3, w4, w5⟩ := ra.write (List.nodup_cons.mp nd).2 (fun b hb => inB b (List.mem_cons_of_mem _ hb)) hn
    have hba : b ≠ a := fun z => (List.nodup_cons.mp nd).1 (by rw [← z]; exact w2)
    have bB := inB b (List.mem_cons_of_mem _ w2)
    refine ⟨a, xs, b, ys, h1, e, ra.len, w1, w3, w4, fun ys' es' r => ?_⟩
    have hsame : Same (hid B H) (hid B (upd H b (.lst ys'))) := fun c o q => by
      obtain ⟨q1, q2⟩ := hid_some q
      rw [hid_out q1, upd_ne fun z => q1 (by rw [z]; exact bB)]
      exact q2
    refine ⟨O, B, g.memB, fun c hc => ?_, fun c o q => ?_, g.g0, g.gO, g.nd, g.dj, by rw [List.length_set, g.len], by rw [List.length_set, g.lenL], fun j d h => ?_⟩
    · by_cases hcb : c = b
      · rw [hcb]; exact ⟨_, upd_same, rfl⟩
      · rw [upd_ne hcb]; exact g.ok c hc
    · rw [upd_ne fun z => ?_]
      · exact g.same _ _ q
      · rw [z] at q
        have := g.gO i b (by rw [hoi]; exact List.mem_cons_of_mem _ w2)
        rw [this] at q; cases q
    · by_cases hj : j = i
      · subst hj
        have hi : j < ρ.length := (List.getElem?_eq_some_iff.mp hd).1
        simp only [List.getElem?_set_self hi] at h
        cases h
        refine ⟨.ref a, h1, ?_⟩
        rw [hoi]
        show RO K B _ (lv L j) _ _ _
        rw [hl]
        exact .l (by rw [upd_ne (Ne.symm hba)]; exact e) (w5 ys' es' r)
      · simp only [List.getElem?_set_ne (Ne.symm hj)] at h
        obtain ⟨w, h3, h4⟩ := g.slot j d h
        refine ⟨w, h3, h4.mono_aux hsame fun c hc => upd_ne fun z => ?_⟩
        exact g.dj j i hj c hc (by rw [hoi, z]; exact List.mem_cons_of_mem _ w2)
end
/-- x[i][j] = v, v without lists; x's lists are its own -/
def sPut22 (i : Nat) (j k f : FE) : FS := fun s => match f s.1, eVar i s.1, j s.1, k s.1 with
  | some d, some (.list ds), some (.int a), some (.int b) => match ixN ds.length a with
    | none => .stuck
    | some n => match ds[n]? with
      | some (.list es) => match ixN es.length b with
        | none => .stuck
        | some m => if (flat d && decide (lv s.2 i = 2)) = true then .next (s.1.set i (some (.list (ds.set n (.list (es.set m d))))), s.2) else .stuck
      | _ => .stuck
  | _, _, _, _ => .stuck
section
variable {X : Cx} {K : PySem.W.Frag}
theorem atI_ixN {α : Type} {xs : List α} {k : Int} {n : Nat} {v : α} (h : ixN xs.length k = some n) (e : xs[n]? = some v) : atI xs k = some v := by
  unfold L2.atI
  rw [h]
  exact e
theorem put22_ok {i : Nat} {j k f : FE} {c cj ck : Esc} : ∀ E σ H, tS K (sPut22 i j k f) E σ H → tAsg (tD K (.br 0) f c) (gSub (tOp (rIxL K) (tVar i) (tD K (.br 1) j cj)) (tD K (.br 1) k ck) rSetL) E σ H := fun E σ H ⟨B0, G, s, hs, q⟩ => by
  unfold sPut22 at q
  split at q
  · rename_i d ds a b hd hi hj hk
    have hi := eVar_some hi
    split at q
    · exact q.elim
    · rename_i n hn
      split at q
      · rename_i es hes
        split at q
        · exact q.elim
        · rename_i m hm
          split at q
          · rename_i hc
            simp only [Bool.and_eq_true, decide_eq_true_eq] at hc
            obtain ⟨hfl, hl⟩ := hc
            obtain ⟨O, B, g⟩ := hs
            refine ⟨[], _, s.1, d, g.good.zero, .zero, hd, fun v H1 s1 p1 => ?_⟩
            have g1 := g.mono s1
            obtain ⟨a1, xs, b1, ys, h1, h2, h3, h4, h5, h6, _⟩ := g1.write2 hi hl hes
            refine ⟨.ref a1, h1, [], _, s.1, _, g1.good.zero, .zero, hj, fun w H2 s2 p2 => ?_⟩
            refine ⟨a1, xs, a, .ref b1, rfl, RL.int p2, SqL.of (s2 _ _ h2), atI_ixN (by rw [h3]; exact hn) h4, ?_⟩
            have g2 := g1.mono s2
            refine ⟨[], _, s.1, _, g2.good.zero, .zero, hk, fun w' H3 s3 p3 => ?_⟩
            have g3 := g2.mono s3
            obtain ⟨a1', xs', b1', ys', h1', h2', h3', h4', h5', h6', h7'⟩ := g3.write2 hi hl hes
            rw [h1] at h1'
            cases h1'
            have e2 := s3 _ _ (s2 _ _ h2)
            rw [e2] at h2'
            cases h2'
            rw [h4] at h4'
            cases h4'
            refine ⟨b1, ys', b, m, rfl, RL.int p3, h5', by rw [h6'.length]; exact hm, ?_⟩
            have rv := (((RL.r0 p1).mono s2).mono s3).hidF g3.ok.noTup hfl
            exact q _ _ (h7' _ _ (h6'.set rv m))
          · exact q.elim
      · exact q.elim
  · exact q.elim
theorem ss_put22 (i : Nat) {x : Str} {e ix jx : Expr} {j k f : FE} {c cj ck : Esc} {pos p p2 p3 : Pos} (ps : PS X (.Assign [.Subscript (.Subscript (.Name x p) ix p2) jx p3] e pos) (tAsg (tD K (.br 0) f c) (gSub (tOp (rIxL K) (tVar i) (tD K (.br 1) j cj)) (tD K (.br 1) k ck) rSetL))) :
    PS X (.Assign [.Subscript (.Subscript (.Name x p) ix p2) jx p3] e pos) (tS K (sPut22 i j k f)) := ps.imp put22_ok
end
section
variable {X : Cx} {K : PySem.W.Frag}
/-- [..] of new lists, each its own -/
theorem lcF_core {m : Nat} {fi : FA} {ci : Esc} {t : Tg} {ft : FT} {fe : FE} {ce : Esc} {vs : List Nat} {ti : TI} (hm : m = 1) (hv : t.ix.all (vs.contains ·) = true) :
    ∀ σ H Q B L ρ d, Good K B L σ H ρ → EscOk (ci ++ ce) L → eLc fi t ft fe vs ρ = some d → (∀ v H', Same H H' → Post K B H H' .fr2 v d → Q v H') →
      (∀ ds Rr, fi ρ = some ds → (∀ J H1, Same H H1 → Walks K (gOf m B H1) B J ds → Rr J H1) → ti σ H Rr) → tLc ti (tG K t) (tT K ft) (tD K .fr fe ce) vs σ H Q := by
  intro σ H Q B L ρ d g es hf q hti
  obtain ⟨ds, h1, h2⟩ := o1_some hf
  have hz : ds.length ≤ sz := by
    split at h2
    · assumption
    · cases h2
  rw [if_pos hz] at h2
  obtain ⟨ys, h3, h4⟩ := o1_some h2
  cases (Option.some.inj h4)
  refine hti ds _ h1 fun J H1 s1 wk D hD => ?_
  subst hm
  have hixs : ∀ {l : List (Nat × PyData)} {mm : List (Nat × V)} {d : PyData} {B' : List Addr} {Hh : Hp}, t.go d = some l → RS K (hid B' Hh) mm l → ∀ i ∈ mm.map (·.1), i ∈ vs := fun {l mm d B' Hh} e rs i hi => by
    rw [rs.ix, Tg.go_ix e] at hi
    have := List.all_eq_true.mp hv i hi
    simpa using this
  -- what holds behind i turns
  let W : Nat → Nat → Hp → Prop := fun i n H' => n = ds.length - i ∧ i ≤ ds.length ∧ Same H1 H' ∧ ∃ acc os done rest, H' D = some (.lst acc) ∧ ROA K (os.flatten ++ (D :: B)) H' 1 os acc done ∧ (∀ a ∈ os.flatten, H1 a = none ∧ a ≠ D) ∧ os.flatten.Nodup ∧ acc.length ≤ i ∧ lcGo t ft fe (wipeD ρ vs) (ds.drop i) = some rest ∧ done ++ rest = ys
  refine ⟨W, ⟨ds.length, by simp, Nat.zero_le _, same_upd hD, [], [], [], ys, upd_same, .nil, by simp, by simp, Nat.le_refl _, by simpa using h3, rfl⟩, ?_⟩
  rintro i n H' ⟨rfl, hi, s', acc, os, done, rest, hacc, racc, hos, hnd, hlen, hgo, hys⟩
  have okB : Ok (os.flatten ++ (D :: B)) H' := racc.mut.append (((g.ok.mono s1).mono s').cons hacc rfl)
  have inn : ∀ a ∈ os.flatten ++ (D :: B), a ∈ B ∨ H1 a = none := fun a ha => by
    rcases List.mem_append.mp ha with z | z
    · exact .inr (hos a z).1
    · rcases List.mem_cons.mp z with z | z
      · rw [z]; exact .inr hD
      · exact .inl z
  have gd : Good K (os.flatten ++ (D :: B)) L σ H' ρ := by
    refine ⟨okB, g.len, fun j e h => ?_⟩
    obtain ⟨v, e1, r⟩ := g.slot j e h
    exact ⟨v, e1, ((r.mono s1 (same_hid s1)).mono s' (same_hidW s' inn))⟩
  by_cases hlt : i < ds.length
  · refine .inr ⟨wk.go i H' hlt s', fun H'' => W (i + 1) (ds.length - (i + 1)) H'', fun H'' w => ⟨_, by omega, w⟩, fun x H2 y => ?_⟩
    have hd : ds[i]? = some ds[i] := List.getElem?_eq_getElem hlt
    obtain ⟨s2, rx⟩ := wk.yld i H' x H2 _ hd s' y
    have rx := rx (os.flatten ++ (D :: B)) okB fun a ha => ⟨inn a ha, okB.trk a ha⟩
    rw [List.drop_eq_getElem_cons hlt] at hgo
    unfold lcGo at hgo
    have hacc2 := s2 _ _ hacc
    have racc2 : ROA K (os.flatten ++ (D :: B)) H2 1 os acc done := ROA.mono_aux (same_hid s2) racc fun a ha => by
      obtain ⟨u, hu, _⟩ := racc.mut a ha
      rw [hu, s2 _ _ hu]
    split at hgo
    · cases hgo
    · rename_i l hl
      refine ⟨os.flatten ++ (D :: B), _, l, rx, hl, fun mm rs => ⟨?_, ?_⟩⟩
      · rw [wipe_sets (hixs hl rs)]
        exact wipe_idem vs fun _ h => h
      · have gs : Good K (os.flatten ++ (D :: B)) L (setsV (wipe σ vs) mm) H2 (setsD (wipeD ρ vs) l) := ((gd.mono s2).wipe vs).sets rs
        split at hgo
        · cases hgo
        · rename_i hft
          refine ⟨os.flatten ++ (D :: B), L, _, false, gs, hft, fun H3 s3 => ?_⟩
          refine iteF ?_
          exact ⟨rfl, hlt, (s'.trans s2).trans s3, acc, os, done, rest, s3 _ _ hacc2, ROA.mono_aux (same_hid s3) racc2 (fun a ha => by
            obtain ⟨u, hu, _⟩ := racc2.mut a ha
            rw [hu, s3 _ _ hu]), hos, hnd, by omega, hgo, hys⟩
        · rename_i hft
          split at hgo
          · cases hgo
          · rename_i yv hfe
            split at hgo
            · cases hgo
            · rename_i ys' hrest
              cases (Option.some.inj hgo)
              refine ⟨os.flatten ++ (D :: B), L, _, true, gs, hft, fun H3 s3 => ?_⟩
              refine iteT ?_
              refine ⟨os.flatten ++ (D :: B), L, _, yv, gs.mono s3, es.right, hfe, fun v H4 s4 p4 => ?_⟩
              obtain ⟨o, hno, hndo, ro⟩ := p4
              have s34 := s3.trans s4
              have hacc4 := s34 _ _ hacc2
              have hoD : ∀ a ∈ o, a ≠ D := fun a ha z => by
                have := s3 _ _ hacc2
                rw [← z, hno a ha] at this
                cases this
              have hoos : ∀ a ∈ o, a ∉ os.flatten := fun a ha z => by
                obtain ⟨u, hu, _⟩ := racc2.mut a z
                have := s3 _ _ hu
                rw [hno a ha] at this
                cases this
              have ho1 : ∀ a ∈ o, H1 a = none := fun a ha => by
                cases e : H1 a with
                | none => rfl
                | some u =>
                  have := s3 _ _ (s2 _ _ (s' _ _ e))
                  rw [hno a ha] at this
                  cases this
              have fl : (os ++ [o]).flatten = os.flatten ++ o := by simp
              have su : ∀ {C C' : List Addr}, D ∈ C → (∀ a ∈ C', a ∈ C) → Same (hid C H4) (hid C' (upd H4 D (.lst (acc ++ [v])))) → True := fun _ _ _ => True.intro
              -- the older ones
              have r1 : ROA K ((os ++ [o]).flatten ++ (D :: B)) (upd H4 D (.lst (acc ++ [v]))) 1 os acc done := by
                refine ROA.mono_aux (H := H2) (B := os.flatten ++ (D :: B)) (fun b x e => ?_) racc2 fun a ha => ?_
                · obtain ⟨e1, e2⟩ := hid_some e
                  have e3 := s34 _ _ e2
                  rw [hid_out (fun z => ?_), upd_ne fun z => e1 (by rw [z]; exact List.mem_append_right _ (.head _))]
                  · exact e3
                  · rw [fl, List.append_assoc] at z
                    rcases List.mem_append.mp z with z | z
                    · exact e1 (List.mem_append_left _ z)
                    · rcases List.mem_append.mp z with z | z
                      · have := hno b z
                        rw [s3 _ _ e2] at this
                        cases this
                      · exact e1 (List.mem_append_right _ z)
                · obtain ⟨u, hu, _⟩ := racc2.mut a ha
                  rw [upd_ne (hos a ha).2, s34 _ _ hu, hu]
              have r2 : RO K ((os ++ [o]).flatten ++ (D :: B)) (upd H4 D (.lst (acc ++ [v]))) 1 o v yv := by
                refine ro.mono_aux (fun b x e => ?_) fun a ha => upd_ne (hoD a ha)
                obtain ⟨e1, e2⟩ := hid_some e
                rw [hid_out (fun z => ?_), upd_ne fun z => e1 (by rw [z]; exact List.mem_append_right _ (List.mem_append_right _ (.head _)))]
                · exact e2
                · rw [fl, List.append_assoc] at z
                  rcases List.mem_append.mp z with z | z
                  · exact e1 (List.mem_append_right _ (List.mem_append_left _ z))
                  · rcases List.mem_append.mp z with z | z
                    · exact e1 (List.mem_append_left _ z)
                    · exact e1 (List.mem_append_right _ (List.mem_append_right _ z))
              refine ⟨acc, hacc4, by rw [sz_eq]; omega, rfl, hlt, fun b x e => ?_, acc ++ [v], os ++ [o], done ++ [yv], ys', upd_same, r1.append r2, fun a ha => ?_, ?_, by simp; omega, hrest, by rw [List.append_assoc]; exact hys⟩
              · have hb : b ≠ D := ne_of_none e hD
                rw [upd_ne hb]
                exact ((s'.trans s2).trans s34) _ _ e
              · rw [fl] at ha
                rcases List.mem_append.mp ha with z | z
                · exact hos a z
                · exact ⟨ho1 a z, hoD a z⟩
              · rw [fl, List.nodup_append]
                exact ⟨hnd, hndo, fun a ha b hb z => hoos b hb (by rw [← z]; exact ha)⟩
  · have e : i = ds.length := by omega
    subst e
    refine .inl ⟨wk.stop H' s', ?_⟩
    rw [List.drop_length] at hgo
    unfold lcGo at hgo
    cases (Option.some.inj hgo)
    rw [List.append_nil] at hys
    subst hys
    refine q _ H' (s1.trans s') ⟨D :: os.flatten, fun a ha => ?_, ?_, ?_⟩
    · rcases List.mem_cons.mp ha with z | z
      · rw [z]; exact s1.free hD
      · exact s1.free (hos a z).1
    · exact List.nodup_cons.mpr ⟨fun z => (hos D z).2 rfl, hnd⟩
    · refine .l hacc (ROA.mono_aux (same_hidW (Same.refl H') fun a ha => .inl ?_) racc fun _ _ => rfl)
      rcases List.mem_append.mp ha with z | z
      · rcases List.mem_cons.mp z with z | z
        · rw [z]; exact List.mem_append_right _ (.head _)
        · exact List.mem_append_left _ z
      · exact List.mem_append_right _ (List.mem_cons_of_mem _ z)
/-- name = [[..] for ..], the new lists the name's own -/
theorem ss_setLcF (i : Nat) {y : Str} {py : Pos} {elt tg iter : Expr} {ifs : List Expr} {scope : Scope} {own : List (Str × Nat)} {pos spos : Pos} {fi : FA} {ci ce : Esc} {t : Tg} {ft : FT} {fe : FE} (hc : X.calm = true) (hN : X.N.Nodup) (hi : PI X tg iter (tI K 1 fi ci)) (ok : BlkOk X.N X.env.scope scope own)
    (hg : ∀ (s : Shared) (H : Hp) (C : Addr) (cl : List (Str × Addr)) (fp : List Addr), PG (X.blk s H scope (compEnvC scope cl C X.env) fp) tg (tG K t)) (ht : ∀ (s : Shared) (H : Hp) (C : Addr) (cl : List (Str × Addr)) (fp : List Addr), PTs (X.blk s H scope (compEnvC scope cl C X.env) fp) ifs (tT K ft))
    (he : ∀ (s : Shared) (H : Hp) (C : Addr) (cl : List (Str × Addr)) (fp : List Addr), PE (X.blk s H scope (compEnvC scope cl C X.env) fp) elt (tD K .fr fe ce)) (hy : X.N[i]? = some y := by rfl) (hyl : X.env.scope.names.lookup y = some .local := by rfl)
    (hsw : swapsWith (.ListComp elt [⟨tg, iter, ifs, 0⟩] scope pos) (some (.Name y py)) spos.line X.env = pure true := by exact sw_true rfl rfl rfl (by decide +kernel)) (hv : t.ix.all ((own.map (·.2)).contains ·) = true := by rfl) (hs : ∀ x, foldedSetIterable iter X.env x = pure x := by intro _; rfl) :
    PS X (.Assign [.Name y py] (.ListComp elt [⟨tg, iter, ifs, 0⟩] scope pos) spos) (tS K (sSet i 2 (eLc fi t ft fe (own.map (·.2))) (ci ++ ce))) := (ps_setLc hc hN hy hyl hsw hi ok hg ht he hs).imp fun E σ H h => by
  obtain ⟨B, L, ρ, d, g, es, hf, q⟩ := set_ok (K := K) (i := i) (l := 2) (f := eLc fi t ft fe (own.map (·.2))) (c := ci ++ ce) (by decide) E σ H h
  exact lcF_core (m := 1) rfl hv σ H _ B L ρ d g es hf q fun ds Rr h1 hR => ⟨B, L, ρ, ds, g, es.left, h1, hR⟩
end
end DS
end

section
set_option Elab.async false
set_option linter.all false
set_option maxRecDepth 100000
set_option maxHeartbeats 1000000
/-! Part i of the dicts' row: [::-1] of lists and tuples, index of tuples, a chain's value. -/
namespace DS
open PySem PySem.Spec PyProof.Rows L2
section
variable {prog : Program} {w : World} {A : Around} {E : Value → Shared → Prop} {s : Shared}
theorem part_back {Q : Option Int → Shared → Prop} {v : Value} (p : IsPart v (some (-1))) (h : Q (some (-1)) s) : wpAny (model prog w) A (Builtin.Slice.slicePartIndex v) Q E s := HT.slicePart_ p h
theorem sliceApplied_rev {sl : Addr} {vl vu vs : Value} {n : Nat} {Q : Int × Int × Nat → Shared → Prop} (hs : s.heap.IsSliceOf sl vl vu vs) (pl : IsPart vl none) (pu : IsPart vu none) (ps : IsPart vs (some (-1)))
    (h : Q ((n : Int) - 1, -1, n) s) : wpAny (model prog w) A (Builtin.Slice.sliceApplied (.ref sl) (pure (n : Int))) Q E s := by
  obtain ⟨os, hos, hcs, hds⟩ := id hs
  unfold Builtin.Slice.sliceApplied Builtin.Slice.sliceFields
  refine wpAny_bind (wpAny_bind (wpAny_field hos hds (x := vl) rfl (wpAny_bind (wpAny_field hos hds (x := vu) rfl (wpAny_bind (wpAny_field hos hds (x := vs) rfl (wpAny_pure ?_)))))))
  refine wpAny_bind (HT.slicePart_ ps ?_)
  show wpAny _ _ (if ((-1 : Int) == 0) = true then _ else _) _ _ s
  rw [if_neg (by decide)]
  refine wpAny_bind (HT.slicePart_ pl (wpAny_bind (HT.slicePart_ pu (wpAny_bind (wpAny_pure ?_)))))
  have e : Builtin.Slice.slicePlaces ((n : Int) - 1) (-1) (-1) = n := by
    unfold Builtin.Slice.slicePlaces
    have h1 : ¬ ((-1 : Int) > 0) := by omega
    have h2 : (-(-1 : Int)) = 1 := rfl
    simp only [h1, if_false, h2, Int.ediv_one]
    split <;> omega
  show wpAny _ _ (pure ((n : Int) - 1, (-1 : Int), Builtin.Slice.slicePlaces ((n : Int) - 1) (-1) (-1))) _ _ s
  rw [e]
  exact wpAny_pure h
theorem fm_congr {α β : Type} {f g : α → Option β} : ∀ {l : List α}, (∀ a ∈ l, f a = g a) → l.filterMap f = l.filterMap g
  | [], _ => rfl
  | a :: l, h => by
    rw [List.filterMap_cons, List.filterMap_cons, h a (.head _), fm_congr fun b hb => h b (.tail _ hb)]
theorem fm_all {α : Type} : ∀ (l : List α), ((List.range l.length).filterMap fun m => l[m]?) = l
  | [] => rfl
  | a :: l => by
    rw [List.length_cons, List.range_succ_eq_map, List.filterMap_cons]
    simp only [List.getElem?_cons_zero, List.filterMap_map]
    congr 1
    exact fm_all l
theorem pick_rev (xs : Array Value) : ((List.range xs.size).filterMap fun (m : Nat) => xs[(((xs.size : Int) - 1) + (m : Int) * (-1)).toNat]?).toArray = xs.toList.reverse.toArray := by
  congr 1
  have e := fm_all xs.toList.reverse
  rw [List.length_reverse, Array.length_toList] at e
  rw [← e]
  refine fm_congr fun m hm => ?_
  have hm := List.mem_range.mp hm
  have e1 : (((xs.size : Int) - 1) + (m : Int) * (-1)).toNat = xs.size - 1 - m := by omega
  rw [e1, ← Array.getElem?_toList, List.getElem?_reverse (by rw [Array.length_toList]; exact hm), Array.length_toList]
theorem getItem_tuple_rev {t sl : Addr} {items : Array Value} {vl vu vs : Value} {Q : Value → Shared → Prop} (ht : IsTup s.heap t items) (hs : s.heap.IsSliceOf sl vl vu vs) (pl : IsPart vl none) (pu : IsPart vu none) (ps : IsPart vs (some (-1)))
    (h : Q (.ref s.heap.objs.size) { s with heap := s.heap.push { cls := .type "tuple", data := .seq items.toList.reverse.toArray } })
    (hsz : items.size ≤ sizeLine) : wpAny (model prog w) A (getItem (.ref t) (.ref sl)) Q E s := by
  have htake : sizeOk (.seq items.toList.reverse.toArray) := by
    show items.toList.reverse.toArray.size ≤ sizeLine
    rw [List.size_toArray, List.length_reverse, Array.length_toList]
    exact hsz
  obtain ⟨os, hos, hcs, hds⟩ := id hs
  have hTs : s.TypeIs (.ref sl) "slice" := ⟨os, hos, hcs⟩
  unfold getItem
  try with_reducible refine wpAny_holding ?_
  first | refine wpAny_bind (wpAny_pure ?_) | skip
  refine wpAny_bind (wpAny_sequenceKey ht.typeIs (by decide) ?_)
  refine wpAny_bind (wpAny_callSpecial?_slot (name := Str.ofString "__getitem__") ht.typeIs PyProof.Rows.slot_tuple_getitem
    (wpAny_call_entry PyProof.Rows.slot_tuple_getitem ht.typeIs PyProof.Rows.entry_tuple_getitem ?_ (PyProof.Rows.args_tuple_getitem _ _)))
  show wpAny _ _ (Builtin.Tuple.tupleItemsOf (.ref t) >>= _) _ _ s
  refine wpAny_bind (PyProof.Rows.tupleItemsOf_ ht ?_)
  refine wpAny_bind (wpAny_typeOf hTs ?_)
  rw [if_pos (by decide)]
  refine wpAny_bind (sliceApplied_rev hs pl pu ps ?_)
  show wpAny _ _ (if (((items.size : Int) - 1) == 0 && (-1 : Int) == 1 && items.size == items.size) = true then _ else _) _ _ s
  rw [if_neg (by simp), pick_rev]
  first
    | exact wpAny_bind (m := Builtin.Tuple.tupleExact _) (wpAny_newObj_type (wpAny_pure ⟨_, rfl, wpAny_pure h⟩) htake)
    | exact wpAny_bind (m := Builtin.Tuple.tupleExact _) (wpAny_newObj_type (wpAny_bind (wpAny_pure (wpAny_pure ⟨_, rfl, wpAny_pure h⟩))) htake)
    | exact wpAny_bind (wpAny_bind (m := Builtin.Tuple.tupleExact _) (wpAny_newObj_type (wpAny_pure (wpAny_pure ⟨_, rfl, wpAny_pure h⟩)) htake))
    | exact wpAny_bind (wpAny_bind (m := Builtin.Tuple.tupleExact _) (wpAny_newObj_type (wpAny_pure ⟨_, rfl, wpAny_pure h⟩) htake))
end
/-! ### e[::-1] -/
def tRevA (K : PySem.W.Frag) (te : TE) : TE := fun σ H Q => te σ H fun x H1 => ∃ a xs, x = .ref a ∧ ((SqL K H1 a xs ∧ ∀ p, H1 p = none → Q (.ref p) (upd H1 p (.lst xs.reverse))) ∨ (SqT K H1 a xs ∧ ∀ p, H1 p = none → Q (.ref p) (upd H1 p (.tup xs.reverse))))
theorem pe_revA {X : Cx} {e : Expr} {te : TE} {k : Nat} {p1 p2 p3 pos : Pos} (he : PE X e te) : PE X (.Subscript e (.Slice none none (some (.UnaryOp .USub (.Constant (.int 1) k p1) p2)) p3) pos) (tRevA X.K te) := by
  refine ⟨fun pins s σ H Q I h => ?_⟩
  refine Subscript_ (thn (he.run pins s σ H _ I h) fun v s1 ⟨x, H1, I1, r1, q1⟩ => ?_)
  obtain ⟨a, xs, ex, hor⟩ := q1
  subst ex
  cases r1
  have hst : PO X (some (.UnaryOp .USub (.Constant (.int 1) k p1) p2)) (tPart (tUn (rU fun i => .int (-i)) (tC (.int 1)))) := po_some (pe_un un_neg pe_int)
  refine wpAny_Slice (thn (po_none.run pins s1 σ H1 (fun o H2 => o = none ∧ H2 = H1) I1 ⟨rfl, rfl⟩) fun vl s2 ⟨l, H2, I2, pl, el, e2⟩ => ?_)
  subst el e2
  refine thn (po_none.run pins s2 σ H2 (fun o H3 => o = none ∧ H3 = H2) I2 ⟨rfl, rfl⟩) fun vu s3 ⟨u, H3, I3, pu, eu, e3⟩ => ?_
  subst eu e3
  refine thn (hst.run pins s3 σ H3 (fun o H4 => o = some (-1) ∧ H4 = H3) I3 ⟨1, rfl, -1, rfl, rfl, rfl⟩) fun vs s4 ⟨o, H4, I4, ps, eo, e4⟩ => ?_
  subst eo e4
  have I5 : Inv X pins σ H4 { s4 with heap := s4.heap.push { cls := .type "slice", data := .fields #[vl, vu, vs] } } := I4.kept (t' := s4.toks) fun b ob q => Heap.get?_push_of_some _ q
  show wpAny (model X.prog X.w) X.A (subscriptTail e (.Slice none none (some (.UnaryOp .USub (.Constant (.int 1) k p1) p2)) p3) (.ref a) (.ref s4.heap.objs.size)) (EP X pins σ Q) X.xe { s4 with heap := s4.heap.push { cls := .type "slice", data := .fields #[vl, vu, vs] } }
  rcases hor with ⟨hx, q⟩ | ⟨hx, q⟩
  · obtain ⟨its, r, ht, hz⟩ := I5.list hx
    have hlen := r.length
    refine tail_any (ops := [.ref a, .ref s4.heap.objs.size]) ht.isList.typeIs (PySem.slot_list_getitem.lookup) ?_ (by with_unfolding_all rfl)
    refine wpAny_getItem_list_slice ht.isList (Heap.IsSliceOf.new _ vl vu vs) pl pu ps (by decide) ?_ (by rw [List.size_toArray]; omega)
    rw [PySem.W.krv_pick]
    refine ⟨.ref _, _, I5.laid (t' := s4.toks) (o := .lst xs.reverse) (fun b ob q => Heap.get?_push_of_some _ q) (Nat.le_refl _) ?_, rfl, q _ (I5.hok.fresh (Nat.le_refl _))⟩
    exact ⟨by rw [List.length_reverse]; exact hz, _, 0, r.reverse, Heap.get?_push_size _ rfl⟩
  · obtain ⟨its, r, ht, hz⟩ := I5.tuple hx
    have hlen := r.length
    refine tail_any (ops := [.ref a, .ref s4.heap.objs.size]) ht.typeIs (PyProof.Rows.slot_tuple_getitem.lookup) ?_ (by with_unfolding_all rfl)
    refine getItem_tuple_rev ht (Heap.IsSliceOf.new _ vl vu vs) pl pu ps ?_ (by rw [List.size_toArray]; omega)
    refine ⟨.ref _, _, I5.laid (t' := s4.toks) (o := .tup xs.reverse) (fun b ob q => Heap.get?_push_of_some _ q) (Nat.le_refl _) ?_, rfl, q _ (I5.hok.fresh (Nat.le_refl _))⟩
    exact ⟨by rw [List.length_reverse]; exact hz, _, r.reverse, IsTup.new _ _⟩
def dRev : D → Option D
  | .list ds => some (.list ds.reverse)
  | .tuple ds => some (.tuple ds.reverse)
  | _ => none
def eRev (f : FE) : FE := fun ρ => o1 (f ρ) dRev
@[simp] theorem eRev_a (f : FE) (ρ : PEnv) : eRev f ρ = o1 (f ρ) dRev := id rfl
@[simp] theorem dRev_l (ds : List D) : dRev (.list ds) = some (.list ds.reverse) := id rfl
@[simp] theorem dRev_t (ds : List D) : dRev (.tuple ds) = some (.tuple ds.reverse) := id rfl
theorem same_hidC' {B : List Addr} {H : Hp} {p : Addr} {o : HO} (n : H p = none) : Same (hid B H) (hid (p :: B) (upd H p o)) := same_hidW (same_upd n) fun a h => by
  rcases List.mem_cons.mp h with e | h
  · rw [e]; exact .inr n
  · exact .inl h
theorem qe_rev {X : Cx} {K : PySem.W.Frag} {κ : Mo} {a : Expr} {fa : FE} {c : Esc} {k : Nat} {p1 p2 p3 pos : Pos} (ha : PE X a (tD K (.br 1) fa c)) (hX : X.K = K := by rfl) (hκ : κ.one = true := by rfl) :
    PE X (.Subscript a (.Slice none none (some (.UnaryOp .USub (.Constant (.int 1) k p1) p2)) p3) pos) (tD K κ (eRev fa) c) := (pe_revA ha).imp fun σ H Q ⟨B, L, ρ, d, g, es, hf, q⟩ => by
  subst hX
  obtain ⟨dx, h1, h2⟩ := o1_some hf
  refine ⟨B, L, ρ, dx, g, es, h1, fun x H1 s1 p1 => ?_⟩
  have ok := g.ok.mono s1
  unfold dRev at h2
  split at h2
  · cases (Option.some.inj h2)
    obtain ⟨p, ys, rfl, h1, h2⟩ := p1.list1
    refine ⟨p, ys, rfl, .inl ⟨SqL.of h1, fun t nt => q _ _ (s1.trans (same_upd nt)) ?_⟩⟩
    exact Post.new (κ := κ) (H' := upd H1 t (.lst ys.reverse)) g.ok.trk (s1.free nt) upd_same (h2.reverse.mono (same_hidC' nt)) hκ
  · cases (Option.some.inj h2)
    obtain ⟨p, ys, rfl, h1, h1', h2⟩ := p1.tup
    refine ⟨p, ys, rfl, .inr ⟨h1, fun t nt => ?_⟩⟩
    have s := same_upd (o := HO.tup ys.reverse) nt
    refine q _ _ (s1.trans s) (Post.of_flat (.tup (a := t) (xs := ys.reverse) ?_ (h2.reverse.mono (same_hid s))) rfl)
    rw [hid_out (ok.trk.new nt), upd_same]
  · cases h2
end DS
end

section
set_option Elab.async false
set_option linter.all false
set_option maxRecDepth 100000
set_option maxHeartbeats 1000000
/-! sorted(xs, key=f), where f's calls are only known by what they keep of the layer's heap. -/
namespace PySem.W
open PySem PySem.Calls PyProof.Rows
section
variable {prog : Program} {w : World} {A : Around} {E : Value → Shared → Prop} {s : Shared} {a kS : Addr} {b : Bool} {vs : List Value} {keys : Array Value} {e e1 : Nat} {P : PySem.Fin → Shared → Prop} {kz : List PyData}
theorem keyG_tail {st : SortSt} {out : List Value} (nk : s.heap.get? kS = some (seqObj "list" keys e)) (na : s.heap.get? a = some (seqObj "list" #[] e1)) (hka : kS ≠ a)
    (hsz : keys.size ≤ sizeLine) (hz : out.length ≤ sizeLine) (hfl : failedOf st = none) (ho : (if b = true then ((arrOf st).map (·.2)).reverse else (arrOf st).map (·.2)) = out.toArray)
    (h : ∀ (hm h' : Heap) (tk c : Nat), (∀ x o, x ≠ kS → s.heap.get? x = some o → hm.get? x = some o) → (∀ x o, x ≠ a → hm.get? x = some o → h'.get? x = some o) → h'.get? a = some (seqObj "list" out.toArray c) → P (.done (.ret .none)) { s with heap := h', toks := tk }) :
    wpAny (model prog w) A (ksk_tail a b e1 (.ref kS) st) P E s := by
  have s1 := Heap.SameBut.update s.heap kS (Obj.mapSeq fun _ => (#[] : Array Value))
  have na1 : (s.heap.update kS (Obj.mapSeq fun _ => (#[] : Array Value))).get? a = some (seqObj "list" #[] e1) := (s1.2 a hka.symm).trans na
  have s2 := Heap.SameBut.update (s.heap.update kS (Obj.mapSeq fun _ => (#[] : Array Value))) a (Obj.mapSeq fun _ => out.toArray)
  obtain ⟨c2, hc2⟩ : ∃ c2, ((s.heap.update kS (Obj.mapSeq fun _ => (#[] : Array Value))).update a (Obj.mapSeq fun _ => out.toArray)).get? a = some (seqObj "list" out.toArray c2) :=
    ⟨_, get?_update_seq na1 fun _ => out.toArray⟩
  have hz2 : out.toArray.size ≤ sizeLine + 1 := by
    rw [List.size_toArray]
    exact Nat.le_succ_of_le hz
  unfold ksk_tail
  try dsimp only
  rw [ho]
  refine wpAny_bind (listUpdate_at nk rfl ?_ hsz (Nat.zero_le _))
  refine wpAny_bind (wpAny_letGo ?_)
  refine wpAny_bind (seqEpoch_at na1 rfl ?_)
  refine wpAny_bind (listUpdate_at na1 rfl ?_ (Nat.zero_le _) hz2)
  rw [hfl]
  simp only [bne_self_eq_false, Bool.false_eq_true, if_false]
  exact wpAny_pure (h _ _ _ c2 (fun x o hx e => (s1.2 x hx).trans e) (fun x o hx e => (s2.2 x hx).trans e) hc2)
theorem keyG_end {κ : PyProof.Rows.KeyKind} (nk : s.heap.get? kS = some (seqObj "list" keys e)) (na : s.heap.get? a = some (seqObj "list" #[] e1)) (hka : kS ≠ a)
    (S : SortsAt prog w A s κ keys.toList) (hsz : keys.size = vs.length) (hZ : vs.length ≤ sizeLine)
    (h : ∀ (hm h' : Heap) (tk c : Nat), (∀ x o, x ≠ kS → s.heap.get? x = some o → hm.get? x = some o) → (∀ x o, x ≠ a → hm.get? x = some o → h'.get? x = some o) → h'.get? a = some (seqObj "list" (sortVals κ b keys.toList vs).toArray c) → P (.done (.ret .none)) { s with heap := h', toks := tk }) :
    wpAny (model prog w) A (ksk_end a b vs.toArray e1 (.ref kS) keys) P E s := by
  obtain ⟨kd, h1, h2⟩ := S.kind
  have hkl : keys.toList.length = vs.length := by
    rw [Array.length_toList]
    exact hsz
  have hK : PyProof.Rows.KeysOf κ (keys.zip vs.toArray) := keysOf_zip S.keys
  have hol : (sortVals κ b keys.toList vs).length = vs.length := sortVals_length b hkl
  have hstart : (if b = true then (keys.zip vs.toArray).reverse else keys.zip vs.toArray).Perm (keys.zip vs.toArray) := by
    cases b with
    | false => exact Array.Perm.refl _
    | true => exact Array.perm_iff_toList_perm.mpr (by rw [if_pos rfl, Array.toList_reverse]; exact List.reverse_perm _)
  have hss : (if b = true then (keys.zip vs.toArray).reverse else keys.zip vs.toArray).size = vs.length := by rw [hstart.size_eq, Array.size_zip, hsz, List.size_toArray, Nat.min_self]
  have fin : ∀ st' : SortSt, (arrOf st').Perm (if b = true then (keys.zip vs.toArray).reverse else keys.zip vs.toArray) → SortedToK κ (arrOf st') (if b = true then (keys.zip vs.toArray).reverse else keys.zip vs.toArray).size →
      Stable κ (arrOf st') (if b = true then (keys.zip vs.toArray).reverse else keys.zip vs.toArray) → (if b = true then ((arrOf st').map (·.2)).reverse else (arrOf st').map (·.2)) = (sortVals κ b keys.toList vs).toArray := by
    intro st' hp hs ht
    have e := sort_out (rev := b) (keys := keys) (items := vs.toArray) (xs := arrOf st') (κ := κ) hK hp hs ht
    have e' := congrArg List.toArray e
    rw [Array.toArray_toList] at e'
    exact e'
  have step : ∀ t : Sem PySem.Fin, wpAny (model prog w) A t P E s → wpAny (model prog w) A (if b = true then (do let _ ← rule "list.sort.reverse"; t) else t) P E s := by
    intro t ht
    split
    · exact wpAny_bind (wpAny_rule ht)
    · exact ht
  unfold ksk_end
  try dsimp only
  refine step _ ?_
  by_cases hl2 : vs.toArray.size < 2
  · rw [if_pos hl2, if_pos hl2]
    refine wpAny_bind (wpAny_pure ?_)
    rw [StateT.run_pure]
    refine wpAny_bind (wpAny_pure ?_)
    try dsimp only
    refine keyG_tail (st := SortSt.mk' general' (if b = true then (keys.zip vs.toArray).reverse else keys.zip vs.toArray) #[] 7 none) nk na hka (by rw [hsz]; exact hZ) (by rw [hol]; exact hZ) rfl (fin _ (Array.Perm.refl _) ?_ (Stable.refl _)) h
    intro i j hij hj
    rw [hss] at hj
    rw [List.size_toArray] at hl2
    have : i = j := by omega
    subst this
    exact KeyOrd.kle_refl _
  · rw [if_neg hl2, if_neg hl2]
    rw [List.size_toArray] at hl2
    refine wpAny_bind (h2 (by omega) _ ?_)
    refine wpAny_bind (wpAny_mono (H.wpS_sortRunsSt (κ := κ) (kd := kd) (a₀ := if b = true then (keys.zip vs.toArray).reverse else keys.zip vs.toArray)
      (st := SortSt.mk' kd (if b = true then (keys.zip vs.toArray).reverse else keys.zip vs.toArray) #[] 7 none)
      (Q := fun _ st' => failedOf st' = none ∧ (if b = true then ((arrOf st').map (·.2)).reverse else (arrOf st').map (·.2)) = (sortVals κ b keys.toList vs).toArray)
      h1 (hK.perm hstart) ⟨Array.Perm.refl _, rfl, rfl⟩ rfl (Stable.refl _) (by rw [hss]; omega) fun st' a1 a2 a3 a4 => ⟨a2, fin st' a1 a3 a4⟩) ?_ fun _ _ e => e)
    rintro ⟨⟨⟩, st'⟩ s' ⟨rfl, hf, ho⟩
    try dsimp only at ho ⊢
    exact keyG_tail nk na hka (by rw [hsz]; exact hZ) (by rw [hol]; exact hZ) hf ho h
end
end PySem.W
namespace DS
open PySem PySem.Spec PyProof.Rows L2 PySem.W PySem.Calls
section
variable {X : Cx} {pins : List (Addr × Obj)} {σ : L2.St} {H : Hp} {s : Shared}
/-- an address of an object made since: free for whatever is pinned there -/
structure Fresh (X : Cx) (pins : List (Addr × Obj)) (a : Addr) : Prop where
  nl : a ≠ X.env.locals
  nf : a ∉ X.fs
  sz : X.s_0.heap.objs.size ≤ a
  nc : ∀ x c, X.env.cells.lookup x = some c → c ≠ a
  np : ∀ p ∈ X.pn ++ pins, p.1 ≠ a
theorem fresh_of (I : Inv X pins σ H s) {a : Addr} (h : s.heap.objs.size ≤ a) : Fresh X pins a := by
  refine ⟨fun z => ?_, I.nofs h, Nat.le_trans I.sz h, fun x c e z => ?_, fun p hp z => ?_⟩
  · have q := I.lt
    rw [← z] at q
    exact absurd (Nat.lt_of_lt_of_le q h) (Nat.lt_irrefl _)
  · obtain ⟨v, o, ho, _⟩ := I.cell x c e
    have q := Heap.lt_size ho
    rw [z] at q
    exact absurd (Nat.lt_of_lt_of_le q h) (Nat.lt_irrefl _)
  · have q := Heap.lt_size (I.pin p hp).1
    rw [z] at q
    exact absurd (Nat.lt_of_lt_of_le q h) (Nat.lt_irrefl _)
theorem Fresh.nil {a : Addr} (f : Fresh X pins a) : ∀ p ∈ X.pn ++ ([] : List (Addr × Obj)), p.1 ≠ a := fun p hp => f.np p (List.mem_append_left _ (by simpa using hp))
theorem Inv.unpin {q : Addr × Obj} (I : Inv X (q :: pins) σ H s) : Inv X pins σ H s := I.pins_of fun p hp => by
  have := I.pin p (List.mem_append_right _ (.tail _ hp))
  exact this
/-- an own untracked object is tracked from now on -/
theorem Inv.track {a : Addr} {o : HO} (I : Inv X pins σ H s) (f : Fresh X pins a) (n : H a = none) (new : ObjOk X.prog X.w (upd H a o) s.heap a o) : Inv X pins σ (upd H a o) s := by
  have ns : ∀ b ob, X.s_0.heap.get? b = some ob → b ≠ a := fun b ob e z => by
    have q := Heap.lt_size e
    rw [z] at q
    exact absurd (Nat.lt_of_lt_of_le q f.sz) (Nat.lt_irrefl _)
  refine ⟨I.ok, I.os, I.bare, ⟨I.base.keep, I.base.slot, fun b ob e n' hx => ?_, I.base.there, fun b xs e => ?_, fun b ob u e => ?_, fun b ps e => ?_⟩, I.loc, I.cell, ?_, fun x c e => ?_, fun p hp => ?_, ?_, I.len⟩
  · rw [upd_ne (ns b ob e)]; exact I.base.free b ob e n' hx
  · have z := I.base.tups b xs e
    rw [upd_ne (ne_of_none z n)]; exact z
  · have z := I.base.frzs b ob u e
    rw [upd_ne (ne_of_none z n)]; exact z
  · obtain ⟨m, z⟩ := I.base.tbls b ps e
    exact ⟨m, by rw [upd_ne (ne_of_none z n)]; exact z⟩
  · rw [upd_ne f.nl.symm]; exact I.free
  · rw [upd_ne (f.nc x c e)]; exact I.freeC x c e
  · obtain ⟨e, h, r⟩ := I.pin p hp
    exact ⟨e, by rw [upd_ne (f.np p hp)]; exact h, r⟩
  · intro b u e
    by_cases hb : b = a
    · subst hb; rw [upd_same] at e; cases e; exact new
    · rw [upd_ne hb] at e
      exact (I.hok b u e).stay (fun c v _ q => q) (fun c q => by rw [upd_ne (ne_of_none q n)]; exact q) fun c xs q => by rw [upd_ne (ne_of_none q n)]; exact q
theorem Inv.repin {a : Addr} {o : Obj} (I : Inv X pins σ H s) (f : Fresh X [] a) (n : H a = none) (h : s.heap.get? a = some o) (d : ∀ v, o.data ≠ .cell v) : Inv X ((a, o) :: pins) σ H s := I.pins_of fun p hp => by
  rcases List.mem_cons.mp hp with e | hp
  · rw [e]; exact ⟨h, n, f.nl, f.nf, d⟩
  · exact I.pin p (List.mem_append_right _ hp)
theorem seq_nocell {c : String} {xs : Array Value} {n : Nat} : ∀ v, (seqObj c xs n).data ≠ .cell v := fun v z => by cases z
/-- all the turns of a sort's key, then the sort -/
theorem keyI_rest {f : Value} {a kS : Addr} {e1 : Nat} {vs : List Value} {xs : List V} {kz : List PyData} {b : Bool} {P : PySem.Fin → Shared → Prop} {E : Value → Shared → Prop} (I : Inv X pins σ H s)
    (fa : Fresh X pins a) (fk : Fresh X pins kS) (nHa : H a = none) (nHk : H kS = none) (hka : kS ≠ a) (nk : s.heap.get? kS = some (seqObj "list" #[] 0)) (na : s.heap.get? a = some (seqObj "list" #[] e1))
    (rv : Vals xs vs) (hlen : kz.length = vs.length) (hZ : vs.length ≤ sizeLine) (hlay : PyData.canLayAll0 kz = true) (hal : AllAlike kz) (hsk : ∀ d ∈ kz, d ≠ .none) (hu : ∀ d, d ∈ kz → X.A.in1.in1.units + d.depth < cLine)
    (turn : ∀ (i : Nat) (x : V) (k : PyData), xs[i]? = some x → kz[i]? = some k → ∀ pins' s' H', Inv X pins' σ H' s' → Same H H' → ∀ v, RelV x v →
      wpAny (model X.prog X.w) X.A.in1.in1 (call f [v]) (fun u s'' => ∃ z H'', Inv X pins' σ H'' s'' ∧ Same H' H'' ∧ RelV z u ∧ R X.K H'' z k) (fun _ _ => False) s')
    (h : ∀ s' H' out c, Inv X pins σ H' s' → Same H H' → H' a = none → s'.heap.get? a = some (seqObj "list" (List.toArray out) c) → KeyedOut b kz vs out → P (.done (.ret .none)) s') :
    wpAny (model X.prog X.w) X.A.in1.in1 (ksk_rest a f b vs.toArray e1 (.ref kS)) P E s := by
  unfold ksk_rest
  refine wpAny_bind (wpAny_rule ?_)
  first
    | rw [List.forIn_toArray]
    | (rw [← Array.forIn_toList]; simp only [List.toList_toArray])
    | rw [← Array.forIn_toList]
  have fk0 : Fresh X [] kS := ⟨fk.nl, fk.nf, fk.sz, fk.nc, fk.nil⟩
  have fa0 : Fresh X [] a := ⟨fa.nl, fa.nf, fa.sz, fa.nc, fa.nil⟩
  refine wpAny_bind (ksk_fold (fun i s' => ∃ H' kA e zs, Inv X ((kS, seqObj "list" kA e) :: (a, seqObj "list" #[] e1) :: pins) σ H' s' ∧ Same H H' ∧ Vals zs kA.toList ∧ RA X.K H' zs (kz.take i)) vs 0 s
    ⟨H, #[], 0, [], ?i0, Same.refl H, .nil, by rw [List.take_zero]; exact .nil⟩ ?step ?done)
  case i0 => exact Inv.repin (Inv.repin I fa0 nHa na seq_nocell) fk0 nHk nk seq_nocell
  case step =>
    rintro j x s' hx ⟨H', kA, e, zs, I', sm, rz, dz⟩
    simp only [Nat.zero_add] at dz ⊢
    have hj : j < vs.length := (List.getElem?_eq_some_iff.mp hx).1
    obtain ⟨k, hkj⟩ : ∃ k, kz[j]? = some k := ⟨_, List.getElem?_eq_getElem (by omega)⟩
    obtain ⟨xv, hxv⟩ : ∃ xv, xs[j]? = some xv := ⟨_, List.getElem?_eq_getElem (by have := rv.length; omega)⟩
    have rx : RelV xv x := by
      obtain ⟨u, e2, r⟩ := rv.get hxv
      rw [hx] at e2; cases e2; exact r
    have zl : zs.length = j := by
      have h1 := dz.length
      rw [List.length_take] at h1
      omega
    have hz : kA.size ≤ vs.length := by
      have h2 := rz.length
      have h3 : kA.toList.length = kA.size := Array.length_toList
      omega
    refine wpAny_bind (wpAny_attempt (wpAny_mono (turn j xv k hxv hkj _ s' H' I' sm x rx) (fun u s'' he => ?_) fun _ _ hF => hF.elim))
    obtain ⟨z, H'', I2, sm2, ru, du⟩ := he
    try dsimp only
    have nk2 : s''.heap.get? kS = some (seqObj "list" kA e) := (I2.pin _ (List.mem_append_right _ (.head _))).1
    have nH2 : H'' kS = none := (I2.pin _ (List.mem_append_right _ (.head _))).2.1
    have s1 := Heap.SameBut.update s''.heap kS (Obj.mapSeq (·.push u))
    obtain ⟨c2, hc2⟩ : ∃ c2, (s''.heap.update kS (Obj.mapSeq (·.push u))).get? kS = some (seqObj "list" (kA.push u) c2) := ⟨_, get?_update_seq nk2 (·.push u)⟩
    have ek : kz.take (j + 1) = kz.take j ++ [k] := by rw [List.take_add_one, hkj]; simp
    have ea : (kA.push u).toList = kA.toList ++ [u] := by simp
    refine wpAny_bind (listUpdate_at nk2 rfl ?_ (Nat.le_trans hz hZ) (Nat.le_trans (Nat.le_of_eq (Array.size_push ..)) (Nat.succ_le_succ (Nat.le_trans hz hZ))))
    have I3 : Inv X ((a, seqObj "list" #[] e1) :: pins) σ H'' s'' := Inv.unpin I2
    have I4 := I3.turned (t' := s''.toks) (it := kS) (h' := s''.heap.update kS (Obj.mapSeq (·.push u))) (fun b o hb e => (s1.2 b hb).trans e) nH2 fk.nl (.inr fk.sz) fk.nc (fun p hp => by
      rcases List.mem_append.mp hp with q | q
      · exact fk.np p (List.mem_append_left _ q)
      · rcases List.mem_cons.mp q with q | q
        · rw [q]; exact hka.symm
        · exact fk.np p (List.mem_append_right _ q))
    refine wpAny_pure ⟨rfl, H'', kA.push u, c2, zs ++ [z], Inv.repin I4 fk0 nH2 hc2 seq_nocell, sm.trans sm2, ?_, ?_⟩
    · rw [ea]; exact rz.append (.cons ru .nil)
    · rw [ek]
      exact (dz.mono sm2).append (.cons du .nil)
  case done =>
    rintro s' ⟨H', kA, e, zs, I', sm, rz, dz⟩
    have e3 : kz.take (0 + vs.length) = kz := List.take_of_length_le (by omega)
    rw [e3] at dz
    obtain ⟨as, ra⟩ := Dp.readsAll I' _ _ _ (RA.toDp dz hlay) rz
    have hk' : EachIs (fun v k => ∃ as, Reads s'.heap v k as) kA.toList kz := by
      have := readsAll_each (h := s'.heap) (vs := kA.toList) (bs := kz) (as := as) (fun d => d) (by rw [List.map_id']; exact ra)
      exact this
    have hsz : kA.size = vs.length := by
      have h1 := hk'.length
      rw [Array.length_toList] at h1
      omega
    have nk' : s'.heap.get? kS = some (seqObj "list" kA e) := (I'.pin _ (List.mem_append_right _ (.head _))).1
    have nH' : H' kS = none := (I'.pin _ (List.mem_append_right _ (.head _))).2.1
    have na' : s'.heap.get? a = some (seqObj "list" #[] e1) := (I'.pin _ (List.mem_append_right _ (.tail _ (.head _)))).1
    have nA' : H' a = none := (I'.pin _ (List.mem_append_right _ (.tail _ (.head _)))).2.1
    try dsimp only
    refine wpAny_bind (listItems_at nk' rfl ?_)
    refine keyG_end (κ := dataKind s'.heap kz) nk' na' hka (SortsAt.any hk' hal hsk hu) hsz hZ fun hm h' tk c k1 k2 hD => ?_
    have J1 : Inv X pins σ H' { s' with heap := hm, toks := s'.toks } := (Inv.unpin (Inv.unpin I')).turned (it := kS) k1 nH' fk.nl (.inr fk.sz) fk.nc fk.np
    have J2 : Inv X pins σ H' { s' with heap := h', toks := tk } := Inv.turned (s := { s' with heap := hm, toks := s'.toks }) (t' := tk) (it := a) J1 k2 nA' fa.nl (.inr fa.sz) fa.nc fa.np
    exact h _ H' _ c J2 sm nA' hD ⟨s'.heap, kA.toList, hal, rfl, hk'⟩
end

/-- what key= gives of a list's items -/
def keyLs (F : Fn) : List D → Option (List D)
  | [] => some []
  | d :: ds => match F [d], keyLs F ds with
    | some k, some ks => some (k :: ks)
    | _, _ => none
theorem keyLs_get {F : Fn} : ∀ {ds ks : List D}, keyLs F ds = some ks → ds.length = ks.length ∧ ∀ (i : Nat) (d k : D), ds[i]? = some d → ks[i]? = some k → F [d] = some k
  | [], ks, h => by cases (Option.some.inj h); exact ⟨rfl, fun i d k e _ => by simp at e⟩
  | d :: ds, ks, h => by
    unfold keyLs at h
    split at h
    · rename_i k ks' h1 h2
      cases (Option.some.inj h)
      obtain ⟨a1, a2⟩ := keyLs_get h2
      refine ⟨by simp [a1], fun i x y e1 e2 => ?_⟩
      cases i with
      | zero => simp at e1 e2; rw [← e1, ← e2]; exact h1
      | succ i => exact a2 i x y (by simpa using e1) (by simpa using e2)
    · cases h
def dSortK (F : Fn) : D → Option D
  | .list ds => match keyLs F ds with
    | some ks => if allCmp ks = true then some (.list (((ds.zip ks).mergeSort (fun u v => leD u.2 v.2)).map (·.1))) else none
    | none => none
  | _ => none
def eSortK (F : Fn) (f : FE) : FE := fun ρ => o1 (f ρ) (dSortK F)
@[simp] theorem eSortK_a (F : Fn) (f : FE) (ρ : PEnv) : eSortK F f ρ = o1 (f ρ) (dSortK F) := id rfl
def rSortK (K : PySem.W.Frag) (F : Fn) (fa : Addr) : List V → List V → Hp → VK → Prop := fun vs zs H Q => ∃ a xs ds ks, vs = [.ref a] ∧ zs = [.ref fa] ∧ SqL K H a xs ∧ RA K H xs ds ∧ keyLs F ds = some ks ∧ allCmp ks = true ∧
  ∀ H' p, Same H H' → H' p = none → Q (.ref p) (upd H' p (.lst (((xs.zip ks).mergeSort (fun u v => leD u.2 v.2)).map (·.1))))
section
variable {X : Cx} {K : PySem.W.Frag}
theorem crk_sortedK {fa : Addr} {fd : FuncData} {ps : List Str} {F : Fn} {k : Nat} (G : FnOk X.prog X.w X.K X.mg X.base CX0 k fa fd ps (spD X.K 1 F)) (hr : Room (k + 2) X.A) (hb : Binds X.K fd ps []) : CallRK X (.builtin "sorted") [Str.ofString "key"] (rSortK X.K F fa) := by
  intro pins s σ H vs zs us ws Q I r rz h
  obtain ⟨a, xs, ds, ks, rfl, rfl, hs, ra, hk, ok, q⟩ := h
  obtain ⟨f1, f2, f3⟩ := allCmp_facts ok
  obtain ⟨kl, kg⟩ := keyLs_get hk
  obtain ⟨its, rv, hl, hz⟩ := I.list hs
  have hlen := ra.length
  have hvl := rv.length
  rw [Vals.ref1 r]
  obtain ⟨wz, rfl, rw'⟩ := vals1 rz
  cases (show wz = Value.ref fa from rw')
  show wpAny _ _ (call (.builtin "sorted") [.ref a] [(Str.ofString "key", .ref fa)]) _ _ _
  have hZ : its.length ≤ sizeLine := by rw [← hvl]; exact hz
  have lk : ks.length = its.length := by omega
  refine sorted_of_sort hl.isList hZ (ksk_s1 _ _) (fun _ => ksk_l1 _ _) fun E' => ?_
  rw [ksk_t1]
  have sz1 : s.heap.objs.size ≤ s.heap.objs.size + 1 := Nat.le_succ _
  have ho : (copyHeap s.heap its).get? (s.heap.objs.size + 1) = some (seqObj "list" its.toArray 0) := copyHeap_at s.heap its
  have kp : ∀ b o, s.heap.get? b = some o → (sortingHeap (copyHeap s.heap its) (s.heap.objs.size + 1) its).get? b = some o := fun b o e =>
    sortingHeap_old (Nat.ne_of_lt (Nat.lt_succ_of_lt (Heap.lt_size e))) (copyHeap_old e)
  obtain ⟨e1, ho1⟩ : ∃ e1, ((copyHeap s.heap its).update (s.heap.objs.size + 1) (Obj.mapSeq fun _ => (#[] : Array Value))).get? (s.heap.objs.size + 1) = some (seqObj "list" #[] e1) := ⟨_, get?_update_seq ho fun _ => #[]⟩
  have cz : (copyHeap s.heap its).objs.size = s.heap.objs.size + 2 := by
    unfold copyHeap
    rw [size_push', Heap.size_update, size_push']
  have hkS : (((copyHeap s.heap its).update (s.heap.objs.size + 1) (Obj.mapSeq fun _ => (#[] : Array Value))).push (seqObj "tuple" its.toArray 0)).objs.size = s.heap.objs.size + 3 := by rw [size_push', Heap.size_update, cz]
  unfold ksk_tree
  refine wpAny_bind (listItems_at ho rfl ?_)
  refine wpAny_bind (listUpdate_at ho rfl ?_ (by rw [List.size_toArray]; exact hZ) (Nat.zero_le _))
  refine wpAny_bind (seqEpoch_at ho1 rfl ?_)
  refine wpAny_bind (wpAny_newTuple ?_ (by show its.length ≤ _; exact hZ))
  refine wpAny_bind (wpAny_newList ?_ (Nat.zero_le _))
  refine wpAny_holding ?_
  have I1 : Inv X pins σ H { s with heap := sortingHeap (copyHeap s.heap its) (s.heap.objs.size + 1) its } := I.kept (t' := s.toks) kp
  have fa' := fresh_of I sz1
  have fk' : Fresh X pins (s.heap.objs.size + 3) := fresh_of I (Nat.le_add_right _ 3)
  refine keyI_rest (X := X) (pins := pins) (σ := σ) (H := H) (s := { s with heap := sortingHeap (copyHeap s.heap its) (s.heap.objs.size + 1) its }) (kz := ks) (xs := xs) I1 fa' (by rw [hkS]; exact fk') (I.hok.fresh sz1) (I.hok.fresh (by rw [hkS]; exact Nat.le_add_right _ 3)) (by rw [hkS]; exact Nat.ne_of_gt (by omega))
    (Heap.get?_push_size _ rfl) (Heap.get?_push_of_some _ (Heap.get?_push_of_some _ ho1)) rv lk hZ f1 f3.1 f3.2 (fun d hd => ?_) (fun i x kk hx hkk pins' s' H' I' sm v rx => ?_) (fun s' H' out c J sm nA hD ko => ⟨rfl, ?_⟩)
  · have := depth_mem hd
    have u1 := hr.units
    show X.A.units + 1 + 1 + d.depth < cLine
    have := hr.un
    omega
  · obtain ⟨d, hd, rxd⟩ := ra.getV hx
    have hF := kg i d kk hd hkk
    refine wpAny_call (codeAny_mono (G.run X.A.in1.in1 X.stack s' H' ⟨[v], []⟩ [v] [x] (fun z H'' => Same H' H'' ∧ R X.K H'' z kk) E0 ((hr.in1).in1) I'.env0.in1.in1 (by
      have := hb s' [v] I'.kIn (by have := G.len [x] H' (fun z H'' => Same H' H'' ∧ R X.K H'' z kk) E0 ⟨[], [d], kk, Ok.nil, .cons (by rw [hid_nil]; exact rxd.mono sm) .nil, rfl, hF, fun z H'' s2 r2 => ⟨s2, by rw [hid_nil] at r2; exact r2⟩⟩; simpa using this)
      simpa using this) (.cons rx .nil) ⟨[], [d], kk, Ok.nil, .cons (by rw [hid_nil]; exact rxd.mono sm) .nil, rfl, hF, fun z H'' s2 r2 => ⟨s2, by rw [hid_nil] at r2; exact r2⟩⟩) fun r s'' hq => ?_)
    cases r with
    | error e => exact hq.elim
    | ok fl =>
      cases fl with
      | ret u =>
        obtain ⟨z, H'', I2, r2, s2, r3⟩ := I'.after hq
        exact ⟨z, H'', I2, s2, r2, r3⟩
      | next => exact False.elim hq
      | brk => exact False.elim hq
      | cont => exact False.elim hq
  · have zz : (xs.zip ks).map (fun b : V × D => b.2) = ks := zip_snd (by omega)
    have hR : EachIs (fun u (b : V × D) => RelV b.1 u) its (xs.zip ks) := each_zip (R := fun u x => RelV x u) (xs := xs) (ds := ks) rv.length.symm (hlen.trans kl) fun i u x e1 e2 => by
      obtain ⟨u', e3, r3⟩ := rv.get e2
      rw [e1] at e3
      cases e3
      exact r3
    have ko' : KeyedOut false ((xs.zip ks).map fun b : V × D => b.2) its out := by rw [zz]; exact ko
    have eo := keyedOut_each (fun b : V × D => b.2) ko' hR
    have hv := each_vals eo
    have hol : out.length = its.length := ko.length lk
    refine ⟨.ref (s.heap.objs.size + 1), upd H' (s.heap.objs.size + 1) (.lst (((xs.zip ks).mergeSort (fun u v => leD u.2 v.2)).map (·.1))), Inv.track J fa' nA ⟨?_, out, c, hv, hD⟩, rfl, q H' _ sm nA⟩
    rw [List.length_map, List.length_mergeSort, List.length_zip]
    omega
end

section
variable {X : Cx} {K : PySem.W.Frag} {κ : Mo} {x y : Str} {p pos kpos py : Pos} {e : Expr} {f : FE} {c : Esc}
theorem zip_fst_map {α β γ : Type} : ∀ {xs : List α} {ks : List β}, xs.length = ks.length → (xs.zip ks).map (·.1) = xs
  | [], [], _ => rfl
  | x :: xs, d :: ds, h => by
    simp only [List.zip_cons_cons, List.map_cons]
    rw [zip_fst_map (γ := γ) (by simpa using h)]
  | [], _ :: _, h => by simp at h
  | _ :: _, [], h => by simp at h
theorem RA.sortedK {H : Hp} {xs : List V} {ds ks : List D} (r : RA K H xs ds) (hl : ds.length = ks.length) : RA K H (((xs.zip ks).mergeSort (fun u v => leD u.2 v.2)).map (·.1)) (((ds.zip ks).mergeSort (fun u v => leD u.2 v.2)).map (·.1)) := by
  -- triples (value, tree, key)
  let zs := (xs.zip ds).zip ks
  have hx := r.length
  have e1 : zs.map (fun t => (t.1.1, t.2)) = xs.zip ks := by
    refine List.ext_getElem? fun i => ?_
    simp only [zs, List.getElem?_map, List.zip]
    rcases hi : xs[i]? with _ | v
    · simp [List.getElem?_zipWith, hi]
    · have : i < xs.length := (List.getElem?_eq_some_iff.mp hi).1
      have h2 : ds[i]? = some ds[i] := List.getElem?_eq_getElem (by omega)
      have h3 : ks[i]? = some ks[i] := List.getElem?_eq_getElem (by omega)
      simp [List.getElem?_zipWith, hi, h2, h3]
  have e2 : zs.map (fun t => (t.1.2, t.2)) = ds.zip ks := by
    refine List.ext_getElem? fun i => ?_
    simp only [zs, List.getElem?_map, List.zip]
    rcases hi : ds[i]? with _ | v
    · simp [List.getElem?_zipWith, hi]
    · have : i < ds.length := (List.getElem?_eq_some_iff.mp hi).1
      have h2 : xs[i]? = some xs[i] := List.getElem?_eq_getElem (by omega)
      have h3 : ks[i]? = some ks[i] := List.getElem?_eq_getElem (by omega)
      simp [List.getElem?_zipWith, hi, h2, h3]
  have s1 := PySem.W.sort_maps (r := fun u v : (V × D) × D => leD u.2 v.2) (s := fun u v : V × D => leD u.2 v.2) (fun t : (V × D) × D => (t.1.1, t.2)) (l := zs) fun _ _ _ _ => rfl
  have s2 := PySem.W.sort_maps (r := fun u v : (V × D) × D => leD u.2 v.2) (s := fun u v : D × D => leD u.2 v.2) (fun t : (V × D) × D => (t.1.2, t.2)) (l := zs) fun _ _ _ _ => rfl
  rw [e1] at s1
  rw [e2] at s2
  rw [← s1, ← s2, List.map_map, List.map_map]
  have all : ∀ t ∈ zs, R K H t.1.1 t.1.2 := by
    intro t ht
    have hp := (List.of_mem_zip (show (t.1, t.2) ∈ (xs.zip ds).zip ks from ht)).1
    obtain ⟨i, hi⟩ := List.getElem?_of_mem hp
    have := List.getElem?_zip_eq_some.mp hi
    obtain ⟨y, e, ry⟩ := r.get this.2
    rw [this.1] at e
    cases e
    exact ry
  have go : ∀ l : List ((V × D) × D), (∀ t ∈ l, R K H t.1.1 t.1.2) → RA K H (l.map ((·.1) ∘ fun t => (t.1.1, t.2))) (l.map ((·.1) ∘ fun t => (t.1.2, t.2))) := by
    intro l hl
    induction l with
    | nil => exact .nil
    | cons t l ih => exact .cons (hl t (.head _)) (ih fun q hq => hl q (.tail _ hq))
  exact go _ fun t ht => all t ((List.mergeSort_perm _ _).mem_iff.mp ht)
/-- sorted(e, key=y), y a def of the program -/
theorem qe_sortK {fa : Addr} {fd : FuncData} {ps : List Str} {F : Fn} {k : Nat} (G : FnOk X.prog X.w X.K X.mg X.base CX0 k fa fd ps (spD X.K 1 F)) (hr : Room (k + 2) X.A) (hb : Binds X.K fd ps []) (hg : Gl X x) (hm : X.mg x = none) (hv : bootBuiltins x = some (.builtin "sorted")) (hgy : Gl X y) (hmy : X.mg y = some (.ref fa)) (ha : PE X e (tD K (.br 1) f c)) (hX : X.K = K := by rfl) (hκ : κ.one = true := by rfl) (hn : x ≠ "__name__" := by decide) (hdb : (x == ("__debug__" : Str)) = false := by decide) (hdy : (y == ("__debug__" : Str)) = false := by decide)
    (hs : starEach [e] X.env = (false, eval e X.env) :: starEach [] X.env := by rfl)
    (he : backTo pos (starEach [e] X.env) = (false, eval e X.env) :: backTo pos (starEach [] X.env) := by rfl) (hpl : (backTo pos (starEach [e] X.env)).any (·.1) = false := by rfl)
    (hall : (backToKw pos (keywordEach [{ arg := some (Str.ofString "key"), value := .Name y py, pos := kpos }] X.env)).all (·.1.isSome) = true := by rfl) (hnone : (backToKw pos (keywordEach [{ arg := some (Str.ofString "key"), value := .Name y py, pos := kpos }] X.env)).any (·.1.isNone) = false := by rfl) (hks : (backToKw pos (keywordEach [{ arg := some (Str.ofString "key"), value := .Name y py, pos := kpos }] X.env)).filterMap (·.1) = [Str.ofString "key"] := by rfl) :
    PE X (.Call (.Name x p) [e] [{ arg := some (Str.ofString "key"), value := .Name y py, pos := kpos }] pos) (tD K κ (eSortK F f) c) :=
  (pe_callBK (crk_sortedK G hr hb) hg hm hv (pa_cons ha pa_nil hs) (pk_cons (pe_glob hgy hmy (v := .ref fa) rfl hdy) pk_nil) hn hdb he hpl hall hnone hks).imp fun σ H Q ⟨B, L, ρ, d, gd, es, hf, q⟩ => by
    subst hX
    obtain ⟨dx, h1, h2⟩ := o1_some hf
    refine ⟨B, L, ρ, dx, gd, es, h1, fun v H1 s1 p1 => ?_⟩
    unfold dSortK at h2
    split at h2
    · rename_i ds
      split at h2
      · rename_i ks hk
        obtain ⟨hc, e⟩ := ite_some h2
        subst e
        obtain ⟨p, ys, rfl, e1, e2⟩ := p1.list1
        obtain ⟨kl, _⟩ := keyLs_get hk
        refine ⟨p, ys, ds, ks, rfl, rfl, SqL.of e1, e2.mono same_unhid, hk, hc, fun H' l sm nl => ?_⟩
        have s2 := same_upd (o := .lst (((ys.zip ks).mergeSort (fun u v => leD u.2 v.2)).map (·.1))) nl
        refine q _ _ ((s1.trans sm).trans s2) (Post.new gd.ok.trk ((s1.trans sm).free nl) upd_same (((e2.mono (same_hid sm)).sortedK kl).mono (same_hidC nl)) hκ)
      · cases h2
    · cases h2
end
end DS
end

section
set_option Elab.async false
set_option linter.all false
set_option maxRecDepth 100000
set_option maxHeartbeats 1000000
/-! Part j of the dicts' row: names = values, any of them new lists of their own. -/
namespace DS
open PySem PySem.Spec PyProof.Rows L2
/-- (slot, is the value new and the name's own?, value) -/
abbrev Row := List (Nat × Bool × FE)
def rowVals : Row → PEnv → Option (List D)
  | [], _ => some []
  | (_, own, f) :: r, ρ => match f ρ with
    | none => none
    | some d => if (own || flat d) = true then (match rowVals r ρ with
      | none => none
      | some ds => some (d :: ds)) else none
def setsL (L : List Nat) (l : List (Nat × Bool)) : List Nat := l.foldl (fun L p => L.set p.1 (if p.2 = true then 1 else 0)) L
def sParN (rs : Row) (c : Esc) : FS := fun s => match rowVals rs s.1 with
  | none => .stuck
  | some ds => .next (setsD s.1 ((rs.map (·.1)).zip ds), setsL (demote c s.2) (rs.map fun r => (r.1, r.2.1)))
/-- the reading of the values -/
def tRow (K : PySem.W.Frag) : List (Bool × FE × Esc) → TA
  | [] => tNil
  | (own, f, c) :: r => tCons (tD K (if own = true then .fr else .br 0) f c) (tRow K r)
def escRow : List (Bool × FE × Esc) → Esc
  | [] => []
  | (own, _, c) :: r => (if own = true then c else []) ++ escRow r
section
variable {X : Cx} {K : PySem.W.Frag}
theorem qr_nil : PA X [] (tRow K []) := pa_nil
theorem qr_v {e : Expr} {es : List Expr} {f : FE} {c : Esc} {r : List (Bool × FE × Esc)} (h : PE X e (tD K (.br 0) f c)) (t : PA X es (tRow K r)) (hs : starEach (e :: es) X.env = (false, eval e X.env) :: starEach es X.env := by rfl) : PA X (e :: es) (tRow K ((false, f, c) :: r)) := pa_cons h t hs
theorem qr_f {e : Expr} {es : List Expr} {f : FE} {c : Esc} {r : List (Bool × FE × Esc)} (h : PE X e (tD K .fr f c)) (t : PA X es (tRow K r)) (hs : starEach (e :: es) X.env = (false, eval e X.env) :: starEach es X.env := by rfl) : PA X (e :: es) (tRow K ((true, f, c) :: r)) := pa_cons h t hs
end
def rowV (is : List Nat) (rs : List (Bool × FE × Esc)) : Row := (is.zip rs).map fun p => (p.1, p.2.1, p.2.2.1)
section
variable {K : PySem.W.Frag} {B0 : List Addr} {G : Hp} {σ : St} {ρ : PEnv} {L : List Nat}
theorem setsL_snoc (L : List Nat) (l : List (Nat × Bool)) (p : Nat × Bool) : setsL L (l ++ [p]) = (setsL L l).set p.1 (if p.2 = true then 1 else 0) := by
  unfold setsL; rw [List.foldl_append]; rfl
theorem setsD_snoc (ρ : PEnv) (l : List (Nat × D)) (p : Nat × D) : setsD ρ (l ++ [p]) = (setsD ρ l).set p.1 (some p.2) := by
  unfold setsD; rw [List.foldl_append]; rfl
theorem setsV_snoc (σ : St) (l : List (Nat × V)) (p : Nat × V) : setsV σ (l ++ [p]) = (setsV σ l).set p.1 (some p.2) := by
  unfold setsV; rw [List.foldl_append]; rfl
theorem row_ok : ∀ (rs : List (Bool × FE × Esc)) (is js : List Nat) (vs : List V) (ds0 ds : List D) (ow : List Bool) (B : List Addr) (H : Hp) (Q : List V → Hp → Prop), is.length = rs.length → js.length = vs.length → js.length = ds0.length → js.length = ow.length →
    Good K B (lv L) σ H ρ → EscOk (escRow rs) (lv L) → rowVals (rowV is rs) ρ = some ds →
    (∃ O' B', GoodS K B0 G O' B' (setsV σ (js.zip vs)) H (setsD ρ (js.zip ds0)) (setsL L (js.zip ow)) ∧ ∀ a ∈ B', a ∈ B) →
    (∀ ws H', (js ++ is).length = (vs ++ ws).length → ws.length = rs.length → (∃ O' B', GoodS K B0 G O' B' (setsV σ ((js ++ is).zip (vs ++ ws))) H' (setsD ρ ((js ++ is).zip (ds0 ++ ds))) (setsL L ((js ++ is).zip (ow ++ rs.map (·.1))))) → Q ws H') → tRow K rs σ H Q
  | [], [], js, vs, ds0, ds, ow, B, H, Q, _, h1, h2, h3, gd, es, hv, ⟨O', B', g, _⟩, q => by
    cases (Option.some.inj hv)
    refine q [] H (by simpa using h1) rfl ⟨O', B', ?_⟩
    simpa using g
  | [], _ :: _, _, _, _, _, _, _, _, _, h, _, _, _, _, _, _, _, _ => by simp at h
  | _ :: _, [], _, _, _, _, _, _, _, _, h, _, _, _, _, _, _, _, _ => by simp at h
  | (own, f, c) :: rs, i :: is, js, vs, ds0, ds, ow, B, H, Q, hl, h1, h2, h3, gd, es, hv, ⟨O', B', g, hB⟩, q => by
    unfold rowV at hv
    simp only [List.zip_cons_cons, List.map_cons] at hv
    unfold rowVals at hv
    split at hv
    · cases hv
    · rename_i d hd
      split at hv
      · rename_i hfl
        split at hv
        · cases hv
        · rename_i ds' hv'
          cases (Option.some.inj hv)
          have z1 : ∀ w : V, (js ++ [i]).zip (vs ++ [w]) = js.zip vs ++ [(i, w)] := fun w => by rw [List.zip_append h1]; rfl
          have z2 : (js ++ [i]).zip (ds0 ++ [d]) = js.zip ds0 ++ [(i, d)] := by rw [List.zip_append h2]; rfl
          have z3 : (js ++ [i]).zip (ow ++ [own]) = js.zip ow ++ [(i, own)] := by rw [List.zip_append h3]; rfl
          have next : ∀ (v : V) (H1 : Hp) (B1 : List Addr), Good K B1 (lv L) σ H1 ρ → (∃ O'' B'', GoodS K B0 G O'' B'' (setsV σ (js.zip vs ++ [(i, v)])) H1 (setsD ρ (js.zip ds0 ++ [(i, d)])) (setsL L (js.zip ow ++ [(i, own)])) ∧ ∀ a ∈ B'', a ∈ B1) → tRow K rs σ H1 fun ws H' => Q (v :: ws) H' := fun v H1 B1 g1 hg => by
            refine row_ok rs is (js ++ [i]) (vs ++ [v]) (ds0 ++ [d]) ds' (ow ++ [own]) B1 H1 _ (by simpa using hl) (by simp [h1]) (by simp [h2]) (by simp [h3]) g1 es.right hv' (by rw [z1, z2, z3]; exact hg) fun ws H' a1 a2 a3 => ?_
            refine q (v :: ws) H' (by simpa [List.append_assoc, Nat.add_comm, Nat.add_left_comm] using a1) (by simp [a2]) ?_
            simpa [List.append_assoc] using a3
          cases own with
          | true =>
            have es1 : EscOk c (lv L) := fun p hp => es p (by unfold escRow; simp [hp])
            refine ⟨B, lv L, ρ, d, gd, es1, hd, fun v H1 e1 p1 => ?_⟩
            obtain ⟨o, hn, nd, ro⟩ := p1
            have sw : Same (hid B H) (hid (o ++ B) H1) := same_hidW e1 fun a h => (List.mem_append.mp h).elim (fun h => .inr (hn a h)) .inl
            have gd2 : Good K (o ++ B) (lv L) σ H1 ρ := ⟨(ro.mut_aux).append (gd.ok.mono e1), gd.len, fun k x h => let ⟨w, h1, h2⟩ := gd.slot k x h; ⟨w, h1, h2.mono e1 sw⟩⟩
            refine next v H1 (o ++ B) gd2 ?_
            have ro3 : RO K (o ++ B') H1 1 o v d := ro.mono_aux (same_hidW (Same.refl H1) fun a h => .inl ((List.mem_append.mp h).elim (fun h => List.mem_append_left _ h) fun h => List.mem_append_right _ (hB a h))) fun _ _ => rfl
            obtain ⟨O2, B2, g2, hB2⟩ := g.assign (i := i) e1 hn nd ro3
            refine ⟨O2, B2, by rw [setsV_snoc, setsD_snoc, setsL_snoc]; exact g2, fun a ha => (List.mem_append.mp (hB2 a ha)).elim (fun h => List.mem_append_left _ h) fun h => List.mem_append_right _ (hB a h)⟩
          | false =>
            have hfd : flat d = true := by simpa using hfl
            refine ⟨[], _, ρ, d, gd.zero, .zero, hd, fun v H1 e1 p1 => ?_⟩
            refine next v H1 B (gd.mono e1) ?_
            obtain ⟨O2, B2, g2, hB2⟩ := (g.mono e1).assign0 (i := i) ((RL.r0 p1).hidF (g.mono e1).ok.noTup hfd)
            exact ⟨O2, B2, by rw [setsV_snoc, setsD_snoc, setsL_snoc]; exact g2, fun a ha => hB a (hB2 a ha)⟩
      · cases hv
/-- all of a row -/
theorem row_all {rs : List (Bool × FE × Esc)} {is : List Nat} {H : Hp} {s : S} {E : Out → Prop} {Q : List V → Hp → Prop} (hl : is.length = rs.length) (hs : GS K B0 G σ H s) (hv : ∃ ds, rowVals (rowV is rs) s.1 = some ds ∧ ∀ ws H', ws.length = rs.length → GS K B0 G (setsV σ (is.zip ws)) H' (setsD s.1 (is.zip ds), setsL (demote (escRow rs) s.2) (is.zip (rs.map (·.1)))) → Q ws H') : tRow K rs σ H Q := by
  obtain ⟨ds, h1, q⟩ := hv
  obtain ⟨O, B, gd⟩ := hs
  obtain ⟨O', B', g', _⟩ := gd.demote (escRow rs)
  refine row_ok rs is [] [] [] ds [] B' H Q hl rfl rfl rfl g'.good (demote_ok _ _) h1 ⟨O', B', g', fun _ h => h⟩ fun ws H' _ a2 a3 => q ws H' a2 ?_
  unfold GS
  simpa using a3
end
theorem rowV_ix : ∀ {is : List Nat} {rs : List (Bool × FE × Esc)}, is.length = rs.length → (rowV is rs).map (·.1) = is ∧ (rowV is rs).map (fun r => (r.1, r.2.1)) = is.zip (rs.map (·.1))
  | [], [], _ => ⟨rfl, rfl⟩
  | i :: is, r :: rs, h => by
    obtain ⟨a, b⟩ := rowV_ix (is := is) (rs := rs) (by simpa using h)
    unfold rowV at a b ⊢
    simp only [List.zip_cons_cons, List.map_cons]
    exact ⟨by rw [a], by rw [b]⟩
  | [], _ :: _, h => by simp at h
  | _ :: _, [], h => by simp at h
section
variable {X : Cx} {K : PySem.W.Frag}
theorem parN_core {is : List Nat} {rs : List (Bool × FE × Esc)} {E : Ends} {σ : St} {H : Hp} {Q : List V → Hp → Prop} (hl : is.length = rs.length) (h : tS K (sParN (rowV is rs) (escRow rs)) E σ H) (q : ∀ ws H' , ws.length = rs.length → E.nx (setsV σ (is.zip ws)) H' → Q ws H') : tRow K rs σ H Q := by
  obtain ⟨B0, G, s, hs, hq⟩ := h
  unfold sParN at hq
  split at hq
  · exact hq.elim
  · rename_i ds hv
    refine row_all (E := fun _ => True) hl hs ⟨ds, hv, fun ws H' hw g => q ws H' hw (hq _ H' ?_)⟩
    rw [(rowV_ix hl).1, (rowV_ix hl).2]
    exact g
theorem ss_parN2 (i j : Nat) {x y : Str} {a b : Expr} {r1 r2 : Bool × FE × Esc} {px py pt pos : Pos} {kt k2 pt2} (hc : X.calm = true) (hN : X.N.Nodup) (ha : PA X [a, b] (tRow K [r1, r2]))
    (hw : swappedStores [.Tuple [.Name x px, .Name y py] kt pt] (.Tuple [a, b] k2 pt2) X.env = pure (some [x, y])) (hi : X.N[i]? = some x := by rfl) (hj : X.N[j]? = some y := by rfl) (hij : i ≠ j := by decide)
    (hx : X.env.scope.names.lookup x = some .local := by rfl) (hy : X.env.scope.names.lookup y = some .local := by rfl)
    (hs : swapsWithSole [.Tuple [.Name x px, .Name y py] kt pt] (.Tuple [a, b] k2 pt2) pos.line X.env = pure false := by rfl) :
    PS X (.Assign [.Tuple [.Name x px, .Name y py] kt pt] (.Tuple [a, b] k2 pt2) pos) (tS K (sParN (rowV [i, j] [r1, r2]) (escRow [r1, r2]))) := (ps_par hc hN hi hj hij hx hy ha hw hs).imp fun E σ H h =>
  parN_core (is := [i, j]) rfl h fun ws H' hl q => by
    match ws, hl with
    | [v, w], _ => exact ⟨v, w, rfl, q⟩
theorem ss_parN3 (i j k : Nat) {x y z : Str} {a b c : Expr} {r1 r2 r3 : Bool × FE × Esc} {px py pz pt pos : Pos} {kt k2 pt2} (hc : X.calm = true) (hN : X.N.Nodup) (ha : PA X [a, b, c] (tRow K [r1, r2, r3]))
    (hw : swappedStores [.Tuple [.Name x px, .Name y py, .Name z pz] kt pt] (.Tuple [a, b, c] k2 pt2) X.env = pure (some [x, y, z])) (hi : X.N[i]? = some x := by rfl) (hj : X.N[j]? = some y := by rfl) (hk : X.N[k]? = some z := by rfl) (hij : i ≠ j := by decide) (hik : i ≠ k := by decide) (hjk : j ≠ k := by decide)
    (hx : X.env.scope.names.lookup x = some .local := by rfl) (hy : X.env.scope.names.lookup y = some .local := by rfl) (hz : X.env.scope.names.lookup z = some .local := by rfl)
    (hs : swapsWithSole [.Tuple [.Name x px, .Name y py, .Name z pz] kt pt] (.Tuple [a, b, c] k2 pt2) pos.line X.env = pure false := by rfl) :
    PS X (.Assign [.Tuple [.Name x px, .Name y py, .Name z pz] kt pt] (.Tuple [a, b, c] k2 pt2) pos) (tS K (sParN (rowV [i, j, k] [r1, r2, r3]) (escRow [r1, r2, r3]))) := (ps_par3 hc hN hi hj hk hij hik hjk hx hy hz ha hw hs).imp fun E σ H h =>
  parN_core (is := [i, j, k]) rfl h fun ws H' hl q => by
    match ws, hl with
    | [u, v, w], _ => exact ⟨u, v, w, rfl, q⟩
/-- the names of a row, one after another -/
inductive Names (X : Cx) : List Expr → List Nat → Prop
  | nil : Names X [] []
  | cons {x : Str} {p : Pos} {i : Nat} {es : List Expr} {is : List Nat} (hi : X.N[i]? = some x) (hx : Loc X.env.scope x) (hf : X.fn x = true ∨ X.env.scope.names.lookup x = some .local) (hs : (assignEach (.Name x p :: es) X.env).map (·.2) = assign (.Name x p) X.env :: (assignEach es X.env).map (·.2)) (t : Names X es is) : Names X (.Name x p :: es) (i :: is)
def gNames (is : List Nat) : TGs := fun vs σ H Q => vs.length = is.length ∧ Q (setsV σ (is.zip vs)) H
theorem pgs_names (hN : X.N.Nodup) : ∀ {es : List Expr} {is : List Nat}, Names X es is → PGs X es (gNames is)
  | _, _, .nil => pgs_nil.imp fun vs σ H Q ⟨h, q⟩ => by
    have e : vs = [] := by simpa using h
    subst e
    exact ⟨rfl, q⟩
  | _, _, .cons (i := i) hi hx hf hs t => (pgs_cons (pg_name hN hi hx hf) (pgs_names hN t) hs).imp fun vs σ H Q ⟨h, q⟩ => by
    match vs, h with
    | v :: vs, h => exact ⟨v, vs, rfl, by simpa using h, q⟩
theorem setsV_same {K : PySem.W.Frag} {B0 B : List Addr} {G H : Hp} {O : Nat → List Addr} {σ : St} {ρ : PEnv} {L : List Nat} {p : Addr} {xs : List V} (g : GoodS K B0 G O B σ H ρ L) (n : H p = none) : GoodS K B0 G O B σ (upd H p (.tup xs)) ρ L := g.mono (same_upd n)
theorem ss_parNT (is : List Nat) {ts es : List Expr} {rs : List (Bool × FE × Esc)} {kt k2 : Nat} {pt pt2 pos : Pos} (hc : X.calm = true) (hN : X.N.Nodup) (ha : PA X es (tRow K rs)) (hn : Names X ts is) (hl : is.length = rs.length) (hz : rs.length ≤ 1000 := by decide) (hX : X.K = K := by rfl)
    (hs : swapsWithSole [.Tuple ts kt pt] (.Tuple es k2 pt2) pos.line X.env = pure false := by rfl) (hw : swappedStores [.Tuple ts kt pt] (.Tuple es k2 pt2) X.env = pure none := by rfl)
    (h1 : (assignEach [.Tuple ts kt pt] X.env).map (·.2) = [assign (.Tuple ts kt pt) X.env] := by rfl) (hn2 : (assignEach ts X.env).length = is.length := by rfl) (hst : (assignEach ts X.env).findIdx? (·.1) = none := by rfl) :
    PS X (.Assign [.Tuple ts kt pt] (.Tuple es k2 pt2) pos) (tS K (sParN (rowV is rs) (escRow rs))) := (ps_asg (pe_tup ha) (pg_tup hc (pgs_names hN hn) hn2 hst) hs hw h1).imp fun E σ H h => by
  subst hX
  obtain ⟨B0, G, s, hs, hq⟩ := h
  unfold sParN at hq
  split at hq
  · exact hq.elim
  · rename_i ds hv
    refine row_all (E := fun _ => True) hl hs ⟨ds, hv, fun ws H' hw g => ⟨by rw [hw, sizeLine_eq]; omega, fun p np => ⟨p, ws, rfl, .inl (.inl upd_same), by rw [hw, hl], by rw [hw, hl], ?_⟩⟩⟩
    refine hq _ _ ?_
    rw [(rowV_ix hl).1, (rowV_ix hl).2]
    obtain ⟨O', B', g⟩ := g
    exact ⟨O', B', g.mono (same_upd np)⟩
end
/-! list.count of ints -/
def dCount : D → D → Option D
  | .list ds, .int k => o1 (intsD ds) fun is => some (.int (is.count k : Nat))
  | _, _ => none
theorem mf_count {K : PySem.W.Frag} : MethF K "list" (rCntI K) dCount where
  ty := fun x dx dy d H rx h => by
    unfold dCount at h
    split at h
    · cases rx with
      | lst h1 h2 => exact .inl ⟨rfl, _, SqL.of h1⟩
    · cases h
  run := fun x y dx dy d H Q rx ry h q => by
    unfold dCount at h
    split at h
    · obtain ⟨is, h1, h2⟩ := o1_some h
      cases (Option.some.inj h2)
      cases rx with
      | lst e1 e2 =>
        rw [intsD_some h1] at e2
        have e3 := e2.ints
        subst e3
        exact ⟨_, is, _, rfl, by rw [ry.int'], SqL.of e1, q _ (.int _) rfl⟩
    · cases h

section
variable {X : Cx} {K : PySem.W.Frag} {κ : Mo} {a b : Expr} {fa fb : FE} {ca cb : Esc} {pos : Pos}
/-- a < b < c as a value -/
theorem qe_chain {op op' : CmpOp} {r r' : R2} {o o' : D → D → Option Bool} {c : Expr} {fc : FE} {cc : Esc} (hr : OpR X (compareOp op) r) (hd : OpC K r o) (hr' : OpR X (compareOp op') r') (hd' : OpC K r' o')
    (ha : PE X a (tD K (.br 1) fa ca)) (hb : PE X b (tD K (.br 1) fb cb)) (hc : PE X c (tD K (.br 1) fc cc)) (hm : lastMarks [op, op'] [b, c] = false := by with_unfolding_all rfl) :
    PE X (.Compare a [op, op'] [b, c] pos) (tD K κ (eB (tChn o o' fa fb fc)) []) := (pe_chain hr hr' ha hb hc hm).imp fun σ H Q ⟨B, L, ρ, d, g, es, hf', q⟩ => by
  obtain ⟨k, hf, hk⟩ := o1_some hf'
  cases (Option.some.inj hk)
  unfold tChn at hf
  split at hf
  · cases hf
  · rename_i h1
    obtain ⟨dx, dy, h3, h4, h5⟩ := o2_some h1
    refine ⟨[], _, ρ, dx, g.zero, .zero, h3, fun x H1 s1 p1 => ⟨[], _, ρ, dy, (g.mono s1).zero, .zero, h4, fun y H2 s2 p2 =>
      hd x y dx dy false H2 _ ((RL.r0 p1).mono s2) (RL.r0 p2) h5 ⟨false, rfl, ?_⟩⟩⟩
    rw [if_neg (by decide)]
    cases (Option.some.inj hf)
    exact q _ H2 (s1.trans s2) (Post.of_flat (.bl false) rfl)
  · rename_i h1
    obtain ⟨dx, dy, h3, h4, h5⟩ := o2_some h1
    obtain ⟨dy', dz, h6, h7, h8⟩ := o2_some hf
    rw [h4] at h6
    cases (Option.some.inj h6)
    refine ⟨[], _, ρ, dx, g.zero, .zero, h3, fun x H1 s1 p1 => ⟨[], _, ρ, dy, (g.mono s1).zero, .zero, h4, fun y H2 s2 p2 =>
      hd x y dx dy true H2 _ ((RL.r0 p1).mono s2) (RL.r0 p2) h5 ⟨true, rfl, ?_⟩⟩⟩
    rw [if_pos rfl]
    exact ⟨[], _, ρ, dz, ((g.mono s1).mono s2).zero, .zero, h7, fun z H3 s3 p3 => hd' y z dy dz k H3 _ ((RL.r0 p2).mono s3) (RL.r0 p3) h8 (q _ H3 ((s1.trans s2).trans s3) (Post.of_flat (.bl k) rfl))⟩
end
end DS
end

section


end

section
set_option Elab.async false
set_option linter.all false
set_option maxRecDepth 100000
/-! Part DDk: names from a list. -/
namespace DS
open PySem PySem.Spec PyProof.Rows L2
/-- (a, b, ..) = a list -/
def sTupL (ts : List Tg) (f : FE) (c : Esc) : FS := fun s => match f s.1 with
  | some (.list ds) => match Tg.gos ts ds with
    | none => .stuck
    | some l => .next (setsD s.1 l, zeros (demote c s.2) l)
  | _ => .stuck
def tGL (K : PySem.W.Frag) (ts : List Tg) : TG := fun v σ H Q => ∃ B ds l, R K (hid B H) v (.list ds) ∧ Tg.gos ts ds = some l ∧ ∀ m, RS K (hid B H) m l → Q (setsV σ m) H
section
variable {X : Cx} {K : PySem.W.Frag} {pos : Pos}
theorem gg_tupL {es : List Expr} {k : Nat} {ts : List Tg} (hc : X.calm = true) (h : PGs X es (tGs K ts)) (hX : X.K = K := by rfl)
    (hn : (assignEach es X.env).length = ts.length := by rfl) (hst : (assignEach es X.env).findIdx? (·.1) = none := by rfl) : PG X (.Tuple es k pos) (tGL K ts) := by
  subst hX
  refine (pg_unl hc h hn hst).imp fun v σ H Q ⟨B, ds, l, h1, h2, q⟩ => ?_
  cases h1 with
  | lst e1 e2 => exact ⟨_, _, rfl, SqL.of (same_unhid _ _ e1), by rw [e2.length, Tg.gos_len h2], B, ds, l, e2, h2, q⟩
theorem ss_tupL {tg e : Expr} {ts : List Tg} {f : FE} {c : Esc} {pos : Pos} (he : PE X e (tD K (.br 0) f c)) (hg : PG X tg (tGL K ts)) (hs : swapsWithSole [tg] e pos.line X.env = pure false := by rfl) (hw : swappedStores [tg] e X.env = pure none := by rfl)
    (h1 : (assignEach [tg] X.env).map (·.2) = [assign tg X.env] := by rfl) : PS X (.Assign [tg] e pos) (tS K (sTupL ts f c)) := (ps_asg he hg hs hw h1).imp fun E σ H ⟨B0, G, s, hs, q⟩ => by
  unfold sTupL at q
  split at q
  · rename_i ds hd
    split at q
    · exact q.elim
    · rename_i l hl
      refine GS.value (κ := .br 0) hs hd fun O B v H' g e p => ?_
      exact ⟨B, ds, l, RL.r p, hl, fun m rs => q _ H' (GS.sets (g.mono e) (fun _ h => h) rs)⟩
  · exact q.elim
end
end DS
end

section
set_option Elab.async false
set_option linter.all false
set_option maxRecDepth 100000
set_option maxHeartbeats 1000000
/-! Part DDl: sorted(set(xs)), xs a tuple of ints. -/
namespace DS
open PySem PySem.Spec PyProof.Rows L2
/-- x into a rising list -/
def insI (x : Int) : List Int → List Int
  | [] => [x]
  | y :: l => if x < y then x :: y :: l else if x = y then y :: l else y :: insI x l
/-- the ints of l, rising, each once -/
def srtI (l : List Int) : List Int := l.foldr insI []
theorem mem_insI {x k : Int} : ∀ {l : List Int}, k ∈ insI x l ↔ k = x ∨ k ∈ l
  | [] => by simp [insI]
  | y :: l => by
    unfold insI
    split
    · simp
    · split
      · rename_i h
        subst h
        simp
      · simp only [List.mem_cons, mem_insI (l := l)]
        constructor
        · rintro (h | h | h)
          · exact .inr (.inl h)
          · exact .inl h
          · exact .inr (.inr h)
        · rintro (h | h | h)
          · exact .inr (.inl h)
          · exact .inl h
          · exact .inr (.inr h)
theorem insI_up {x : Int} : ∀ {l : List Int}, l.Pairwise (· < ·) → (insI x l).Pairwise (· < ·)
  | [], _ => by simp [insI]
  | y :: l, h => by
    obtain ⟨h1, h2⟩ := List.pairwise_cons.mp h
    unfold insI
    split
    · rename_i c
      refine List.pairwise_cons.mpr ⟨fun z hz => ?_, h⟩
      rcases List.mem_cons.mp hz with e | e
      · rw [e]; exact c
      · have := h1 z e; omega
    · split
      · exact h
      · refine List.pairwise_cons.mpr ⟨fun z hz => ?_, insI_up h2⟩
        rcases mem_insI.mp hz with e | e
        · rw [e]; omega
        · exact h1 z e
theorem srtI_up : ∀ l : List Int, (srtI l).Pairwise (· < ·)
  | [] => .nil
  | x :: l => insI_up (srtI_up l)
theorem mem_srtI {k : Int} : ∀ {l : List Int}, k ∈ srtI l ↔ k ∈ l
  | [] => by simp [srtI]
  | x :: l => by
    show k ∈ insI x (srtI l) ↔ _
    rw [mem_insI, mem_srtI (l := l), List.mem_cons]
theorem up_eq : ∀ {a b : List Int}, a.Pairwise (· < ·) → b.Pairwise (· < ·) → (∀ k, k ∈ a ↔ k ∈ b) → a = b
  | [], [], _, _, _ => rfl
  | [], y :: b, _, _, h => absurd ((h y).mpr (.head _)) (by simp)
  | x :: a, [], _, _, h => absurd ((h x).mp (.head _)) (by simp)
  | x :: a, y :: b, ha, hb, h => by
    obtain ⟨a1, a2⟩ := List.pairwise_cons.mp ha
    obtain ⟨b1, b2⟩ := List.pairwise_cons.mp hb
    have e : x = y := by
      rcases List.mem_cons.mp ((h x).mp (.head _)) with q | q
      · exact q
      · rcases List.mem_cons.mp ((h y).mpr (.head _)) with p | p
        · exact p.symm
        · have := b1 x q; have := a1 y p; omega
    subst e
    congr 1
    refine up_eq a2 b2 fun k => ⟨fun hk => ?_, fun hk => ?_⟩
    · rcases List.mem_cons.mp ((h k).mp (.tail _ hk)) with q | q
      · have := a1 k hk; omega
      · exact q
    · rcases List.mem_cons.mp ((h k).mpr (.tail _ hk)) with q | q
      · have := b1 k hk; omega
      · exact q
/-- set(xs), a tuple of ints -/
def rSetTI (w : World) (K : PySem.W.Frag) : List V → Hp → VK → Prop := fun vs H Q => ∃ (a : Addr) (ns : List Int), vs = [.ref a] ∧ SqT K H a (ns.map V.int) ∧ ns.length < 60 ∧ ∀ p c, H p = none → c ≤ ns.length → Q (.ref p) (upd H p (SetO w p (fun j => decide (j ∈ ns)) c))
def rSS (w : World) (K : PySem.W.Frag) : List V → Hp → VK → Prop := fun vs H Q => rSetTI w K vs H fun x H1 => rSortedSet w [x] H1 Q
def dSortSet : D → Option D
  | .tuple ds => o1 (intsD ds) fun is => if is.length < 60 then some (.list ((srtI is).map PyData.int)) else none
  | _ => none
section
variable {X : Cx} {K : PySem.W.Frag} {κ : Mo} {p p2 pos pos2 : Pos} {e : Expr} {fs : FA} {c : Esc} {x y : Str}
theorem cr_setTI (hc : X.calm = true) : CallR X (.type "set") (rSetTI X.w X.K) := by
  intro pins s σ H vs us Q I r h
  obtain ⟨a, ns, rfl, hs, hl, q⟩ := h
  obtain ⟨its, rv, ht, hz⟩ := I.tuple hs
  rw [Vals.ref1 r]
  refine call_set_tupI ns (I.ok.hd hc) ht (by simpa using rv.ints) (by have : scanBound = 4096 := rfl; omega) fun h' tk c hS hcl hk => ?_
  exact ⟨.ref _, upd H s.heap.objs.size (SetO X.w s.heap.objs.size (fun j => decide (j ∈ ns)) c), I.laid (t' := tk) hk (Nat.le_refl _) (setO_new hS), rfl, q _ c (I.hok.fresh (Nat.le_refl _)) hcl⟩
theorem ra_ints {H : Hp} : ∀ ns : List Int, RA K H (ns.map V.int) (ns.map PyData.int)
  | [] => .nil
  | n :: ns => .cons (.int n) (ra_ints ns)
theorem cd_sortSet (w : World) : CallD K (rSS w K) (d1 dSortSet) := by
  intro B vs ds d H Q ok hl r h q
  obtain ⟨x, rfl, h'⟩ := d1_some h
  obtain ⟨v, rfl, rv⟩ := one_of hl r
  unfold dSortSet at h'
  split at h'
  · rename_i es
    obtain ⟨is, h1, h2⟩ := o1_some h'
    obtain ⟨hlen, e⟩ := ite_some h2
    subst e
    obtain ⟨a, xs, rfl, k1, k2, k3⟩ := rv.tup
    rw [intsD_some h1] at k3
    have := k3.ints
    subst this
    refine ⟨a, is, rfl, k1, hlen, fun p c hn hcl => ⟨p, _, c, rfl, upd_same, by omega, fun ns l n1 n2 n3 nl => ?_⟩⟩
    have e : ns = srtI is := up_eq n1 (srtI_up is) fun k => by rw [n2, mem_srtI]; exact decide_eq_true_iff
    subst e
    have hlp : l ≠ p := fun z => by rw [z, upd_same] at nl; cases nl
    have hl0 : H l = none := by rw [upd_ne hlp] at nl; exact nl
    exact q _ _ ((same_upd hn).trans (same_upd nl)) fun κ hκ => Post.new ok.trk hl0 upd_same (ra_ints _) hκ
  · cases h'
/-- sorted(set(e)) -/
theorem qe_sortSet (hc : X.calm = true) (hg : Gl X x) (hm : X.mg x = none) (hv : bootBuiltins x = some (.builtin "sorted")) (hg2 : Gl X y) (hm2 : X.mg y = none) (hv2 : bootBuiltins y = some (.type "set")) (ha : PA X [e] (tDA K 1 fs c)) (hX : X.K = K := by rfl) (hκ : κ.one = true := by rfl) (hn : x ≠ "__name__" := by decide) (hdb : (x == ("__debug__" : Str)) = false := by decide) (hn2 : y ≠ "__name__" := by decide) (hdb2 : (y == ("__debug__" : Str)) = false := by decide)
    (he : starEach [.Call (.Name y p2) [e] [] pos2] X.env = (false, eval (.Call (.Name y p2) [e] [] pos2) X.env) :: starEach [] X.env := by rfl) (hpl : (backTo pos (starEach [] X.env)).any (·.1) = false := by rfl)
    (he2 : starEach [e] X.env = (false, eval e X.env) :: starEach [] X.env := by rfl) (hpl2 : (backTo pos2 (starEach [] X.env)).any (·.1) = false := by rfl) :
    PE X (.Call (.Name x p) [.Call (.Name y p2) [e] [] pos2] [] pos) (tD K κ (eCB (d1 dSortSet) fs) c) := by
  subst hX
  refine (pe_callB (cr_sortedSet hc) hg hm hv (pa_cons (pe_callTy (cr_setTI hc) hg2 hm2 hv2 ha hn2 hdb2 he2 hpl2) pa_nil he) hn hdb he hpl).imp fun σ H Q h => ?_
  exact cbD (cd_sortSet X.w) hκ rfl σ H Q h
end
end DS
end

section
set_option Elab.async false
set_option linter.all false
set_option maxRecDepth 100000
set_option maxHeartbeats 1000000
/-! Part DDm: sorted(xs, reverse=True), xs a tuple. -/
namespace PySem.W
open PySem PySem.Calls PyProof.Rows
section
variable {prog : Program} {w : World} {A : Around} {E : Value → Shared → Prop} {s : Shared} {β : Type} {vs : List Value} {bs : List β} {enc : β → PyData} {R : Value → β → Prop}
theorem sorted_of_sortT {l : Addr} {vs : List Value} {kw : List (Str × Value)} {Q : Value → Shared → Prop} (hl : s.heap.IsTuple l vs.toArray) (hL : vs.length ≤ sizeLine) (ha1 : argsOk "sorted" ⟨[.ref l], kw⟩) (ha2 : ∀ x, argsOk "list.sort" ⟨[.ref x], kw⟩)
    (body : ∀ (h' : Heap) (E' : Value → Shared → Prop), (∀ b o, s.heap.get? b = some o → h'.get? b = some o) → wpAny (model prog w) A.in1.in1 (Builtin.«list.sort» ⟨[.ref h'.objs.size], kw⟩) (fun f s' => f = .done (.ret .none) ∧ Q (.ref h'.objs.size) s') E' { s with heap := h'.push (seqObj "list" vs.toArray 0) }) :
    wpAny (model prog w) A (call (.builtin "sorted") [.ref l] kw) Q E s := by
  obtain ⟨o, ho, hc, n, hd⟩ := id hl
  refine call_function_entry_kw kind_sorted plain_sorted entry_sorted ha1 ?_
  unfold Builtin.«sorted»
  refine wpAny_bind (m := checkCount "sorted" 1 1 _) (wpAny_pure ?_)
  refine wpAny_bind (wpAny_collect_seq l (.inr rfl) ho hc hd (fun h' hk => ?_) (by simpa using hL))
  show wpAny _ _ _ _ _ { s with heap := h' }
  refine wpAny_bind (wpAny_newList ?_ (by simpa using hL))
  have hk2 : (h'.push (seqObj "list" vs.toArray 0)).get? h'.objs.size = some (seqObj "list" vs.toArray 0) := Heap.get?_push_size _ rfl
  refine wpAny_bind (wpAny_holding (wpAny_call_entry_kw slot_list_sort ⟨_, hk2, rfl⟩ entry_list_sort ?body (ha2 _)))
  case body =>
    show wpAny (model prog w) A.in1.in1 (Builtin.«list.sort» ⟨[.ref h'.objs.size], kw⟩) _ _ _
    refine wpAny_mono (body h' _ hk) (fun f s' hf => ?_) fun _ _ e => e
    obtain ⟨rfl, hq⟩ := hf
    exact ⟨_, rfl, wpAny_pure ⟨_, rfl, hq⟩⟩
theorem sorted_rev_anyT {l : Addr} {b : Bool} {Q : Value → Shared → Prop} (hl : s.heap.IsTuple l vs.toArray) (e : EachIs R vs bs) (er : EachIs (fun v b => ∃ as, Reads s.heap v (enc b) as) vs bs) (hal : AllAlike (bs.map enc)) (hk : ∀ d, d ∈ bs.map enc → d ≠ .none) (hL : bs.length ≤ sizeLine)
    (hu : ∀ b, b ∈ bs → A.units + 2 + (enc b).depth < cLine)
    (h : ∀ (h' : Heap) (out : List Value), (∀ b o, s.heap.get? b = some o → h'.get? b = some o) → out.length = bs.length → EachIs R out (bs.mergeSort (dataLe b enc)) → Q (.ref h'.objs.size) { s with heap := sortedHeap (h'.push (seqObj "list" vs.toArray 0)) h'.objs.size vs (List.toArray out) }) :
    wpAny (model prog w) A (call (.builtin "sorted") [.ref l] [(Str.ofString "reverse", .bool b)]) Q E s := by
  have hL' : vs.length ≤ sizeLine := by rw [e.length]; exact hL
  have hsize : ∀ {h' : Heap}, (∀ b o, s.heap.get? b = some o → h'.get? b = some o) → ∀ {c : Addr} {o : Obj}, s.heap.get? c = some o → (h'.push (seqObj "list" vs.toArray 0)).get? c = some o ∧ c ≠ h'.objs.size := fun {h'} k {c o} q => ⟨Heap.get?_push_of_some _ (k c o q), Nat.ne_of_lt (Heap.lt_size (k c o q))⟩
  refine sorted_of_sortT hl hL' (args_sorted_rev _ _) (fun _ => args_list_sort_rev _ _) fun h' E' k => ?_
  have er' : EachIs (fun v b => ∃ as, Reads (sortingHeap (h'.push (seqObj "list" vs.toArray 0)) h'.objs.size vs) v (enc b) as) vs bs := er.mono fun _ _ ⟨as, r⟩ => ⟨as, PyProof.Rows.Reads.keeps (fun c o q => sortingHeap_old (hsize k q).2 (hsize k q).1) r⟩
  refine list_sort_rev_vals (s := { s with heap := h'.push (seqObj "list" vs.toArray 0) }) (Heap.get?_push_size _ rfl) (SortsAt.any (s := { s with heap := sortingHeap (h'.push (seqObj "list" vs.toArray 0)) h'.objs.size vs }) (each_map (R := fun v d => ∃ as, Reads (sortingHeap (h'.push (seqObj "list" vs.toArray 0)) h'.objs.size vs) v d as) enc er') hal hk (bound_map hu)) hL' ⟨rfl, ?_⟩
  exact h h' _ k (by rw [sortVals_length b rfl]; exact e.length) (sortVals_data b e er' hal)
end
end PySem.W
namespace DS
open PySem PySem.Spec PyProof.Rows L2
def rSortRvT (K : PySem.W.Frag) : List V → List V → Hp → VK → Prop := fun vs zs H Q => ∃ a xs ds, vs = [.ref a] ∧ zs = [.bl true] ∧ SqT K H a xs ∧ DpAll K H xs ds ∧ xs.length = ds.length ∧ allCmp ds = true ∧ ∀ p, H p = none → Q (.ref p) (upd H p (.lst (((xs.zip ds).mergeSort (fun u v => geD u.2 v.2)).map (·.1))))
section
variable {X : Cx} {K : PySem.W.Frag}
theorem crk_sortedRvT (hu : X.A.units + 64 < cLine) : CallRK X (.builtin "sorted") [Str.ofString "reverse"] (rSortRvT X.K) := by
  intro pins s σ H vs zs us ws Q I r rz h
  obtain ⟨a, xs, ds, rfl, rfl, hs, dp, hlen, ok, q⟩ := h
  obtain ⟨f1, f2, f3⟩ := allCmp_facts ok
  obtain ⟨its, rv, hl, hz⟩ := I.tuple hs
  rw [Vals.ref1 r]
  obtain ⟨wz, rfl, rw'⟩ := vals1 rz
  cases (show wz = Value.bool true from rw')
  show wpAny _ _ (call (.builtin "sorted") [.ref a] [(Str.ofString "reverse", .bool true)]) _ _ _
  obtain ⟨as, ra⟩ := Dp.readsAll I _ _ _ dp rv
  have zz : (xs.zip ds).map (fun b : V × D => b.2) = ds := zip_snd hlen
  refine PySem.W.sorted_rev_anyT (b := true) (bs := xs.zip ds) (enc := fun b => b.2) (R := fun u b => RelV b.1 u) hl
    (each_zip rv.length.symm hlen fun i u x e1 e2 => by
      obtain ⟨u', e3, r3⟩ := rv.get e2
      rw [e1] at e3
      cases e3
      exact r3)
    (each_reads ra hlen) (by rw [zz]; exact f3.1) (by rw [zz]; exact f3.2) (by rw [List.length_zip, ← hlen, Nat.min_self]; exact hz) (fun b hb => ?_) (fun h' out k hol ho => ?_)
  · have : b.2 ∈ ds := (List.of_mem_zip hb).2
    have := depth_mem this
    omega
  · have hoL : (h'.push (seqObj "list" its.toArray 0)).get? h'.objs.size = some (seqObj "list" its.toArray 0) := Heap.get?_push_size _ rfl
    obtain ⟨ep, he'⟩ := PyProof.Rows.sortedHeap_at (vs := its) (out := out.toArray) hoL
    have hv := each_vals ho
    have hn : H h'.objs.size = none := (I.hok.kept k).fresh (Nat.le_refl _)
    have hp : s.heap.get? h'.objs.size = none := by
      cases q' : s.heap.get? h'.objs.size with
      | none => rfl
      | some o => exact absurd (Heap.lt_size (k _ o q')) (Nat.lt_irrefl _)
    refine ⟨.ref h'.objs.size, upd H h'.objs.size (.lst (((xs.zip ds).mergeSort (fun u v => geD u.2 v.2)).map (·.1))), I.laidN (t' := s.toks) (fun b o q' => ?_) hp hn ⟨?_, out, ep, hv, he'⟩, rfl, q _ hn⟩
    · have q2 := k b o q'
      have lt := Heap.lt_size q2
      rw [PyProof.Rows.sortedHeap_old (Nat.ne_of_lt lt) (by rw [size_push']; exact Nat.lt_succ_of_lt lt)]
      exact Heap.get?_push_of_some _ q2
    · rw [List.length_map, List.length_mergeSort, List.length_zip, ← hlen, Nat.min_self]
      exact hz
end
def dSortRvT : D → D → Option D
  | .tuple ds, .bool true => if allCmp ds = true then some (.list (ds.mergeSort geD)) else none
  | _, _ => none
theorem ckd_sortedRvT {K : PySem.W.Frag} : CallKD K (rSortRvT K) dSortRvT := by
  intro B v z dv dz d H Q ok rv rz h q
  unfold dSortRvT at h
  split at h
  · rename_i es
    obtain ⟨hc, e⟩ := ite_some h
    subst e
    obtain ⟨p, ys, rfl, h0, h1, h2⟩ := rv.tup
    have h3 := h2.mono same_unhid
    have ez : z = .bl true := (RL.open rz).bl'
    subst ez
    refine ⟨p, ys, es, rfl, rfl, h0, RA.toDp h3 (allCmp_facts hc).1, h2.length, hc, fun l hn => q _ _ (same_upd hn) fun κ hκ => Post.new ok.trk hn upd_same (h2.sorted'.mono (same_hidC hn)) hκ⟩
  · cases h
/-- of a list or a tuple -/
def rSortRvB (K : PySem.W.Frag) : List V → List V → Hp → VK → Prop := fun vs zs H Q => rSortRv K vs zs H Q ∨ rSortRvT K vs zs H Q
theorem crk_sortedRvB {X : Cx} (hu : X.A.units + 64 < cLine) : CallRK X (.builtin "sorted") [Str.ofString "reverse"] (rSortRvB X.K) := fun pins s σ H vs zs us ws Q I r rz h => h.elim (crk_sortedRv hu pins s σ H vs zs us ws Q I r rz) (crk_sortedRvT hu pins s σ H vs zs us ws Q I r rz)
def dSortRvB : D → D → Option D
  | .tuple ds, z => dSortRvT (.tuple ds) z
  | d, z => dSortRv d z
theorem ckd_sortedRvB {K : PySem.W.Frag} : CallKD K (rSortRvB K) dSortRvB := by
  intro B v z dv dz d H Q ok rv rz h q
  unfold dSortRvB at h
  split at h
  · exact .inr (ckd_sortedRvT B v z _ dz d H Q ok rv rz h q)
  · exact .inl (ckd_sortedRv B v z _ dz d H Q ok rv rz h q)
end DS
end

section
set_option Elab.async false
set_option linter.all false
set_option maxRecDepth 100000
set_option maxHeartbeats 1000000
/-! Part DDn: name += tuple. -/
namespace HT
open PySem PySem.Spec PyProof.Rows L2
section
variable {prog : Program} {w : World} {A : Around} {E : Value → Shared → Prop} {s : Shared}
theorem noI_tup : typeLookup (.type "tuple") (dunderI "add") = pure none := by
  rw [typeLookup_type, builtinLookup_eq_fast]
  kernel_rfl
theorem icat_any {x y : Addr} {us zs : List Value} {Q : Value → Shared → Prop} (hx : IsTup s.heap x us.toArray) (hy : IsTup s.heap y zs.toArray) (q0 : us = [] → Q (.ref y) s) (q1 : us ≠ [] → zs = [] → Q (.ref x) s)
    (q2 : us ≠ [] → zs ≠ [] → Q (.ref s.heap.objs.size) { s with heap := s.heap.push { cls := .type "tuple", data := .seq (us ++ zs).toArray } }) (hfit : us.length + zs.length ≤ sizeLine) : wpAny (model prog w) A (inplaceOp .Add (.ref x) (.ref y)) Q E s := by
  obtain ⟨⟨c1, e1, f1, g1⟩, o1, k1, n1, m1⟩ := id hx
  obtain ⟨⟨c2, e2, f2, g2⟩, o2, k2, n2, m2⟩ := id hy
  simp only at k1 m1 k2 m2
  subst k1 m1 k2 m2
  have app : us.toArray ++ zs.toArray = (us ++ zs).toArray := by simp
  refine PySem.wpAny_inplaceOp_concat (T := "tuple") ⟨_, o1, rfl⟩ ⟨_, o2, rfl⟩ noI_tup noFill_tuple_add seq_tuple_add ?_
  by_cases hu : us = []
  · exact call_meets PySem.F.slot_tuple_add ⟨_, o1, rfl⟩ PySem.F.entry_tuple_add (PySem.F.args_tuple_add_2 _ _) (tuple_addW0 x y us.toArray zs.toArray n1 n2 e1 e2 g1 g2 (by simp [hu])) ⟨o1, o2, q0 hu⟩
  · by_cases hz : zs = []
    · exact call_meets PySem.F.slot_tuple_add ⟨_, o1, rfl⟩ PySem.F.entry_tuple_add (PySem.F.args_tuple_add_2 _ _) (tuple_addW1 x y us.toArray zs.toArray n1 n2 e1 e2 g1 g2 (by simpa using hu) (by simp [hz])) ⟨o1, o2, q1 hu hz⟩
    · refine call_meets PySem.F.slot_tuple_add ⟨_, o1, rfl⟩ PySem.F.entry_tuple_add (PySem.F.args_tuple_add_2 _ _) (tuple_addW2 x y us.toArray zs.toArray n1 n2 e1 e2 g1 g2 (by simpa using hu) (by simpa using hz) (by simpa using hfit)) ⟨o1, o2, ?_⟩
      rw [app]
      exact q2 hu hz
end
end HT
namespace DS
open PySem PySem.Spec PyProof.Rows L2
section
variable {X : Cx} {K : PySem.W.Frag}
theorem ip_catA : PIp X .Add (rCatA X.K) := by
  intro pins s σ H x y v u Q I rx ry h
  obtain ⟨a, b, xs, ys, rfl, rfl, ha, hb, hz, q0, q1, q2⟩ := h
  cases rx
  cases ry
  obtain ⟨i1, r1, p1, _⟩ := I.tuple ha
  obtain ⟨i2, r2, p2, _⟩ := I.tuple hb
  refine HT.icat_any p1 p2 (fun e => ⟨.ref b, H, I, rfl, q0 (r1.nil_iff.mp e)⟩) (fun e e' => ⟨.ref a, H, I, rfl, q1 (fun z => e (r1.nil_iff.mpr z)) (r2.nil_iff.mp e')⟩) (fun e e' => ?_) (by rw [← r1.length, ← r2.length]; exact hz)
  refine ⟨.ref s.heap.objs.size, _, I.laid (t' := s.toks) (o := .tup (xs ++ ys)) (fun c o k => Heap.get?_push_of_some _ k) (Nat.le_refl _) ?_, rfl, q2 (fun z => e (r1.nil_iff.mpr z)) (fun z => e' (r2.nil_iff.mpr z)) _ (I.hok.fresh (Nat.le_refl _))⟩
  exact ⟨by rw [List.length_append]; exact hz, _, r1.append r2, IsTup.new _ _⟩
def dAddT : D → D → Option D
  | .tuple x, .tuple y => if x.length + y.length ≤ sz ∧ flat (.tuple (x ++ y)) = true ∧ flat (.tuple y) = true ∧ flat (.tuple x) = true then some (.tuple (x ++ y)) else none
  | _, _ => none
theorem ss_augT (i : Nat) {x : Str} {e : Expr} {f : FE} {c : Esc} {pos pos' : Pos} (hN : X.N.Nodup) (he : PE X e (tD K (.br 1) f c)) (hX : X.K = K := by rfl) (hi : X.N[i]? = some x := by rfl) (hx : Loc X.env.scope x := by first | exact Or.inl rfl | exact Or.inr rfl) (hf : X.fn x = true ∨ X.env.scope.names.lookup x = some .local := by first | exact .inl rfl | exact .inr rfl) :
    PS X (.AugAssign (.Name x pos') .Add e pos) (tS K (sAug i dAddT f)) := by
  subst hX
  refine ss_aug i ip_catA (fun B x y dx dy d H Q ok rx ry h q => ?_) hN he hi hx hf
  unfold dAddT at h
  split at h
  · rename_i xs0 ys0
    split at h
    · rename_i hc
      obtain ⟨hl, hf1, hf2, hf3⟩ := hc
      cases (Option.some.inj h)
      cases rx with
      | tup e1 e2 =>
        cases ry with
        | tup k1 k2 =>
          refine ⟨_, _, _, _, rfl, rfl, .inl (.inl e1), .inl (.inl k1), by rw [e2.length, k2.length, sz_eq]; exact hl, fun z => ?_, fun _ z => ?_, fun _ _ t nt => ?_⟩
          · subst z
            cases e2
            exact q _ H (Same.refl H) ((R.tup k1 k2).hidF ok.noTup hf2)
          · subst z
            cases k2
            rw [List.append_nil] at q
            exact q _ H (Same.refl H) ((R.tup e1 e2).hidF ok.noTup hf3)
          · refine q _ _ (same_upd nt) ?_
            exact (R.tup upd_same ((e2.append k2).mono (same_upd nt))).hidF (ok.mono (same_upd nt)).noTup hf1
    · cases h
  · cases h
end
end DS
end

section
set_option Elab.async false
set_option linter.all false
/-! Part l: rewriting rules by which a def's function on trees is reckoned. -/
namespace DS
open PySem
section
variable {α β γ : Type} {ρ : PEnv} {d e : D} {s : S}
@[simp] theorem o1_s (a : α) (g : α → Option γ) : o1 (some a) g = g a := id rfl
@[simp] theorem o1_n (g : α → Option γ) : o1 none g = none := id rfl
@[simp] theorem o2_ss (a : α) (b : β) (g : α → β → Option γ) : o2 (some a) (some b) g = g a b := id rfl
@[simp] theorem o2_n (y : Option β) (g : α → β → Option γ) : o2 none y g = none := id rfl
@[simp] theorem eC_a (d : D) (ρ : PEnv) : eC d ρ = some d := id rfl
@[simp] theorem eVar_0 (d : D) (ρ : PEnv) : eVar 0 (some d :: ρ) = some d := id rfl
@[simp] theorem eVar_s (n : Nat) (x : Option D) (ρ : PEnv) : eVar (n + 1) (x :: ρ) = eVar n ρ := id rfl
@[simp] theorem aNil_a (ρ : PEnv) : aNil ρ = some [] := id rfl
@[simp] theorem aCons_a (f : FE) (r : FA) (ρ : PEnv) : aCons f r ρ = o2 (f ρ) (r ρ) fun d ds => some (d :: ds) := id rfl
@[simp] theorem eOp_a (op : D → D → Option D) (f g : FE) (ρ : PEnv) : eOp op f g ρ = o2 (f ρ) (g ρ) op := id rfl
@[simp] theorem eUn_a (op : D → Option D) (f : FE) (ρ : PEnv) : eUn op f ρ = o1 (f ρ) op := id rfl
@[simp] theorem eIx_a (f g : FE) (ρ : PEnv) : eIx f g ρ = o2 (f ρ) (g ρ) dIx := id rfl
@[simp] theorem eCB_a (op : List D → Option D) (fs : FA) (ρ : PEnv) : eCB op fs ρ = o1 (fs ρ) op := id rfl
@[simp] theorem eB_a (f : FT) (ρ : PEnv) : eB f ρ = o1 (f ρ) fun b => some (.bool b) := id rfl
@[simp] theorem tCmp_a (op : D → D → Option Bool) (f g : FE) (ρ : PEnv) : tCmp op f g ρ = o2 (f ρ) (g ρ) op := id rfl
@[simp] theorem tTru_a (f : FE) (ρ : PEnv) : tTru f ρ = o1 (f ρ) dTru := id rfl
@[simp] theorem tNotD_a (f : FT) (ρ : PEnv) : tNotD f ρ = o1 (f ρ) fun b => some !b := id rfl
@[simp] theorem tIsND_a (f : FE) (ρ : PEnv) : tIsND f ρ = o1 (f ρ) fun d => some (isNon d) := id rfl
@[simp] theorem tNotND_a (f : FE) (ρ : PEnv) : tNotND f ρ = o1 (f ρ) fun d => some (!isNon d) := id rfl
@[simp] theorem eIsN_a (f : FE) (ρ : PEnv) : eIsN f ρ = o1 (f ρ) fun d => some (.bool (isNon d)) := id rfl
@[simp] theorem eNotN_a (f : FE) (ρ : PEnv) : eNotN f ρ = o1 (f ρ) fun d => some (.bool (!isNon d)) := id rfl
@[simp] theorem tTrue_a (ρ : PEnv) : tTrue ρ = some true := id rfl
@[simp] theorem eIsi_a (n : String) (f : FE) (ρ : PEnv) : eIsi n f ρ = o1 (f ρ) fun d => o1 (isTy d n) fun b => some (.bool b) := id rfl
@[simp] theorem iSeq_a (f : FE) (ρ : PEnv) : iSeq f ρ = o1 (f ρ) seqOf := id rfl
@[simp] theorem seqOf_l (ds : List D) : seqOf (.list ds) = some ds := id rfl
@[simp] theorem seqOf_t (ds : List D) : seqOf (.tuple ds) = some ds := id rfl
@[simp] theorem d1_1 (op : D → Option D) (x : D) : d1 op [x] = op x := id rfl
@[simp] theorem d2_2 (op : D → D → Option D) (x y : D) : d2 op [x, y] = op x y := id rfl
@[simp] theorem dLen_l (ds : List D) : dLen (.list ds) = some (.int ds.length) := id rfl
@[simp] theorem dLen_t (ds : List D) : dLen (.tuple ds) = some (.int ds.length) := id rfl
@[simp] theorem dInt_i (i : Int) : dInt (.int i) = some (.int i) := id rfl
@[simp] theorem dInt_b (b : Bool) : dInt (.bool b) = some (.int (if b then 1 else 0)) := id rfl
@[simp] theorem dTuple_l (ds : List D) : dTuple (.list ds) = some (.tuple ds) := id rfl
@[simp] theorem dTuple_t (ds : List D) : dTuple (.tuple ds) = some (.tuple ds) := id rfl
@[simp] theorem dList_l (ds : List D) : dList (.list ds) = some (.list ds) := id rfl
@[simp] theorem dList_t (ds : List D) : dList (.tuple ds) = some (.list ds) := id rfl
@[simp] theorem dAdd_i (i j : Int) : dAdd (.int i) (.int j) = some (.int (i + j)) := id rfl
@[simp] theorem dAddI_i (i j : Int) : dAddI (.int i) (.int j) = some (.int (i + j)) := id rfl
@[simp] theorem dSub_i (i j : Int) : dSub (.int i) (.int j) = some (.int (i - j)) := id rfl
@[simp] theorem dNeg_i (i : Int) : dNeg (.int i) = some (.int (-i)) := id rfl
@[simp] theorem dLt_i (i j : Int) : dLt (.int i) (.int j) = some (decide (i < j)) := id rfl
@[simp] theorem dLe_i (i j : Int) : dLe (.int i) (.int j) = some (decide (i ≤ j)) := id rfl
@[simp] theorem dGt_i (i j : Int) : dGt (.int i) (.int j) = some (decide (j < i)) := id rfl
@[simp] theorem dGe_i (i j : Int) : dGe (.int i) (.int j) = some (decide (j ≤ i)) := id rfl
@[simp] theorem dEq_i (i j : Int) : dEq (.int i) (.int j) = some (decide (i = j)) := by
  unfold dEq
  rw [if_pos (by rfl)]
  simp [PyData.eqv]
  rfl
@[simp] theorem dNe_i (i j : Int) : dNe (.int i) (.int j) = some (!decide (i = j)) := by
  unfold dNe
  rw [if_pos (by rfl)]
  simp [PyData.eqv]
  rfl
@[simp] theorem dTru_b (b : Bool) : dTru (.bool b) = some b := id rfl
@[simp] theorem dTru_i (i : Int) : dTru (.int i) = some (i != 0) := id rfl
@[simp] theorem dTru_l (ds : List D) : dTru (.list ds) = some !ds.isEmpty := id rfl
@[simp] theorem dTru_t (ds : List D) : dTru (.tuple ds) = some !ds.isEmpty := id rfl
@[simp] theorem dTru_n : dTru .none = some false := id rfl
@[simp] theorem isNon_n : isNon .none = true := id rfl
@[simp] theorem isNon_b (b : Bool) : isNon (.bool b) = false := id rfl
@[simp] theorem isNon_i (b : Int) : isNon (.int b) = false := id rfl
@[simp] theorem isNon_s (b : Str) : isNon (.str b) = false := id rfl
@[simp] theorem isNon_l (b : List D) : isNon (.list b) = false := id rfl
@[simp] theorem isNon_t (b : List D) : isNon (.tuple b) = false := id rfl
theorem dMul_i {i j : Int} (h : mulOk i j = true) : dMul (.int i) (.int j) = some (.int (i * j)) := by
  show (if mulOk i j = true then _ else _) = _
  rw [if_pos h]
theorem dFdiv_i {i j : Int} (h : fdivOk j = true) : dFdiv (.int i) (.int j) = some (.int (i / j)) := by
  show (if fdivOk j = true then _ else _) = _
  rw [if_pos h]
theorem dMod_i {i j : Int} (h : 0 < j) : dMod (.int i) (.int j) = some (.int (i % j)) := by
  show (if 0 < j then _ else _) = _
  rw [if_pos h]
theorem mulOk_l {i j : Int} (h : i.natAbs < 18446744073709551616) : mulOk i j = true := by
  simp [mulOk, h]
theorem mulOk_r {i j : Int} (h : j.natAbs < 18446744073709551616) : mulOk i j = true := by
  simp [mulOk, h]
theorem log2_le_of_lt {a : Nat} {n : Nat} (h : a < 2 ^ n) (hn : 0 < n) : a.log2 < n := by
  by_cases ha : a = 0
  · subst ha; simpa using hn
  · exact (Nat.log2_lt ha).mpr h
theorem mulOk_big {i j : Int} {m n : Nat} (hi : i.natAbs < 2 ^ m) (hj : j.natAbs < 2 ^ n) (hm : 0 < m) (hn : 0 < n) (h : m + n ≤ 1000000) : mulOk i j = true := by
  have h1 := log2_le_of_lt hi hm
  have h2 := log2_le_of_lt hj hn
  unfold mulOk
  rw [Bool.or_eq_true]
  right
  exact decide_eq_true (by omega)
theorem fdivOk_of {j : Int} {n : Nat} (h0 : 0 < j) (hj : j.natAbs < 2 ^ n) (hn : 0 < n) (h : n ≤ 9000) : fdivOk j = true := by
  have h1 := log2_le_of_lt hj hn
  unfold fdivOk
  rw [Bool.and_eq_true]
  exact ⟨decide_eq_true h0, decide_eq_true (by omega)⟩
/-! statements -/
@[simp] theorem sNil_a (s : S) : sNil s = .next s := id rfl
@[simp] theorem sRet_a (f : FE) (s : S) : sRet f s = match f s.1 with | none => .stuck | some d => .ret d := id rfl
theorem sSeq_next {f g : FS} {s s' : S} (h : f s = .next s') : sSeq f g s = g s' := by
  unfold sSeq; rw [h]
theorem sSeq_ret {f g : FS} {s : S} {d : D} (h : f s = .ret d) : sSeq f g s = .ret d := by
  unfold sSeq; rw [h]
theorem sSet_next {i l : Nat} {f : FE} {c : Esc} {s : S} {d : D} (h : f s.1 = some d) : sSet i l f c s = if flat d = true then .next (s.1.set i (some d), s.2.set i 0) else .next (s.1.set i (some d), (demote c s.2).set i l) := by
  unfold sSet; rw [h]
theorem sIf_t {c : FT} {f g : FS} {s : S} (h : c s.1 = some true) : sIf c f g s = f s := by
  unfold sIf; rw [h]
theorem sIf_f {c : FT} {f g : FS} {s : S} (h : c s.1 = some false) : sIf c f g s = g s := by
  unfold sIf; rw [h]
theorem eCall_a {n : Nat} {F : Fn} {fs : FA} {ρ : PEnv} {ds : List D} (h : fs ρ = some ds) (hn : ds.length = n) : eCall n F fs ρ = F ds := by
  unfold eCall; rw [h]; simp [hn]
end
/-! calls: no step by reckoning, so that nothing looks into the function called -/
section
variable {ρ : PEnv} {F : Fn} {f1 f2 f3 f4 f5 f6 : FE}
@[simp] theorem eCall_1 : eCall 1 F (aCons f1 aNil) ρ = o1 (f1 ρ) fun x => F [x] := by
  unfold eCall aCons aNil; cases f1 ρ <;> rfl
@[simp] theorem eCall_2 : eCall 2 F (aCons f1 (aCons f2 aNil)) ρ = o1 (f1 ρ) fun x => o1 (f2 ρ) fun y => F [x, y] := by
  unfold eCall aCons aNil; cases f1 ρ <;> cases f2 ρ <;> rfl
@[simp] theorem eCall_3 : eCall 3 F (aCons f1 (aCons f2 (aCons f3 aNil))) ρ = o1 (f1 ρ) fun x => o1 (f2 ρ) fun y => o1 (f3 ρ) fun z => F [x, y, z] := by
  unfold eCall aCons aNil; cases f1 ρ <;> cases f2 ρ <;> cases f3 ρ <;> rfl
@[simp] theorem eCall_4 : eCall 4 F (aCons f1 (aCons f2 (aCons f3 (aCons f4 aNil)))) ρ = o1 (f1 ρ) fun x => o1 (f2 ρ) fun y => o1 (f3 ρ) fun z => o1 (f4 ρ) fun u => F [x, y, z, u] := by
  unfold eCall aCons aNil; cases f1 ρ <;> cases f2 ρ <;> cases f3 ρ <;> cases f4 ρ <;> rfl
@[simp] theorem eCall_5 : eCall 5 F (aCons f1 (aCons f2 (aCons f3 (aCons f4 (aCons f5 aNil))))) ρ = o1 (f1 ρ) fun x => o1 (f2 ρ) fun y => o1 (f3 ρ) fun z => o1 (f4 ρ) fun u => o1 (f5 ρ) fun v => F [x, y, z, u, v] := by
  unfold eCall aCons aNil; cases f1 ρ <;> cases f2 ρ <;> cases f3 ρ <;> cases f4 ρ <;> cases f5 ρ <;> rfl
@[simp] theorem eCall_6 : eCall 6 F (aCons f1 (aCons f2 (aCons f3 (aCons f4 (aCons f5 (aCons f6 aNil)))))) ρ = o1 (f1 ρ) fun x => o1 (f2 ρ) fun y => o1 (f3 ρ) fun z => o1 (f4 ρ) fun u => o1 (f5 ρ) fun v => o1 (f6 ρ) fun w => F [x, y, z, u, v, w] := by
  unfold eCall aCons aNil; cases f1 ρ <;> cases f2 ρ <;> cases f3 ρ <;> cases f4 ρ <;> cases f5 ρ <;> cases f6 ρ <;> rfl
@[simp] theorem eCall_7 {f7 : FE} : eCall 7 F (aCons f1 (aCons f2 (aCons f3 (aCons f4 (aCons f5 (aCons f6 (aCons f7 aNil))))))) ρ = o1 (f1 ρ) fun x => o1 (f2 ρ) fun y => o1 (f3 ρ) fun z => o1 (f4 ρ) fun u => o1 (f5 ρ) fun v => o1 (f6 ρ) fun w => o1 (f7 ρ) fun t => F [x, y, z, u, v, w, t] := by
  unfold eCall aCons aNil; cases f1 ρ <;> cases f2 ρ <;> cases f3 ρ <;> cases f4 ρ <;> cases f5 ρ <;> cases f6 ρ <;> cases f7 ρ <;> rfl
end
theorem sRet_ok {f : FE} {s : S} {d : D} (h : f s.1 = some d) : sRet f s = .ret d := by
  unfold sRet; rw [h]
theorem dfun_ret {N n : Nat} {body : FS} {ds : List D} {d : D} (ρ : PEnv) (L : List Nat) (hn : ds.length = n) (hρ : ds.map some ++ List.replicate (N - n) none = ρ) (hL : List.replicate N 0 = L) (h : body (ρ, L) = .ret d) : dfun N n body ds = some d := by
  unfold dfun
  rw [if_pos hn, hρ, hL, h]
theorem sSet_any {i l : Nat} {f : FE} {c : Esc} {ρ : PEnv} {L : List Nat} {d : D} (h : f ρ = some d) : ∃ L', sSet i l f c (ρ, L) = .next (ρ.set i (some d), L') := by
  rw [sSet_next (s := (ρ, L)) h]
  split <;> exact ⟨_, rfl⟩
theorem sPar_flat {i j : Nat} {f g : FE} {c : Esc} {ρ : PEnv} {L : List Nat} {d e : D} (h : f ρ = some d) (h' : g ρ = some e) (hd : flat d = true) (he : flat e = true) : sPar i j f g c (ρ, L) = .next ((ρ.set i (some d)).set j (some e), (L.set i 0).set j 0) := by
  unfold sPar
  simp only [h, h', hd, he]
  rfl
theorem sSet_flat {i l : Nat} {f : FE} {c : Esc} {ρ : PEnv} {L : List Nat} {d : D} (h : f ρ = some d) (hd : flat d = true) : sSet i l f c (ρ, L) = .next (ρ.set i (some d), L.set i 0) := by
  rw [sSet_next (s := (ρ, L)) h, if_pos hd]
end DS
end

section
set_option Elab.async false
set_option linter.all false
set_option maxRecDepth 10000
namespace Lib
open DS PySem
def den_divisor : Fn := dfun 2 2 (sSeq (sPar 0 1 (eCB (d1 dAbs) (aCons (eVar 0) aNil)) (eCB (d1 dAbs) (aCons (eVar 1) aNil)) ([] ++ []))
  (sSeq (sWhile 100000 (tCmp dGt (eVar 1) (eC (.int 0)))
  (sPar 0 1 (eVar 1) (eOp dMod (eVar 0) (eVar 1)) ([(1, 0)] ++ ([(0, 1)] ++ [(1, 1)]))))
  (sRet (eVar 0))))
def den_lowest : Fn := dfun 3 2 (sSeq (sSet 2 0 (eIfD (tCmp dGt (eVar 1) (eC (.int 0))) (eCall 2 den_divisor (aCons (eVar 0) (aCons (eVar 1) aNil))) (eUn dNeg (eCall 2 den_divisor (aCons (eVar 0) (aCons (eVar 1) aNil))))) (([(0, 0)] ++ ([(1, 0)] ++ [])) ++ []))
  (sRet (eTup (aCons (eOp dFdiv (eVar 0) (eVar 2)) (aCons (eOp dFdiv (eVar 1) (eVar 2)) aNil)))))
def den_plus : Fn := dfun 2 2 (sRet (eCall 2 den_lowest (aCons (eOp dAdd (eOp dMul (eIx (eVar 0) (eC (.int 0))) (eIx (eVar 1) (eC (.int 1)))) (eOp dMul (eIx (eVar 1) (eC (.int 0))) (eIx (eVar 0) (eC (.int 1))))) (aCons (eOp dMul (eIx (eVar 0) (eC (.int 1))) (eIx (eVar 1) (eC (.int 1)))) aNil))))
def den_minus : Fn := dfun 2 2 (sRet (eCall 2 den_lowest (aCons (eOp dSub (eOp dMul (eIx (eVar 0) (eC (.int 0))) (eIx (eVar 1) (eC (.int 1)))) (eOp dMul (eIx (eVar 1) (eC (.int 0))) (eIx (eVar 0) (eC (.int 1))))) (aCons (eOp dMul (eIx (eVar 0) (eC (.int 1))) (eIx (eVar 1) (eC (.int 1)))) aNil))))
def den_times : Fn := dfun 2 2 (sRet (eCall 2 den_lowest (aCons (eOp dMul (eIx (eVar 0) (eC (.int 0))) (eIx (eVar 1) (eC (.int 0)))) (aCons (eOp dMul (eIx (eVar 0) (eC (.int 1))) (eIx (eVar 1) (eC (.int 1)))) aNil))))
def den_is_less : Fn := dfun 2 2 (sRet (eB (tCmp dLt (eOp dMul (eIx (eVar 0) (eC (.int 0))) (eIx (eVar 1) (eC (.int 1)))) (eOp dMul (eIx (eVar 1) (eC (.int 0))) (eIx (eVar 0) (eC (.int 1)))))))
def den_total : Fn := dfun 3 1 (sSeq (sSet 1 0 (eTup (aCons (eC (.int 0)) (aCons (eC (.int 1)) aNil))) ([] ++ ([] ++ [])))
  (sSeq (sFor (iSeq (eVar 0)) [(0, 0)] (.nm 2)
  (sSet 1 0 (eCall 2 den_plus (aCons (eVar 1) (aCons (eVar 2) aNil))) ([(1, 0)] ++ ([(2, 0)] ++ []))))
  (sRet (eVar 1))))
def den_greatest : Fn := dfun 3 1 (sSeq (sSet 1 0 (eIx (eVar 0) (eC (.int 0))) [(0, 1)])
  (sSeq (sFor (iSeq (eVar 0)) [(0, 0)] (.nm 2)
  (sSet 1 0 (eIfD (tTru (eCall 2 den_is_less (aCons (eVar 1) (aCons (eVar 2) aNil)))) (eVar 2) (eVar 1)) ([(2, 0)] ++ [(1, 0)])))
  (sRet (eVar 1))))
def den_mean_of : Fn := dfun 4 1 (sSeq (sSet 1 0 (eCB (d1 dSum) (aCons (eLc (iSeq (eVar 0)) (.tp [(.nm 2), (.nm 3)]) tTrue (eVar 2) [2, 3]) aNil)) [])
  (sRet (eCall 1 den_total (aCons (eLc (iSeq (eVar 0)) (.tp [(.nm 2), (.nm 3)]) tTrue (eCall 2 den_times (aCons (eVar 3) (aCons (eCall 2 den_lowest (aCons (eVar 2) (aCons (eVar 1) aNil))) aNil))) [2, 3]) aNil))))
def den__law_mixed : Fn := dfun 6 2 (sSeq (sSet 2 0 (eC (.int 0)) [])
  (sSeq (sIf (tCmp dGt (eCB (d1 dLen) (aCons (eVar 0) aNil)) (eC (.int 0)))
  (sSet 2 0 (eIx (eVar 0) (eOp dMod (eVar 1) (eCB (d1 dLen) (aCons (eVar 0) aNil)))) [(0, 1)])
  sNil)
  (sSeq (sSet 3 0 (eOp dMod (eCB (d1 dInt) (aCons (eOp dAdd (eOp dAdd (eOp dMul (eVar 2) (eC (.int 48271))) (eOp dMul (eVar 1) (eC (.int 69621)))) (eC (.int 8191))) aNil)) (eC (.int 2147483647))) ([] ++ []))
  (sSeq (sSet 4 0 (eOp dMod (eCB (d1 dInt) (aCons (eOp dAdd (eOp dAdd (eOp dMul (eVar 3) (eVar 3)) (eOp dFdiv (eVar 3) (eC (.int 7)))) (eOp dMul (eVar 1) (eC (.int 16807)))) aNil)) (eC (.int 2147483629))) ([] ++ []))
  (sSeq (sSet 5 0 (eOp dMod (eCB (d1 dInt) (aCons (eOp dAdd (eOp dAdd (eOp dMul (eVar 4) (eVar 4)) (eOp dFdiv (eVar 4) (eC (.int 11)))) (eC (.int 40692))) aNil)) (eC (.int 2147483563))) ([] ++ []))
  (sRet (eOp dMod (eOp dFdiv (eVar 5) (eC (.int 5))) (eC (.int 1000003)))))))))
def den__law_row : Fn := dfun 5 2 (sSeq (sSet 2 0 (eC (.int 0)) [])
  (sSeq (sIf (tAndD (tCmp dGt (eCB (d1 dLen) (aCons (eVar 0) aNil)) (eC (.int 0))) (tCmp dGe (eIx (eVar 0) (eC (.int 0))) (eOp dPow (eC (.int 10)) (eC (.int 18)))))
  (sSet 2 0 (eIx (eVar 0) (eC (.int 0))) [(0, 1)])
  sNil)
  (sSeq (sSet 3 1 (eLst aNil) [])
  (sSeq (sFor (iRange1 (eVar 1)) [] (.nm 4)
  (sIf (tCmp dGt (eVar 2) (eC (.int 0)))
  (sSeq (sApp 3 (eOp dMod (eCB (d1 dInt) (aCons (eVar 2) aNil)) (eC (.int 1000))) ([] ++ []))
  (sSet 2 0 (eOp dFdiv (eVar 2) (eC (.int 1000))) ([(2, 1)] ++ [])))
  (sApp 3 (eCall 2 den__law_mixed (aCons (eVar 0) (aCons (eVar 4) aNil))) ([(0, 0)] ++ ([(4, 0)] ++ [])))))
  (sRet (eVar 3))))))
def den__law_is_int : Fn := dfun 1 1 (sRet (eAndD (eIsi "int" (eVar 0)) (eB (tNotD (tTru (eIsi "bool" (eVar 0)))))))
def den__law_like : Nat → Fn
  | 0 => fun _ => none
  | n + 1 => dfun 3 2 (sSeq (sIf (tIsND (eVar 1))
  (sRet (eIsN (eVar 0)))
  sNil)
  (sSeq (sIf (tTru (eIsi "bool" (eVar 1)))
  (sRet (eAndD (eIsi "bool" (eVar 0)) (eB (tCmp dEq (eVar 0) (eVar 1)))))
  sNil)
  (sSeq (sIf (tTru (eIsi "tuple" (eVar 1)))
  (sSeq (sIf (tOrD (tNotD (tTru (eIsi "tuple" (eVar 0)))) (tCmp dNe (eCB (d1 dLen) (aCons (eVar 0) aNil)) (eCB (d1 dLen) (aCons (eVar 1) aNil))))
  (sRet (eC (.bool false)))
  sNil)
  (sRet (eCB (d1 dAll) (aCons (eLc (iRange1 (eCB (d1 dLen) (aCons (eVar 1) aNil))) (.nm 2) tTrue (eCall 2 (den__law_like n) (aCons (eIx (eVar 0) (eVar 2)) (aCons (eIx (eVar 1) (eVar 2)) aNil))) [2]) aNil))))
  sNil)
  (sSeq (sIf (tTru (eIsi "str" (eVar 1)))
  (sRet (eAndD (eIsi "str" (eVar 0)) (eB (tCmp dEq (eVar 0) (eVar 1)))))
  sNil)
  (sRet (eAndD (eCall 1 den__law_is_int (aCons (eVar 0) aNil)) (eB (tCmp dEq (eVar 0) (eVar 1)))))))))
def den__law_common : Fn := dfun 2 2 (sSeq (sPar 0 1 (eCB (d1 dAbs) (aCons (eVar 0) aNil)) (eCB (d1 dAbs) (aCons (eVar 1) aNil)) ([] ++ []))
  (sSeq (sWhile 100000 (tCmp dGt (eVar 1) (eC (.int 0)))
  (sPar 0 1 (eVar 1) (eOp dMod (eCB (d1 dInt) (aCons (eVar 0) aNil)) (eVar 1)) ([(1, 0)] ++ ([] ++ [(1, 1)]))))
  (sRet (eVar 0))))
def den__law_ratio : Fn := dfun 3 2 (sSeq (sSet 2 0 (eCall 2 den__law_common (aCons (eVar 0) (aCons (eVar 1) aNil))) ([(0, 0)] ++ ([(1, 0)] ++ [])))
  (sSeq (sIf (tCmp dLt (eVar 1) (eC (.int 0)))
  (sSet 2 0 (eUn dNeg (eVar 2)) [])
  sNil)
  (sRet (eTup (aCons (eOp dFdiv (eVar 0) (eVar 2)) (aCons (eOp dFdiv (eVar 1) (eVar 2)) aNil))))))
def den__law_power : Fn := dfun 4 2 (sSeq (sSet 2 0 (eC (.int 1)) [])
  (sSeq (sFor (iRange1 (eVar 1)) [] (.nm 3)
  (sSet 2 0 (eOp dMul (eVar 2) (eVar 0)) ([(2, 1)] ++ [(0, 1)])))
  (sRet (eVar 2))))
end Lib
end

section
set_option Elab.async false
set_option linter.all false
set_option maxRecDepth 10000
namespace Lib
open DS PySem
/-- a ratio as a tree -/
def rt (q : Rat) : D := .tuple [.int q.num, .int q.den]
/-- small enough: numerator and denominator below 2 ^ n -/
def Sm (n : Nat) (q : Rat) : Prop := q.num.natAbs < 2 ^ n ∧ q.den < 2 ^ n
/-! Euclid's loop -/
def gcdLoop : FS := sWhile 100000 (tCmp dGt (eVar 1) (eC (.int 0))) (sPar 0 1 (eVar 1) (eOp dMod (eVar 0) (eVar 1)) ([(1, 0)] ++ ([(0, 1)] ++ [(1, 1)])))
theorem gcd_step (n : Nat) (a b : Int) (L : List Nat) (hb : 0 < b) : ∃ L', whGo (tCmp dGt (eVar 1) (eC (.int 0))) (sPar 0 1 (eVar 1) (eOp dMod (eVar 0) (eVar 1)) ([(1, 0)] ++ ([(0, 1)] ++ [(1, 1)]))) (n + 1) ([some (.int a), some (.int b)], L) =
    whGo (tCmp dGt (eVar 1) (eC (.int 0))) (sPar 0 1 (eVar 1) (eOp dMod (eVar 0) (eVar 1)) ([(1, 0)] ++ ([(0, 1)] ++ [(1, 1)]))) n ([some (.int b), some (.int (a % b))], L') := by
  rw [whGo]
  simp [hb, sPar, dMod_i hb, flat]
  exact ⟨_, rfl⟩
theorem gcd_end (n : Nat) (a : Int) (L : List Nat) : whGo (tCmp dGt (eVar 1) (eC (.int 0))) (sPar 0 1 (eVar 1) (eOp dMod (eVar 0) (eVar 1)) ([(1, 0)] ++ ([(0, 1)] ++ [(1, 1)]))) (n + 1) ([some (.int a), some (.int 0)], L) = .next ([some (.int a), some (.int 0)], L) := by
  rw [whGo]
  simp
theorem mod2_lt {b r : Int} (hr : 0 < r) (hrb : r < b) : 2 * (b % r) < b := by
  have h1 := Int.emod_lt_of_pos b hr
  have h2 := Int.emod_nonneg b (by omega : r ≠ 0)
  by_cases h : 2 * r ≤ b
  · omega
  · have : b % r = b - r := by
      have e := Int.emod_add_mul_ediv b r
      have hq : b / r = 1 := by
        apply Int.le_antisymm
        · have : b / r < 2 := Int.ediv_lt_of_lt_mul hr (by omega)
          omega
        · exact (Int.le_ediv_iff_mul_le hr).mpr (by omega)
      rw [hq] at e
      omega
    omega
theorem gcd_mod (a b : Int) : Int.gcd a b = Int.gcd b (a % b) := by
  rw [Int.gcd_comm a b]
  conv => lhs; rw [← Int.emod_add_mul_ediv a b, Int.mul_comm]
  exact Int.gcd_add_mul_right_right b (a % b) (a / b)
theorem gcd_go : ∀ (k n : Nat) (a b : Int) (L : List Nat), 0 ≤ a → 0 ≤ b → b < 2 ^ k → 2 * k + 1 ≤ n → ∃ L', whGo (tCmp dGt (eVar 1) (eC (.int 0))) (sPar 0 1 (eVar 1) (eOp dMod (eVar 0) (eVar 1)) ([(1, 0)] ++ ([(0, 1)] ++ [(1, 1)]))) n ([some (.int a), some (.int b)], L) = .next ([some (.int (Int.gcd a b)), some (.int 0)], L')
  | 0, n + 1, a, b, L, ha, hb, hk, hn => by
    have e : b = 0 := by simpa using (show b < 1 by simpa using hk) |> fun h => (by omega : b = 0)
    subst e
    rw [gcd_end]
    exact ⟨L, by simp [Int.natAbs_of_nonneg ha]⟩
  | k + 1, n + 3, a, b, L, ha, hb, hk, hn => by
    by_cases h0 : b = 0
    · subst h0
      rw [gcd_end]
      exact ⟨L, by simp [Int.natAbs_of_nonneg ha]⟩
    · have hb' : 0 < b := by omega
      obtain ⟨L1, e1⟩ := gcd_step (n + 2) a b L hb'
      rw [e1]
      have hr0 := Int.emod_nonneg a (by omega : b ≠ 0)
      have hr1 := Int.emod_lt_of_pos a hb'
      have g1 : Int.gcd a b = Int.gcd b (a % b) := gcd_mod a b
      by_cases h1 : a % b = 0
      · rw [h1] at g1 ⊢
        rw [gcd_end]
        exact ⟨L1, by rw [g1]; simp [Int.natAbs_of_nonneg hb]⟩
      · obtain ⟨L2, e2⟩ := gcd_step (n + 1) b (a % b) L1 (by omega)
        rw [e2]
        have hm := mod2_lt (b := b) (r := a % b) (by omega) hr1
        have hlt : b % (a % b) < 2 ^ k := by
          have : (2 : Int) ^ (k + 1) = 2 * 2 ^ k := by rw [Int.pow_succ]; omega
          omega
        obtain ⟨L3, e3⟩ := gcd_go k (n + 1) (a % b) (b % (a % b)) L2 hr0 (Int.emod_nonneg b h1) hlt (by omega)
        rw [e3]
        refine ⟨L3, ?_⟩
        rw [g1, gcd_mod b (a % b)]
/-! divisor, lowest -/
theorem int_lt_pow {b : Int} {k : Nat} (h0 : 0 ≤ b) (h : b.natAbs < 2 ^ k) : b < 2 ^ k := by
  have e : b = (b.natAbs : Int) := by omega
  rw [e]
  have := Int.ofNat_lt.mpr h
  simpa using this
theorem divisor_ok {a b : Int} {k : Nat} (hb : b.natAbs < 2 ^ k) (hk : k ≤ 40000) : den_divisor [.int a, .int b] = some (.int (Int.gcd a b)) := by
  have habs : ∀ x : Int, (if x < 0 then -x else x) = (x.natAbs : Int) := fun x => by split <;> omega
  unfold den_divisor dfun
  simp only [List.length_cons, List.length_nil, Nat.zero_add, Nat.reduceAdd, if_true, List.map_cons, List.map_nil]
  rw [sSeq_next (s' := ([some (.int a.natAbs), some (.int b.natAbs)], [0, 0])) (by simp [sPar, dAbs, flat, habs])]
  obtain ⟨L, e⟩ := gcd_go k 100000 a.natAbs b.natAbs [0, 0] (by omega) (by omega) (by
    have := Int.ofNat_lt.mpr hb
    simpa using this) (by omega)
  rw [sSeq_next (s' := ([some (.int (Int.gcd a b)), some (.int 0)], L)) (by
    unfold sWhile
    rw [e]
    simp [Int.gcd_eq_natAbs_gcd_natAbs])]
  simp
/-- the lowest terms of a / b, b above 0 -/
theorem lowest_ok {a b : Int} {k : Nat} (hb0 : 0 < b) (hb : b.natAbs < 2 ^ k) (hk : k ≤ 8999) : den_lowest [.int a, .int b] = some (rt (Rat.divInt a b)) := by
  have hg : (Int.gcd a b) ≠ 0 := fun h => by
    have := (Int.gcd_eq_zero_iff.mp h).2
    omega
  have hgb : Int.gcd a b ≤ b.natAbs := Nat.le_of_dvd (by omega) (Int.gcd_eq_natAbs_gcd_natAbs a b ▸ Nat.gcd_dvd_right _ _)
  have hnum : (Rat.divInt a b).num = a / (Int.gcd a b : Int) := by rw [Rat.num_divInt, Int.gcd_comm, Int.sign_eq_one_of_pos hb0, Int.one_mul]
  have hden : (Rat.divInt a b).den = b.natAbs / Int.gcd a b := by rw [Rat.den_divInt, if_neg (by omega), Int.gcd_comm]
  have hfd : fdivOk (Int.gcd a b : Int) = true := fdivOk_of (n := k + 1) (by omega) (by
    rw [Nat.pow_succ]
    have e : ((Int.gcd a b : Nat) : Int).natAbs = Int.gcd a b := by omega
    rw [e]; omega) (by omega) (by omega)
  unfold den_lowest dfun
  simp only [List.length_cons, List.length_nil, Nat.zero_add, Nat.reduceAdd, if_true, List.map_cons, List.map_nil]
  rw [sSeq_next (s' := ([some (.int a), some (.int b), some (.int (Int.gcd a b))], [0, 0, 0])) (by
    rw [sSet_next (d := .int (Int.gcd a b)) (by simp [eIfD, hb0, eCall, divisor_ok hb (by omega : k ≤ 40000)])]
    simp [flat])]
  have eb : b / (Int.gcd a b : Int) = ((b.natAbs / Int.gcd a b : Nat) : Int) := by
    rw [Int.natCast_ediv]
    congr 1
    omega
  simp only [sRet_a, eTup, aCons_a, eOp_a, eVar_0, eVar_s, o2_ss, o1_s, dFdiv_i hfd, aNil_a, rt, hnum, hden, eb]
  rfl
theorem Sm.mono {m n : Nat} {q : Rat} (h : Sm m q) (hmn : m ≤ n) : Sm n q :=
  ⟨Nat.lt_of_lt_of_le h.1 (Nat.pow_le_pow_right (by omega) hmn), Nat.lt_of_lt_of_le h.2 (Nat.pow_le_pow_right (by omega) hmn)⟩
theorem natAbs_mul_lt {x y : Int} {m n : Nat} (hx : x.natAbs < 2 ^ m) (hy : y.natAbs < 2 ^ n) : (x * y).natAbs < 2 ^ (m + n) := by
  rw [Int.natAbs_mul, Nat.pow_add]
  exact Nat.mul_lt_mul'' hx hy
theorem natAbs_add_lt {x y : Int} {m : Nat} (hx : x.natAbs < 2 ^ m) (hy : y.natAbs < 2 ^ m) : (x + y).natAbs < 2 ^ (m + 1) := by
  rw [Nat.pow_succ]; omega
theorem natAbs_sub_lt {x y : Int} {m : Nat} (hx : x.natAbs < 2 ^ m) (hy : y.natAbs < 2 ^ m) : (x - y).natAbs < 2 ^ (m + 1) := by
  rw [Nat.pow_succ]; omega
/-- a quotient is no greater than what it is made of -/
theorem Sm.divInt {a b : Int} {m n : Nat} (hb : 0 < b) (ha : a.natAbs < 2 ^ m) (hb' : b.natAbs < 2 ^ m) : Sm m (Rat.divInt a b) := by
  have hg : 0 < Int.gcd a b := Nat.pos_of_ne_zero fun h => by
    have := (Int.gcd_eq_zero_iff.mp h).2
    omega
  have hnum : (Rat.divInt a b).num = a / (Int.gcd a b : Int) := by rw [Rat.num_divInt, Int.gcd_comm, Int.sign_eq_one_of_pos hb, Int.one_mul]
  have hden : (Rat.divInt a b).den = b.natAbs / Int.gcd a b := by rw [Rat.den_divInt, if_neg (by omega), Int.gcd_comm]
  constructor
  · rw [hnum]
    have hd : (Int.gcd a b : Int) ∣ a := Int.gcd_dvd_left _ _
    rw [Int.natAbs_ediv_of_dvd hd]
    have e : ((Int.gcd a b : Nat) : Int).natAbs = Int.gcd a b := by omega
    rw [e]
    exact Nat.lt_of_le_of_lt (Nat.div_le_self _ _) ha
  · rw [hden]
    exact Nat.lt_of_le_of_lt (Nat.div_le_self _ _) hb'
theorem den_pos (q : Rat) : (0 : Int) < q.den := by
  have := q.den_nz
  omega
theorem atI_0 {x : D} {r : List D} : L2.atI (x :: r) 0 = some x := by
  have : L2.atI (x :: r) ((0 : Nat) : Int) = some x := L2.atI_nat rfl
  simpa using this
theorem atI_1 {x y : D} {r : List D} : L2.atI (x :: y :: r) 1 = some y := by
  have : L2.atI (x :: y :: r) ((1 : Nat) : Int) = some y := L2.atI_nat rfl
  simpa using this
theorem rt_0 (q : Rat) : dIx (rt q) (.int 0) = some (.int q.num) := atI_0
theorem rt_1 (q : Rat) : dIx (rt q) (.int 1) = some (.int q.den) := atI_1
theorem times_ok {p q : Rat} {m n : Nat} (hp : Sm m p) (hq : Sm n q) (h0 : 0 < m) (h1 : 0 < n) (h : m + n ≤ 8000) : den_times [rt p, rt q] = some (rt (p * q)) ∧ Sm (m + n) (p * q) := by
  have e : p * q = Rat.divInt (p.num * q.num) (p.den * q.den) := by
    conv => lhs; rw [← Rat.num_divInt_den p, ← Rat.num_divInt_den q]
    exact Rat.divInt_mul_divInt _ _
  have hd : (0 : Int) < p.den * q.den := Int.mul_pos (den_pos p) (den_pos q)
  have b1 : (p.num * q.num).natAbs < 2 ^ (m + n) := natAbs_mul_lt hp.1 hq.1
  have b2 : ((p.den : Int) * q.den).natAbs < 2 ^ (m + n) := natAbs_mul_lt (by simpa using hp.2) (by simpa using hq.2)
  have m1 : mulOk p.num q.num = true := mulOk_big hp.1 hq.1 h0 h1 (by omega)
  have m2 : mulOk (p.den : Int) q.den = true := mulOk_big (m := m) (n := n) (by simpa using hp.2) (by simpa using hq.2) h0 h1 (by omega)
  refine ⟨?_, by rw [e]; exact Sm.divInt (n := n) hd b1 b2⟩
  have hl := lowest_ok (a := p.num * q.num) hd b2 (by omega)
  rw [← e] at hl
  simp [den_times, dfun, eCall, rt_0, rt_1, dMul_i m1, dMul_i m2, hl]
theorem plus_ok {p q : Rat} {m n : Nat} (hp : Sm m p) (hq : Sm n q) (h0 : 0 < m) (h1 : 0 < n) (h : m + n ≤ 8000) : den_plus [rt p, rt q] = some (rt (p + q)) ∧ Sm (m + n + 1) (p + q) := by
  have e : p + q = Rat.divInt (p.num * q.den + q.num * p.den) (p.den * q.den) := by
    conv => lhs; rw [← Rat.num_divInt_den p, ← Rat.num_divInt_den q]
    exact Rat.divInt_add_divInt _ _ (by have := den_pos p; omega) (by have := den_pos q; omega)
  have hd : (0 : Int) < p.den * q.den := Int.mul_pos (den_pos p) (den_pos q)
  have c1 : (p.num * q.den).natAbs < 2 ^ (m + n) := natAbs_mul_lt hp.1 (by simpa using hq.2)
  have c2 : (q.num * p.den).natAbs < 2 ^ (m + n) := by
    rw [Nat.add_comm]
    exact natAbs_mul_lt hq.1 (by simpa using hp.2)
  have b1 := natAbs_add_lt c1 c2
  have b2 : ((p.den : Int) * q.den).natAbs < 2 ^ (m + n) := natAbs_mul_lt (by simpa using hp.2) (by simpa using hq.2)
  have b2' : ((p.den : Int) * q.den).natAbs < 2 ^ (m + n + 1) := Nat.lt_of_lt_of_le b2 (Nat.pow_le_pow_right (by omega) (by omega))
  have m1 : mulOk p.num q.den = true := mulOk_big (m := m) (n := n) hp.1 (by simpa using hq.2) h0 h1 (by omega)
  have m2 : mulOk q.num p.den = true := mulOk_big (m := n) (n := m) hq.1 (by simpa using hp.2) h1 h0 (by omega)
  have m3 : mulOk (p.den : Int) q.den = true := mulOk_big (m := m) (n := n) (by simpa using hp.2) (by simpa using hq.2) h0 h1 (by omega)
  refine ⟨?_, by rw [e]; exact Sm.divInt (n := n) hd b1 b2'⟩
  have hl := lowest_ok (a := p.num * q.den + q.num * p.den) hd b2 (by omega)
  rw [← e] at hl
  simp [den_plus, dfun, eCall, rt_0, rt_1, dMul_i m1, dMul_i m2, dMul_i m3, hl]
theorem minus_ok {p q : Rat} {m n : Nat} (hp : Sm m p) (hq : Sm n q) (h0 : 0 < m) (h1 : 0 < n) (h : m + n ≤ 8000) : den_minus [rt p, rt q] = some (rt (p - q)) ∧ Sm (m + n + 1) (p - q) := by
  have e : p - q = Rat.divInt (p.num * q.den - q.num * p.den) (p.den * q.den) := by
    conv => lhs; rw [← Rat.num_divInt_den p, ← Rat.num_divInt_den q]
    exact Rat.divInt_sub_divInt _ _ (by have := den_pos p; omega) (by have := den_pos q; omega)
  have hd : (0 : Int) < p.den * q.den := Int.mul_pos (den_pos p) (den_pos q)
  have c1 : (p.num * q.den).natAbs < 2 ^ (m + n) := natAbs_mul_lt hp.1 (by simpa using hq.2)
  have c2 : (q.num * p.den).natAbs < 2 ^ (m + n) := by
    rw [Nat.add_comm]
    exact natAbs_mul_lt hq.1 (by simpa using hp.2)
  have b1 := natAbs_sub_lt c1 c2
  have b2 : ((p.den : Int) * q.den).natAbs < 2 ^ (m + n) := natAbs_mul_lt (by simpa using hp.2) (by simpa using hq.2)
  have b2' : ((p.den : Int) * q.den).natAbs < 2 ^ (m + n + 1) := Nat.lt_of_lt_of_le b2 (Nat.pow_le_pow_right (by omega) (by omega))
  have m1 : mulOk p.num q.den = true := mulOk_big (m := m) (n := n) hp.1 (by simpa using hq.2) h0 h1 (by omega)
  have m2 : mulOk q.num p.den = true := mulOk_big (m := n) (n := m) hq.1 (by simpa using hp.2) h1 h0 (by omega)
  have m3 : mulOk (p.den : Int) q.den = true := mulOk_big (m := m) (n := n) (by simpa using hp.2) (by simpa using hq.2) h0 h1 (by omega)
  refine ⟨?_, by rw [e]; exact Sm.divInt (n := n) hd b1 b2'⟩
  have hl := lowest_ok (a := p.num * q.den - q.num * p.den) hd b2 (by omega)
  rw [← e] at hl
  simp [den_minus, dfun, eCall, rt_0, rt_1, dMul_i m1, dMul_i m2, dMul_i m3, hl]
theorem is_less_ok {p q : Rat} {m n : Nat} (hp : Sm m p) (hq : Sm n q) (h0 : 0 < m) (h1 : 0 < n) (h : m + n ≤ 8000) : den_is_less [rt p, rt q] = some (.bool (decide (p < q))) := by
  have m1 : mulOk p.num q.den = true := mulOk_big (m := m) (n := n) hp.1 (by simpa using hq.2) h0 h1 (by omega)
  have m2 : mulOk q.num p.den = true := mulOk_big (m := n) (n := m) hq.1 (by simpa using hp.2) h1 h0 (by omega)
  simp [den_is_less, dfun, rt_0, rt_1, dMul_i m1, dMul_i m2, Rat.lt_iff]
end Lib
end

section
set_option Elab.async false
set_option linter.all false
set_option maxRecDepth 10000
/-! The law's own helpers, as in every law: the row of numbers that a script gives, the comparison of trees, ratios, powers. -/
namespace Lib
open DS PySem
theorem scr_len (ns : List Int) : dLen (scr ns) = some (.int ns.length) := by
  simp [scr, dLen]
theorem atI_map {ns : List Int} {i : Int} (h0 : 0 ≤ i) (h1 : i < ns.length) : ∃ x, L2.atI (ns.map PyData.int) i = some (.int x) := by
  obtain ⟨j, rfl⟩ : ∃ j : Nat, i = (j : Int) := ⟨i.toNat, by omega⟩
  have hj : j < ns.length := by omega
  exact ⟨ns[j], L2.atI_nat (by simp [hj])⟩
theorem scr_ix {ns : List Int} {i : Int} (h0 : 0 ≤ i) (h1 : i < ns.length) : ∃ x, dIx (scr ns) (.int i) = some (.int x) := by
  show ∃ x, L2.atI (ns.map PyData.int) i = some (.int x)
  exact atI_map h0 h1
theorem natAbs_emod_lt {a b : Int} (hb : 0 < b) : (a % b).natAbs < b.natAbs := by
  have h1 := Int.emod_lt_of_pos a hb
  have h2 := Int.emod_nonneg a (by omega : b ≠ 0)
  omega
theorem mixed_ok (ns : List Int) (k : Int) : ∃ v, 0 ≤ v ∧ den__law_mixed [scr ns, .int k] = some (.int v) := by
  -- behind the choice of the cell
  have tail : ∀ (cell : Int) (L : List Nat), ∃ v, 0 ≤ v ∧ (sSeq (sSet 3 0 (eOp dMod (eCB (d1 dInt) (aCons (eOp dAdd (eOp dAdd (eOp dMul (eVar 2) (eC (.int 48271))) (eOp dMul (eVar 1) (eC (.int 69621)))) (eC (.int 8191))) aNil)) (eC (.int 2147483647))) ([] ++ []))
      (sSeq (sSet 4 0 (eOp dMod (eCB (d1 dInt) (aCons (eOp dAdd (eOp dAdd (eOp dMul (eVar 3) (eVar 3)) (eOp dFdiv (eVar 3) (eC (.int 7)))) (eOp dMul (eVar 1) (eC (.int 16807)))) aNil)) (eC (.int 2147483629))) ([] ++ []))
      (sSeq (sSet 5 0 (eOp dMod (eCB (d1 dInt) (aCons (eOp dAdd (eOp dAdd (eOp dMul (eVar 4) (eVar 4)) (eOp dFdiv (eVar 4) (eC (.int 11)))) (eC (.int 40692))) aNil)) (eC (.int 2147483563))) ([] ++ []))
      (sRet (eOp dMod (eOp dFdiv (eVar 5) (eC (.int 5))) (eC (.int 1000003))))))) ([some (scr ns), some (.int k), some (.int cell), none, none, none], L) = .ret (.int v) := by
    intro cell L
    generalize hf : (cell * 48271 + k * 69621 + 8191) % 2147483647 = first
    have f1 : first.natAbs < 18446744073709551616 := by
      have := natAbs_emod_lt (a := cell * 48271 + k * 69621 + 8191) (b := 2147483647) (by omega)
      rw [hf] at this
      omega
    generalize hs : (first * first + first / 7 + k * 16807) % 2147483629 = second
    have s1 : second.natAbs < 18446744073709551616 := by
      have := natAbs_emod_lt (a := first * first + first / 7 + k * 16807) (b := 2147483629) (by omega)
      rw [hs] at this
      omega
    have k1 : ∀ i : Int, mulOk i 48271 = true := fun i => mulOk_r (by decide)
    have k2 : ∀ i : Int, mulOk i 69621 = true := fun i => mulOk_r (by decide)
    have k3 : ∀ i : Int, mulOk i 16807 = true := fun i => mulOk_r (by decide)
    have d7 : fdivOk 7 = true := by decide
    have d11 : fdivOk 11 = true := by decide
    have d5 : fdivOk 5 = true := by decide
    rw [sSeq_next (s' := ([some (scr ns), some (.int k), some (.int cell), some (.int first), none, none], L.set 3 0)) (by
      rw [sSet_next (d := .int first) (by simp [dMul_i (k1 _), dMul_i (k2 _), dMod, hf])]
      simp [flat])]
    rw [sSeq_next (s' := ([some (scr ns), some (.int k), some (.int cell), some (.int first), some (.int second), none], (L.set 3 0).set 4 0)) (by
      rw [sSet_next (d := .int second) (by simp [dMul_i (mulOk_l f1), dMul_i (k3 _), dFdiv_i d7, dMod, hs])]
      simp [flat])]
    rw [sSeq_next (s' := ([some (scr ns), some (.int k), some (.int cell), some (.int first), some (.int second), some (.int ((second * second + second / 11 + 40692) % 2147483563))], ((L.set 3 0).set 4 0).set 5 0)) (by
      rw [sSet_next (d := .int ((second * second + second / 11 + 40692) % 2147483563)) (by simp [dMul_i (mulOk_l s1), dFdiv_i d11, dMod])]
      simp [flat])]
    refine ⟨(second * second + second / 11 + 40692) % 2147483563 / 5 % 1000003, Int.emod_nonneg _ (by decide), ?_⟩
    simp [dFdiv_i d5, dMod]
  unfold den__law_mixed dfun
  simp only [List.length_cons, List.length_nil, Nat.zero_add, Nat.reduceAdd, if_true, List.map_cons, List.map_nil]
  rw [sSeq_next (s' := ([some (scr ns), some (.int k), some (.int 0), none, none, none], [0, 0, 0, 0, 0, 0])) (by simp [sSet, flat])]
  by_cases h : ns = []
  · rw [sSeq_next (s' := ([some (scr ns), some (.int k), some (.int 0), none, none, none], [0, 0, 0, 0, 0, 0])) (by
      rw [sIf_f (by simp [scr_len, h])]
      rfl)]
    obtain ⟨v, h0, e⟩ := tail 0 [0, 0, 0, 0, 0, 0]
    exact ⟨v, h0, by rw [e]⟩
  · have hl : (0 : Int) < ns.length := by
      have := List.length_pos_iff.mpr h
      omega
    obtain ⟨x, hx⟩ := scr_ix (ns := ns) (i := k % (ns.length : Int)) (Int.emod_nonneg _ (by omega)) (Int.emod_lt_of_pos _ hl)
    rw [sSeq_next (s' := ([some (scr ns), some (.int k), some (.int x), none, none, none], [0, 0, 0, 0, 0, 0])) (by
      rw [sIf_t (by simp [scr_len]; omega)]
      rw [sSet_next (d := .int x) (by simp [scr_len, dMod_i hl, hx])]
      simp [flat])]
    obtain ⟨v, h0, e⟩ := tail x [0, 0, 0, 0, 0, 0]
    exact ⟨v, h0, by rw [e]⟩
end Lib
end

section
set_option Elab.async false
set_option linter.all false
set_option maxRecDepth 10000
/-! Loops with a claim that each round keeps; comprehensions; the row that a script gives. -/
namespace Lib
open DS PySem
theorem for_inv {t : Tg} {body : FS} (P : Nat → S → Prop) : ∀ (ds : List D) (k0 : Nat) (s : S), P k0 s →
    (∀ k d s, ds[k]? = some d → P (k0 + k) s → ∃ l s', t.go d = some l ∧ body (setsD s.1 l, zeros s.2 l) = .next s' ∧ P (k0 + k + 1) s') →
    ∃ s', forGo t body ds s = .next s' ∧ P (k0 + ds.length) s'
  | [], k0, s, h, _ => ⟨s, rfl, h⟩
  | d :: ds, k0, s, h, st => by
    obtain ⟨l, s', e1, e2, h'⟩ := st 0 d s rfl h
    obtain ⟨s2, e3, h2⟩ := for_inv P ds (k0 + 1) s' h' (fun k d' s'' hd hp => by
      have := st (k + 1) d' s'' (by simpa using hd)
      have a1 : k0 + (k + 1) = k0 + 1 + k := by omega
      rw [a1] at this
      exact this hp)
    refine ⟨s2, ?_, ?_⟩
    · unfold forGo
      rw [e1]
      show (match body (setsD s.1 l, zeros s.2 l) with
        | .next s' => forGo t body ds s'
        | .cont s' => forGo t body ds s'
        | .brk s' => .next s'
        | .ret d => .ret d
        | .stuck => .stuck) = _
      rw [e2]
      exact e3
    · have a1 : k0 + (d :: ds).length = k0 + 1 + ds.length := by simp; omega
      rw [a1]; exact h2
/-- a loop over i, i + 1, … -/
theorem rng_get {lo : Int} {n k : Nat} {d : D} (h : (rngD lo n)[k]? = some d) : k < n ∧ d = .int (lo + k) := by
  have hk : k < n := by
    have := (List.getElem?_eq_some_iff.mp h).1
    simpa [rngD] using this
  refine ⟨hk, ?_⟩
  unfold rngD at h
  rw [List.getElem?_map, List.getElem?_range hk] at h
  exact (Option.some.inj h).symm
theorem rng_len {lo : Int} {n : Nat} : (rngD lo n).length = n := by simp [rngD]
theorem for_rng {i : Nat} {body : FS} {n : Nat} {lo : Int} (P : Nat → S → Prop) (s : S) (h0 : P 0 s)
    (st : ∀ (k : Nat) (s : S), k < n → P k s → ∃ s', body (s.1.set i (some (.int (lo + k))), s.2.set i 0) = .next s' ∧ P (k + 1) s') :
    ∃ s', forGo (.nm i) body (rngD lo n) s = .next s' ∧ P n s' := by
  obtain ⟨s', e, h⟩ := for_inv (t := .nm i) (body := body) P (rngD lo n) 0 s h0 (fun k d s hd hp => by
    obtain ⟨hk, rfl⟩ := rng_get hd
    rw [Nat.zero_add] at hp ⊢
    obtain ⟨s', e, h'⟩ := st k s hk hp
    exact ⟨[(i, .int (lo + k))], s', by simp [Tg.go], e, h'⟩)
  rw [Nat.zero_add, rng_len] at h
  exact ⟨s', e, h⟩
theorem range1_ok {f : FE} {ρ : PEnv} {n : Nat} (h : f ρ = some (.int n)) (hn : n < 4611686018427387904) : iRange1 f ρ = some (rngD 0 n) := by
  unfold iRange1
  rw [h, o1_s]
  have : rngOk 0 (n : Int) = true := by
    unfold rngOk
    simp only [Bool.and_eq_true, decide_eq_true_eq]
    omega
  show (if rngOk 0 (n : Int) = true then some (rngD 0 (n : Int).toNat) else none) = _
  rw [if_pos this]
  rfl
theorem range2_ok {f g : FE} {ρ : PEnv} {i j : Int} (h : f ρ = some (.int i)) (h' : g ρ = some (.int j)) (b1 : -4611686018427387904 ≤ i) (b2 : i < 4611686018427387904) (b3 : -4611686018427387904 ≤ j) (b4 : j < 4611686018427387904) : iRange2 f g ρ = some (rngD i (j - i).toNat) := by
  unfold iRange2
  rw [h, h', o2_ss]
  have : rngOk i j = true := by
    unfold rngOk
    simp only [Bool.and_eq_true, decide_eq_true_eq]
    omega
  show (if rngOk i j = true then some (rngD i (j - i).toNat) else none) = _
  rw [if_pos this]
theorem sFor_go {fi : FA} {c : Esc} {t : Tg} {body : FS} {s : S} {ds : List D} (h : fi s.1 = some ds) : sFor fi c t body s = forGo t body ds (s.1, demote c s.2) := by
  unfold sFor; rw [h]
/-! comprehensions -/
theorem lc_map {t : Tg} {fe : FE} {ρ : PEnv} {g : D → D} : ∀ {ds : List D}, (∀ d ∈ ds, ∃ l, t.go d = some l ∧ fe (setsD ρ l) = some (g d)) → lcGo t tTrue fe ρ ds = some (ds.map g)
  | [], _ => rfl
  | d :: ds, h => by
    obtain ⟨l, e1, e2⟩ := h d (.head _)
    have ih := lc_map (ds := ds) fun d' hd => h d' (.tail _ hd)
    unfold lcGo
    rw [e1]
    simp only [tTrue_a, e2, ih, List.map_cons]
theorem eLc_map {fi : FA} {t : Tg} {fe : FE} {vs : List Nat} {ρ : PEnv} {g : D → D} {ds : List D} (h : fi ρ = some ds) (hl : ds.length ≤ 16777216) (hg : ∀ d ∈ ds, ∃ l, t.go d = some l ∧ fe (setsD (wipeD ρ vs) l) = some (g d)) :
    eLc fi t tTrue fe vs ρ = some (.list (ds.map g)) := by
  unfold eLc
  rw [h, o1_s]
  have : ds.length ≤ sz := hl
  rw [if_pos this, lc_map hg, o1_s]
/-- over i = 0, 1, … -/
theorem lc_rng {i : Nat} {fe : FE} {ρ : PEnv} {n : Nat} {lo : Int} {g : Nat → D} (h : ∀ k : Nat, k < n → fe (ρ.set i (some (.int (lo + k)))) = some (g k)) : lcGo (.nm i) tTrue fe ρ (rngD lo n) = some ((List.range n).map g) := by
  unfold rngD
  have go : ∀ (l : List Nat), (∀ k ∈ l, k < n) → lcGo (.nm i) tTrue fe ρ (l.map fun (k : Nat) => .int (lo + (k : Int))) = some (l.map g) := by
    intro l hl
    induction l with
    | nil => rfl
    | cons k l ih =>
      have e := h k (hl k (.head _))
      have ih' := ih fun k' hk => hl k' (.tail _ hk)
      unfold lcGo
      simp only [List.map_cons, Tg.go, tTrue_a]
      show (match fe (ρ.set i (some (.int (lo + k)))) with
        | none => none
        | some y => match lcGo (.nm i) tTrue fe ρ (l.map fun (k : Nat) => .int (lo + (k : Int))) with
          | none => none
          | some ys => some (y :: ys)) = _
      rw [e, ih']
  exact go (List.range n) fun k hk => List.mem_range.mp hk
theorem eLc_rng {f : FE} {i : Nat} {fe : FE} {vs : List Nat} {ρ : PEnv} {n : Nat} {g : Nat → D} (hf : f ρ = some (.int n)) (hn : n ≤ 16777216) (h : ∀ k : Nat, k < n → fe ((wipeD ρ vs).set i (some (.int k))) = some (g k)) :
    eLc (iRange1 f) (.nm i) tTrue fe vs ρ = some (.list ((List.range n).map g)) := by
  unfold eLc
  rw [range1_ok hf (by omega), o1_s]
  have : (rngD 0 n).length ≤ sz := by rw [rng_len]; exact hn
  rw [if_pos this, lc_rng (g := g) (fun k hk => by rw [Int.zero_add]; exact h k hk), o1_s]
/-! the row -/
def Nats (ds : List D) : Prop := ∀ d ∈ ds, ∃ v : Int, 0 ≤ v ∧ d = .int v
theorem Nats.snoc {ds : List D} {v : Int} (h : Nats ds) (hv : 0 ≤ v) : Nats (ds ++ [.int v]) := fun d hd => by
  rcases List.mem_append.mp hd with h1 | h1
  · exact h d h1
  · simp at h1; exact ⟨v, hv, h1⟩
theorem sApp_flat {i : Nat} {f : FE} {c : Esc} {ρ : PEnv} {L : List Nat} {d : D} {ds : List D} (h : f ρ = some d) (hd : flat d = true) (hi : eVar i ρ = some (.list ds)) (hl : ds.length < 16777216) (hL : lv L i = 1) : sApp i f c (ρ, L) = .next (ρ.set i (some (.list (ds ++ [d]))), L) := by
  unfold sApp
  simp only [h, hi]
  have : ds.length < sz := hl
  rw [if_pos this, if_pos hd, if_pos hL]
theorem sApp_deep {i : Nat} {f : FE} {c : Esc} {ρ : PEnv} {L : List Nat} {d : D} {ds : List D} (h : f ρ = some d) (hd : flat d = false) (hi : eVar i ρ = some (.list ds)) (hl : ds.length < 16777216) (hL : lv (demote c L) i = 1) : sApp i f c (ρ, L) = .next (ρ.set i (some (.list (ds ++ [d]))), demote c L) := by
  unfold sApp
  simp only [h, hi]
  have : ds.length < sz := hl
  rw [if_pos this, if_neg (by simp [hd]), if_pos hL]
theorem row_ok (ns : List Int) (many : Nat) (hm : many ≤ 1000000) : ∃ ds, ds.length = many ∧ Nats ds ∧ den__law_row [scr ns, .int many] = some (.list ds) := by
  have head : ∃ (big : Int) , (sIf (tAndD (tCmp dGt (eCB (d1 dLen) (aCons (eVar 0) aNil)) (eC (.int 0))) (tCmp dGe (eIx (eVar 0) (eC (.int 0))) (eOp dPow (eC (.int 10)) (eC (.int 18)))))
      (sSet 2 0 (eIx (eVar 0) (eC (.int 0))) [(0, 1)]) sNil) ([some (scr ns), some (.int many), some (.int 0), none, none], [0, 0, 0, 0, 0]) = .next ([some (scr ns), some (.int many), some (.int big), none, none], [0, 0, 0, 0, 0]) := by
    by_cases h : ns = []
    · exact ⟨0, by rw [sIf_f (by simp [tAndD, scr_len, h])]; rfl⟩
    · have hl : (0 : Int) < ns.length := by
        have := List.length_pos_iff.mpr h
        omega
      obtain ⟨x, hx⟩ := scr_ix (ns := ns) (i := 0) (by omega) hl
      have hl' : 0 < ns.length := by omega
      have hp : dPow (.int 10) (.int 18) = some (.int 1000000000000000000) := by
        show (if powOk 10 18 = true then some (PyData.int ((10 : Int) ^ (18 : Int).toNat)) else none) = _
        rw [if_pos (by decide)]
        rfl
      by_cases hb : 1000000000000000000 ≤ x
      · refine ⟨x, ?_⟩
        rw [sIf_t (by simp [tAndD, scr_len, hx, hp, hb, hl'])]
        rw [sSet_next (d := .int x) (by simp [hx])]
        simp [flat]
      · refine ⟨0, ?_⟩
        rw [sIf_f (by simp [tAndD, scr_len, hx, hp, hb, hl'])]
        rfl
  obtain ⟨big, hbig⟩ := head
  unfold den__law_row dfun
  simp only [List.length_cons, List.length_nil, Nat.zero_add, Nat.reduceAdd, if_true, List.map_cons, List.map_nil]
  rw [sSeq_next (s' := ([some (scr ns), some (.int many), some (.int 0), none, none], [0, 0, 0, 0, 0])) (by simp [sSet, flat])]
  rw [sSeq_next hbig]
  rw [sSeq_next (s' := ([some (scr ns), some (.int many), some (.int big), some (.list []), none], [0, 0, 0, 1, 0])) (by simp [sSet, flat, eLst, sz, demote])]
  have loop := for_rng (i := 4) (n := many) (lo := 0) (body := sIf (tCmp dGt (eVar 2) (eC (.int 0)))
    (sSeq (sApp 3 (eOp dMod (eCB (d1 dInt) (aCons (eVar 2) aNil)) (eC (.int 1000))) ([] ++ []))
    (sSet 2 0 (eOp dFdiv (eVar 2) (eC (.int 1000))) ([(2, 1)] ++ [])))
    (sApp 3 (eCall 2 den__law_mixed (aCons (eVar 0) (aCons (eVar 4) aNil))) ([(0, 0)] ++ ([(4, 0)] ++ []))))
    (fun k s => ∃ (big : Int) (ds : List D) (x : Option D), s = ([some (scr ns), some (.int many), some (.int big), some (.list ds), x], [0, 0, 0, 1, 0]) ∧ ds.length = k ∧ Nats ds)
    ([some (scr ns), some (.int many), some (.int big), some (.list []), none], [0, 0, 0, 1, 0]) ⟨big, [], none, rfl, rfl, fun d hd => by simp at hd⟩
    (by
      rintro k _ hk ⟨big, ds, x, rfl, hl, hn⟩
      by_cases hb : 0 < big
      · refine ⟨_, ?_, big / 1000, ds ++ [.int (big % 1000)], some (.int (0 + k)), rfl, by simp [hl], hn.snoc (Int.emod_nonneg _ (by decide))⟩
        rw [sIf_t (by simp [hb])]
        rw [sSeq_next (sApp_flat (d := .int (big % 1000)) (ds := ds) (by simp [dMod]) (by rfl) (by simp) (by omega) (by rfl))]
        rw [sSet_next (d := .int (big / 1000)) (by simp [dFdiv_i (j := 1000) (by decide)])]
        simp [flat]
      · obtain ⟨v, hv, e⟩ := mixed_ok ns (0 + k)
        refine ⟨_, ?_, big, ds ++ [.int v], some (.int (0 + k)), rfl, by simp [hl], hn.snoc hv⟩
        rw [sIf_f (by simp [hb])]
        rw [sApp_flat (d := .int v) (ds := ds) (by simpa [eCall] using e) (by rfl) (by simp) (by omega) (by rfl)]
        rfl)
  obtain ⟨s', e, big', ds, x, rfl, hl, hn⟩ := loop
  rw [sSeq_next (s' := ([some (scr ns), some (.int many), some (.int big'), some (.list ds), x], [0, 0, 0, 1, 0])) (by
    rw [sFor_go (range1_ok (n := many) (by simp) (by omega))]
    exact e)]
  exact ⟨ds, hl, hn, by simp⟩
theorem map_ix {n j : Nat} {g : Nat → D} (h : j < n) : dIx (.list ((List.range n).map g)) (.int j) = some (g j) := by
  show L2.atI ((List.range n).map g) (j : Int) = some (g j)
  exact L2.atI_nat (by simp [h])
/-- the row as numbers r 0, r 1, … -/
theorem row_fn (ns : List Int) (many : Nat) (hm : many ≤ 1000000) : ∃ r : Nat → Int, (∀ k, 0 ≤ r k) ∧ den__law_row [scr ns, .int many] = some (.list ((List.range many).map fun k => .int (r k))) := by
  obtain ⟨ds, hl, hn, e⟩ := row_ok ns many hm
  have h : ∀ k : Nat, ∃ v : Int, 0 ≤ v ∧ (k < ds.length → ds[k]? = some (.int v)) := fun k => by
    by_cases hk : k < ds.length
    · obtain ⟨v, h0, h1⟩ := hn ds[k] (List.getElem_mem hk)
      exact ⟨v, h0, fun _ => by rw [List.getElem?_eq_getElem hk, h1]⟩
    · exact ⟨0, Int.le_refl _, fun h => absurd h hk⟩
  refine ⟨fun k => (h k).choose, fun k => (h k).choose_spec.1, ?_⟩
  rw [e]
  congr 2
  refine List.ext_getElem? fun k => ?_
  by_cases hk : k < many
  · rw [(h k).choose_spec.2 (by omega)]
    simp [hk]
  · rw [List.getElem?_eq_none (by omega), List.getElem?_eq_none (by simp; omega)]
end Lib
end

section
set_option Elab.async false
set_option linter.all false
set_option maxRecDepth 10000
/-! The law's comparison of a tree with itself; its ratios and powers. -/
namespace Lib
open DS PySem
@[simp] theorem ty_bool_bool (b : Bool) : isTy (.bool b) "bool" = some true := by
  show L2.kitB "bool" "bool" = _
  decide +kernel
@[simp] theorem ty_bool_int (b : Bool) : isTy (.bool b) "int" = some true := by
  show L2.kitB "bool" "int" = _
  decide +kernel
@[simp] theorem ty_bool_str (b : Bool) : isTy (.bool b) "str" = some false := by
  show L2.kitB "bool" "str" = _
  decide +kernel
@[simp] theorem ty_bool_list (b : Bool) : isTy (.bool b) "list" = some false := by
  show L2.kitB "bool" "list" = _
  decide +kernel
@[simp] theorem ty_bool_tuple (b : Bool) : isTy (.bool b) "tuple" = some false := by
  show L2.kitB "bool" "tuple" = _
  decide +kernel
@[simp] theorem ty_int_bool (i : Int) : isTy (.int i) "bool" = some false := by
  show L2.kitB "int" "bool" = _
  decide +kernel
@[simp] theorem ty_int_int (i : Int) : isTy (.int i) "int" = some true := by
  show L2.kitB "int" "int" = _
  decide +kernel
@[simp] theorem ty_int_str (i : Int) : isTy (.int i) "str" = some false := by
  show L2.kitB "int" "str" = _
  decide +kernel
@[simp] theorem ty_int_list (i : Int) : isTy (.int i) "list" = some false := by
  show L2.kitB "int" "list" = _
  decide +kernel
@[simp] theorem ty_int_tuple (i : Int) : isTy (.int i) "tuple" = some false := by
  show L2.kitB "int" "tuple" = _
  decide +kernel
@[simp] theorem ty_str_bool (s : Str) : isTy (.str s) "bool" = some false := by
  show L2.kitB "str" "bool" = _
  decide +kernel
@[simp] theorem ty_str_int (s : Str) : isTy (.str s) "int" = some false := by
  show L2.kitB "str" "int" = _
  decide +kernel
@[simp] theorem ty_str_str (s : Str) : isTy (.str s) "str" = some true := by
  show L2.kitB "str" "str" = _
  decide +kernel
@[simp] theorem ty_str_list (s : Str) : isTy (.str s) "list" = some false := by
  show L2.kitB "str" "list" = _
  decide +kernel
@[simp] theorem ty_str_tuple (s : Str) : isTy (.str s) "tuple" = some false := by
  show L2.kitB "str" "tuple" = _
  decide +kernel
@[simp] theorem ty_list_bool (l : List D) : isTy (.list l) "bool" = some false := by
  show L2.kitB "list" "bool" = _
  decide +kernel
@[simp] theorem ty_list_int (l : List D) : isTy (.list l) "int" = some false := by
  show L2.kitB "list" "int" = _
  decide +kernel
@[simp] theorem ty_list_str (l : List D) : isTy (.list l) "str" = some false := by
  show L2.kitB "list" "str" = _
  decide +kernel
@[simp] theorem ty_list_list (l : List D) : isTy (.list l) "list" = some true := by
  show L2.kitB "list" "list" = _
  decide +kernel
@[simp] theorem ty_list_tuple (l : List D) : isTy (.list l) "tuple" = some false := by
  show L2.kitB "list" "tuple" = _
  decide +kernel
@[simp] theorem ty_tuple_bool (l : List D) : isTy (.tuple l) "bool" = some false := by
  show L2.kitB "tuple" "bool" = _
  decide +kernel
@[simp] theorem ty_tuple_int (l : List D) : isTy (.tuple l) "int" = some false := by
  show L2.kitB "tuple" "int" = _
  decide +kernel
@[simp] theorem ty_tuple_str (l : List D) : isTy (.tuple l) "str" = some false := by
  show L2.kitB "tuple" "str" = _
  decide +kernel
@[simp] theorem ty_tuple_list (l : List D) : isTy (.tuple l) "list" = some false := by
  show L2.kitB "tuple" "list" = _
  decide +kernel
@[simp] theorem ty_tuple_tuple (l : List D) : isTy (.tuple l) "tuple" = some true := by
  show L2.kitB "tuple" "tuple" = _
  decide +kernel
@[simp] theorem ty_NoneType_bool  : isTy (.none) "bool" = some false := by
  show L2.kitB "NoneType" "bool" = _
  decide +kernel
@[simp] theorem ty_NoneType_int  : isTy (.none) "int" = some false := by
  show L2.kitB "NoneType" "int" = _
  decide +kernel
@[simp] theorem ty_NoneType_str  : isTy (.none) "str" = some false := by
  show L2.kitB "NoneType" "str" = _
  decide +kernel
@[simp] theorem ty_NoneType_list  : isTy (.none) "list" = some false := by
  show L2.kitB "NoneType" "list" = _
  decide +kernel
@[simp] theorem ty_NoneType_tuple  : isTy (.none) "tuple" = some false := by
  show L2.kitB "NoneType" "tuple" = _
  decide +kernel
/-- a tree that the law's comparison knows, less than n deep -/
def pl : Nat → D → Bool
  | 0, _ => false
  | _ + 1, .none => true
  | _ + 1, .bool _ => true
  | _ + 1, .int _ => true
  | _ + 1, .str s => SeqAt.shaped (.str s)
  | n + 1, .tuple ds => decide (ds.length ≤ 1000000) && ds.all (pl n)
  | _ + 1, _ => false
theorem is_int_ok (i : Int) : den__law_is_int [.int i] = some (.bool true) := by
  simp [den__law_is_int, dfun, eAndD]
theorem dEq_str (s : Str) (h : SeqAt.shaped (.str s) = true) : dEq (.str s) (.str s) = some true := by
  unfold dEq
  rw [if_pos (by simp [h])]
  simp [PyData.eqv]
theorem all_true {α : Type} (l : List α) : dAll (.list (l.map fun _ => .bool true)) = some (.bool true) := by
  have : ∀ l : List α, bools (l.map fun _ => PyData.bool true) = some (l.map fun _ => true) := by
    intro l
    induction l with
    | nil => rfl
    | cons a l ih => simp [bools, ih]
  simp [dAll, this]
theorem like_eq (n : Nat) : den__law_like (n + 1) = dfun 3 2 (sSeq (sIf (tIsND (eVar 1))
  (sRet (eIsN (eVar 0)))
  sNil)
  (sSeq (sIf (tTru (eIsi "bool" (eVar 1)))
  (sRet (eAndD (eIsi "bool" (eVar 0)) (eB (tCmp dEq (eVar 0) (eVar 1)))))
  sNil)
  (sSeq (sIf (tTru (eIsi "tuple" (eVar 1)))
  (sSeq (sIf (tOrD (tNotD (tTru (eIsi "tuple" (eVar 0)))) (tCmp dNe (eCB (d1 dLen) (aCons (eVar 0) aNil)) (eCB (d1 dLen) (aCons (eVar 1) aNil))))
  (sRet (eC (.bool false)))
  sNil)
  (sRet (eCB (d1 dAll) (aCons (eLc (iRange1 (eCB (d1 dLen) (aCons (eVar 1) aNil))) (.nm 2) tTrue (eCall 2 (den__law_like n) (aCons (eIx (eVar 0) (eVar 2)) (aCons (eIx (eVar 1) (eVar 2)) aNil))) [2]) aNil))))
  sNil)
  (sSeq (sIf (tTru (eIsi "str" (eVar 1)))
  (sRet (eAndD (eIsi "str" (eVar 0)) (eB (tCmp dEq (eVar 0) (eVar 1)))))
  sNil)
  (sRet (eAndD (eCall 1 den__law_is_int (aCons (eVar 0) aNil)) (eB (tCmp dEq (eVar 0) (eVar 1)))))))) ) := by rw [den__law_like]
theorem like_a2 (n) (ds : List D) (hc : eLc (iRange1 (eCB (d1 dLen) (aCons (eVar 1) aNil))) (.nm 2) tTrue (eCall 2 (den__law_like n) (aCons (eIx (eVar 0) (eVar 2)) (aCons (eIx (eVar 1) (eVar 2)) aNil))) [2] [some (.tuple ds), some (.tuple ds), none] = some (.list ((List.range ds.length).map fun _ => .bool true))) : (eCB (d1 dAll) (aCons (eLc (iRange1 (eCB (d1 dLen) (aCons (eVar 1) aNil))) (.nm 2) tTrue (eCall 2 (den__law_like n) (aCons (eIx (eVar 0) (eVar 2)) (aCons (eIx (eVar 1) (eVar 2)) aNil))) [2]) aNil)) [some (.tuple ds), some (.tuple ds), none] = some (.bool true) := by
  have ha := all_true (List.range ds.length)
  simp [hc, ha]
theorem like_a3 (ds : List D) : tOrD (tNotD (tTru (eIsi "tuple" (eVar 0)))) (tCmp dNe (eCB (d1 dLen) (aCons (eVar 0) aNil)) (eCB (d1 dLen) (aCons (eVar 1) aNil))) [some (.tuple ds), some (.tuple ds), none] = some false := by
  simp [tOrD]
theorem like_a4 (ds : List D) : (sIf (tTru (eIsi "bool" (eVar 1))) (sRet (eAndD (eIsi "bool" (eVar 0)) (eB (tCmp dEq (eVar 0) (eVar 1))))) sNil) ([some (.tuple ds), some (.tuple ds), none], [0, 0, 0]) = .next ([some (.tuple ds), some (.tuple ds), none], [0, 0, 0]) := by
  rw [sIf_f (by simp)]
  rfl
theorem like_a5 (n) (ds : List D) (hc : eLc (iRange1 (eCB (d1 dLen) (aCons (eVar 1) aNil))) (.nm 2) tTrue (eCall 2 (den__law_like n) (aCons (eIx (eVar 0) (eVar 2)) (aCons (eIx (eVar 1) (eVar 2)) aNil))) [2] [some (.tuple ds), some (.tuple ds), none] = some (.list ((List.range ds.length).map fun _ => .bool true))) : sRet (eCB (d1 dAll) (aCons (eLc (iRange1 (eCB (d1 dLen) (aCons (eVar 1) aNil))) (.nm 2) tTrue (eCall 2 (den__law_like n) (aCons (eIx (eVar 0) (eVar 2)) (aCons (eIx (eVar 1) (eVar 2)) aNil))) [2]) aNil)) ([some (.tuple ds), some (.tuple ds), none], [0, 0, 0]) = .ret (.bool true) := sRet_ok (like_a2 n ds hc)
theorem like_a6 (ds : List D) : (sIf (tOrD (tNotD (tTru (eIsi "tuple" (eVar 0)))) (tCmp dNe (eCB (d1 dLen) (aCons (eVar 0) aNil)) (eCB (d1 dLen) (aCons (eVar 1) aNil))))
  (sRet (eC (.bool false)))
  sNil) ([some (.tuple ds), some (.tuple ds), none], [0, 0, 0]) = .next ([some (.tuple ds), some (.tuple ds), none], [0, 0, 0]) := by
  rw [sIf_f (s := ([some (.tuple ds), some (.tuple ds), none], [0, 0, 0])) (like_a3 ds)]
  rfl
theorem like_tup {n : Nat} (ih : ∀ d, pl n d = true → den__law_like n [d, d] = some (.bool true)) {ds : List D} (h : pl (n + 1) (.tuple ds) = true) : den__law_like (n + 1) [.tuple ds, .tuple ds] = some (.bool true) := by
  simp only [pl, Bool.and_eq_true, decide_eq_true_eq, List.all_eq_true] at h
  have hc : eLc (iRange1 (eCB (d1 dLen) (aCons (eVar 1) aNil))) (.nm 2) tTrue (eCall 2 (den__law_like n) (aCons (eIx (eVar 0) (eVar 2)) (aCons (eIx (eVar 1) (eVar 2)) aNil))) [2] [some (.tuple ds), some (.tuple ds), none] = some (.list ((List.range ds.length).map fun _ => .bool true)) := by
    refine eLc_rng (n := ds.length) (by simp) (by omega) fun k hk => ?_
    have e : L2.atI ds (k : Int) = some ds[k] := L2.atI_nat (by simp [hk])
    have e' : dIx (.tuple ds) (.int k) = some ds[k] := e
    simp [wipeD, eCall, e', ih ds[k] (h.2 _ (List.getElem_mem hk))]
  rw [like_eq]
  unfold dfun
  simp only [List.length_cons, List.length_nil, Nat.zero_add, Nat.reduceAdd, if_true, List.map_cons, List.map_nil]
  rw [sSeq_next (s' := ([some (.tuple ds), some (.tuple ds), none], [0, 0, 0])) (by
    rw [sIf_f (by simp)]
    rfl)]
  rw [sSeq_next (like_a4 ds)]
  rw [sSeq_ret (d := .bool true) (by
    rw [sIf_t (by simp)]
    rw [sSeq_next (s' := ([some (.tuple ds), some (.tuple ds), none], [0, 0, 0])) (like_a6 ds)]
    exact like_a5 n ds hc)]
theorem like_ok (n : Nat) : ∀ (d : D), pl n d = true → den__law_like n [d, d] = some (.bool true) := by
  induction n with
  | zero => intro d h; cases h
  | succ n ih =>
    intro d h
    cases d with
    | none => simp [den__law_like, dfun, sSeq, sIf]
    | bool b => cases b <;> simp [den__law_like, dfun, sSeq, sIf, eAndD] <;> rfl
    | int i => simp [den__law_like, dfun, sSeq, sIf, eAndD, eCall, is_int_ok]
    | str s => simp [den__law_like, dfun, sSeq, sIf, eAndD, dEq_str s h]
    | tuple ds => exact like_tup ih h
    | list ds => cases h
    | dict ds => cases h
theorem pl_rt (n : Nat) (q : Rat) : pl (n + 2) (rt q) = true := rfl
/-! the law's ratio -/
theorem lgcd_go : ∀ (k n : Nat) (a b : Int) (L : List Nat), 0 ≤ a → 0 ≤ b → b < 2 ^ k → 2 * k + 1 ≤ n → ∃ L', whGo (tCmp dGt (eVar 1) (eC (.int 0))) (sPar 0 1 (eVar 1) (eOp dMod (eCB (d1 dInt) (aCons (eVar 0) aNil)) (eVar 1)) ([(1, 0)] ++ ([] ++ [(1, 1)]))) n ([some (.int a), some (.int b)], L) = .next ([some (.int (Int.gcd a b)), some (.int 0)], L') := by
  have same : ∀ (n : Nat) (a b : Int) (L : List Nat), whGo (tCmp dGt (eVar 1) (eC (.int 0))) (sPar 0 1 (eVar 1) (eOp dMod (eCB (d1 dInt) (aCons (eVar 0) aNil)) (eVar 1)) ([(1, 0)] ++ ([] ++ [(1, 1)]))) n ([some (.int a), some (.int b)], L) = whGo (tCmp dGt (eVar 1) (eC (.int 0))) (sPar 0 1 (eVar 1) (eOp dMod (eVar 0) (eVar 1)) ([(1, 0)] ++ ([(0, 1)] ++ [(1, 1)]))) n ([some (.int a), some (.int b)], L) := by
    intro n
    induction n with
    | zero => intros; rfl
    | succ n ih =>
      intro a b L
      by_cases hb : 0 < b
      · rw [whGo, whGo]
        simp only [List.append_nil, List.nil_append, List.cons_append] at ih ⊢
        simp [hb, sPar, dMod_i hb, flat, ih]
      · rw [whGo, whGo]
        simp [hb]
  intro k n a b L h0 h1 h2 h3
  rw [same]
  exact gcd_go k n a b L h0 h1 h2 h3
theorem common_ok {a b : Int} {k : Nat} (hb : b.natAbs < 2 ^ k) (hk : k ≤ 40000) : den__law_common [.int a, .int b] = some (.int (Int.gcd a b)) := by
  have habs : ∀ x : Int, (if x < 0 then -x else x) = (x.natAbs : Int) := fun x => by split <;> omega
  unfold den__law_common dfun
  simp only [List.length_cons, List.length_nil, Nat.zero_add, Nat.reduceAdd, if_true, List.map_cons, List.map_nil]
  rw [sSeq_next (s' := ([some (.int a.natAbs), some (.int b.natAbs)], [0, 0])) (by simp [sPar, dAbs, flat, habs])]
  obtain ⟨L, e⟩ := lgcd_go k 100000 a.natAbs b.natAbs [0, 0] (by omega) (by omega) (by
    have := Int.ofNat_lt.mpr hb
    simpa using this) (by omega)
  rw [sSeq_next (s' := ([some (.int (Int.gcd a b)), some (.int 0)], L)) (by
    unfold sWhile
    rw [e]
    simp [Int.gcd_eq_natAbs_gcd_natAbs])]
  simp
theorem ratio_ok {a b : Int} {k : Nat} (hb0 : 0 < b) (hb : b.natAbs < 2 ^ k) (hk : k ≤ 8999) : den__law_ratio [.int a, .int b] = some (rt (Rat.divInt a b)) := by
  have hg : (Int.gcd a b) ≠ 0 := fun h => by
    have := (Int.gcd_eq_zero_iff.mp h).2
    omega
  have hgb : Int.gcd a b ≤ b.natAbs := Nat.le_of_dvd (by omega) (Int.gcd_eq_natAbs_gcd_natAbs a b ▸ Nat.gcd_dvd_right _ _)
  have hnum : (Rat.divInt a b).num = a / (Int.gcd a b : Int) := by rw [Rat.num_divInt, Int.gcd_comm, Int.sign_eq_one_of_pos hb0, Int.one_mul]
  have hden : (Rat.divInt a b).den = b.natAbs / Int.gcd a b := by rw [Rat.den_divInt, if_neg (by omega), Int.gcd_comm]
  have hfd : fdivOk (Int.gcd a b : Int) = true := fdivOk_of (n := k + 1) (by omega) (by
    rw [Nat.pow_succ]
    have e : ((Int.gcd a b : Nat) : Int).natAbs = Int.gcd a b := by omega
    rw [e]; omega) (by omega) (by omega)
  unfold den__law_ratio dfun
  simp only [List.length_cons, List.length_nil, Nat.zero_add, Nat.reduceAdd, if_true, List.map_cons, List.map_nil]
  rw [sSeq_next (s' := ([some (.int a), some (.int b), some (.int (Int.gcd a b))], [0, 0, 0])) (by
    rw [sSet_next (d := .int (Int.gcd a b)) (by simp [eCall, common_ok hb (by omega : k ≤ 40000)])]
    simp [flat])]
  rw [sSeq_next (s' := ([some (.int a), some (.int b), some (.int (Int.gcd a b))], [0, 0, 0])) (by
    rw [sIf_f (by simp; omega)]
    simp)]
  have eb : b / (Int.gcd a b : Int) = ((b.natAbs / Int.gcd a b : Nat) : Int) := by
    rw [Int.natCast_ediv]
    congr 1
    omega
  simp only [sRet_a, eTup, aCons_a, eOp_a, eVar_0, eVar_s, o2_ss, o1_s, dFdiv_i hfd, aNil_a, rt, hnum, hden, eb]
  rfl
theorem power_ok {b : Int} {n : Nat} (hb : b.natAbs < 18446744073709551616) (hn : n ≤ 1000000) : den__law_power [.int b, .int n] = some (.int (b ^ n)) := by
  unfold den__law_power dfun
  simp only [List.length_cons, List.length_nil, Nat.zero_add, Nat.reduceAdd, if_true, List.map_cons, List.map_nil]
  rw [sSeq_next (s' := ([some (.int b), some (.int n), some (.int 1), none], [0, 0, 0, 0])) (by simp [sSet, flat])]
  obtain ⟨s', e, x, L, rfl⟩ := for_rng (i := 3) (n := n) (lo := 0) (body := sSet 2 0 (eOp dMul (eVar 2) (eVar 0)) ([(2, 1)] ++ [(0, 1)]))
    (fun k s => ∃ x L, s = ([some (.int b), some (.int n), some (.int (b ^ k)), x], L)) ([some (.int b), some (.int n), some (.int 1), none], [0, 0, 0, 0]) ⟨none, [0, 0, 0, 0], by rw [Int.pow_zero]⟩
    (by
      rintro k _ hk ⟨x, L, rfl⟩
      refine ⟨_, ?_, some (.int (0 + k)), (L.set 3 0).set 2 0, rfl⟩
      rw [sSet_next (d := .int (b ^ (k + 1))) (by simp [dMul_i (mulOk_r hb), Int.pow_succ])]
      simp [flat])
  rw [sSeq_next (s' := ([some (.int b), some (.int n), some (.int (b ^ n)), x], L)) (by
    rw [sFor_go (range1_ok (n := n) (by simp) (by omega))]
    exact e)]
  simp
end Lib
end

section
set_option Elab.async false
set_option linter.all false
set_option maxRecDepth 10000
/-! Sums and means of ratios. -/
namespace Lib
open DS PySem
theorem Sm.one {m : Nat} (h : 0 < m) : Sm m 1 := ⟨by show 1 < 2 ^ m; exact Nat.one_lt_two_pow (by omega), by show 1 < 2 ^ m; exact Nat.one_lt_two_pow (by omega)⟩
theorem Sm.zero {m : Nat} (h : 0 < m) : Sm m 0 := ⟨by show 0 < 2 ^ m; exact Nat.two_pow_pos m, by show 1 < 2 ^ m; exact Nat.one_lt_two_pow (by omega)⟩
theorem flat_rt (q : Rat) : flat (rt q) = true := rfl
theorem total_go {m : Nat} (hm : 0 < m) (x0 : Option D) : ∀ (ts : List Rat) (k : Nat) (q : Rat) (y : Option D) (L : List Nat), (∀ t ∈ ts, Sm m t) → 0 < k → Sm k q → k + ts.length * (m + 1) ≤ 7000 →
    ∃ y' L', forGo (.nm 2) (sSet 1 0 (eCall 2 den_plus (aCons (eVar 1) (aCons (eVar 2) aNil))) ([(1, 0)] ++ ([(2, 0)] ++ []))) (ts.map rt) ([x0, some (rt q), y], L) = .next ([x0, some (rt (ts.foldl (· + ·) q)), y'], L') ∧ Sm (k + ts.length * (m + 1)) (ts.foldl (· + ·) q)
  | [], k, q, y, L, _, hk, hq, _ => ⟨y, L, rfl, by simpa using hq⟩
  | t :: ts, k, q, y, L, ht, hk, hq, hb => by
    have hl : (t :: ts).length * (m + 1) = ts.length * (m + 1) + (m + 1) := by rw [List.length_cons, Nat.succ_mul]
    have p := plus_ok hq (ht t (.head _)) hk hm (by omega)
    obtain ⟨y', L', e, s⟩ := total_go hm x0 ts (k + m + 1) (q + t) (some (rt t)) ((L.set 2 0).set 1 0) (fun t' h => ht t' (.tail _ h)) (by omega) p.2 (by omega)
    refine ⟨y', L', ?_, ?_⟩
    · unfold forGo
      have hs : sSet 1 0 (eCall 2 den_plus (aCons (eVar 1) (aCons (eVar 2) aNil))) ([(1, 0)] ++ ([(2, 0)] ++ [])) ([x0, some (rt q), some (rt t)], L.set 2 0) = .next ([x0, some (rt (q + t)), some (rt t)], (L.set 2 0).set 1 0) := by
        rw [sSet_next (d := rt (q + t)) (by simp only [eCall_2, eVar_0, eVar_s, o1_s, p.1])]
        rw [if_pos (flat_rt _)]
        rfl
      simp only [List.map_cons, Tg.go]
      show (match sSet 1 0 (eCall 2 den_plus (aCons (eVar 1) (aCons (eVar 2) aNil))) ([(1, 0)] ++ ([(2, 0)] ++ [])) ([x0, some (rt q), some (rt t)], L.set 2 0) with
        | .next s' => forGo (.nm 2) (sSet 1 0 (eCall 2 den_plus (aCons (eVar 1) (aCons (eVar 2) aNil))) ([(1, 0)] ++ ([(2, 0)] ++ []))) (ts.map rt) s'
        | .cont s' => forGo (.nm 2) (sSet 1 0 (eCall 2 den_plus (aCons (eVar 1) (aCons (eVar 2) aNil))) ([(1, 0)] ++ ([(2, 0)] ++ []))) (ts.map rt) s'
        | .brk s' => .next s'
        | .ret d => .ret d
        | .stuck => .stuck) = _
      rw [hs]
      exact e
    · rw [hl]
      have e2 : k + (ts.length * (m + 1) + (m + 1)) = k + m + 1 + ts.length * (m + 1) := by omega
      rw [e2]
      exact s
theorem total_ok {m : Nat} {ts : List Rat} (hm : 0 < m) (ht : ∀ t ∈ ts, Sm m t) (hb : 1 + ts.length * (m + 1) ≤ 7000) :
    den_total [.list (ts.map rt)] = some (rt (ts.foldl (· + ·) 0)) ∧ Sm (1 + ts.length * (m + 1)) (ts.foldl (· + ·) 0) := by
  obtain ⟨y', L', e, s⟩ := total_go hm (some (.list (ts.map rt))) ts 1 0 none [0, 0, 0] ht (by omega) (Sm.zero (by omega)) hb
  refine ⟨?_, s⟩
  unfold den_total dfun
  simp only [List.length_cons, List.length_nil, Nat.zero_add, Nat.reduceAdd, if_true, List.map_cons, List.map_nil]
  rw [sSeq_next (s' := ([some (.list (ts.map rt)), some (rt 0), none], [0, 0, 0])) (by
    rw [sSet_next (d := rt 0) (by simp [eTup, sz]; rfl)]
    rfl)]
  rw [sSeq_next (s' := _) (by
    rw [sFor_go (ds := ts.map rt) (by simp)]
    exact e)]
  rw [sRet_ok (d := rt (ts.foldl (· + ·) 0)) (by simp)]
/-- weights and ratios -/
def wp (p : Int × Rat) : D := .tuple [.int p.1, rt p.2]
theorem lc_wp {fe : FE} {ρ : PEnv} {i j : Nat} (g : Int × Rat → D) {ps : List (Int × Rat)} (h : ∀ p ∈ ps, fe ((ρ.set i (some (.int p.1))).set j (some (rt p.2))) = some (g p)) :
    lcGo (.tp [(.nm i), (.nm j)]) tTrue fe ρ (ps.map wp) = some (ps.map g) := by
  induction ps with
  | nil => rfl
  | cons p ps ih =>
    have h1 := h p (.head _)
    have h2 := ih fun q hq => h q (.tail _ hq)
    simp only [List.map_cons]
    unfold lcGo
    have e : Tg.go (.tp [(.nm i), (.nm j)]) (wp p) = some [(i, .int p.1), (j, rt p.2)] := rfl
    rw [e]
    simp only [tTrue_a]
    show (match fe ((ρ.set i (some (.int p.1))).set j (some (rt p.2))) with
      | none => none
      | some y => match lcGo (.tp [(.nm i), (.nm j)]) tTrue fe ρ (ps.map wp) with
        | none => none
        | some ys => some (y :: ys)) = _
    rw [h1, h2]
theorem intsD_map (l : List Int) : intsD (l.map PyData.int) = some l := by
  induction l with
  | nil => rfl
  | cons a l ih => simp [intsD, ih]
theorem dSum_ok (l : List Int) : dSum (.list (l.map PyData.int)) = some (.int l.sum) := by
  simp [dSum, intsD_map]
/-- the mean of weighted ratios -/
def mean (ps : List (Int × Rat)) : Rat := (ps.map fun p : Int × Rat => p.2 * Rat.divInt p.1 (ps.map (fun q : Int × Rat => q.1)).sum).foldl (· + ·) 0
theorem mean_ok {m : Nat} {ps : List (Int × Rat)} (hm : 0 < m) (hq : ∀ p ∈ ps, Sm m p.2) (hw : ∀ p ∈ ps, p.1.natAbs < 2 ^ m) (h0 : 0 < (ps.map (fun q : Int × Rat => q.1)).sum) (hs : (ps.map (fun q : Int × Rat => q.1)).sum.natAbs < 2 ^ m) (hb : 1 + ps.length * (m + m + 1) ≤ 7000) :
    den_mean_of [.list (ps.map wp)] = some (rt (mean ps)) ∧ Sm (1 + ps.length * (m + m + 1)) (mean ps) := by
  have hl : ps.length ≤ 7000 := by
    have := Nat.le_mul_of_pos_right ps.length (show 0 < m + m + 1 by omega)
    omega
  have ht : ∀ t ∈ ps.map (fun p : Int × Rat => p.2 * Rat.divInt p.1 (ps.map (fun q : Int × Rat => q.1)).sum), Sm (m + m) t := fun t h => by
    obtain ⟨p, hp, rfl⟩ := List.mem_map.mp h
    have hm4 : m + m ≤ 8000 := by
      have := Nat.le_mul_of_pos_left (m + m + 1) (List.length_pos_of_mem hp)
      omega
    exact (times_ok (hq p hp) (Sm.divInt (n := m) h0 (hw p hp) hs) hm hm hm4).2
  have tot := total_ok (m := m + m) (ts := ps.map (fun p : Int × Rat => p.2 * Rat.divInt p.1 (ps.map (fun q : Int × Rat => q.1)).sum)) (by omega) ht (by simpa using hb)
  rw [List.length_map] at tot
  refine ⟨?_, tot.2⟩
  refine dfun_ret [some (.list (ps.map wp)), none, none, none] [0, 0, 0, 0] rfl rfl rfl ?_
  have hsz : (ps.map wp).length ≤ sz := by rw [List.length_map]; show ps.length ≤ 16777216; omega
  rw [sSeq_next (s' := ([some (.list (ps.map wp)), some (.int (ps.map (fun q : Int × Rat => q.1)).sum), none, none], [0, 0, 0, 0])) (by
    rw [sSet_next (d := .int (ps.map (fun q : Int × Rat => q.1)).sum) (by
      have e := lc_wp (i := 2) (j := 3) (fe := eVar 2) (ρ := [some (.list (ps.map wp)), none, none, none]) (fun p => PyData.int p.1) (ps := ps) (fun p _ => rfl)
      simp only [eCB_a, aCons_a, aNil_a, eLc, iSeq_a, eVar_0, o1_s, seqOf_l, if_pos hsz]
      have w : wipeD [some (.list (ps.map wp)), none, none, none] [2, 3] = [some (.list (ps.map wp)), none, none, none] := rfl
      rw [w, e, o1_s, o2_ss, o1_s, d1_1]
      have := dSum_ok (ps.map (fun q : Int × Rat => q.1))
      rw [List.map_map] at this
      exact this)]
    rfl)]
  rw [sRet_ok (d := rt (mean ps)) (by
    have e := lc_wp (i := 2) (j := 3) (fe := eCall 2 den_times (aCons (eVar 3) (aCons (eCall 2 den_lowest (aCons (eVar 2) (aCons (eVar 1) aNil))) aNil))) (ρ := [some (.list (ps.map wp)), some (.int (ps.map (fun q : Int × Rat => q.1)).sum), none, none]) (fun p => rt (p.2 * Rat.divInt p.1 (ps.map (fun q : Int × Rat => q.1)).sum)) (ps := ps) (fun p hp => by
      have hm4 : m + m ≤ 8000 := by
        have := Nat.le_mul_of_pos_left (m + m + 1) (List.length_pos_of_mem hp)
        omega
      have l1 := lowest_ok (a := p.1) h0 hs (by omega)
      have t1 := (times_ok (hq p hp) (Sm.divInt (n := m) h0 (hw p hp) hs) hm hm hm4).1
      simp only [eCall_2, List.set_cons_zero, List.set_cons_succ, eVar_0, eVar_s, o1_s, l1, t1])
    have w : wipeD [some (.list (ps.map wp)), some (.int (ps.map (fun q : Int × Rat => q.1)).sum), none, none] [2, 3] = [some (.list (ps.map wp)), some (.int (ps.map (fun q : Int × Rat => q.1)).sum), none, none] := rfl
    have t1 := tot.1
    rw [List.map_map] at t1
    simp only [eCall_1, eLc, iSeq_a, eVar_0, o1_s, seqOf_l, if_pos hsz, w, e]
    exact t1)]
end Lib
end

section
set_option Elab.async false
set_option linter.all false
set_option maxRecDepth 10000
/-! The chance of enough wins: sums of Pascal's numbers, and the same by one point after another. -/
namespace Lib
open DS PySem
/-- Pascal's numbers -/
def C : Nat → Nat → Nat
  | _, 0 => 1
  | 0, _ + 1 => 0
  | n + 1, k + 1 => C n k + C n (k + 1)
theorem C_0 (n : Nat) : C n 0 = 1 := by cases n <;> rfl
theorem C_gt : ∀ {n k : Nat}, n < k → C n k = 0
  | 0, k + 1, _ => rfl
  | n + 1, k + 1, h => by
    show C n k + C n (k + 1) = 0
    rw [C_gt (by omega), C_gt (by omega)]
theorem C_pos : ∀ {n k : Nat}, k ≤ n → 0 < C n k
  | n, 0, _ => by rw [C_0]; omega
  | n + 1, k + 1, h => by
    show 0 < C n k + C n (k + 1)
    have := C_pos (n := n) (k := k) (by omega)
    omega
theorem C_step : ∀ (n k : Nat), C n (k + 1) * (k + 1) + C n k * k = C n k * n
  | 0, 0 => rfl
  | 0, k + 1 => by simp [C]
  | n + 1, 0 => by
    have := C_step n 0
    simp only [C, C_0] at *
    omega
  | n + 1, k + 1 => by
    have h1 := C_step n k
    have h2 := C_step n (k + 1)
    have e1 : C (n + 1) (k + 1 + 1) = C n (k + 1) + C n (k + 1 + 1) := rfl
    have e2 : C (n + 1) (k + 1) = C n k + C n (k + 1) := rfl
    rw [e1, e2]
    grind
/-- the way on in the row of Pascal's numbers -/
theorem C_next {n k : Nat} (h : k ≤ n) : ((C n k : Int) * ((n : Int) - k)) / ((k : Int) + 1) = C n (k + 1) := by
  have := C_step n k
  have e : (C n k : Int) * ((n : Int) - k) = C n (k + 1) * ((k : Int) + 1) := by
    have : ((C n (k + 1) * (k + 1) + C n k * k : Nat) : Int) = (C n k * n : Nat) := by rw [this]
    push_cast at this
    grind
  rw [e]
  exact Int.mul_ediv_cancel _ (by omega)
def rsum (g : Nat → Int) : Nat → Int
  | 0 => 0
  | m + 1 => rsum g m + g m
theorem rsum_front (g : Nat → Int) : ∀ m, rsum g (m + 1) = g 0 + rsum (fun j => g (j + 1)) m
  | 0 => by simp [rsum]
  | m + 1 => by
    have := rsum_front g m
    rw [show rsum g (m + 1 + 1) = rsum g (m + 1) + g (m + 1) from rfl, this]
    simp only [rsum]
    omega
theorem rsum_congr {g h : Nat → Int} : ∀ {m : Nat}, (∀ j, j < m → g j = h j) → rsum g m = rsum h m
  | 0, _ => rfl
  | m + 1, e => by
    simp only [rsum]
    rw [rsum_congr fun j hj => e j (by omega), e m (by omega)]
theorem rsum_lin (g h : Nat → Int) (x z : Int) : ∀ m, rsum (fun j => x * g j + z * h j) m = x * rsum g m + z * rsum h m
  | 0 => by simp [rsum]
  | m + 1 => by
    simp only [rsum]
    rw [rsum_lin g h x z m]
    grind
def trm (x z : Int) (n k : Nat) : Int := C n k * x ^ k * z ^ (n - k)
/-- k of n and more -/
def Tl (x z : Int) (n a : Nat) : Int := rsum (fun j => trm x z n (a + j)) (n + 1 - a)
theorem trm_gt {x z : Int} {n k : Nat} (h : n < k) : trm x z n k = 0 := by
  simp [trm, C_gt h]
theorem trm_step (x z : Int) {n k : Nat} (h : k ≤ n) : trm x z (n + 1) (k + 1) = x * trm x z n k + z * trm x z n (k + 1) := by
  unfold trm
  have e : C (n + 1) (k + 1) = C n k + C n (k + 1) := rfl
  rw [e]
  have e1 : n + 1 - (k + 1) = n - k := by omega
  rw [e1]
  by_cases hk : k = n
  · subst hk
    rw [C_gt (n := k) (k := k + 1) (by omega)]
    simp
    grind
  · have e2 : n - k = (n - (k + 1)) + 1 := by omega
    rw [e2]
    push_cast
    grind
theorem Tl_step (x z : Int) (n a : Nat) : Tl x z (n + 1) (a + 1) = x * Tl x z n a + z * Tl x z n (a + 1) := by
  unfold Tl
  have e1 : n + 1 + 1 - (a + 1) = n + 1 - a := by omega
  rw [e1]
  have e2 : rsum (fun j => trm x z (n + 1) (a + 1 + j)) (n + 1 - a) = rsum (fun j => x * trm x z n (a + j) + z * trm x z n (a + 1 + j)) (n + 1 - a) := rsum_congr fun j hj => by
    have := trm_step x z (n := n) (k := a + j) (by omega)
    have e3 : a + 1 + j = a + j + 1 := by omega
    rw [e3]
    exact this
  rw [e2, rsum_lin]
  congr 2
  by_cases h : a ≤ n
  · have e4 : n + 1 - a = (n + 1 - (a + 1)) + 1 := by omega
    rw [e4]
    show rsum _ (n + 1 - (a + 1)) + trm x z n (a + 1 + (n + 1 - (a + 1))) = _
    rw [trm_gt (by omega), Int.add_zero]
  · have e4 : n + 1 - a = 0 := by omega
    have e5 : n + 1 - (a + 1) = 0 := by omega
    rw [e4, e5]
theorem Tl_gt {x z : Int} {n a : Nat} (h : n < a) : Tl x z n a = 0 := by
  unfold Tl
  have : n + 1 - a = 0 := by omega
  rw [this]
  rfl
theorem Tl_0 (x z : Int) : ∀ n, Tl x z n 0 = (x + z) ^ n
  | 0 => by simp [Tl, rsum, trm, C_0]
  | n + 1 => by
    have ih := Tl_0 x z n
    have h := Tl_step x z n 0
    have f : Tl x z (n + 1) 0 = z ^ (n + 1) + Tl x z (n + 1) 1 := by
      unfold Tl
      show rsum _ (n + 1 + 1) = _
      rw [rsum_front]
      simp only [trm, C_0, Nat.zero_add]
      simp
      exact rsum_congr fun j hj => by
        have e : n + 1 - (j + 1) = n - j := by omega
        rw [Nat.add_comm 1 j, e]
    have g : Tl x z n 0 = z ^ n + Tl x z n 1 := by
      unfold Tl
      show rsum _ (n + 1) = _
      rw [rsum_front]
      simp only [trm, C_0, Nat.zero_add]
      simp
      exact rsum_congr fun j hj => by rw [Nat.add_comm 1 j]
    rw [f, h]
    rw [Int.pow_succ, Int.pow_succ, ← ih]
    simp only [Nat.zero_add]
    grind
/-- the chance, one point after another -/
def V (p : Rat) : Nat → Nat → Rat
  | 0, _ => 1
  | _ + 1, 0 => 0
  | a + 1, b + 1 => p * V p a (b + 1) + (1 - p) * V p (a + 1) b
theorem pow_ne {y : Int} {n : Nat} (hy : 0 < y) : (y : Rat) ^ n ≠ 0 := by
  have h : (0 : Rat) < y := by exact_mod_cast hy
  have := Rat.pow_pos (n := n) h
  grind
theorem V_Tl {x y : Int} (hy : 0 < y) : ∀ a b : Nat, 0 < a + b → V ((x : Rat) / y) a b = (Tl x (y - x) (a + b - 1) a : Rat) / (y : Rat) ^ (a + b - 1)
  | 0, b + 1, _ => by
    have : 0 + (b + 1) - 1 = b := by omega
    rw [this, Tl_0]
    have : x + (y - x) = y := by omega
    rw [this]
    simp only [V]
    rw [Rat.intCast_pow]
    have h := pow_ne (n := b) hy
    grind
  | a + 1, 0, _ => by
    rw [Tl_gt (by omega)]
    simp only [V]
    grind
  | a + 1, b + 1, _ => by
    have h1 := V_Tl (x := x) hy a (b + 1) (by omega)
    have h2 := V_Tl (x := x) hy (a + 1) b (by omega)
    have e0 : a + 1 + (b + 1) - 1 = (a + b) + 1 := by omega
    have e1 : a + (b + 1) - 1 = a + b := by omega
    have e2 : a + 1 + b - 1 = a + b := by omega
    rw [e1] at h1
    rw [e2] at h2
    rw [e0, Tl_step]
    simp only [V]
    rw [h1, h2, Rat.pow_succ]
    have h := pow_ne (n := a + b) hy
    have hy' := pow_ne (n := 1) hy
    rw [Rat.pow_one] at hy'
    push_cast
    generalize (y : Rat) ^ (a + b) = W at h ⊢
    generalize (y : Rat) = Y at hy' ⊢
    generalize (x : Rat) = X at ⊢
    generalize (Tl x (y - x) (a + b) a : Rat) = A at ⊢
    generalize (Tl x (y - x) (a + b) (a + 1) : Rat) = B at ⊢
    grind
end Lib
end

section
set_option Elab.async false
set_option linter.all false
/-! Plain: all orders of 0 .. n - 1, ascending; the first of the least. -/
namespace Lib
/-- first difference, else the shorter -/
def llt : List Nat → List Nat → Bool
  | [], [] => false
  | [], _ :: _ => true
  | _ :: _, [] => false
  | x :: xs, y :: ys => if x = y then llt xs ys else decide (x < y)
theorem llt_irrefl : ∀ o, llt o o = false
  | [] => rfl
  | x :: xs => by simp [llt, llt_irrefl xs]
theorem llt_trans : ∀ {a b c}, llt a b = true → llt b c = true → llt a c = true
  | [], [], _, h, _ => by cases h
  | [], _ :: _, [], _, h => by cases h
  | [], _ :: _, _ :: _, _, _ => rfl
  | _ :: _, [], _, h, _ => by cases h
  | _ :: _, _ :: _, [], _, h => by cases h
  | x :: xs, y :: ys, z :: zs, h, h' => by
    unfold llt at h h' ⊢
    split at h
    · rename_i e; subst e
      split at h'
      · rename_i e; subst e; rw [if_pos rfl]; exact llt_trans h h'
      · rename_i e; rw [if_neg e]; exact h'
    · split at h'
      · rename_i e; subst e; rename_i e; rw [if_neg e]; exact h
      · have h1 := of_decide_eq_true h
        have h2 := of_decide_eq_true h'
        rw [if_neg (by omega)]
        exact decide_eq_true (by omega)
theorem llt_tri : ∀ (a b : List Nat), llt a b = false → llt b a = false → a = b
  | [], [], _, _ => rfl
  | [], _ :: _, h, _ => by cases h
  | _ :: _, [], _, h => by cases h
  | x :: xs, y :: ys, h, h' => by
    unfold llt at h h'
    by_cases e : x = y
    · subst e
      rw [if_pos rfl] at h h'
      rw [llt_tri xs ys h h']
    · rw [if_neg e] at h
      rw [if_neg (fun q => e q.symm)] at h'
      have h1 := of_decide_eq_false h
      have h2 := of_decide_eq_false h'
      omega
theorem llt_app_l : ∀ {a b : List Nat} (x y : List Nat), a.length = b.length → llt a b = true → llt (a ++ x) (b ++ y) = true
  | [], [], _, _, _, h => by cases h
  | [], _ :: _, _, _, h, _ => by simp at h
  | _ :: _, [], _, _, h, _ => by simp at h
  | p :: a, q :: b, x, y, hl, h => by
    unfold llt at h
    show llt (p :: (a ++ x)) (q :: (b ++ y)) = true
    unfold llt
    split at h
    · rename_i e; rw [if_pos e]; exact llt_app_l x y (by simpa using hl) h
    · rename_i e; rw [if_neg e]; exact h
theorem llt_app_r : ∀ (a : List Nat) {x y : List Nat}, llt x y = true → llt (a ++ x) (a ++ y) = true
  | [], _, _, h => h
  | p :: a, x, y, h => by
    show llt (p :: (a ++ x)) (p :: (a ++ y)) = true
    unfold llt
    rw [if_pos rfl]
    exact llt_app_r a h
/-! orders -/
def grow (n : Nat) (rows : List (List Nat)) : List (List Nat) := rows.flatMap fun row => ((List.range n).filter fun i => !row.contains i).map fun i => row ++ [i]
def ords (n : Nat) : Nat → List (List Nat)
  | 0 => [[]]
  | k + 1 => grow n (ords n k)
theorem mem_grow {n : Nat} {rows : List (List Nat)} {o : List Nat} : o ∈ grow n rows ↔ ∃ row ∈ rows, ∃ i, i < n ∧ i ∉ row ∧ o = row ++ [i] := by
  unfold grow
  simp only [List.mem_flatMap, List.mem_map, List.mem_filter, List.mem_range, Bool.not_eq_true', List.contains_eq_mem, decide_eq_false_iff_not]
  constructor
  · rintro ⟨row, h, i, ⟨h1, h2⟩, rfl⟩; exact ⟨row, h, i, h1, h2, rfl⟩
  · rintro ⟨row, h, i, h1, h2, rfl⟩; exact ⟨row, h, i, ⟨h1, h2⟩, rfl⟩
/-- a row of k different numbers below n -/
structure IsRow (n k : Nat) (o : List Nat) : Prop where
  len : o.length = k
  nd : o.Nodup
  lt : ∀ x ∈ o, x < n
theorem mem_ords {n : Nat} : ∀ {k : Nat} {o : List Nat}, o ∈ ords n k ↔ IsRow n k o
  | 0, o => by
    constructor
    · intro h
      have : o = [] := by simpa [ords] using h
      subst this
      exact ⟨rfl, List.nodup_nil, by simp⟩
    · intro h
      have := h.len
      have : o = [] := List.length_eq_zero_iff.mp this
      simp [ords, this]
  | k + 1, o => by
    show o ∈ grow n (ords n k) ↔ _
    rw [mem_grow]
    constructor
    · rintro ⟨row, h, i, hi, hn, rfl⟩
      have r := mem_ords.mp h
      refine ⟨by simp [r.len], ?_, ?_⟩
      · rw [List.nodup_append]
        refine ⟨r.nd, by simp, ?_⟩
        intro a ha b hb
        simp at hb
        subst hb
        intro e; subst e; exact hn ha
      · intro x hx
        rcases List.mem_append.mp hx with h1 | h1
        · exact r.lt x h1
        · simp at h1; omega
    · intro h
      have hl := h.len
      have hne : o ≠ [] := by intro e; subst e; simp at hl
      have e := List.dropLast_concat_getLast hne
      have nd := h.nd
      rw [← e, List.nodup_append] at nd
      refine ⟨o.dropLast, mem_ords.mpr ⟨by simp [hl], nd.1, fun x hx => h.lt x ((List.dropLast_sublist o).subset hx)⟩, o.getLast hne, h.lt _ (List.getLast_mem hne), ?_, e.symm⟩
      intro hm
      exact nd.2.2 _ hm _ (.head _) rfl
theorem ords_sorted (n : Nat) : ∀ k, (ords n k).Pairwise fun a b => llt a b = true
  | 0 => by simp [ords]
  | k + 1 => by
    show (grow n (ords n k)).Pairwise _
    unfold grow
    rw [List.pairwise_flatMap]
    refine ⟨?_, ?_⟩
    · intro row _
      rw [List.pairwise_map]
      refine List.Pairwise.imp ?_ ((List.pairwise_lt_range (n := n)).filter _)
      intro a b hab
      refine llt_app_r row ?_
      unfold llt
      rw [if_neg (by omega)]
      exact decide_eq_true hab
    · refine List.Pairwise.imp_of_mem ?_ (ords_sorted n k)
      intro a b ha hb hab x hx y hy
      simp only [List.mem_map] at hx hy
      obtain ⟨i, _, rfl⟩ := hx
      obtain ⟨j, _, rfl⟩ := hy
      exact llt_app_l _ _ (by rw [(mem_ords.mp ha).len, (mem_ords.mp hb).len]) hab
theorem range_row (n : Nat) : IsRow n n (List.range n) := ⟨by simp, List.nodup_range, by simp⟩
theorem IsRow.perm {n : Nat} {o : List Nat} (h : IsRow n n o) : o.Perm (List.range n) := by
  have p1 : ((List.range n).filter fun i => o.contains i).Perm o := by
    refine (List.perm_ext_iff_of_nodup (List.nodup_range.filter _) h.nd).mpr ?_
    intro a
    simp only [List.mem_filter, List.mem_range, List.contains_eq_mem, decide_eq_true_eq]
    exact ⟨fun h => h.2, fun ha => ⟨h.lt a ha, ha⟩⟩
  have p2 := List.filter_append_perm (fun i => o.contains i) (List.range n)
  have hl := p2.length_eq
  have l1 := p1.length_eq
  rw [h.len] at l1
  rw [List.length_append, l1, List.length_range] at hl
  have e : ((List.range n).filter fun i => !o.contains i) = [] := List.length_eq_zero_iff.mp (by omega)
  rw [e, List.append_nil] at p2
  exact p1.symm.trans p2
theorem IsRow.of_perm {n : Nat} {o : List Nat} (h : o.Perm (List.range n)) : IsRow n n o :=
  ⟨by simpa using h.length_eq, h.nodup_iff.mpr List.nodup_range, fun x hx => List.mem_range.mp (h.mem_iff.mp hx)⟩
theorem IsRow.of_perm' {n : Nat} {o o' : List Nat} (h : IsRow n n o) (p : o'.Perm o) : IsRow n n o' := IsRow.of_perm (p.trans h.perm)
theorem ords_len : ∀ n, n ≤ 6 → (ords n n).length ≤ 720 := by
  intro n hn
  have : ∀ n, n < 7 → (ords n n).length ≤ 720 := by decide +kernel
  exact this n (by omega)
theorem ords_ne (n : Nat) : ords n n ≠ [] := List.ne_nil_of_mem (mem_ords.mpr (range_row n))
/-! the first of the least -/
def fmin {α : Type} (lt : α → α → Bool) (x : α) (xs : List α) : α := xs.foldl (fun a y => if lt y a = true then y else a) x
theorem fmin_map {α β : Type} {lt : α → α → Bool} {lt' : β → β → Bool} (f : α → β) : ∀ (xs : List α) (x : α), (∀ a b, lt' (f a) (f b) = lt a b) → fmin lt' (f x) (xs.map f) = f (fmin lt x xs)
  | [], x, _ => rfl
  | y :: ys, x, h => by
    show fmin lt' (if lt' (f y) (f x) = true then f y else f x) (ys.map f) = f (fmin lt (if lt y x = true then y else x) ys)
    rw [h, ← fmin_map f ys _ h]
    cases lt y x <;> rfl
theorem fmin_mem {α : Type} (lt : α → α → Bool) : ∀ (xs : List α) (x : α), fmin lt x xs ∈ x :: xs
  | [], x => .head _
  | y :: ys, x => by
    have := fmin_mem lt ys (if lt y x = true then y else x)
    show fmin lt (if lt y x = true then y else x) ys ∈ _
    rcases List.mem_cons.mp this with e | e
    · rw [e]; split
      · exact .tail _ (.head _)
      · exact .head _
    · exact .tail _ (.tail _ e)
/-- when later ones count as greater among equals, the first with the least key is the least of all -/
theorem fmin_key {α : Type} {lt : α → α → Bool} {c : α → Int} : ∀ (xs : List α) (x : α), (x :: xs).Pairwise (fun a b => lt b a = decide (c b < c a)) → fmin lt x xs = fmin (fun a b => decide (c a < c b)) x xs
  | [], _, _ => rfl
  | y :: ys, x, h => by
    have h1 := List.rel_of_pairwise_cons h (.head _)
    show fmin lt (if lt y x = true then y else x) ys = fmin _ (if decide (c y < c x) = true then y else x) ys
    rw [h1]
    refine fmin_key ys _ ?_
    split
    · exact (List.pairwise_cons.mp h).2
    · rw [List.pairwise_cons] at h ⊢
      exact ⟨fun a ha => h.1 a (.tail _ ha), (List.pairwise_cons.mp h.2).2⟩
/-- the least of a strict linear order is one, however it is sought -/
theorem fmin_le {α : Type} {lt : α → α → Bool} (tr : ∀ {a b c}, lt a b = true → lt b c = true → lt a c = true) (co : ∀ {a b c}, lt a b = true → lt a c = true ∨ lt c b = true) (ir : ∀ a, lt a a = false) : ∀ (xs : List α) (x : α), ∀ y ∈ x :: xs, lt y (fmin lt x xs) = false
  | [], x, y, hy => by
    simp at hy
    subst hy
    exact ir y
  | z :: zs, x, y, hy => by
    show lt y (fmin lt (if lt z x = true then z else x) zs) = false
    have ih := fmin_le (lt := lt) tr co ir zs (if lt z x = true then z else x)
    have h0 := ih _ (.head _)
    rcases List.mem_cons.mp hy with e | hy
    · subst e
      split at h0
      · rename_i hz
        rw [if_pos hz]
        cases q : lt y (fmin lt z zs) with
        | false => rfl
        | true => rw [tr hz q] at h0; cases h0
      · rename_i hz; rw [if_neg hz]; exact h0
    · rcases List.mem_cons.mp hy with e | hy
      · subst e
        split at h0
        · rename_i hz; rw [if_pos hz]; exact h0
        · rename_i hz; rw [if_neg hz]
          cases q : lt y (fmin lt x zs) with
          | false => rfl
          | true =>
            rcases co (c := x) q with h | h
            · exact absurd h hz
            · rw [h] at h0; cases h0
      · exact ih y (.tail _ hy)
end Lib
end

section
set_option Elab.async false
set_option linter.all false
/-! Plain: rising times falling is the least sum of products. -/
namespace Lib
def dot : List Int → List Int → Int
  | a :: as, b :: bs => a * b + dot as bs
  | _, _ => 0
def psum : List (Int × Int) → Int
  | [] => 0
  | p :: P => p.1 * p.2 + psum P
theorem psum_perm {P Q : List (Int × Int)} (h : P.Perm Q) : psum P = psum Q := by
  induction h with
  | nil => rfl
  | cons x _ ih => simp only [psum, ih]
  | swap x y l => simp only [psum]; omega
  | trans _ _ a b => exact a.trans b
theorem rearr : ∀ (A B : List Int) (P : List (Int × Int)), A.Pairwise (· ≤ ·) → B.Pairwise (fun a b => b ≤ a) → A.Perm (P.map Prod.fst) → B.Perm (P.map Prod.snd) → dot A B ≤ psum P
  | [], B, P, _, _, pa, pb => by
    have : P = [] := by
      have := pa.length_eq
      simpa using this.symm
    subst this
    simp [dot, psum]
  | a :: A, [], P, _, _, pa, pb => by
    have h1 := pa.length_eq
    have h2 := pb.length_eq
    simp at h1 h2
    omega
  | a :: A, b :: B, P, sa, sb, pa, pb => by
    have ha : a ∈ P.map Prod.fst := pa.mem_iff.mp (.head _)
    obtain ⟨⟨a', y⟩, hp, e⟩ := List.mem_map.mp ha
    simp at e; subst e
    have p1 := List.perm_cons_erase hp
    generalize P.erase (a', y) = P1 at p1
    have pa1 : A.Perm (P1.map Prod.fst) := (pa.trans (p1.map Prod.fst)).cons_inv
    have pb1 : (b :: B).Perm (y :: P1.map Prod.snd) := pb.trans (p1.map Prod.snd)
    rw [psum_perm p1]
    show a' * b + dot A B ≤ a' * y + psum P1
    rw [List.pairwise_cons] at sa sb
    by_cases e : b = y
    · subst e
      have := rearr A B P1 sa.2 sb.2 pa1 pb1.cons_inv
      omega
    · have hb : b ∈ P1.map Prod.snd := by
        rcases List.mem_cons.mp (pb1.mem_iff.mp (.head _)) with h | h
        · exact absurd h e
        · exact h
      obtain ⟨⟨x, b'⟩, hp', e'⟩ := List.mem_map.mp hb
      simp at e'; subst e'
      have p2 := List.perm_cons_erase hp'
      generalize P1.erase (x, b') = P2 at p2
      have pa2 : A.Perm (x :: P2.map Prod.fst) := pa1.trans (p2.map Prod.fst)
      have pb2 : B.Perm (y :: P2.map Prod.snd) := by
        have : (b' :: B).Perm (b' :: y :: P2.map Prod.snd) := (pb1.trans ((p2.map Prod.snd).cons y)).trans (.swap _ _ _)
        exact this.cons_inv
      have ih := rearr A B ((x, y) :: P2) sa.2 sb.2 pa2 pb2
      have hx : a' ≤ x := sa.1 x (pa2.mem_iff.mpr (.head _))
      have hy : y ≤ b' := sb.1 y (pb2.mem_iff.mpr (.head _))
      rw [psum_perm p2]
      simp only [psum] at ih ⊢
      have h0 := Int.mul_nonneg (show (0 : Int) ≤ x - a' by omega) (show (0 : Int) ≤ b' - y by omega)
      rw [Int.sub_mul, Int.mul_sub, Int.mul_sub] at h0
      omega
end Lib
end

section
set_option Elab.async false
set_option linter.all false
/-! Plain: exchanging the two that help most, as long as one helps. -/
namespace Lib
abbrev K3 := Int × Nat × Nat
def lt3 (a b : K3) : Bool := if a.1 = b.1 then (if a.2.1 = b.2.1 then decide (a.2.2 < b.2.2) else decide (a.2.1 < b.2.1)) else decide (a.1 < b.1)
theorem lt3_iff (a b : K3) : lt3 a b = true ↔ a.1 < b.1 ∨ (a.1 = b.1 ∧ (a.2.1 < b.2.1 ∨ (a.2.1 = b.2.1 ∧ a.2.2 < b.2.2))) := by
  unfold lt3
  split
  · split
    · rw [decide_eq_true_iff]; omega
    · rw [decide_eq_true_iff]; omega
  · rw [decide_eq_true_iff]; omega
theorem lt3_irrefl (a : K3) : lt3 a a = false := by
  cases h : lt3 a a with
  | false => rfl
  | true => rw [lt3_iff] at h; omega
theorem lt3_trans {a b c : K3} (h : lt3 a b = true) (h' : lt3 b c = true) : lt3 a c = true := by
  rw [lt3_iff] at *; omega
theorem lt3_co {a b c : K3} (h : lt3 a b = true) : lt3 a c = true ∨ lt3 c b = true := by
  rw [lt3_iff] at *; rw [lt3_iff]; omega
theorem lt3_tri {a b : K3} (h : lt3 a b = false) (h' : lt3 b a = false) : a = b := by
  have h1 : ¬ lt3 a b = true := by rw [h]; decide
  have h2 : ¬ lt3 b a = true := by rw [h']; decide
  rw [lt3_iff] at h1 h2
  obtain ⟨a1, a2, a3⟩ := a
  obtain ⟨b1, b2, b3⟩ := b
  simp only [Prod.mk.injEq]
  simp only at h1 h2
  omega
/-- the least of two lists with the same members -/
theorem fmin3_same {x y : K3} {xs ys : List K3} (h : ∀ a, a ∈ x :: xs ↔ a ∈ y :: ys) : fmin lt3 x xs = fmin lt3 y ys := by
  refine lt3_tri ?_ ?_
  · exact fmin_le (lt := lt3) lt3_trans lt3_co lt3_irrefl ys y _ ((h _).mp (fmin_mem lt3 xs x))
  · exact fmin_le (lt := lt3) lt3_trans lt3_co lt3_irrefl xs x _ ((h _).mpr (fmin_mem lt3 ys y))
/-- the first of the least from None on -/
def ofold {α : Type} (lt : α → α → Bool) (b : Option α) (l : List α) : Option α := l.foldl (fun b y => match b with | none => some y | some x => if lt y x = true then some y else some x) b
theorem ofold_some {α : Type} (lt : α → α → Bool) : ∀ (l : List α) (x : α), ofold lt (some x) l = some (fmin lt x l)
  | [], _ => rfl
  | y :: l, x => by
    show ofold lt (if lt y x = true then some y else some x) l = some (fmin lt (if lt y x = true then y else x) l)
    rw [← ofold_some]
    cases lt y x <;> rfl
theorem ofold_cons {α : Type} (lt : α → α → Bool) (x : α) (l : List α) : ofold lt none (x :: l) = some (fmin lt x l) := ofold_some lt l x
theorem ofold_app {α : Type} (lt : α → α → Bool) (b : Option α) (l l' : List α) : ofold lt b (l ++ l') = ofold lt (ofold lt b l) l' := List.foldl_append
theorem ofold_one {α : Type} (lt : α → α → Bool) (b : Option α) (y : α) : ofold lt b [y] = (match b with | none => some y | some x => if lt y x = true then some y else some x) := rfl
/-! exchanging -/
def exch (o : List Nat) (i j : Nat) : List Nat := (o.set i (o.getD j 0)).set j (o.getD i 0)
theorem exch_len (o : List Nat) (i j : Nat) : (exch o i j).length = o.length := by simp [exch]
theorem set_perm {o : List Nat} {i : Nat} (h : i < o.length) (x : Nat) : (o.getD i 0 :: o.set i x).Perm (x :: o) := by
  induction o generalizing i with
  | nil => simp at h
  | cons y o ih =>
    cases i with
    | zero => exact .swap _ _ _
    | succ i =>
      have := ih (i := i) (by simpa using h)
      show (o.getD i 0 :: y :: o.set i x).Perm (x :: y :: o)
      exact (List.Perm.swap _ _ _).trans ((this.cons y).trans (.swap _ _ _))
theorem exch_perm {o : List Nat} {i j : Nat} (hij : i < j) (hj : j < o.length) : (exch o i j).Perm o := by
  have p1 := set_perm (o := o) (i := i) (by omega) (o.getD j 0)
  have p2 := set_perm (o := o.set i (o.getD j 0)) (i := j) (by simpa using hj) (o.getD i 0)
  have e : (o.set i (o.getD j 0)).getD j 0 = o.getD j 0 := by
    simp [List.getD_eq_getElem?_getD, List.getElem?_set_ne (Nat.ne_of_lt hij)]
  rw [e] at p2
  have p3 : (o.getD j 0 :: exch o i j).Perm (o.getD j 0 :: o) := p2.trans p1
  exact p3.cons_inv
theorem exch_cut {o : List Nat} {i j : Nat} (hij : i < j) (hj : j < o.length) : o.take i ++ [o.getD j 0] ++ (o.take j).drop (i + 1) ++ [o.getD i 0] ++ o.drop (j + 1) = exch o i j := by
  refine List.ext_getElem? fun k => ?_
  simp only [exch, List.getD_eq_getElem?_getD]
  have e1 : (o.take i).length = i := by simp; omega
  have e2 : ((o.take j).drop (i + 1)).length = j - (i + 1) := by simp; omega
  simp only [List.append_assoc, List.getElem?_append, e1, e2, List.length_cons, List.length_nil, List.getElem?_set, List.length_set]
  by_cases h1 : k < i
  · rw [if_pos h1, if_neg (by omega), if_neg (by omega), List.getElem?_take, if_pos h1]
  · rw [if_neg h1]
    by_cases h2 : k = i
    · subst h2
      rw [if_pos (by omega), if_neg (by omega), if_pos rfl, if_pos (by omega)]
      simp
    · rw [if_neg (by omega)]
      by_cases h3 : k < j
      · rw [if_pos (by omega), if_neg (by omega), if_neg (by omega), List.getElem?_drop, List.getElem?_take, if_pos (by omega)]
        congr 1; omega
      · rw [if_neg (by omega)]
        by_cases h4 : k = j
        · subst h4
          rw [if_pos (by omega), if_pos rfl, if_pos (by omega)]
          have : k - i - (0 + 1) - (k - (i + 1)) = 0 := by omega
          rw [this]
          simp
        · rw [if_neg (by omega), if_neg (by omega), if_neg (by omega), List.getElem?_drop]
          congr 1; omega
/-! the pairs, in the program's order and in the law's -/
def key (c : List Nat → Int) (o : List Nat) (i j : Nat) : K3 := (c (exch o i j), i, j)
def keysP (c : List Nat → Int) (o : List Nat) (n : Nat) : List K3 := (List.range n).flatMap fun j => (List.range j).map fun i => key c o i j
def keysL (c : List Nat → Int) (o : List Nat) (n : Nat) : List K3 := (List.range n).flatMap fun i => (List.range (n - (i + 1))).map fun t => key c o i (i + 1 + t)
theorem mem_keysP {c : List Nat → Int} {o : List Nat} {n : Nat} {k : K3} : k ∈ keysP c o n ↔ ∃ i j, i < j ∧ j < n ∧ k = key c o i j := by
  unfold keysP
  simp only [List.mem_flatMap, List.mem_map, List.mem_range]
  constructor
  · rintro ⟨j, hj, i, hi, rfl⟩; exact ⟨i, j, hi, hj, rfl⟩
  · rintro ⟨i, j, hi, hj, rfl⟩; exact ⟨j, hj, i, hi, rfl⟩
theorem mem_keysL {c : List Nat → Int} {o : List Nat} {n : Nat} {k : K3} : k ∈ keysL c o n ↔ ∃ i j, i < j ∧ j < n ∧ k = key c o i j := by
  unfold keysL
  simp only [List.mem_flatMap, List.mem_map, List.mem_range]
  constructor
  · rintro ⟨i, hi, t, ht, rfl⟩; exact ⟨i, i + 1 + t, by omega, by omega, rfl⟩
  · rintro ⟨i, j, hi, hj, rfl⟩; exact ⟨i, by omega, j - (i + 1), by omega, by rw [show i + 1 + (j - (i + 1)) = j by omega]⟩
/-- the exchange that helps most -/
def bestK (c : List Nat → Int) (n : Nat) (o : List Nat) : K3 := match keysP c o n with
  | [] => (0, 0, 0)
  | x :: xs => fmin lt3 x xs
theorem bestK_p {c : List Nat → Int} {n : Nat} {o : List Nat} (hn : 2 ≤ n) : ∃ x xs, keysP c o n = x :: xs ∧ bestK c n o = fmin lt3 x xs := by
  cases h : keysP c o n with
  | nil =>
    have : key c o 0 1 ∈ keysP c o n := mem_keysP.mpr ⟨0, 1, by omega, by omega, rfl⟩
    rw [h] at this; cases this
  | cons x xs => exact ⟨x, xs, rfl, by unfold bestK; rw [h]⟩
theorem bestK_l {c : List Nat → Int} {n : Nat} {o : List Nat} (hn : 2 ≤ n) : ofold lt3 none (keysL c o n) = some (bestK c n o) := by
  obtain ⟨x, xs, h, e⟩ := bestK_p (c := c) (o := o) hn
  cases h' : keysL c o n with
  | nil =>
    have : key c o 0 1 ∈ keysL c o n := mem_keysL.mpr ⟨0, 1, by omega, by omega, rfl⟩
    rw [h'] at this; cases this
  | cons y ys =>
    rw [ofold_cons, e]
    congr 1
    refine fmin3_same fun a => ?_
    rw [← h, ← h', mem_keysP, mem_keysL]
theorem bestK_is {c : List Nat → Int} {n : Nat} {o : List Nat} (hn : 2 ≤ n) : ∃ i j, i < j ∧ j < n ∧ bestK c n o = key c o i j := by
  obtain ⟨x, xs, h, e⟩ := bestK_p (c := c) (o := o) hn
  have := fmin_mem lt3 xs x
  rw [← h, ← e] at this
  exact mem_keysP.mp this
def climb (c : List Nat → Int) (n : Nat) : Nat → List Nat → List Nat
  | 0, o => o
  | k + 1, o => if c o ≤ (bestK c n o).1 then o else climb c n k (exch o (bestK c n o).2.1 (bestK c n o).2.2)
def mu (c : List Nat → Int) (n : Nat) (o : List Nat) : Nat := (ords n n).countP fun x => decide (c x < c o)
theorem countP_lt {α : Type} {p q : α → Bool} {a : α} : ∀ {l : List α}, (∀ x, p x = true → q x = true) → a ∈ l → q a = true → p a = false → l.countP p < l.countP q
  | [], _, h, _, _ => by cases h
  | x :: l, hpq, h, hq, hp => by
    have le : l.countP p ≤ l.countP q := by
      induction l with
      | nil => exact Nat.le_refl _
      | cons y l ih =>
        rw [List.countP_cons, List.countP_cons]
        have := List.countP_mono_left (l := y :: l) (p := p) (q := q) (fun x _ => hpq x)
        rw [List.countP_cons, List.countP_cons] at this
        exact this
    rw [List.countP_cons, List.countP_cons]
    rcases List.mem_cons.mp h with e | h
    · subst e
      rw [if_pos hq, if_neg (by rw [hp]; decide)]
      omega
    · have ih := countP_lt (l := l) hpq h hq hp
      have : (if p x = true then 1 else 0) ≤ (if q x = true then 1 else 0) := by
        split
        · rename_i e; rw [if_pos (hpq x e)]; exact Nat.le_refl _
        · exact Nat.zero_le _
      omega
theorem mu_lt {c : List Nat → Int} {n : Nat} {o o' : List Nat} (h : IsRow n n o') (hc : c o' < c o) : mu c n o' < mu c n o := by
  refine countP_lt (a := o') (fun x hx => ?_) (mem_ords.mpr h) (decide_eq_true hc) (decide_eq_false (by omega))
  have := of_decide_eq_true hx
  exact decide_eq_true (by omega)
theorem mu_720 {c : List Nat → Int} {n : Nat} {o : List Nat} (h : IsRow n n o) (hn : n ≤ 6) : mu c n o < 720 := by
  have h1 := countP_lt (l := ords n n) (p := fun x => decide (c x < c o)) (q := fun _ => true) (a := o) (fun _ _ => rfl) (mem_ords.mpr h) rfl (decide_eq_false (by omega))
  have h2 := ords_len n hn
  have h3 : (ords n n).countP (fun _ => true) ≤ (ords n n).length := List.countP_le_length
  unfold mu
  omega
theorem exch_row {n : Nat} {o : List Nat} {i j : Nat} (h : IsRow n n o) (hij : i < j) (hj : j < n) : IsRow n n (exch o i j) := h.of_perm' (exch_perm hij (by rw [h.len]; exact hj))
theorem best_row {c : List Nat → Int} {n : Nat} {o : List Nat} (hn : 2 ≤ n) (h : IsRow n n o) : IsRow n n (exch o (bestK c n o).2.1 (bestK c n o).2.2) ∧ (bestK c n o).1 = c (exch o (bestK c n o).2.1 (bestK c n o).2.2) := by
  obtain ⟨i, j, hij, hj, e⟩ := bestK_is (c := c) (o := o) hn
  rw [e]
  exact ⟨exch_row h hij hj, rfl⟩
theorem climb_more {c : List Nat → Int} {n : Nat} (hn : 2 ≤ n) : ∀ (k k' : Nat) (o : List Nat), IsRow n n o → mu c n o < k → mu c n o < k' → climb c n k o = climb c n k' o
  | 0, _, _, _, h, _ => by omega
  | _ + 1, 0, _, _, _, h => by omega
  | k + 1, k' + 1, o, hr, h, h' => by
    unfold climb
    split
    · rfl
    · rename_i q
      obtain ⟨r, e⟩ := best_row (c := c) hn hr
      have := mu_lt (c := c) (o := o) r (by omega)
      exact climb_more hn k k' _ r (by omega) (by omega)
theorem climb_row {c : List Nat → Int} {n : Nat} (hn : 2 ≤ n) : ∀ (k : Nat) (o : List Nat), IsRow n n o → IsRow n n (climb c n k o)
  | 0, _, h => h
  | k + 1, o, h => by
    unfold climb
    split
    · exact h
    · exact climb_row hn k _ (best_row hn h).1
theorem climb_end {c : List Nat → Int} {n : Nat} (hn : 2 ≤ n) : ∀ (k : Nat) (o : List Nat), IsRow n n o → mu c n o < k → c (climb c n k o) ≤ (bestK c n (climb c n k o)).1
  | 0, _, _, h => by omega
  | k + 1, o, hr, h => by
    unfold climb
    split
    · rename_i q; exact q
    · rename_i q
      obtain ⟨r, e⟩ := best_row (c := c) hn hr
      have := mu_lt (c := c) (o := o) r (by omega)
      exact climb_end hn k _ r (by omega)
theorem climb_again {c : List Nat → Int} {n : Nat} (hn : 2 ≤ n) (k k' : Nat) (o : List Nat) (hr : IsRow n n o) (h : mu c n o < k) : climb c n k' (climb c n k o) = climb c n k o := by
  cases k' with
  | zero => rfl
  | succ k' =>
    have := climb_end hn k o hr h
    rw [climb, if_pos this]
end Lib
end

section
set_option Elab.async false
set_option linter.all false
set_option maxRecDepth 10000
/-! Shared: steps, comprehensions with tests and with two fors, tuples of naturals, tables, keys in order. -/
namespace Lib
open DS PySem
theorem sSet_deep {i l : Nat} {f : FE} {c : Esc} {ρ : PEnv} {L : List Nat} {d : D} (h : f ρ = some d) (hd : flat d = false) : sSet i l f c (ρ, L) = .next (ρ.set i (some d), (demote c L).set i l) := by
  rw [sSet_next (s := (ρ, L)) h, if_neg (by rw [hd]; decide)]
theorem sFor_at {fi : FA} {c : Esc} {t : Tg} {body : FS} {ρ : PEnv} {L : List Nat} {ds : List D} (h : fi ρ = some ds) : sFor fi c t body (ρ, L) = forGo t body ds (ρ, demote c L) := sFor_go (s := (ρ, L)) h
theorem sIf_tt {c : FT} {f g : FS} {ρ : PEnv} {L : List Nat} (h : c ρ = some true) : sIf c f g (ρ, L) = f (ρ, L) := sIf_t (s := (ρ, L)) h
theorem sIf_ff {c : FT} {f g : FS} {ρ : PEnv} {L : List Nat} (h : c ρ = some false) : sIf c f g (ρ, L) = g (ρ, L) := sIf_f (s := (ρ, L)) h
theorem tOr_t {f g : FT} {ρ : PEnv} (h : f ρ = some true) : tOrD f g ρ = some true := by
  unfold tOrD; rw [h]
theorem tOr_f {f g : FT} {ρ : PEnv} (h : f ρ = some false) : tOrD f g ρ = g ρ := by
  unfold tOrD; rw [h]
theorem forGo_next {t : Tg} {body : FS} {d : D} {ds : List D} {s s' : S} {l : List (Nat × D)} (h : t.go d = some l) (h' : body (setsD s.1 l, zeros s.2 l) = .next s') : forGo t body (d :: ds) s = forGo t body ds s' := by
  rw [forGo]; simp only [h, h']
theorem forGo_ret {t : Tg} {body : FS} {d e : D} {ds : List D} {s : S} {l : List (Nat × D)} (h : t.go d = some l) (h' : body (setsD s.1 l, zeros s.2 l) = .ret e) : forGo t body (d :: ds) s = .ret e := by
  rw [forGo]; simp only [h, h']
theorem rngD_succ (lo : Int) (k : Nat) : rngD lo (k + 1) = .int lo :: rngD (lo + 1) k := by
  unfold rngD
  rw [List.range_succ_eq_map, List.map_cons, List.map_map]
  congr 1
  · congr 1; omega
  · refine List.map_congr_left fun a _ => ?_
    show PyData.int _ = _
    congr 1
    push_cast
    omega
theorem flat_list (ds : List D) : flat (.list ds) = false := by simp [flat]
theorem sAug_next {i : Nat} {op : D → D → Option D} {f : FE} {ρ : PEnv} {L : List Nat} {x y d : D} (hi : eVar i ρ = some x) (hf : f ρ = some y) (ho : op x y = some d) : sAug i op f (ρ, L) = .next (ρ.set i (some d), L.set i 0) := by
  unfold sAug
  simp only [hi, hf, o2_ss, ho]
theorem sTup_flat {t : Tg} {f : FE} {c : Esc} {ρ : PEnv} {L : List Nat} {d : D} {l : List (Nat × D)} (h : f ρ = some d) (h' : t.go d = some l) (hd : flat d = true) : sTup t f c (ρ, L) = .next (setsD ρ l, zeros L l) := by
  unfold sTup
  simp only [h, h', hd, if_true]
theorem pass {f g : FE} {ρ : PEnv} {L : List Nat} {d : D} {n : Nat} (hf : f ρ = some d) (hg : g ρ = some d) (hp : pl n d = true) {G : Fn} (hG : G [d, d] = some (.bool true)) :
    sIf (tNotD (tTru (eCall 2 G (aCons f (aCons g aNil))))) (sRet (eC (.bool false))) sNil (ρ, L) = .next (ρ, L) := by
  rw [sIf_f (by simp only [tNotD_a, tTru_a, eCall_2, hf, hg, o1_s, hG, dTru_b]; rfl)]
  rfl
theorem sExt_ok {i : Nat} {f : FE} {c : Esc} {ρ : PEnv} {L : List Nat} {es ds : List D} (h : f ρ = some (.list es)) (hi : eVar i ρ = some (.list ds)) (hl : ds.length + es.length ≤ 16777216) (hL : lv (demote c L) i = 1) : sExt i f c (ρ, L) = .next (ρ.set i (some (.list (ds ++ es))), demote c L) := by
  unfold sExt
  simp only [h, hi]
  have : ds.length + es.length ≤ sz := hl
  rw [if_pos ⟨this, hL⟩]
/-! comprehensions -/
theorem lc_of {α : Type} {t : Tg} {fe : FE} {ρ : PEnv} (h g : α → D) : ∀ {l : List α}, (∀ a ∈ l, ∃ m, t.go (h a) = some m ∧ fe (setsD ρ m) = some (g a)) → lcGo t tTrue fe ρ (l.map h) = some (l.map g)
  | [], _ => rfl
  | a :: l, hh => by
    obtain ⟨m, e1, e2⟩ := hh a (.head _)
    have ih := lc_of h g (l := l) fun d' hd => hh d' (.tail _ hd)
    simp only [List.map_cons]
    unfold lcGo
    rw [e1]
    simp only [tTrue_a, e2, ih]
theorem eLc_of {α : Type} {fi : FA} {t : Tg} {fe : FE} {vs : List Nat} {ρ : PEnv} (h g : α → D) {l : List α} (hi : fi ρ = some (l.map h)) (hl : l.length ≤ 16777216) (hg : ∀ a ∈ l, ∃ m, t.go (h a) = some m ∧ fe (setsD (wipeD ρ vs) m) = some (g a)) :
    eLc fi t tTrue fe vs ρ = some (.list (l.map g)) := by
  unfold eLc
  rw [hi, o1_s]
  have : (l.map h).length ≤ sz := by rw [List.length_map]; exact hl
  rw [if_pos this, lc_of h g hg, o1_s]
theorem lc_if {α : Type} {t : Tg} {ft : FT} {fe : FE} {ρ : PEnv} (h g : α → D) (p : α → Bool) : ∀ {l : List α}, (∀ a ∈ l, ∃ m, t.go (h a) = some m ∧ ft (setsD ρ m) = some (p a) ∧ (p a = true → fe (setsD ρ m) = some (g a))) → lcGo t ft fe ρ (l.map h) = some ((l.filter p).map g)
  | [], _ => rfl
  | a :: l, hh => by
    obtain ⟨m, e1, e2, e3⟩ := hh a (.head _)
    have ih := lc_if h g p (l := l) fun d' hd => hh d' (.tail _ hd)
    simp only [List.map_cons]
    unfold lcGo
    rw [e1]
    cases hp : p a with
    | true => simp only [e2, hp, e3 hp, ih, List.filter_cons_of_pos, List.map_cons]
    | false => simp only [e2, hp, ih, List.filter_cons_of_neg, Bool.false_eq_true, not_false_eq_true]
theorem eLc_if {α : Type} {fi : FA} {t : Tg} {ft : FT} {fe : FE} {vs : List Nat} {ρ : PEnv} (h g : α → D) (p : α → Bool) {l : List α} (hi : fi ρ = some (l.map h)) (hl : l.length ≤ 16777216) (hg : ∀ a ∈ l, ∃ m, t.go (h a) = some m ∧ ft (setsD (wipeD ρ vs) m) = some (p a) ∧ (p a = true → fe (setsD (wipeD ρ vs) m) = some (g a))) :
    eLc fi t ft fe vs ρ = some (.list ((l.filter p).map g)) := by
  unfold eLc
  rw [hi, o1_s]
  have : (l.map h).length ≤ sz := by rw [List.length_map]; exact hl
  rw [if_pos this, lc_if h g p hg, o1_s]
theorem lc2_of {α : Type} {t : Tg} {inner : PEnv → Option (List D)} {ρ : PEnv} (h : α → D) (g : α → List D) : ∀ {l : List α}, (∀ a ∈ l, ∃ m, t.go (h a) = some m ∧ inner (setsD ρ m) = some (g a)) → lc2Go t tTrue inner ρ (l.map h) = some (l.flatMap g)
  | [], _ => rfl
  | a :: l, hh => by
    obtain ⟨m, e1, e2⟩ := hh a (.head _)
    have ih := lc2_of h g (l := l) fun d' hd => hh d' (.tail _ hd)
    simp only [List.map_cons]
    unfold lc2Go
    rw [e1]
    simp only [tTrue_a, e2, ih, List.flatMap_cons]
theorem eLc2_of {α : Type} {fi fi1 : FA} {t t1 : Tg} {ft1 : FT} {fe : FE} {vs vs1 : List Nat} {ρ : PEnv} (h : α → D) (g : α → List D) {l : List α} (hi : fi ρ = some (l.map h)) (hg : ∀ a ∈ l, ∃ m, t.go (h a) = some m ∧ inLc fi1 t1 ft1 fe vs1 (setsD (wipeD ρ vs) m) = some (g a)) (hl : (l.flatMap g).length ≤ 16777216) :
    eLc2 fi t tTrue fi1 t1 ft1 fe vs vs1 ρ = some (.list (l.flatMap g)) := by
  unfold eLc2
  rw [hi, o1_s, lc2_of h g hg, o1_s]
  have : (l.flatMap g).length ≤ sz := hl
  rw [if_pos this]
theorem inLc_of {α : Type} {fi : FA} {t : Tg} {fe : FE} {vs : List Nat} {ρ : PEnv} (h g : α → D) {l : List α} (hi : fi ρ = some (l.map h)) (hg : ∀ a ∈ l, ∃ m, t.go (h a) = some m ∧ fe (setsD (wipeD ρ vs) m) = some (g a)) :
    inLc fi t tTrue fe vs ρ = some (l.map g) := by
  unfold inLc
  rw [hi, o1_s, lc_of h g hg]
theorem inLc_if {α : Type} {fi : FA} {t : Tg} {ft : FT} {fe : FE} {vs : List Nat} {ρ : PEnv} (h g : α → D) (p : α → Bool) {l : List α} (hi : fi ρ = some (l.map h)) (hg : ∀ a ∈ l, ∃ m, t.go (h a) = some m ∧ ft (setsD (wipeD ρ vs) m) = some (p a) ∧ (p a = true → fe (setsD (wipeD ρ vs) m) = some (g a))) :
    inLc fi t ft fe vs ρ = some ((l.filter p).map g) := by
  unfold inLc
  rw [hi, o1_s, lc_if h g p hg]
def nat (k : Nat) : D := .int (k : Int)
theorem rngD_0 (n : Nat) : rngD 0 n = (List.range n).map nat := by
  unfold rngD nat
  simp
theorem range1_nat {f : FE} {ρ : PEnv} {n : Nat} (h : f ρ = some (.int n)) (hn : n < 4611686018427387904) : iRange1 f ρ = some ((List.range n).map nat) := by
  rw [range1_ok h hn, rngD_0]
/-! tuples of naturals -/
def nt (o : List Nat) : D := .tuple (o.map nat)
@[simp] theorem nt_len (o : List Nat) : dLen (nt o) = some (.int o.length) := by simp [nt]
theorem nt_flat (o : List Nat) : flat (nt o) = true := by
  have : ∀ o : List Nat, flats (o.map nat) = true := by
    intro o
    induction o with
    | nil => rfl
    | cons a o ih => simpa [flats, nat, flat] using ih
  simpa [nt, flat] using this o
theorem atI_mp {α : Type} {xs : List α} {f : α → D} {j : Nat} (h : j < xs.length) : L2.atI (xs.map f) (j : Int) = some (f xs[j]) := L2.atI_nat (by simp [h])
theorem nt_ix {o : List Nat} {i : Nat} (h : i < o.length) : dIx (nt o) (.int i) = some (nat (o.getD i 0)) := by
  show L2.atI (o.map nat) (i : Int) = _
  rw [atI_mp h]
  simp [List.getD_eq_getElem?_getD, List.getElem?_eq_getElem h]
theorem nt_seq (o : List Nat) : seqOf (nt o) = some (o.map nat) := rfl
theorem eqv_nat (i j : Nat) : PyData.eqv (nat i) (nat j) = decide (i = j) := by
  simp only [nat, PyData.eqv]
  rw [Bool.eq_iff_iff]
  simp
  omega
theorem nt_in (i : Nat) (o : List Nat) : dIn (nat i) (nt o) = some (o.contains i) := by
  have h : (o.map nat).all scal1 = true := by
    rw [List.all_eq_true]
    intro x hx
    obtain ⟨k, _, rfl⟩ := List.mem_map.mp hx
    rfl
  show (if (scal1 (nat i) && (o.map nat).all scal1) = true then _ else _) = _
  rw [if_pos (by rw [h]; rfl)]
  congr 1
  rw [List.any_map]
  induction o with
  | nil => rfl
  | cons a o ih =>
    have h' : (o.map nat).all scal1 = true := by
      rw [List.all_eq_true] at h ⊢
      exact fun x hx => h x (.tail _ hx)
    rw [List.any_cons, ih h', List.contains_cons]
    congr 1
    show PyData.eqv (nat a) (nat i) = (i == a)
    rw [eqv_nat]
    by_cases e : a = i
    · subst e; simp
    · have : ¬ i = a := fun q => e q.symm
      simp [e, this]
theorem nt_notin (i : Nat) (o : List Nat) : dNotIn (nat i) (nt o) = some (!o.contains i) := by
  unfold dNotIn
  rw [nt_in, o1_s]
theorem nt_snoc {o : List Nat} {i : Nat} (h : o.length < 16777216) : dAdd (nt o) (.tuple [nat i]) = some (nt (o ++ [i])) := by
  show (if (o.map nat).length + 1 ≤ sz then _ else _) = _
  rw [if_pos (by rw [List.length_map]; exact h)]
  simp [nt]
/-! tables -/
def trow (n : Nat) (f : Nat → Int) : D := .tuple ((List.range n).map fun v => .int (f v))
def tb (n : Nat) (W : Nat → Nat → Int) : D := .tuple ((List.range n).map fun u => trow n (W u))
@[simp] theorem trow_len (n : Nat) (f : Nat → Int) : dLen (trow n f) = some (.int n) := by simp [trow]
@[simp] theorem tb_len (n : Nat) (W : Nat → Nat → Int) : dLen (tb n W) = some (.int n) := by simp [tb]
theorem trow_ix {n v : Nat} {f : Nat → Int} (h : v < n) : dIx (trow n f) (.int v) = some (.int (f v)) := by
  show L2.atI ((List.range n).map _) (v : Int) = _
  rw [atI_mp (by simpa using h)]
  simp
theorem tb_ix {n u : Nat} {W : Nat → Nat → Int} (h : u < n) : dIx (tb n W) (.int u) = some (trow n (W u)) := by
  show L2.atI ((List.range n).map _) (u : Int) = _
  rw [atI_mp (by simpa using h)]
  simp
theorem trow_flat (n : Nat) (f : Nat → Int) : flat (trow n f) = true := by
  have : ∀ o : List Nat, flats (o.map fun v => PyData.int (f v)) = true := by
    intro o
    induction o with
    | nil => rfl
    | cons a o ih => simpa [flats, flat] using ih
  simpa [trow, flat] using this (List.range n)
theorem tb_flat (n : Nat) (W : Nat → Nat → Int) : flat (tb n W) = true := by
  have : ∀ o : List Nat, flats (o.map fun u => trow n (W u)) = true := by
    intro o
    induction o with
    | nil => rfl
    | cons a o ih => simpa [flats, trow_flat] using ih
  simpa [tb, flat] using this (List.range n)
/-! sums -/
theorem rsum_list (g : Nat → Int) : ∀ n, ((List.range n).map g).sum = rsum g n
  | 0 => rfl
  | n + 1 => by
    rw [List.range_succ, List.map_append, List.sum_append, rsum_list g n]
    simp [rsum]
theorem sum_flat (g : Nat → Nat → Int) (m : Nat → Nat) : ∀ n, ((List.range n).flatMap fun p => (List.range (m p)).map (g p)).sum = rsum (fun p => rsum (g p) (m p)) n
  | 0 => rfl
  | n + 1 => by
    rw [List.range_succ, List.flatMap_append, List.sum_append, sum_flat g m n]
    simp [rsum, rsum_list]
theorem enum_map {α : Type} (h : α → D) (l : List α) (d : α) : enumD (l.map h) = (List.range l.length).map fun p => .tuple [nat p, h (l.getD p d)] := by
  unfold enumD
  refine List.ext_getElem? fun k => ?_
  by_cases hk : k < l.length
  · simp [hk, nat, List.getD_eq_getElem?_getD]
  · rw [List.getElem?_eq_none (by simp; omega), List.getElem?_eq_none (by simp; omega)]
/-! the order of trees -/
theorem allCmp_map {α : Type} {h : α → D} {l : List α} (h1 : ∀ a ∈ l, (h a).canLay0 = true) (h2 : ∀ a ∈ l, (h a).depth ≤ 60) (h3 : ∀ a ∈ l, noneD (h a) = false) (h4 : ∀ a ∈ l, ∀ b ∈ l, PySem.W.alike (h a) (h b) = true) : allCmp (l.map h) = true := by
  have c1 : ∀ l : List α, (∀ a ∈ l, (h a).canLay0 = true) → PyData.canLayAll0 (l.map h) = true := by
    intro l
    induction l with
    | nil => intro _; rfl
    | cons a l ih => intro q; simp [PyData.canLayAll0, q a (.head _), ih fun b hb => q b (.tail _ hb)]
  have c2 : ∀ l : List α, (∀ a ∈ l, (h a).depth ≤ 60) → PyData.depthAll (l.map h) ≤ 60 := by
    intro l
    induction l with
    | nil => intro _; simp [PyData.depthAll]
    | cons a l ih =>
      intro q
      have := q a (.head _)
      have := ih fun b hb => q b (.tail _ hb)
      simp only [List.map_cons, PyData.depthAll]
      omega
  unfold allCmp
  simp only [Bool.and_eq_true, decide_eq_true_eq, List.all_eq_true, List.mem_map]
  refine ⟨⟨c1 l h1, c2 l h2⟩, ?_⟩
  rintro x ⟨a, ha, rfl⟩
  refine ⟨by rw [h3 a ha]; rfl, ?_⟩
  rintro y ⟨b, hb, rfl⟩
  exact h4 a ha b hb
theorem minD_fmin {α : Type} {lt : α → α → Bool} (h : α → D) (x : α) (xs : List α) (e : ∀ a b, PySem.W.dataLt (h a) (h b) = lt a b) : PySem.W.minD (h x) (xs.map h) = h (fmin lt x xs) := fmin_map (lt' := PySem.W.dataLt) h xs x e
theorem min_list {α : Type} {lt : α → α → Bool} {h : α → D} {x : α} {xs : List α} (ok : allCmp ((x :: xs).map h) = true) (fl : ∀ a, flat (h a) = true) (e : ∀ a b, PySem.W.dataLt (h a) (h b) = lt a b) : dMin1 (.list ((x :: xs).map h)) = some (h (fmin lt x xs)) := by
  have m := minD_fmin h x xs e
  show bestOf PySem.W.minD (h x :: xs.map h) = _
  unfold bestOf
  simp only [m]
  have ok' : allCmp (h x :: xs.map h) = true := ok
  rw [if_pos (by rw [ok', fl]; rfl)]
/-- the items of a tuple, one by one -/
def rowLt (xs ys : List D) : Bool := PySem.W.dataLt (.tuple xs) (.tuple ys)
theorem rowLt_int (x y : Int) (xs ys : List D) : rowLt (.int x :: xs) (.int y :: ys) = if x = y then rowLt xs ys else decide (x < y) := by
  unfold rowLt
  rw [PySem.W.dataLt_tuple, PySem.W.dataLt_cons (by simp [PySem.W.alike]), PySem.W.dataLt_int, PySem.W.dataLt_tuple]
  by_cases h : x = y
  · rw [if_pos h, if_pos (by simp [PyData.eqv, h])]
  · rw [if_neg h, if_neg (by simp [PyData.eqv, h])]
theorem rowLt_nil : rowLt [] [] = false := by
  unfold rowLt; rw [PySem.W.dataLt_tuple]; exact PyProof.Rows.lex_irrefl _
theorem dataLt_nt (a b : List Nat) : PySem.W.dataLt (nt a) (nt b) = llt a b := by
  have : ∀ a b : List Nat, rowLt (a.map nat) (b.map nat) = llt a b := by
    intro a
    induction a with
    | nil =>
      intro b
      cases b with
      | nil => exact rowLt_nil
      | cons y b => unfold rowLt; rw [PySem.W.dataLt_tuple]; rfl
    | cons x a ih =>
      intro b
      cases b with
      | nil => unfold rowLt; rw [PySem.W.dataLt_tuple]; rfl
      | cons y b =>
        show rowLt (.int x :: a.map nat) (.int y :: b.map nat) = _
        rw [rowLt_int, ih, llt]
        by_cases h : x = y
        · rw [if_pos h, if_pos (by omega)]
        · rw [if_neg h, if_neg (by omega), decide_eq_decide]; omega
  exact this a b
theorem rowLt_one (x y : D) (h : PySem.W.alike x y = true) (h' : PyData.eqv x y = true → PySem.W.dataLt x y = false) : rowLt [x] [y] = PySem.W.dataLt x y := by
  unfold rowLt
  rw [PySem.W.dataLt_tuple, PySem.W.dataLt_cons h]
  split
  · rename_i e
    rw [h' e]; exact PyProof.Rows.lex_irrefl _
  · rfl
theorem alike_nats : ∀ a b : List Nat, PySem.W.alikeAll (a.map nat) (b.map nat) = true
  | [], _ => by rw [List.map_nil, PySem.W.alikeAll]
  | _ :: _, [] => by rw [List.map_nil, List.map_cons, PySem.W.alikeAll]
  | x :: a, y :: b => by rw [List.map_cons, List.map_cons, PySem.W.alikeAll, alike_nats a b]; simp [nat, PySem.W.alike]
theorem alike_nt (a b : List Nat) : PySem.W.alike (nt a) (nt b) = true := by
  unfold nt
  rw [PySem.W.alike]
  exact alike_nats a b
theorem lay_nats : ∀ a : List Nat, PyData.canLayAll0 (a.map nat) = true
  | [] => rfl
  | _ :: a => by simp [PyData.canLayAll0, nat, PyData.canLay0, lay_nats a]
theorem depth_nats : ∀ a : List Nat, PyData.depthAll (a.map nat) ≤ 1
  | [] => by simp [PyData.depthAll]
  | _ :: a => by
    have := depth_nats a
    simp only [List.map_cons, PyData.depthAll, nat, PyData.depth]
    omega
theorem lay_nt (a : List Nat) : (nt a).canLay0 = true := by
  unfold nt
  rw [PyData.canLay0]
  exact lay_nats a
theorem depth_nt (a : List Nat) : (nt a).depth ≤ 2 := by
  have := depth_nats a
  unfold nt
  simp only [PyData.depth]
  omega
end Lib
end

section
set_option Elab.async false
set_option linter.all false
set_option maxRecDepth 10000
/-! All orders: the program's list and the laws. -/
namespace Lib
open DS PySem
def den_all_orders : Fn := dfun 5 1 (sSeq (sSet 1 0 (eLst (aCons (eTup aNil) aNil)) ([] ++ []))
  (sSeq (sFor (iRange1 (eVar 0)) [] (.nm 2)
  (sSet 1 0 (eLc2 (iSeq (eVar 1)) (.nm 3) tTrue (iRange1 (eVar 0)) (.nm 4) (tCmp dNotIn (eVar 4) (eVar 3)) (eOp dAdd (eVar 3) (eTup (aCons (eVar 4) aNil))) [3, 4] [4]) ([(1, 1)] ++ ([] ++ ([(3, 1)] ++ ([(4, 0)] ++ []))))))
  (sRet (eVar 1))))
def den__law_orders : Fn := dfun 6 1 (sSeq (sSet 1 0 (eLst (aCons (eTup aNil) aNil)) ([] ++ []))
  (sSeq (sFor (iRange1 (eVar 0)) [] (.nm 2)
  (sSeq (sSet 3 1 (eLst aNil) [])
  (sSeq (sFor (iSeq (eVar 1)) [(1, 0)] (.nm 4)
  (sExt 3 (eLc (iRange1 (eVar 0)) (.nm 5) (tCmp dNotIn (eVar 5) (eVar 4)) (eOp dAdd (eVar 4) (eTup (aCons (eVar 5) aNil))) [5]) ([] ++ ([(4, 1)] ++ ([(5, 0)] ++ [])))))
  (sSet 1 0 (eVar 3) [(3, 0)]))))
  (sRet (eVar 1))))
def ol (rows : List (List Nat)) : D := .list (rows.map nt)
theorem ords_len' {n k : Nat} (hn : n ≤ 6) (hk : k ≤ n) : (ords n k).length ≤ 720 := by
  have : ∀ n, n < 7 → ∀ k, k < n + 1 → (ords n k).length ≤ 720 := by decide +kernel
  exact this n (by omega) k (by omega)
theorem grow_map (n : Nat) (rows : List (List Nat)) : (rows.flatMap fun row => ((List.range n).filter fun i => !row.contains i).map fun i => nt (row ++ [i])) = (grow n rows).map nt := by
  unfold grow
  rw [List.map_flatMap]
  simp only [List.map_map, Function.comp_def]
theorem all_orders_ok {n : Nat} (hn : n ≤ 6) : den_all_orders [.int n] = some (ol (ords n n)) := by
  refine dfun_ret [some (.int n), none, none, none, none] [0, 0, 0, 0, 0] rfl rfl rfl ?_
  rw [sSeq_next (s' := ([some (.int n), some (ol (ords n 0)), none, none, none], [0, 0, 0, 0, 0])) (by rfl)]
  obtain ⟨s', e, x, rfl⟩ := for_rng (i := 2) (n := n) (lo := 0) (body := sSet 1 0 (eLc2 (iSeq (eVar 1)) (.nm 3) tTrue (iRange1 (eVar 0)) (.nm 4) (tCmp dNotIn (eVar 4) (eVar 3)) (eOp dAdd (eVar 3) (eTup (aCons (eVar 4) aNil))) [3, 4] [4]) ([(1, 1)] ++ ([] ++ ([(3, 1)] ++ ([(4, 0)] ++ [])))))
    (fun k s => ∃ x, s = ([some (.int n), some (ol (ords n k)), x, none, none], [0, 0, 0, 0, 0])) _ ⟨none, rfl⟩ (by
      rintro k _ hk ⟨x, rfl⟩
      have l1 := ords_len' (n := n) (k := k + 1) hn (by omega)
      have hl : eLc2 (iSeq (eVar 1)) (.nm 3) tTrue (iRange1 (eVar 0)) (.nm 4) (tCmp dNotIn (eVar 4) (eVar 3)) (eOp dAdd (eVar 3) (eTup (aCons (eVar 4) aNil))) [3, 4] [4] [some (.int n), some (ol (ords n k)), some (.int (0 + k)), none, none] = some (ol (ords n (k + 1))) := by
        rw [eLc2_of nt (fun row => ((List.range n).filter fun i => !row.contains i).map fun i => nt (row ++ [i])) (l := ords n k) rfl]
        · rw [grow_map]; rfl
        · intro row hr
          refine ⟨_, rfl, ?_⟩
          refine inLc_if nat (fun i => nt (row ++ [i])) (fun i => !row.contains i) (range1_nat rfl (by omega)) ?_
          intro i hi
          refine ⟨_, rfl, nt_notin i row, fun _ => ?_⟩
          have hl := (mem_ords.mp hr).len
          exact nt_snoc (by omega)
        · rw [grow_map, List.length_map]
          show (ords n (k + 1)).length ≤ _
          omega
      refine ⟨_, ?_, some (.int (0 + k)), rfl⟩
      rw [sSet_next hl]
      rfl)
  rw [sSeq_next (s' := ([some (.int n), some (ol (ords n n)), x, none, none], [0, 0, 0, 0, 0])) (by
    rw [sFor_go (range1_ok (n := n) rfl (by omega))]
    exact e)]
  exact sRet_ok rfl
theorem ords_succ (n k : Nat) : grow n (ords n k) = ords n (k + 1) := rfl
theorem grow_take {n : Nat} {rows : List (List Nat)} {row : List Nat} {j : Nat} (h : rows[j]? = some row) : grow n (rows.take (j + 1)) = grow n (rows.take j) ++ ((List.range n).filter fun i => !row.contains i).map fun i => row ++ [i] := by
  rw [List.take_add_one, h]
  unfold grow
  simp
theorem grow_take_len (n : Nat) (rows : List (List Nat)) (j : Nat) : (grow n (rows.take j)).length ≤ (grow n rows).length := by
  conv => rhs; rw [← List.take_append_drop j rows]
  unfold grow
  rw [List.flatMap_append, List.length_append]
  omega
theorem law_orders_in {n k : Nat} (hn : n ≤ 6) (hk : k < n) (x2 x4 : Option D) : ∃ y, sFor (iSeq (eVar 1)) [(1, 0)] (.nm 4)
  (sExt 3 (eLc (iRange1 (eVar 0)) (.nm 5) (tCmp dNotIn (eVar 5) (eVar 4)) (eOp dAdd (eVar 4) (eTup (aCons (eVar 5) aNil))) [5]) ([] ++ ([(4, 1)] ++ ([(5, 0)] ++ [])))) ([some (.int n), some (ol (ords n k)), x2, some (.list []), x4, none], [0, 0, 0, 1, 0, 0]) = .next ([some (.int n), some (ol (ords n k)), x2, some (ol (ords n (k + 1))), y, none], [0, 0, 0, 1, 0, 0]) := by
  have l1 := ords_len' (n := n) (k := k + 1) hn (by omega)
  obtain ⟨s', e, y, rfl⟩ := for_inv (t := .nm 4) (body := sExt 3 (eLc (iRange1 (eVar 0)) (.nm 5) (tCmp dNotIn (eVar 5) (eVar 4)) (eOp dAdd (eVar 4) (eTup (aCons (eVar 5) aNil))) [5]) ([] ++ ([(4, 1)] ++ ([(5, 0)] ++ []))))
    (fun j s => ∃ y, s = ([some (.int n), some (ol (ords n k)), x2, some (ol (grow n ((ords n k).take j))), y, none], [0, 0, 0, 1, 0, 0])) ((ords n k).map nt) 0 ([some (.int n), some (ol (ords n k)), x2, some (.list []), x4, none], [0, 0, 0, 1, 0, 0]) ⟨x4, by rw [List.take_zero]; rfl⟩ (by
      rintro j d _ hd ⟨y, rfl⟩
      rw [List.getElem?_map] at hd
      obtain ⟨row, hr, rfl⟩ := Option.map_eq_some_iff.mp hd
      have hl := (mem_ords.mp (List.mem_of_getElem? hr)).len
      rw [Nat.zero_add]
      have hc : eLc (iRange1 (eVar 0)) (.nm 5) (tCmp dNotIn (eVar 5) (eVar 4)) (eOp dAdd (eVar 4) (eTup (aCons (eVar 5) aNil))) [5] [some (.int n), some (ol (ords n k)), x2, some (ol (grow n ((ords n k).take j))), some (nt row), none] = some (.list (((List.range n).filter fun i => !row.contains i).map fun i => nt (row ++ [i]))) := by
        refine eLc_if nat (fun i => nt (row ++ [i])) (fun i => !row.contains i) (range1_nat rfl (by omega)) (by rw [List.length_range]; omega) ?_
        intro i hi
        exact ⟨_, rfl, nt_notin i row, fun _ => nt_snoc (by omega)⟩
      have eg := grow_take (n := n) hr
      have lg := Nat.le_trans (grow_take_len n (ords n k) (j + 1)) l1
      rw [eg, List.length_append, List.length_map] at lg
      refine ⟨[(4, nt row)], _, rfl, ?_, some (nt row), rfl⟩
      show sExt 3 _ _ ([some (.int n), some (ol (ords n k)), x2, some (ol (grow n ((ords n k).take j))), some (nt row), none], [0, 0, 0, 1, 0, 0]) = _
      rw [sExt_ok (ds := (grow n ((ords n k).take j)).map nt) hc rfl (by rw [List.length_map, List.length_map]; omega) rfl, eg]
      have e4 : ol (grow n (List.take j (ords n k)) ++ List.map (fun i => row ++ [i]) (List.filter (fun i => !row.contains i) (List.range n))) = .list (List.map nt (grow n (List.take j (ords n k))) ++ List.map (fun i => nt (row ++ [i])) (List.filter (fun i => !row.contains i) (List.range n))) := by
        unfold ol
        rw [List.map_append, List.map_map]
        rfl
      rw [e4]
      rfl)
  refine ⟨y, ?_⟩
  rw [sFor_go (ds := (ords n k).map nt) rfl]
  rw [Nat.zero_add, List.length_map, List.take_length, ords_succ] at e
  exact e
theorem law_orders_ok {n : Nat} (hn : n ≤ 6) : den__law_orders [.int n] = some (ol (ords n n)) := by
  refine dfun_ret [some (.int n), none, none, none, none, none] [0, 0, 0, 0, 0, 0] rfl rfl rfl ?_
  rw [sSeq_next (s' := ([some (.int n), some (ol (ords n 0)), none, none, none, none], [0, 0, 0, 0, 0, 0])) (by rfl)]
  obtain ⟨s', e, x2, x3, x4, rfl⟩ := for_rng (i := 2) (n := n) (lo := 0) (body := (sSeq (sSet 3 1 (eLst aNil) [])
  (sSeq (sFor (iSeq (eVar 1)) [(1, 0)] (.nm 4)
  (sExt 3 (eLc (iRange1 (eVar 0)) (.nm 5) (tCmp dNotIn (eVar 5) (eVar 4)) (eOp dAdd (eVar 4) (eTup (aCons (eVar 5) aNil))) [5]) ([] ++ ([(4, 1)] ++ ([(5, 0)] ++ [])))))
  (sSet 1 0 (eVar 3) [(3, 0)]))))
    (fun k s => ∃ x2 x3 x4, s = ([some (.int n), some (ol (ords n k)), x2, x3, x4, none], [0, 0, 0, 0, 0, 0])) _ ⟨none, none, none, rfl⟩ (by
      rintro k _ hk ⟨x2, x3, x4, rfl⟩
      obtain ⟨y, e⟩ := law_orders_in hn hk (some (.int (0 + k))) x4
      refine ⟨_, ?_, some (.int (0 + k)), some (ol (ords n (k + 1))), y, rfl⟩
      rw [sSeq_next (s' := ([some (.int n), some (ol (ords n k)), some (.int (0 + k)), some (.list []), x4, none], [0, 0, 0, 1, 0, 0])) (by rfl)]
      rw [sSeq_next e]
      rw [sSet_next (d := ol (ords n (k + 1))) (by rfl), if_neg (by simp [ol, flat])]
      rfl)
  rw [sSeq_next (s' := ([some (.int n), some (ol (ords n n)), x2, x3, x4, none], [0, 0, 0, 0, 0, 0])) (by
    rw [sFor_go (range1_ok (n := n) rfl (by omega))]
    exact e)]
  exact sRet_ok rfl
end Lib
end

section
set_option Elab.async false
set_option linter.all false
set_option maxRecDepth 10000
/-! A calculus of what holds behind a statement: short steps for walking a def. -/
namespace Lib
open DS PySem
/-- f ends in s so that N holds (goes on), R (returns), B (break), C (continue) -/
@[irreducible] def WP (f : FS) (s : S) (N : S → Prop) (R : D → Prop) (B C : S → Prop) : Prop := match f s with
  | .stuck => False
  | .next s' => N s'
  | .ret d => R d
  | .brk s' => B s'
  | .cont s' => C s'
abbrev No : S → Prop := fun _ => False
section
variable {N B C : S → Prop} {R : D → Prop} {ρ : PEnv} {L : List Nat} {s : S} {f g h fe : FE} {a b body : FS} {c : Esc} {d e d' : D} {i j k l n : Nat}
theorem dfun_wp {N n : Nat} {ds : List D} (hn : ds.length = n) (h : WP body (ds.map some ++ List.replicate (N - n) none, List.replicate N 0) No (fun x => x = d) No No) : dfun N n body ds = some d := by
  unfold dfun
  rw [if_pos hn]
  unfold WP at h
  split at h <;> first | exact h.elim | (rename_i q; rw [q]; rw [h])
theorem dfun_wpE {N n : Nat} {ds : List D} {Q : D → Prop} (hn : ds.length = n) (h : WP body (ds.map some ++ List.replicate (N - n) none, List.replicate N 0) No Q No No) : ∃ d, dfun N n body ds = some d ∧ Q d := by
  unfold dfun
  rw [if_pos hn]
  unfold WP at h
  split at h <;> first | exact h.elim | (rename_i q; rw [q]; exact ⟨_, rfl, h⟩)
theorem wp_imp {N' B' C' : S → Prop} {R' : D → Prop} (h : WP a s N R B C) (hN : ∀ s, N s → N' s) (hR : ∀ d, R d → R' d) (hB : ∀ s, B s → B' s) (hC : ∀ s, C s → C' s) : WP a s N' R' B' C' := by
  unfold WP at h ⊢
  split <;> rename_i q <;> rw [q] at h
  · exact h
  · exact hN _ h
  · exact hR _ h
  · exact hB _ h
  · exact hC _ h
theorem wp_seq (h : WP a s (fun s' => WP b s' N R B C) R B C) : WP (sSeq a b) s N R B C := by
  unfold WP sSeq at *
  split at h <;> rename_i q <;> simp only [q] <;> exact h
theorem wp_nil (h : N s) : WP sNil s N R B C := by
  unfold WP
  exact h
theorem wp_break (h : B s) : WP sBreak s N R B C := by
  unfold WP
  exact h
theorem wp_cont (h : C s) : WP sCont s N R B C := by
  unfold WP
  exact h
theorem wp_ret (h : f ρ = some d) (q : R d) : WP (sRet f) (ρ, L) N R B C := by
  unfold WP
  rw [sRet_ok (s := (ρ, L)) h]
  exact q
theorem wp_retN (q : R .none) : WP (fun _ => .ret .none) (ρ, L) N R B C := by
  unfold WP
  exact q
theorem wp_set (h : f ρ = some d) (hd : flat d = true) (q : N (ρ.set i (some d), L.set i 0)) : WP (sSet i l f c) (ρ, L) N R B C := by
  unfold WP
  rw [sSet_flat h hd]
  exact q
theorem wp_setD (h : f ρ = some d) (hd : flat d = false) (q : N (ρ.set i (some d), (demote c L).set i l)) : WP (sSet i l f c) (ρ, L) N R B C := by
  unfold WP
  rw [sSet_next (s := (ρ, L)) h, if_neg (by simp [hd])]
  exact q
theorem wp_tup {t : Tg} {m : List (Nat × D)} (h : f ρ = some d) (ht : t.go d = some m) (hd : flat d = true) (q : N (setsD ρ m, zeros L m)) : WP (sTup t f c) (ρ, L) N R B C := by
  unfold WP sTup
  simp only [h, ht, hd, if_true]
  exact q
theorem wp_tupD {t : Tg} {m : List (Nat × D)} (h : f ρ = some d) (ht : t.go d = some m) (hd : flat d = false) (q : N (setsD ρ m, zeros (demote c L) m)) : WP (sTup t f c) (ρ, L) N R B C := by
  unfold WP sTup
  simp only [h, ht, hd, Bool.false_eq_true, if_false]
  exact q
theorem wp_par (h : f ρ = some d) (h' : g ρ = some e) (hd : flat d = true) (he : flat e = true) (q : N ((ρ.set i (some d)).set j (some e), (L.set i 0).set j 0)) : WP (sPar i j f g c) (ρ, L) N R B C := by
  unfold WP
  rw [sPar_flat h h' hd he]
  exact q
theorem wp_parD (h : f ρ = some d) (h' : g ρ = some e) (hd : (flat d && flat e) = false) (q : N ((ρ.set i (some d)).set j (some e), ((demote c L).set i 0).set j 0)) : WP (sPar i j f g c) (ρ, L) N R B C := by
  unfold WP sPar
  simp only [h, h', hd, Bool.false_eq_true, if_false]
  exact q
theorem wp_par3 {h : FE} {x y z : D} (h1 : f ρ = some x) (h2 : g ρ = some y) (h3 : h ρ = some z) (f1 : flat x = true) (f2 : flat y = true) (f3 : flat z = true) (q : N (((ρ.set i (some x)).set j (some y)).set k (some z), (((demote c L).set i 0).set j 0).set k 0)) : WP (sPar3 i j k f g h c) (ρ, L) N R B C := by
  unfold WP sPar3
  simp only [h1, h2, h3, f1, f2, f3, Bool.and_self, if_true]
  exact q
theorem wp_aug {op : D → D → Option D} {x y : D} (hi : eVar i ρ = some x) (hf : f ρ = some y) (ho : op x y = some d) (q : N (ρ.set i (some d), L.set i 0)) : WP (sAug i op f) (ρ, L) N R B C := by
  unfold WP
  rw [sAug_next hi hf ho]
  exact q
theorem wp_app {ds : List D} (h : f ρ = some d) (hi : eVar i ρ = some (.list ds)) (hd : flat d = true) (hl : ds.length < 16777216) (hL : lv L i = 1) (q : N (ρ.set i (some (.list (ds ++ [d]))), L)) : WP (sApp i f c) (ρ, L) N R B C := by
  unfold WP
  rw [sApp_flat h hd hi hl hL]
  exact q
theorem wp_appD {ds : List D} (h : f ρ = some d) (hi : eVar i ρ = some (.list ds)) (hd : flat d = false) (hl : ds.length < 16777216) (hL : lv (demote c L) i = 1) (q : N (ρ.set i (some (.list (ds ++ [d]))), demote c L)) : WP (sApp i f c) (ρ, L) N R B C := by
  unfold WP
  rw [sApp_deep h hd hi hl hL]
  exact q
theorem wp_ext {es ds : List D} (h : f ρ = some (.list es)) (hi : eVar i ρ = some (.list ds)) (hl : ds.length + es.length ≤ 16777216) (hL : lv (demote c L) i = 1) (q : N (ρ.set i (some (.list (ds ++ es))), demote c L)) : WP (sExt i f c) (ρ, L) N R B C := by
  unfold WP
  rw [sExt_ok h hi hl hL]
  exact q
theorem wp_put {ds : List D} {x : Int} {m : Nat} {jj : FE} (h : f ρ = some d) (hi : eVar i ρ = some (.list ds)) (hj : jj ρ = some (.int x)) (hm : L2.ixN ds.length x = some m) (hd : flat d = true) (hL : lv L i = 1) (q : N (ρ.set i (some (.list (ds.set m d))), L)) : WP (sPut i jj f c) (ρ, L) N R B C := by
  unfold WP sPut
  simp only [h, hi, hj, hm, hd, hL, if_true]
  exact q
theorem wp_putD {ds : List D} {x : Int} {m : Nat} {jj : FE} (h : f ρ = some d) (hi : eVar i ρ = some (.list ds)) (hj : jj ρ = some (.int x)) (hm : L2.ixN ds.length x = some m) (hd : flat d = false) (hL : lv (demote c L) i = 1) (q : N (ρ.set i (some (.list (ds.set m d))), demote c L)) : WP (sPut i jj f c) (ρ, L) N R B C := by
  unfold WP sPut
  simp only [h, hi, hj, hm, hd, hL, if_true, Bool.false_eq_true, if_false]
  exact q
theorem wp_if {ct : FT} {t : Bool} (h : ct ρ = some t) (q1 : t = true → WP a (ρ, L) N R B C) (q2 : t = false → WP b (ρ, L) N R B C) : WP (sIf ct a b) (ρ, L) N R B C := by
  cases t with
  | true =>
    unfold WP
    rw [sIf_t (s := (ρ, L)) h]
    have := q1 rfl
    unfold WP at this
    exact this
  | false =>
    unfold WP
    rw [sIf_f (s := (ρ, L)) h]
    have := q2 rfl
    unfold WP at this
    exact this
theorem wp_ift {ct : FT} (h : ct ρ = some true) (q : WP a (ρ, L) N R B C) : WP (sIf ct a b) (ρ, L) N R B C := wp_if h (fun _ => q) (fun z => by cases z)
theorem wp_iff {ct : FT} (h : ct ρ = some false) (q : WP b (ρ, L) N R B C) : WP (sIf ct a b) (ρ, L) N R B C := wp_if h (fun z => by cases z) (fun _ => q)
/-- if c: return x, c false -/
theorem wp_pass {ct : FT} (h : ct ρ = some false) (q : N (ρ, L)) : WP (sIf ct a sNil) (ρ, L) N R B C := wp_iff h (wp_nil q)
/-- for -/
theorem wp_for {fi : FA} {t : Tg} {ds : List D} (P : Nat → S → Prop) (hi : fi ρ = some ds) (h0 : P 0 (ρ, demote c L))
    (st : ∀ k d s, ds[k]? = some d → P k s → ∃ m, t.go d = some m ∧ WP body (setsD s.1 m, zeros s.2 m) (P (k + 1)) R N (P (k + 1))) (hN : ∀ s, P ds.length s → N s) : WP (sFor fi c t body) (ρ, L) N R B C := by
  unfold WP
  rw [sFor_go (s := (ρ, L)) hi]
  have go : ∀ (es : List D) (k : Nat) (s : S), (∀ i d, es[i]? = some d → ds[k + i]? = some d) → k + es.length = ds.length → P k s → (match forGo t body es s with
      | .stuck => False
      | .next s' => N s'
      | .ret d => R d
      | .brk s' => B s'
      | .cont s' => C s') := by
    intro es
    induction es with
    | nil =>
      intro k s _ hl hp
      have e : k = ds.length := by simpa using hl
      rw [e] at hp
      exact hN s hp
    | cons x es ih =>
      intro k s he hl hp
      obtain ⟨m, e1, w⟩ := st k x s (by simpa using he 0 x rfl) hp
      have next : ∀ s', P (k + 1) s' → _ := fun s' h => ih (k + 1) s' (fun i d hd => by
        have := he (i + 1) d (by simpa using hd)
        rw [← this]
        congr 1
        omega) (by rw [List.length_cons] at hl; omega) h
      unfold forGo
      rw [e1]
      unfold WP at w
      show (match (match body (setsD s.1 m, zeros s.2 m) with
        | .next s' => forGo t body es s'
        | .cont s' => forGo t body es s'
        | .brk s' => .next s'
        | .ret d => .ret d
        | .stuck => .stuck) with
        | .stuck => False
        | .next s' => N s'
        | .ret d => R d
        | .brk s' => B s'
        | .cont s' => C s')
      split at w <;> rename_i q <;> simp only [q]
      · exact w
      · exact next _ w
      · exact w
      · exact w
      · exact next _ w
  exact go ds 0 _ (fun i d h => by simpa using h) (by simp) h0
/-- while: P holds at each look, μ falls -/
theorem wp_while {fuel : Nat} {ct : FT} (P : S → Prop) (μ : S → Nat) (h0 : P s) (hμ : μ s < fuel)
    (st : ∀ s, P s → ∃ b, ct s.1 = some b ∧ (b = true → WP body s (fun s' => P s' ∧ μ s' < μ s) R N (fun s' => P s' ∧ μ s' < μ s)) ∧ (b = false → N s)) : WP (sWhile fuel ct body) s N R B C := by
  unfold sWhile
  induction fuel generalizing s with
  | zero => omega
  | succ n ih =>
    obtain ⟨b, e, ht, hf⟩ := st s h0
    unfold WP
    rw [whGo]
    cases b with
    | false =>
      simp only [e]
      exact hf rfl
    | true =>
      have w := ht rfl
      unfold WP at w
      simp only [e]
      split at w <;> rename_i q <;> simp only [q]
      · exact w
      · have := ih w.1 (by omega)
        unfold WP at this
        exact this
      · exact w
      · exact w
      · have := ih w.1 (by omega)
        unfold WP at this
        exact this
end
/-! environments -/
def setsO (ρ : PEnv) (l : List (Nat × D)) : PEnv := l.foldl (fun ρ p => ρ.set p.1 (some p.2)) ρ
def setsJ (ρ : PEnv) (J : List Nat) (xs : Nat → Option D) : PEnv := J.foldl (fun ρ j => ρ.set j (xs j)) ρ
/-- ρ with anything at J, and A -/
def stt (ρ : PEnv) (J : List Nat) (A : List (Nat × D)) (xs : Nat → Option D) : PEnv := setsO (setsJ ρ J xs) A
theorem set_self {ρ : PEnv} {j : Nat} : ρ.set j (ρ.getD j none) = ρ := by
  refine List.ext_getElem? fun k => ?_
  by_cases h : j = k
  · subst h
    by_cases hj : j < ρ.length
    · rw [List.getElem?_set_self hj, List.getD_eq_getElem?_getD, List.getElem?_eq_getElem hj]; rfl
    · rw [List.getElem?_eq_none (by simpa using hj), List.getElem?_eq_none (by omega)]
  · rw [List.getElem?_set_ne h]
theorem setsJ_self {ρ : PEnv} : ∀ {J : List Nat}, setsJ ρ J (fun j => ρ.getD j none) = ρ
  | [] => rfl
  | j :: J => by
    unfold setsJ
    rw [List.foldl_cons, set_self]
    exact setsJ_self (J := J)
theorem setsO_self {ρ : PEnv} : ∀ {A : List (Nat × D)}, (∀ p ∈ A, ρ[p.1]? = some (some p.2)) → setsO ρ A = ρ
  | [], _ => rfl
  | p :: A, h => by
    unfold setsO
    rw [List.foldl_cons]
    have e : ρ.set p.1 (some p.2) = ρ := by
      have := h p (.head _)
      have q := set_self (ρ := ρ) (j := p.1)
      rw [List.getD_eq_getElem?_getD, this] at q
      exact q
    rw [e]
    exact setsO_self (A := A) fun q hq => h q (.tail _ hq)
theorem stt_self {ρ : PEnv} {J : List Nat} {A : List (Nat × D)} (h : ∀ p ∈ A, ρ[p.1]? = some (some p.2)) : ρ = stt ρ J A fun j => ρ.getD j none := by
  unfold stt
  rw [setsJ_self, setsO_self h]
section
variable {N B C : S → Prop} {R : D → Prop} {ρ : PEnv} {L L' : List Nat} {body : FS} {c : Esc}
/-- at a turn's end -/
def Cl (ρ : PEnv) (J : List Nat) (A : List (Nat × D)) (L : List Nat) (s : S) : Prop := ∃ xs, s = (stt ρ J A xs, L)
theorem cl {ρ ρ' : PEnv} {J : List Nat} {A : List (Nat × D)} {L : List Nat} (h : ρ' = stt ρ J A fun j => ρ'.getD j none) : Cl ρ J A L (ρ', L) := ⟨_, by rw [← h]⟩
/-- for over ds: the names of A k hold what A k says, those of J anything; the others stay -/
theorem wp_forV {fi : FA} {t : Tg} {ds : List D} (J : List Nat) (A : Nat → List (Nat × D)) (hi : fi ρ = some ds) (h0 : ∀ p ∈ A 0, ρ[p.1]? = some (some p.2))
    (st : ∀ k d xs, ds[k]? = some d → ∃ m, t.go d = some m ∧ WP body (setsD (stt ρ J (A k) xs) m, zeros (demote c L) m) (Cl ρ J (A (k + 1)) (demote c L)) R N (Cl ρ J (A (k + 1)) (demote c L)))
    (hN : ∀ xs, N (stt ρ J (A ds.length) xs, demote c L)) : WP (sFor fi c t body) (ρ, L) N R B C := by
  refine wp_for (P := fun k s' => ∃ xs, s' = (stt ρ J (A k) xs, demote c L)) hi ⟨_, by rw [← stt_self h0]⟩ (fun k d s hd hp => ?_) fun s ⟨xs, e⟩ => by rw [e]; exact hN xs
  obtain ⟨xs, rfl⟩ := hp
  exact st k d xs hd
/-- over 0, 1, .. -/
theorem wp_forN {f : FE} {i n : Nat} (J : List Nat) (A : Nat → List (Nat × D)) (hf : f ρ = some (.int n)) (hn : n < 4611686018427387904) (h0 : ∀ p ∈ A 0, ρ[p.1]? = some (some p.2))
    (st : ∀ k xs, k < n → WP body ((stt ρ J (A k) xs).set i (some (nat k)), (demote c L).set i 0) (Cl ρ J (A (k + 1)) (demote c L)) R N (Cl ρ J (A (k + 1)) (demote c L)))
    (hN : ∀ xs, N (stt ρ J (A n) xs, demote c L)) : WP (sFor (iRange1 f) c (.nm i) body) (ρ, L) N R B C := by
  refine wp_forV (ds := (List.range n).map nat) J A (range1_nat hf hn) h0 (fun k d xs hd => ?_) fun xs => by rw [List.length_map, List.length_range]; exact hN xs
  rw [List.getElem?_map] at hd
  obtain ⟨k', hk, rfl⟩ := Option.map_eq_some_iff.mp hd
  obtain ⟨hlt, e⟩ := List.getElem?_eq_some_iff.mp hk
  rw [List.getElem_range] at e
  subst e
  refine ⟨[(i, nat k)], rfl, ?_⟩
  exact st k xs (by simpa using hlt)
/-- over the items of l -/
theorem wp_forL {α : Type} {fi : FA} {t : Tg} {h : α → D} {l : List α} (J : List Nat) (A : Nat → List (Nat × D)) (hi : fi ρ = some (l.map h)) (h0 : ∀ p ∈ A 0, ρ[p.1]? = some (some p.2))
    (st : ∀ k a xs, l[k]? = some a → ∃ m, t.go (h a) = some m ∧ WP body (setsD (stt ρ J (A k) xs) m, zeros (demote c L) m) (Cl ρ J (A (k + 1)) (demote c L)) R N (Cl ρ J (A (k + 1)) (demote c L)))
    (hN : ∀ xs, N (stt ρ J (A l.length) xs, demote c L)) : WP (sFor fi c t body) (ρ, L) N R B C := by
  refine wp_forV (ds := l.map h) J A hi h0 (fun k d xs hd => ?_) fun xs => by rw [List.length_map]; exact hN xs
  rw [List.getElem?_map] at hd
  obtain ⟨a, ha, rfl⟩ := Option.map_eq_some_iff.mp hd
  exact st k a xs ha
end
end Lib
end

section
set_option Elab.async false
set_option linter.all false
/-! Plain: all sets of 0 .. n - 1 as ascending rows, in ascending order. -/
namespace Lib
def stp (i : Nat) (F : List (List Nat)) : List (List Nat) := [[]] ++ F.map (i :: ·) ++ F.filter fun x => !x.isEmpty
/-- the sets of i .. i + k - 1 -/
def asl : Nat → Nat → List (List Nat)
  | _, 0 => [[]]
  | i, k + 1 => stp i (asl (i + 1) k)
def aset (n : Nat) : List (List Nat) := asl 0 n
structure Asc (i j : Nat) (x : List Nat) : Prop where
  up : x.Pairwise (· < ·)
  mem : ∀ a ∈ x, i ≤ a ∧ a < j
theorem mem_asl : ∀ {k i : Nat} {x : List Nat}, x ∈ asl i k ↔ Asc i (i + k) x
  | 0, i, x => by
    simp only [asl, List.mem_singleton, Nat.add_zero]
    constructor
    · rintro rfl; exact ⟨.nil, by simp⟩
    · rintro ⟨_, h⟩
      cases x with
      | nil => rfl
      | cons a x =>
        have := h a (.head _)
        omega
  | k + 1, i, x => by
    simp only [asl, stp, List.mem_append, List.mem_singleton, List.mem_map, List.mem_filter]
    constructor
    · rintro ((rfl | ⟨y, hy, rfl⟩) | ⟨hx, _⟩)
      · exact ⟨.nil, by simp⟩
      · have q := mem_asl.mp hy
        refine ⟨List.pairwise_cons.mpr ⟨fun a ha => ?_, q.up⟩, fun a ha => ?_⟩
        · have := q.mem a ha; omega
        · rcases List.mem_cons.mp ha with rfl | ha
          · omega
          · have := q.mem a ha; omega
      · have q := mem_asl.mp hx
        exact ⟨q.up, fun a ha => by have := q.mem a ha; omega⟩
    · rintro ⟨u, m⟩
      cases x with
      | nil => exact .inl (.inl rfl)
      | cons a x =>
        obtain ⟨u1, u2⟩ := List.pairwise_cons.mp u
        have ma := m a (.head _)
        by_cases e : a = i
        · subst e
          refine .inl (.inr ⟨x, mem_asl.mpr ⟨u2, fun b hb => ?_⟩, rfl⟩)
          have := u1 b hb
          have := m b (.tail _ hb)
          omega
        · refine .inr ⟨mem_asl.mpr ⟨u, fun b hb => ?_⟩, rfl⟩
          have mb := m b hb
          rcases List.mem_cons.mp hb with rfl | hb
          · omega
          · have := u1 b hb
            omega
theorem asl_sorted : ∀ (k i : Nat), (asl i k).Pairwise fun a b => llt a b = true
  | 0, i => by simp [asl]
  | k + 1, i => by
    have ih := asl_sorted k (i + 1)
    simp only [asl, stp]
    rw [List.append_assoc, List.singleton_append, List.pairwise_cons, List.pairwise_append]
    refine ⟨fun b hb => ?_, ?_, ?_, ?_⟩
    · rcases List.mem_append.mp hb with h | h
      · obtain ⟨y, _, rfl⟩ := List.mem_map.mp h; rfl
      · have := (List.mem_filter.mp h).2
        cases b with
        | nil => simp at this
        | cons a b => rfl
    · rw [List.pairwise_map]
      exact ih.imp fun h => by unfold llt; rw [if_pos rfl]; exact h
    · exact ih.filter _
    · intro a ha b hb
      obtain ⟨y, _, rfl⟩ := List.mem_map.mp ha
      obtain ⟨h1, h2⟩ := List.mem_filter.mp hb
      cases b with
      | nil => simp at h2
      | cons c b =>
        have := (mem_asl.mp h1).mem c (.head _)
        unfold llt
        rw [if_neg (by omega)]
        exact decide_eq_true (by omega)
theorem asl_len : ∀ (k i : Nat), (asl i k).length ≤ 2 ^ k
  | 0, i => by simp [asl]
  | k + 1, i => by
    have ih := asl_len k (i + 1)
    have h1 : ((asl (i + 1) k).filter fun x => !x.isEmpty).length + 1 ≤ (asl (i + 1) k).length := by
      have hm : [] ∈ asl (i + 1) k := mem_asl.mpr ⟨.nil, by simp⟩
      have : ∀ {l : List (List Nat)}, [] ∈ l → (l.filter fun x => !x.isEmpty).length + 1 ≤ l.length := by
        intro l hl
        induction l with
        | nil => simp at hl
        | cons a l ih =>
          rcases List.mem_cons.mp hl with e | h
          · subst e
            rw [List.filter_cons_of_neg (by simp), List.length_cons]
            exact Nat.succ_le_succ (List.length_filter_le _ _)
          · have := ih h
            have := List.length_filter_le (fun x : List Nat => !x.isEmpty) [a]
            rw [List.filter_cons, List.length_cons]
            split
            · rw [List.length_cons]; omega
            · omega
      exact this hm
    simp only [asl, stp, List.length_append, List.length_map, List.length_singleton]
    rw [Nat.pow_succ]
    omega
theorem mem_aset {n : Nat} {x : List Nat} : x ∈ aset n ↔ Asc 0 n x := by
  unfold aset
  rw [mem_asl, Nat.zero_add]
theorem aset_sorted (n : Nat) : (aset n).Pairwise fun a b => llt a b = true := asl_sorted n 0
theorem llt_nodup {l : List (List Nat)} (h : l.Pairwise fun a b => llt a b = true) : l.Nodup := h.imp fun {a b} q e => by
  subst e
  rw [llt_irrefl] at q
  cases q
theorem aset_nodup (n : Nat) : (aset n).Nodup := llt_nodup (aset_sorted n)
theorem aset_len (n : Nat) : (aset n).length ≤ 2 ^ n := asl_len n 0
/-- sets grown by the greatest -/
def lset : Nat → List (List Nat)
  | 0 => [[]]
  | n + 1 => lset n ++ (lset n).map (· ++ [n])
theorem lset_len : ∀ n, (lset n).length = 2 ^ n
  | 0 => rfl
  | n + 1 => by
    have := lset_len n
    simp only [lset, List.length_append, List.length_map, Nat.pow_succ]
    omega
theorem asc_snoc {n : Nat} {x : List Nat} : Asc 0 (n + 1) x ↔ Asc 0 n x ∨ ∃ y, Asc 0 n y ∧ x = y ++ [n] := by
  constructor
  · rintro ⟨u, m⟩
    by_cases h : n ∈ x
    · obtain ⟨y, z, rfl⟩ := List.append_of_mem h
      rw [List.pairwise_append] at u
      have z0 : z = [] := by
        cases z with
        | nil => rfl
        | cons c z =>
          have h1 := (List.pairwise_cons.mp u.2.1).1 c (.head _)
          have := m c (by simp)
          omega
      subst z0
      refine .inr ⟨y, ⟨u.1, fun a ha => ⟨Nat.zero_le _, u.2.2 a ha n (.head _)⟩⟩, rfl⟩
    · refine .inl ⟨u, fun a ha => ?_⟩
      have := m a ha
      have : a ≠ n := fun e => h (e ▸ ha)
      omega
  · rintro (⟨u, m⟩ | ⟨y, ⟨u, m⟩, rfl⟩)
    · exact ⟨u, fun a ha => by have := m a ha; omega⟩
    · refine ⟨List.pairwise_append.mpr ⟨u, by simp, fun a ha b hb => ?_⟩, fun a ha => ?_⟩
      · rw [List.mem_singleton] at hb
        subst hb
        exact (m a ha).2
      · rcases List.mem_append.mp ha with h | h
        · have := m a h; omega
        · rw [List.mem_singleton] at h
          omega
theorem mem_lset : ∀ {n : Nat} {x : List Nat}, x ∈ lset n ↔ Asc 0 n x
  | 0, x => by
    simp only [lset, List.mem_singleton]
    constructor
    · rintro rfl; exact ⟨.nil, by simp⟩
    · rintro ⟨_, h⟩
      cases x with
      | nil => rfl
      | cons a x =>
        have := h a (.head _)
        omega
  | n + 1, x => by
    rw [asc_snoc]
    simp only [lset, List.mem_append, List.mem_map]
    rw [mem_lset (n := n)]
    constructor
    · rintro (h | ⟨y, hy, rfl⟩)
      · exact .inl h
      · exact .inr ⟨y, mem_lset.mp hy, rfl⟩
    · rintro (h | ⟨y, hy, rfl⟩)
      · exact .inl h
      · exact .inr ⟨y, mem_lset.mpr hy, rfl⟩
theorem lset_nodup : ∀ n, (lset n).Nodup
  | 0 => by simp [lset]
  | n + 1 => by
    have ih := lset_nodup n
    simp only [lset]
    rw [List.nodup_append]
    refine ⟨ih, ?_, fun a ha b hb e => ?_⟩
    · exact List.Pairwise.map _ (fun a b (h : a ≠ b) => fun e => h (List.append_cancel_right e)) ih
    · obtain ⟨y, _, rfl⟩ := List.mem_map.mp hb
      subst e
      have := (mem_lset.mp ha).mem n (by simp)
      omega
theorem lset_perm (n : Nat) : (lset n).Perm (aset n) := (List.perm_ext_iff_of_nodup (lset_nodup n) (aset_nodup n)).mpr fun a => by rw [mem_lset, mem_aset]
/-- no greater row before -/
def lle (a b : List Nat) : Bool := !llt b a
theorem lle_total (a b : List Nat) : (lle a b || lle b a) = true := by
  unfold lle
  cases h1 : llt b a with
  | false => rfl
  | true =>
    cases h2 : llt a b with
    | false => rfl
    | true =>
      have := llt_trans h1 h2
      rw [llt_irrefl] at this
      cases this
theorem lle_anti {a b : List Nat} (h : lle a b = true) (h' : lle b a = true) : a = b := by
  unfold lle at h h'
  exact llt_tri a b (by simpa using h') (by simpa using h)
theorem llt_lle {a b : List Nat} (h : llt a b = true) : lle a b = true := by
  unfold lle
  cases h2 : llt b a with
  | false => rfl
  | true =>
    have := llt_trans h h2
    rw [llt_irrefl] at this
    cases this
theorem lle_trans {a b c : List Nat} (h : lle a b = true) (h' : lle b c = true) : lle a c = true := by
  by_cases e1 : a = b
  · subst e1; exact h'
  · by_cases e2 : b = c
    · subst e2; exact h
    · have l1 : llt a b = true := by
        cases q : llt a b with
        | true => rfl
        | false => exact absurd (llt_tri a b q (by unfold lle at h; simpa using h)) e1
      have l2 : llt b c = true := by
        cases q : llt b c with
        | true => rfl
        | false => exact absurd (llt_tri b c q (by unfold lle at h'; simpa using h')) e2
      exact llt_lle (llt_trans l1 l2)
theorem sort_eq {l l' : List (List Nat)} (p : l.Perm l') (s : l'.Pairwise fun a b => llt a b = true) : l.mergeSort lle = l' :=
  List.Perm.eq_of_pairwise (le := fun a b => lle a b = true) (fun a b _ _ h h' => lle_anti h h') (List.pairwise_mergeSort (le := lle) (fun a b c h h' => lle_trans h h') (fun a b => lle_total a b) l) (s.imp fun h => llt_lle h) ((List.mergeSort_perm l lle).trans p)
end Lib
end

section
set_option Elab.async false
set_option linter.all false
set_option maxRecDepth 10000
/-! The laws' own sums, products, comparisons of ratios. -/
namespace Lib
open DS PySem
def den__law_times : Fn := dfun 2 2 (sRet (eCall 2 den__law_ratio (aCons (eOp dMul (eIx (eVar 0) (eC (.int 0))) (eIx (eVar 1) (eC (.int 0)))) (aCons (eOp dMul (eIx (eVar 0) (eC (.int 1))) (eIx (eVar 1) (eC (.int 1)))) aNil))))
def den__law_add : Fn := dfun 2 2 (sRet (eCall 2 den__law_ratio (aCons (eOp dAdd (eOp dMul (eIx (eVar 0) (eC (.int 0))) (eIx (eVar 1) (eC (.int 1)))) (eOp dMul (eIx (eVar 1) (eC (.int 0))) (eIx (eVar 0) (eC (.int 1))))) (aCons (eOp dMul (eIx (eVar 0) (eC (.int 1))) (eIx (eVar 1) (eC (.int 1)))) aNil))))
def den__law_less : Fn := dfun 2 2 (sRet (eB (tCmp dLt (eOp dMul (eIx (eVar 0) (eC (.int 0))) (eIx (eVar 1) (eC (.int 1)))) (eOp dMul (eIx (eVar 1) (eC (.int 0))) (eIx (eVar 0) (eC (.int 1)))))))
theorem rat_mul_eq (p q : Rat) : p * q = Rat.divInt (p.num * q.num) (p.den * q.den) := by
  conv => lhs; rw [← Rat.num_divInt_den p, ← Rat.num_divInt_den q]
  exact Rat.divInt_mul_divInt _ _
theorem rat_add_eq (p q : Rat) : p + q = Rat.divInt (p.num * q.den + q.num * p.den) (p.den * q.den) := by
  conv => lhs; rw [← Rat.num_divInt_den p, ← Rat.num_divInt_den q]
  exact Rat.divInt_add_divInt _ _ (by have := den_pos p; omega) (by have := den_pos q; omega)
theorem Sm.natN {m : Nat} {p : Rat} (h : Sm m p) : p.num.natAbs < 2 ^ m := h.1
theorem Sm.natD {m : Nat} {p : Rat} (h : Sm m p) : ((p.den : Int)).natAbs < 2 ^ m := by simpa using h.2
theorem ltimes_ok {p q : Rat} {m n : Nat} (hp : Sm m p) (hq : Sm n q) (h0 : 0 < m) (h1 : 0 < n) (h : m + n ≤ 8000) : den__law_times [rt p, rt q] = some (rt (p * q)) := by
  have m1 : mulOk p.num q.num = true := mulOk_big hp.natN hq.natN h0 h1 (by omega)
  have m2 : mulOk p.den q.den = true := mulOk_big hp.natD hq.natD h0 h1 (by omega)
  have hd : (0 : Int) < p.den * q.den := Int.mul_pos (den_pos p) (den_pos q)
  have r := ratio_ok (a := p.num * q.num) hd (natAbs_mul_lt hp.natD hq.natD) (by omega)
  refine dfun_wp rfl ?_
  simp only [List.map_cons, List.map_nil, List.replicate_succ, List.replicate_zero, List.nil_append, List.cons_append, List.append_nil, Nat.reduceSub, Nat.reduceAdd, setsD, zeros, stt, setsO, setsJ, List.foldl_cons, List.foldl_nil, List.set_cons_zero, List.set_cons_succ, demote]
  refine wp_ret (d := rt (p * q)) ?_ rfl
  rw [rat_mul_eq]
  (first | rfl | (simp only [eOp_a, eUn_a, eCB_a, aCons_a, aNil_a, eIx_a, eC_a, eVar_0, eVar_s, o2_ss, o1_s, d1_1, d2_2, eB_a, tCmp_a, tTru_a, tNotD_a, tIsND_a, tNotND_a, eIsN_a, eNotN_a, tTrue_a, iSeq_a, seqOf_l, seqOf_t, dAdd_i, dAddI_i, dSub_i, dNeg_i, dLt_i, dLe_i, dGt_i, dGe_i, dEq_i, dNe_i, dTru_b, dTru_i, dTru_l, dTru_t, dTru_n, isNon_n, isNon_b, isNon_i, isNon_s, isNon_l, isNon_t, dLen_l, dLen_t, dInt_i, dInt_b, dTuple_l, dTuple_t, dList_l, dList_t, eCall_1, eCall_2, eCall_3, eCall_4, eCall_5, eCall_6, eCall_7, rt_0, rt_1, dMul_i m1, dMul_i m2, r] <;> rfl))
theorem ladd_ok' {p q : Rat} {m n : Nat} (hp : Sm m p) (hq : Sm n q) (h0 : 0 < m) (h1 : 0 < n) (h : m + n ≤ 8000) : den__law_add [rt p, rt q] = some (rt (p + q)) := by
  have m1 : mulOk p.num q.den = true := mulOk_big hp.natN hq.natD h0 h1 (by omega)
  have m2 : mulOk p.den q.den = true := mulOk_big hp.natD hq.natD h0 h1 (by omega)
  have m3 : mulOk q.num p.den = true := mulOk_big hq.natN hp.natD h1 h0 (by omega)
  have hd : (0 : Int) < p.den * q.den := Int.mul_pos (den_pos p) (den_pos q)
  have r := ratio_ok (a := p.num * q.den + q.num * p.den) hd (natAbs_mul_lt hp.natD hq.natD) (by omega)
  refine dfun_wp rfl ?_
  simp only [List.map_cons, List.map_nil, List.replicate_succ, List.replicate_zero, List.nil_append, List.cons_append, List.append_nil, Nat.reduceSub, Nat.reduceAdd, setsD, zeros, stt, setsO, setsJ, List.foldl_cons, List.foldl_nil, List.set_cons_zero, List.set_cons_succ, demote]
  refine wp_ret (d := rt (p + q)) ?_ rfl
  rw [rat_add_eq]
  (first | rfl | (simp only [eOp_a, eUn_a, eCB_a, aCons_a, aNil_a, eIx_a, eC_a, eVar_0, eVar_s, o2_ss, o1_s, d1_1, d2_2, eB_a, tCmp_a, tTru_a, tNotD_a, tIsND_a, tNotND_a, eIsN_a, eNotN_a, tTrue_a, iSeq_a, seqOf_l, seqOf_t, dAdd_i, dAddI_i, dSub_i, dNeg_i, dLt_i, dLe_i, dGt_i, dGe_i, dEq_i, dNe_i, dTru_b, dTru_i, dTru_l, dTru_t, dTru_n, isNon_n, isNon_b, isNon_i, isNon_s, isNon_l, isNon_t, dLen_l, dLen_t, dInt_i, dInt_b, dTuple_l, dTuple_t, dList_l, dList_t, eCall_1, eCall_2, eCall_3, eCall_4, eCall_5, eCall_6, eCall_7, rt_0, rt_1, dMul_i m1, dMul_i m2, dMul_i m3, r] <;> rfl))
theorem lless_ok {p q : Rat} {m n : Nat} (hp : Sm m p) (hq : Sm n q) (h0 : 0 < m) (h1 : 0 < n) (h : m + n ≤ 8000) : den__law_less [rt p, rt q] = some (.bool (decide (p < q))) := by
  have := is_less_ok hp hq h0 h1 h
  exact this
theorem Sm.mul {p q : Rat} {m n : Nat} (hp : Sm m p) (hq : Sm n q) (h0 : 0 < m) (h1 : 0 < n) (h : m + n ≤ 8000) : Sm (m + n) (p * q) := (times_ok hp hq h0 h1 h).2
theorem Sm.add {p q : Rat} {m n : Nat} (hp : Sm m p) (hq : Sm n q) (h0 : 0 < m) (h1 : 0 < n) (h : m + n ≤ 8000) : Sm (m + n + 1) (p + q) := (plus_ok hp hq h0 h1 h).2
theorem Sm.sub {p q : Rat} {m n : Nat} (hp : Sm m p) (hq : Sm n q) (h0 : 0 < m) (h1 : 0 < n) (h : m + n ≤ 8000) : Sm (m + n + 1) (p - q) := (minus_ok hp hq h0 h1 h).2
end Lib
end

section
set_option Elab.async false
set_option linter.all false
set_option maxRecDepth 10000
/-! all_sets, the laws' _law_sets, size_key; sorting of rows of naturals. -/
namespace Lib
open DS PySem
def den_size_key : Fn := dfun 1 1 (sRet (eTup (aCons (eCB (d1 dLen) (aCons (eVar 0) aNil)) (aCons (eVar 0) aNil))))
def den_all_sets : Fn := dfun 4 1 (sSeq (sSet 1 0 (eLst (aCons (eTup aNil) aNil)) ([] ++ []))
  (sSeq (sFor (iRange3 (eOp dSub (eVar 0) (eC (.int 1))) (eUn dNeg (eC (.int 1))) (eUn dNeg (eC (.int 1)))) [] (.nm 2)
  (sSet 1 0 (eOp dAdd (eOp dAdd (eLst (aCons (eTup aNil) aNil)) (eLc (iSeq (eVar 1)) (.nm 3) tTrue (eOp dAdd (eTup (aCons (eVar 2) aNil)) (eVar 3)) [3])) (eLc (iSeq (eVar 1)) (.nm 3) (tTru (eVar 3)) (eVar 3) [3])) ((([] ++ []) ++ ([(1, 1)] ++ (([(2, 0)] ++ []) ++ [(3, 1)]))) ++ ([(1, 1)] ++ [(3, 0)]))))
  (sRet (eVar 1))))
def den__law_sets : Fn := dfun 4 1 (sSeq (sSet 1 0 (eLst (aCons (eTup aNil) aNil)) ([] ++ []))
  (sSeq (sFor (iRange1 (eVar 0)) [] (.nm 2)
  (sSet 1 0 (eOp dAdd (eVar 1) (eLc (iSeq (eVar 1)) (.nm 3) tTrue (eOp dAdd (eVar 3) (eTup (aCons (eVar 2) aNil))) [3])) ([(1, 1)] ++ ([(1, 1)] ++ ([(3, 1)] ++ ([(2, 0)] ++ []))))))
  (sRet (eCB (d1 dSorted) (aCons (eVar 1) aNil)))))
/-- rows as a list -/
def rl (l : List (List Nat)) : D := .list (l.map nt)
theorem rl_flat (l : List (List Nat)) : flat (rl l) = false := rfl
theorem dAdd_ll {xs ys : List D} (h : xs.length + ys.length ≤ 16777216) : dAdd (.list xs) (.list ys) = some (.list (xs ++ ys)) := by
  show (if xs.length + ys.length ≤ sz then _ else _) = _
  rw [if_pos (show _ ≤ sz from h)]
theorem dAdd_tt {xs ys : List D} (h : xs.length + ys.length ≤ 16777216) : dAdd (.tuple xs) (.tuple ys) = some (.tuple (xs ++ ys)) := by
  show (if xs.length + ys.length ≤ sz then _ else _) = _
  rw [if_pos (show _ ≤ sz from h)]
theorem eTup_1 {f : FE} {ρ : PEnv} {x : D} (h : f ρ = some x) : eTup (aCons f aNil) ρ = some (.tuple [x]) := by
  unfold eTup; rw [aCons_a, h, aNil_a]; rfl
theorem eTup_2 {f g : FE} {ρ : PEnv} {x y : D} (h : f ρ = some x) (h' : g ρ = some y) : eTup (aCons f (aCons g aNil)) ρ = some (.tuple [x, y]) := by
  unfold eTup; rw [aCons_a, aCons_a, h, h', aNil_a]; rfl
theorem eTup_3 {f g k : FE} {ρ : PEnv} {x y z : D} (h : f ρ = some x) (h' : g ρ = some y) (h'' : k ρ = some z) : eTup (aCons f (aCons g (aCons k aNil))) ρ = some (.tuple [x, y, z]) := by
  unfold eTup; rw [aCons_a, aCons_a, aCons_a, h, h', h'', aNil_a]; rfl
theorem eLst_1 {f : FE} {ρ : PEnv} {x : D} (h : f ρ = some x) : eLst (aCons f aNil) ρ = some (.list [x]) := by
  unfold eLst; rw [aCons_a, h, aNil_a]; rfl
theorem asc_len {i k : Nat} {x : List Nat} (h : Asc i (i + k) x) : x.length ≤ k := by
  have p : x.Nodup := h.up.imp fun h => by omega
  have s : x ⊆ (List.range k).map (· + i) := fun a ha => by
    have := h.mem a ha
    exact List.mem_map.mpr ⟨a - i, List.mem_range.mpr (by omega), by omega⟩
  have := p.length_le_of_subset s
  simpa using this
/-! sorted of rows of naturals -/
theorem allCmp_nt (l : List (List Nat)) : allCmp (l.map nt) = true := allCmp_map (fun a _ => lay_nt a) (fun a _ => by have := depth_nt a; omega) (fun a _ => rfl) fun a _ b _ => alike_nt a b
theorem leD_nt (a b : List Nat) : leD (nt a) (nt b) = lle a b := by
  unfold leD lle
  rw [dataLt_nt]
theorem dSorted_nt (l : List (List Nat)) : dSorted (rl l) = some (rl (l.mergeSort lle)) := by
  show (if allCmp (l.map nt) = true then some (PyData.list ((l.map nt).mergeSort leD)) else none) = _
  rw [if_pos (allCmp_nt l), ← PySem.W.sort_maps (r := lle) (s := leD) nt fun a _ b _ => (leD_nt a b).symm]
  rfl
theorem dSorted_eq {l l' : List (List Nat)} (p : l.Perm l') (s : l'.Pairwise fun a b => llt a b = true) : dSorted (rl l) = some (rl l') := by
  rw [dSorted_nt, sort_eq p s]
theorem size_key_ok (x : List Nat) : den_size_key [nt x] = some (.tuple [nat x.length, nt x]) := by
  refine dfun_wp rfl ?_
  simp only [List.map_cons, List.map_nil, List.replicate_succ, List.replicate_zero, List.nil_append, List.cons_append, List.append_nil, Nat.reduceSub, Nat.reduceAdd, setsD, zeros, stt, setsO, setsJ, List.foldl_cons, List.foldl_nil, List.set_cons_zero, List.set_cons_succ, demote]
  exact wp_ret (eTup_2 (by (first | rfl | (simp only [eOp_a, eUn_a, eCB_a, aCons_a, aNil_a, eIx_a, eC_a, eVar_0, eVar_s, o2_ss, o1_s, d1_1, d2_2, eB_a, tCmp_a, tTru_a, tNotD_a, tIsND_a, tNotND_a, eIsN_a, eNotN_a, tTrue_a, iSeq_a, seqOf_l, seqOf_t, dAdd_i, dAddI_i, dSub_i, dNeg_i, dLt_i, dLe_i, dGt_i, dGe_i, dEq_i, dNe_i, dTru_b, dTru_i, dTru_l, dTru_t, dTru_n, isNon_n, isNon_b, isNon_i, isNon_s, isNon_l, isNon_t, dLen_l, dLen_t, dInt_i, dInt_b, dTuple_l, dTuple_t, dList_l, dList_t, eCall_1, eCall_2, eCall_3, eCall_4, eCall_5, eCall_6, eCall_7, nt_len] <;> rfl))) (by (first | rfl | (simp only [eOp_a, eUn_a, eCB_a, aCons_a, aNil_a, eIx_a, eC_a, eVar_0, eVar_s, o2_ss, o1_s, d1_1, d2_2, eB_a, tCmp_a, tTru_a, tNotD_a, tIsND_a, tNotND_a, eIsN_a, eNotN_a, tTrue_a, iSeq_a, seqOf_l, seqOf_t, dAdd_i, dAddI_i, dSub_i, dNeg_i, dLt_i, dLe_i, dGt_i, dGe_i, dEq_i, dNe_i, dTru_b, dTru_i, dTru_l, dTru_t, dTru_n, isNon_n, isNon_b, isNon_i, isNon_s, isNon_l, isNon_t, dLen_l, dLen_t, dInt_i, dInt_b, dTuple_l, dTuple_t, dList_l, dList_t, eCall_1, eCall_2, eCall_3, eCall_4, eCall_5, eCall_6, eCall_7] <;> rfl)))) rfl
theorem all_sets_ok {n : Nat} (hn : n ≤ 20) : den_all_sets [.int n] = some (rl (aset n)) := by
  refine dfun_wp rfl ?_
  simp only [List.map_cons, List.map_nil, List.replicate_succ, List.replicate_zero, List.nil_append, List.cons_append, List.append_nil, Nat.reduceSub, Nat.reduceAdd, setsD, zeros, stt, setsO, setsJ, List.foldl_cons, List.foldl_nil, List.set_cons_zero, List.set_cons_succ, demote]
  refine wp_seq (wp_setD (d := rl [[]]) (eLst_1 rfl) rfl ?_)
  simp only [List.map_cons, List.map_nil, List.replicate_succ, List.replicate_zero, List.nil_append, List.cons_append, List.append_nil, Nat.reduceSub, Nat.reduceAdd, setsD, zeros, stt, setsO, setsJ, List.foldl_cons, List.foldl_nil, List.set_cons_zero, List.set_cons_succ, demote]
  refine wp_seq (wp_forV (ds := rngDn ((n : Int) - 1) n) [2] (fun k => [(1, rl (asl (n - k) k))]) (by
    unfold iRange3
    simp only [eOp_a, eUn_a, eVar_0, eC_a, o2_ss, o1_s, dSub_i, dNeg_i]
    have r1 : rngOk ((n : Int) - 1) (-1) = true := by
      unfold rngOk
      simp only [Bool.and_eq_true, decide_eq_true_eq]
      refine ⟨⟨⟨?_, ?_⟩, ?_⟩, ?_⟩ <;> omega
    rw [if_pos (by rw [r1]; rfl)]
    congr 2
    omega) (fun p hp => ?_) (fun k d xs hd => ?_) fun xs => ?_)
  · simp only [List.mem_singleton] at hp
    subst hp
    rfl
  · have hk : k < n := by
      have := (List.getElem?_eq_some_iff.mp hd).1
      simpa [rngDn] using this
    have e : d = .int ((n - (k + 1) : Nat) : Int) := by
      unfold rngDn at hd
      rw [List.getElem?_map, List.getElem?_range hk] at hd
      rw [← (Option.some.inj hd)]
      show PyData.int ((n : Int) - 1 - (k : Int)) = _
      have c : ((n : Int) - 1 - (k : Int)) = ((n - (k + 1) : Nat) : Int) := by omega
      rw [c]
    subst e
    refine ⟨[(2, nat (n - (k + 1)))], rfl, ?_⟩
    simp only [List.map_cons, List.map_nil, List.replicate_succ, List.replicate_zero, List.nil_append, List.cons_append, List.append_nil, Nat.reduceSub, Nat.reduceAdd, setsD, zeros, stt, setsO, setsJ, List.foldl_cons, List.foldl_nil, List.set_cons_zero, List.set_cons_succ, demote]
    have hs : n - (k + 1) + 1 = n - k := by omega
    have el : asl (n - (k + 1)) (k + 1) = stp (n - (k + 1)) (asl (n - k) k) := by rw [asl, hs]
    have hlen := asl_len k (n - k)
    have hlen2 := asl_len (k + 1) (n - (k + 1))
    have h20 : 2 ^ (k + 1) ≤ 2 ^ 20 := Nat.pow_le_pow_right (by omega) (by omega)
    have h20' : 2 ^ k ≤ 2 ^ 20 := Nat.pow_le_pow_right (by omega) (by omega)
    have c1 := eLc_of (fi := iSeq (eVar 1)) (t := .nm 3) (vs := [3]) (fe := eOp dAdd (eTup (aCons (eVar 2) aNil)) (eVar 3)) (ρ := [some (.int n), some (rl (asl (n - k) k)), some (nat (n - (k + 1))), none]) nt (fun x => nt ((n - (k + 1)) :: x)) (l := asl (n - k) k) (by (first | rfl | (simp only [eOp_a, eUn_a, eCB_a, aCons_a, aNil_a, eIx_a, eC_a, eVar_0, eVar_s, o2_ss, o1_s, d1_1, d2_2, eB_a, tCmp_a, tTru_a, tNotD_a, tIsND_a, tNotND_a, eIsN_a, eNotN_a, tTrue_a, iSeq_a, seqOf_l, seqOf_t, dAdd_i, dAddI_i, dSub_i, dNeg_i, dLt_i, dLe_i, dGt_i, dGe_i, dEq_i, dNe_i, dTru_b, dTru_i, dTru_l, dTru_t, dTru_n, isNon_n, isNon_b, isNon_i, isNon_s, isNon_l, isNon_t, dLen_l, dLen_t, dInt_i, dInt_b, dTuple_l, dTuple_t, dList_l, dList_t, eCall_1, eCall_2, eCall_3, eCall_4, eCall_5, eCall_6, eCall_7] <;> rfl))) (by omega) (fun x hx => ⟨[(3, nt x)], rfl, by
      have := asc_len (mem_asl.mp hx)
      rw [eOp_a, eTup_1 (x := nat (n - (k + 1))) rfl]
      exact dAdd_tt (by simp only [List.length_map, List.length_cons, List.length_nil]; omega)⟩)
    have c2 := eLc_if (fi := iSeq (eVar 1)) (t := .nm 3) (vs := [3]) (ft := tTru (eVar 3)) (fe := eVar 3) (ρ := [some (.int n), some (rl (asl (n - k) k)), some (nat (n - (k + 1))), none]) nt nt (fun x => !x.isEmpty) (l := asl (n - k) k) (by (first | rfl | (simp only [eOp_a, eUn_a, eCB_a, aCons_a, aNil_a, eIx_a, eC_a, eVar_0, eVar_s, o2_ss, o1_s, d1_1, d2_2, eB_a, tCmp_a, tTru_a, tNotD_a, tIsND_a, tNotND_a, eIsN_a, eNotN_a, tTrue_a, iSeq_a, seqOf_l, seqOf_t, dAdd_i, dAddI_i, dSub_i, dNeg_i, dLt_i, dLe_i, dGt_i, dGe_i, dEq_i, dNe_i, dTru_b, dTru_i, dTru_l, dTru_t, dTru_n, isNon_n, isNon_b, isNon_i, isNon_s, isNon_l, isNon_t, dLen_l, dLen_t, dInt_i, dInt_b, dTuple_l, dTuple_t, dList_l, dList_t, eCall_1, eCall_2, eCall_3, eCall_4, eCall_5, eCall_6, eCall_7] <;> rfl))) (by omega) (fun x hx => ⟨[(3, nt x)], rfl, by cases x <;> rfl, fun _ => rfl⟩)
    refine wp_setD (d := rl (asl (n - (k + 1)) (k + 1))) ?_ rfl ?_
    · rw [eOp_a, eOp_a, c1, c2, eLst_1 (x := nt []) rfl, o2_ss, dAdd_ll (by simp only [List.length_map, List.length_cons, List.length_nil]; omega), o2_ss]
      refine Eq.trans (dAdd_ll ?_) ?_
      · have := List.length_filter_le (fun x : List Nat => !x.isEmpty) (asl (n - k) k)
        simp only [List.length_append, List.length_map, List.length_cons, List.length_nil]
        have : 2 ^ 20 = 1048576 := by decide
        omega
      · rw [el]
        simp [rl, stp]
    · simp only [List.map_cons, List.map_nil, List.replicate_succ, List.replicate_zero, List.nil_append, List.cons_append, List.append_nil, Nat.reduceSub, Nat.reduceAdd, setsD, zeros, stt, setsO, setsJ, List.foldl_cons, List.foldl_nil, List.set_cons_zero, List.set_cons_succ, demote]
      exact cl rfl
  · simp only [List.map_cons, List.map_nil, List.replicate_succ, List.replicate_zero, List.nil_append, List.cons_append, List.append_nil, Nat.reduceSub, Nat.reduceAdd, setsD, zeros, stt, setsO, setsJ, List.foldl_cons, List.foldl_nil, List.set_cons_zero, List.set_cons_succ, demote]
    refine wp_ret rfl ?_
    simp [rngDn, aset]
theorem law_sets_ok {n : Nat} (hn : n ≤ 20) : den__law_sets [.int n] = some (rl (aset n)) := by
  refine dfun_wp rfl ?_
  simp only [List.map_cons, List.map_nil, List.replicate_succ, List.replicate_zero, List.nil_append, List.cons_append, List.append_nil, Nat.reduceSub, Nat.reduceAdd, setsD, zeros, stt, setsO, setsJ, List.foldl_cons, List.foldl_nil, List.set_cons_zero, List.set_cons_succ, demote]
  refine wp_seq ?_
  refine wp_setD (d := rl [[]]) ?_ ?_ ?_
  · exact eLst_1 (x := nt []) rfl
  · rfl
  simp only [List.map_cons, List.map_nil, List.replicate_succ, List.replicate_zero, List.nil_append, List.cons_append, List.append_nil, Nat.reduceSub, Nat.reduceAdd, setsD, zeros, stt, setsO, setsJ, List.foldl_cons, List.foldl_nil, List.set_cons_zero, List.set_cons_succ, demote]
  refine wp_seq ?_
  refine wp_forN (n := n) [2] (fun k => [(1, rl (lset k))]) ?_ ?_ (fun p hp => ?_) (fun k xs hk => ?_) fun xs => ?_
  · rfl
  · omega
  · simp only [List.mem_singleton] at hp
    subst hp
    rfl
  · simp only [List.map_cons, List.map_nil, List.replicate_succ, List.replicate_zero, List.nil_append, List.cons_append, List.append_nil, Nat.reduceSub, Nat.reduceAdd, setsD, zeros, stt, setsO, setsJ, List.foldl_cons, List.foldl_nil, List.set_cons_zero, List.set_cons_succ, demote]
    have hlen := lset_len k
    have hlen2 := lset_len (k + 1)
    have h20 : 2 ^ (k + 1) ≤ 2 ^ 20 := Nat.pow_le_pow_right (by omega) (by omega)
    have h20' : 2 ^ k ≤ 2 ^ 20 := Nat.pow_le_pow_right (by omega) (by omega)
    have c1 := fun x3 => eLc_of (fi := iSeq (eVar 1)) (t := .nm 3) (vs := [3]) (fe := eOp dAdd (eVar 3) (eTup (aCons (eVar 2) aNil))) (ρ := [some (.int n), some (rl (lset k)), some (nat k), x3]) nt (fun x => nt (x ++ [k])) (l := lset k) (by (first | rfl | (simp only [eOp_a, eUn_a, eCB_a, aCons_a, aNil_a, eIx_a, eC_a, eVar_0, eVar_s, o2_ss, o1_s, d1_1, d2_2, eB_a, tCmp_a, tTru_a, tNotD_a, tIsND_a, tNotND_a, eIsN_a, eNotN_a, tTrue_a, iSeq_a, seqOf_l, seqOf_t, dAdd_i, dAddI_i, dSub_i, dNeg_i, dLt_i, dLe_i, dGt_i, dGe_i, dEq_i, dNe_i, dTru_b, dTru_i, dTru_l, dTru_t, dTru_n, isNon_n, isNon_b, isNon_i, isNon_s, isNon_l, isNon_t, dLen_l, dLen_t, dInt_i, dInt_b, dTuple_l, dTuple_t, dList_l, dList_t, eCall_1, eCall_2, eCall_3, eCall_4, eCall_5, eCall_6, eCall_7] <;> rfl))) (by omega) (fun x hx => ⟨[(3, nt x)], rfl, by
      have := asc_len (by have := mem_lset.mp hx; rw [← Nat.zero_add k] at this; exact this)
      rw [eOp_a, eTup_1 (x := nat k) rfl]
      exact nt_snoc (by omega)⟩)
    refine wp_setD (d := rl (lset (k + 1))) ?_ rfl ?_
    · rw [eOp_a, c1]
      refine Eq.trans (dAdd_ll ?_) ?_
      · simp; omega
      · simp [rl, lset]
    · simp only [List.map_cons, List.map_nil, List.replicate_succ, List.replicate_zero, List.nil_append, List.cons_append, List.append_nil, Nat.reduceSub, Nat.reduceAdd, setsD, zeros, stt, setsO, setsJ, List.foldl_cons, List.foldl_nil, List.set_cons_zero, List.set_cons_succ, demote]
      exact cl rfl
  · simp only [List.map_cons, List.map_nil, List.replicate_succ, List.replicate_zero, List.nil_append, List.cons_append, List.append_nil, Nat.reduceSub, Nat.reduceAdd, setsD, zeros, stt, setsO, setsJ, List.foldl_cons, List.foldl_nil, List.set_cons_zero, List.set_cons_succ, demote]
    refine wp_ret (d := rl (aset n)) ?_ rfl
    rw [eCB_a, aCons_a, aNil_a]
    show dSorted (rl (lset n)) = _
    exact dSorted_eq (lset_perm n) (aset_sorted n)
end Lib
end

section
set_option Elab.async false
set_option linter.all false
set_option maxRecDepth 10000
/-! Short lemmas that many laws want. -/
namespace Lib
open DS PySem
/-! equal rows -/
theorem eqvAll_nats : ∀ a b : List Nat, PyData.eqvAll (a.map nat) (b.map nat) = decide (a = b)
  | [], [] => by simp [PyData.eqvAll]
  | [], y :: b => by simp [PyData.eqvAll]
  | x :: a, [] => by simp [PyData.eqvAll]
  | x :: a, y :: b => by
    rw [List.map_cons, List.map_cons, PyData.eqvAll, eqvAll_nats a b, eqv_nat]
    by_cases h : x = y
    · by_cases h' : a = b <;> simp [h, h']
    · simp [h]
theorem eqv_nt (a b : List Nat) : PyData.eqv (nt a) (nt b) = decide (a = b) := by
  unfold nt
  rw [PyData.eqv, eqvAll_nats]
theorem nt_shaped (o : List Nat) : SeqAt.shaped (nt o) = true := by
  have h1 := lay_nats o
  have h2 := depth_nats o
  unfold SeqAt.shaped nt
  rw [PyData.canLay0, h1, Bool.true_and]
  refine decide_eq_true ?_
  simp only [PyData.depth]
  omega
theorem dEq_nt (a b : List Nat) : dEq (nt a) (nt b) = some (decide (a = b)) := by
  unfold dEq
  rw [nt_shaped, nt_shaped, if_pos (by rfl), eqv_nt]
theorem dNe_nt (a b : List Nat) : dNe (nt a) (nt b) = some (!decide (a = b)) := by
  unfold dNe
  rw [nt_shaped, nt_shaped, if_pos (by rfl), eqv_nt]
/-! slices -/
theorem dSlice_to {ds : List D} {k : Nat} (h : k ≤ ds.length) : dSlice none (some (k : Int)) (.tuple ds) = some (.tuple (ds.take k)) := by
  show some (PyData.tuple (cutD ds none (some (k : Int)))) = _
  unfold cutD
  rw [HT.sIx_none, HT.sIx_nat, Nat.min_eq_left h, List.drop_zero, Nat.sub_zero]
theorem dSlice_from {ds : List D} {k : Nat} (h : k ≤ ds.length) : dSlice (some (k : Int)) none (.tuple ds) = some (.tuple (ds.drop k)) := by
  show some (PyData.tuple (cutD ds (some (k : Int)) none)) = _
  unfold cutD
  rw [HT.sIx_none, HT.sIx_nat, Nat.min_eq_left h, List.take_of_length_le (by simp)]
theorem dSliceL_to {ds : List D} {k : Nat} (h : k ≤ ds.length) : dSlice none (some (k : Int)) (.list ds) = some (.list (ds.take k)) := by
  show some (PyData.list (cutD ds none (some (k : Int)))) = _
  unfold cutD
  rw [HT.sIx_none, HT.sIx_nat, Nat.min_eq_left h, List.drop_zero, Nat.sub_zero]
theorem dSliceL_from {ds : List D} {k : Nat} (h : k ≤ ds.length) : dSlice (some (k : Int)) none (.list ds) = some (.list (ds.drop k)) := by
  show some (PyData.list (cutD ds (some (k : Int)) none)) = _
  unfold cutD
  rw [HT.sIx_none, HT.sIx_nat, Nat.min_eq_left h, List.take_of_length_le (by simp)]
theorem eSl_to {f g : FE} {ρ : PEnv} {ds : List D} {k : Nat} (h : f ρ = some (.tuple ds)) (hg : g ρ = some (.int k)) (hk : k ≤ ds.length) : eSl f oNone (oSome g) ρ = some (.tuple (ds.take k)) := by
  unfold eSl oNone oSome
  rw [h, hg]
  exact dSlice_to hk
theorem eSl_from {f g : FE} {ρ : PEnv} {ds : List D} {k : Nat} (h : f ρ = some (.tuple ds)) (hg : g ρ = some (.int k)) (hk : k ≤ ds.length) : eSl f (oSome g) oNone ρ = some (.tuple (ds.drop k)) := by
  unfold eSl oNone oSome
  rw [h, hg]
  exact dSlice_from hk
/-! all, any of truth values -/
theorem bools_map {α : Type} (p : α → Bool) : ∀ l : List α, bools (l.map fun a => .bool (p a)) = some (l.map p)
  | [] => rfl
  | a :: l => by
    rw [List.map_cons, List.map_cons]
    unfold bools
    rw [bools_map p l, o1_s]
theorem dAll_map {α : Type} (p : α → Bool) (l : List α) : dAll (.list (l.map fun a => .bool (p a))) = some (.bool (l.all p)) := by
  show o1 (bools _) _ = _
  rw [bools_map, o1_s, List.all_map]
  rfl
theorem dAny_map {α : Type} (p : α → Bool) (l : List α) : dAny (.list (l.map fun a => .bool (p a))) = some (.bool (l.any p)) := by
  show o1 (bools _) _ = _
  rw [bools_map, o1_s, List.any_map]
  rfl
theorem eAnd_b {f g : FE} {ρ : PEnv} {a b : Bool} (h : f ρ = some (.bool a)) (h' : a = true → g ρ = some (.bool b)) (h0 : a = false → b = false) : eAndD f g ρ = some (.bool b) := by
  unfold eAndD
  rw [h]
  cases a with
  | true => simpa using h' rfl
  | false => simp [h0 rfl]
theorem tTru_b {f : FE} {ρ : PEnv} {b : Bool} (h : f ρ = some (.bool b)) : tTru f ρ = some b := by
  rw [tTru_a, h]; rfl
theorem tNot_b {f : FT} {ρ : PEnv} {b : Bool} (h : f ρ = some b) : tNotD f ρ = some (!b) := by
  rw [tNotD_a, h]; rfl
theorem eB_b {f : FT} {ρ : PEnv} {b : Bool} (h : f ρ = some b) : eB f ρ = some (.bool b) := by
  rw [eB_a, h]; rfl
theorem all_of {f : FE} {ρ : PEnv} {α : Type} {p : α → Bool} {l : List α} (h : f ρ = some (.list (l.map fun a => .bool (p a)))) : eCB (d1 dAll) (aCons f aNil) ρ = some (.bool (l.all p)) := by
  rw [eCB_a, aCons_a, h, aNil_a, o2_ss, o1_s, d1_1, dAll_map]
theorem any_of {f : FE} {ρ : PEnv} {α : Type} {p : α → Bool} {l : List α} (h : f ρ = some (.list (l.map fun a => .bool (p a)))) : eCB (d1 dAny) (aCons f aNil) ρ = some (.bool (l.any p)) := by
  rw [eCB_a, aCons_a, h, aNil_a, o2_ss, o1_s, d1_1, dAny_map]
theorem tup_of {f : FE} {ρ : PEnv} {ds : List D} (h : f ρ = some (.list ds)) : eCB (d1 dTuple) (aCons f aNil) ρ = some (.tuple ds) := by
  rw [eCB_a, aCons_a, h, aNil_a, o2_ss, o1_s, d1_1, dTuple_l]
/-! sets by size -/
def skey (x : List Nat) : D := .tuple [nat x.length, nt x]
theorem keys_size : ∀ l : List (List Nat), keyLs den_size_key (l.map nt) = some (l.map skey)
  | [] => rfl
  | x :: l => by
    rw [List.map_cons, List.map_cons]
    unfold keyLs
    rw [size_key_ok, keys_size l]
    rfl
theorem allCmp_skey (l : List (List Nat)) : allCmp (l.map skey) = true := allCmp_map (fun a _ => by unfold skey; rw [PyData.canLay0, PyData.canLayAll0, PyData.canLayAll0, lay_nt]; rfl) (fun a _ => by
    have := depth_nt a
    simp only [skey, PyData.depth, PyData.depthAll, nat]
    omega) (fun a _ => rfl) fun a _ b _ => by
    unfold skey
    rw [PySem.W.alike, PySem.W.alikeAll, PySem.W.alikeAll, alike_nt, PySem.W.alikeAll]
    simp [nat, PySem.W.alike]
/-- a smaller set first, else the lesser row -/
def slt (a b : List Nat) : Bool := if a.length = b.length then llt a b else decide (a.length < b.length)
def sle (a b : List Nat) : Bool := !slt b a
theorem dataLt_skey (a b : List Nat) : PySem.W.dataLt (skey a) (skey b) = slt a b := by
  show rowLt [.int a.length, nt a] [.int b.length, nt b] = _
  rw [rowLt_int, rowLt_one _ _ (alike_nt a b) (fun h => by
    rw [eqv_nt] at h
    have e := of_decide_eq_true h
    subst e
    rw [dataLt_nt, llt_irrefl]), dataLt_nt]
  unfold slt
  by_cases h : a.length = b.length
  · rw [if_pos h, if_pos (by omega)]
  · rw [if_neg h, if_neg (by omega), decide_eq_decide]; omega
theorem zip_self_map {α β γ : Type} (f : α → β) (g : α → γ) : ∀ l : List α, (l.map f).zip (l.map g) = l.map fun a => (f a, g a)
  | [] => rfl
  | a :: l => by simp [zip_self_map f g l]
theorem sortK_size (l : List (List Nat)) : dSortK den_size_key (rl l) = some (rl (l.mergeSort sle)) := by
  have hk := keys_size l
  show (match keyLs den_size_key (l.map nt) with
    | some ks => if allCmp ks = true then some (PyData.list ((((l.map nt).zip ks).mergeSort (fun u v : D × D => leD u.2 v.2)).map (fun u : D × D => u.1))) else none
    | none => none) = _
  rw [hk]
  show (if allCmp (l.map skey) = true then some (PyData.list ((((l.map nt).zip (l.map skey)).mergeSort (fun u v : D × D => leD u.2 v.2)).map (fun u : D × D => u.1))) else none) = _
  rw [if_pos (allCmp_skey l), zip_self_map]
  have := PySem.W.sort_maps (r := sle) (s := fun u v : D × D => leD u.2 v.2) (fun a => (nt a, skey a)) (l := l) fun a _ b _ => by
    show sle a b = leD (skey a) (skey b)
    unfold leD sle
    rw [dataLt_skey]
  rw [← this, List.map_map]
  rfl
theorem sorted_size_perm (l : List (List Nat)) : (l.mergeSort sle).Perm l := List.mergeSort_perm _ _
end Lib
end

section
set_option Elab.async false
set_option linter.all false
set_option maxRecDepth 10000
/-! max and index of ints. -/
namespace Lib
open DS PySem
def imx (x : Int) (xs : List Int) : Int := xs.foldl (fun a y => if a < y then y else a) x
theorem imx_spec : ∀ (xs : List Int) (x : Int), imx x xs ∈ x :: xs ∧ ∀ y ∈ x :: xs, y ≤ imx x xs
  | [], x => ⟨by simp [imx], by simp [imx]⟩
  | y :: xs, x => by
    have e : imx x (y :: xs) = imx (if x < y then y else x) xs := rfl
    rw [e]
    obtain ⟨a, b⟩ := imx_spec xs (if x < y then y else x)
    refine ⟨?_, fun z hz => ?_⟩
    · rcases List.mem_cons.mp a with h | h
      · rw [h]; split <;> simp
      · simp [h]
    · have b0 := b (if x < y then y else x) (.head _)
      generalize imx (if x < y then y else x) xs = M at b0 b ⊢
      rcases List.mem_cons.mp hz with h | h
      · subst h; split at b0 <;> omega
      · rcases List.mem_cons.mp h with h | h
        · subst h; split at b0 <;> omega
        · exact b z (.tail _ h)
theorem maxD_int : ∀ (xs : List Int) (x : Int), PySem.W.maxD (.int x) (xs.map PyData.int) = .int (imx x xs)
  | [], _ => rfl
  | y :: xs, x => by
    show PySem.W.maxD (if PySem.W.dataLt (.int x) (.int y) = true then .int y else .int x) (xs.map PyData.int) = .int (imx (if x < y then y else x) xs)
    rw [PySem.W.dataLt_int]
    by_cases h : x < y
    · rw [if_pos h, if_pos (decide_eq_true h)]; exact maxD_int xs y
    · rw [if_neg h, if_neg (by simpa using h)]; exact maxD_int xs x
theorem allCmp_in (l : List Int) : allCmp (l.map PyData.int) = true := by
  refine allCmp_map ?_ ?_ ?_ ?_
  · intro a _; simp [PyData.canLay0]
  · intro a _; simp [PyData.depth]
  · intro a _; rfl
  · intro a _ b _; simp [PySem.W.alike]
theorem dMax1_in (x : Int) (xs : List Int) : dMax1 (.list ((x :: xs).map PyData.int)) = some (.int (imx x xs)) := by
  have m := maxD_int xs x
  have ok : allCmp (.int x :: xs.map PyData.int) = true := allCmp_in (x :: xs)
  show bestOf PySem.W.maxD (.int x :: xs.map PyData.int) = _
  unfold bestOf
  simp only [m, ok]
  rfl
theorem dMax1_tin (x : Int) (xs : List Int) : dMax1 (.tuple ((x :: xs).map PyData.int)) = some (.int (imx x xs)) := dMax1_in x xs
theorem ints_shaped (o : List Int) : SeqAt.shaped (.list (o.map PyData.int)) = true := by
  have h1 : ∀ o : List Int, PyData.canLayAll0 (o.map PyData.int) = true := fun o => by
    induction o with
    | nil => rfl
    | cons a o ih => simp [PyData.canLayAll0, PyData.canLay0, ih]
  have h2 : ∀ o : List Int, PyData.depthAll (o.map PyData.int) ≤ 1 := fun o => by
    induction o with
    | nil => simp [PyData.depthAll]
    | cons a o ih => simp only [List.map_cons, PyData.depthAll, PyData.depth]; omega
  unfold SeqAt.shaped
  rw [PyData.canLay0, h1, Bool.true_and]
  refine decide_eq_true ?_
  have := h2 o
  simp only [PyData.depth]
  omega
theorem dIndex_in {o : List Int} {v : Int} {i : Nat} (hi : i < o.length) (h : o[i] = v) (h' : ∀ j (hj : j < o.length), j < i → o[j] ≠ v) : dIndex (.list (o.map PyData.int)) (.int v) = some (nat i) := by
  show (if (SeqAt.shaped (.list (o.map PyData.int)) && SeqAt.shaped (.int v)) = true then (match (o.map PyData.int).findIdx? fun z => PyData.eqv z (.int v) with
    | some j => some (PyData.int (j : Nat))
    | none => none) else none) = _
  rw [ints_shaped, if_pos (by rfl)]
  have : (o.map PyData.int).findIdx? (fun z => PyData.eqv z (.int v)) = some i := by
    rw [List.findIdx?_eq_some_iff_getElem]
    refine ⟨by simpa using hi, by simp [PyData.eqv, h], fun j hj => ?_⟩
    have hj' : j < o.length := by omega
    have := h' j hj' hj
    simp [PyData.eqv, this]
  rw [this]
  rfl
/-- i is the first place of the greatest -/
structure FMax (o : List Int) (i : Nat) : Prop where
  lt : i < o.length
  ge : ∀ j (hj : j < o.length), o[j] ≤ o[i]
  fst : ∀ j (hj : j < o.length), j < i → o[j] < o[i]
theorem FMax.index {o : List Int} {i : Nat} (h : FMax o i) : ∃ M, dMax1 (.list (o.map PyData.int)) = some (.int M) ∧ dIndex (.list (o.map PyData.int)) (.int M) = some (nat i) := by
  match o, h with
  | [], h => exact absurd h.lt (Nat.not_lt_zero _)
  | x :: xs, h =>
    obtain ⟨a, b⟩ := imx_spec xs x
    refine ⟨imx x xs, dMax1_in x xs, ?_⟩
    have e : (x :: xs)[i]'h.lt = imx x xs := by
      have h1 := b _ (List.getElem_mem h.lt)
      obtain ⟨j, hj, e⟩ := List.getElem_of_mem a
      have h2 := h.ge j hj
      omega
    exact dIndex_in h.lt e fun j hj hji q => by
      have := h.fst j hj hji
      omega
theorem FMax.zero (x : Int) : FMax [x] 0 := ⟨by simp, fun j hj => by
  have : j = 0 := by simpa using hj
  subst this; exact Int.le_refl _, fun j _ h => absurd h (Nat.not_lt_zero _)⟩
theorem FMax.more {o : List Int} {i : Nat} {y : Int} (h : FMax o i) : FMax (o ++ [y]) (if o[i]'h.lt < y then o.length else i) := by
  have hl := h.lt
  split
  · rename_i c
    refine ⟨by simp, fun j hj => ?_, fun j hj hji => ?_⟩
    · rw [List.getElem_append_right (Nat.le_refl _)]
      simp only [Nat.sub_self, List.getElem_cons_zero]
      by_cases hjo : j < o.length
      · rw [List.getElem_append_left hjo]
        have := h.ge j hjo
        omega
      · have : j = o.length := by simp at hj; omega
        subst this
        simp
    · rw [List.getElem_append_right (Nat.le_refl _), List.getElem_append_left hji]
      simp only [Nat.sub_self, List.getElem_cons_zero]
      have := h.ge j hji
      omega
  · rename_i c
    refine ⟨by simp; omega, fun j hj => ?_, fun j hj hji => ?_⟩
    · rw [List.getElem_append_left hl]
      by_cases hjo : j < o.length
      · rw [List.getElem_append_left hjo]
        exact h.ge j hjo
      · have : j = o.length := by simp at hj; omega
        subst this
        simp
        omega
    · rw [List.getElem_append_left hl, List.getElem_append_left (by omega)]
      exact h.fst j (by omega) hji
end Lib
end

section
set_option Elab.async false
set_option linter.all false
set_option maxRecDepth 10000
/-! k25, part a: sums of coins. -/
namespace Lib
open DS PySem
def Rep (cs l : List Nat) (a : Nat) : Prop := (∀ x ∈ l, x ∈ cs) ∧ l.sum = a
def IsF (cs : List Nat) (a : Nat) : Option Nat → Prop
  | some k => (∃ l, Rep cs l a ∧ l.length = k) ∧ ∀ l, Rep cs l a → k ≤ l.length
  | none => ∀ l, ¬ Rep cs l a
theorem IsF.uniq {cs : List Nat} {a : Nat} : ∀ {o o' : Option Nat}, IsF cs a o → IsF cs a o' → o = o'
  | none, none, _, _ => rfl
  | some k, none, ⟨⟨l, h, _⟩, _⟩, h' => absurd h (h' l)
  | none, some k, h, ⟨⟨l, h', _⟩, _⟩ => absurd h' (h l)
  | some k, some k', ⟨⟨l, h, e⟩, m⟩, ⟨⟨l', h', e'⟩, m'⟩ => by
    have := m l' h'
    have := m' l h
    congr 1
    omega
theorem least_rep {cs : List Nat} {a : Nat} : ∀ (n : Nat) (l : List Nat), Rep cs l a → l.length ≤ n → ∃ l0, Rep cs l0 a ∧ ∀ l', Rep cs l' a → l0.length ≤ l'.length
  | 0, l, h, hn => ⟨l, h, fun l' _ => by omega⟩
  | n + 1, l, h, hn => by
    by_cases c : ∃ l', Rep cs l' a ∧ l'.length < l.length
    · obtain ⟨l', h', q⟩ := c
      exact least_rep n l' h' (by omega)
    · exact ⟨l, h, fun l' h' => Nat.le_of_not_lt fun q => c ⟨l', h', q⟩⟩
theorem isF_ex (cs : List Nat) (a : Nat) : ∃ o, IsF cs a o := by
  by_cases c : ∃ l, Rep cs l a
  · obtain ⟨l, h⟩ := c
    obtain ⟨l0, h0, m⟩ := least_rep l.length l h (Nat.le_refl _)
    exact ⟨some l0.length, ⟨l0, h0, rfl⟩, m⟩
  · exact ⟨none, fun l h => c ⟨l, h⟩⟩
noncomputable def fw (cs : List Nat) (a : Nat) : Option Nat := Classical.choose (isF_ex cs a)
theorem fw_is (cs : List Nat) (a : Nat) : IsF cs a (fw cs a) := Classical.choose_spec (isF_ex cs a)
theorem fw_eq {cs : List Nat} {a : Nat} {o : Option Nat} (h : IsF cs a o) : fw cs a = o := (fw_is cs a).uniq h
theorem fw_some {cs : List Nat} {a k : Nat} (h : fw cs a = some k) : (∃ l, Rep cs l a ∧ l.length = k) ∧ ∀ l, Rep cs l a → k ≤ l.length := by
  have := fw_is cs a
  rw [h] at this
  exact this
theorem fw_none {cs : List Nat} {a : Nat} (h : fw cs a = none) : ∀ l, ¬ Rep cs l a := by
  have := fw_is cs a
  rw [h] at this
  exact this
theorem fw_le {cs l : List Nat} {a : Nat} (h : Rep cs l a) : ∃ k, fw cs a = some k ∧ k ≤ l.length := by
  cases e : fw cs a with
  | none => exact absurd h (fw_none e l)
  | some k => exact ⟨k, rfl, (fw_some e).2 l h⟩
theorem rep_nil (cs : List Nat) : Rep cs [] 0 := ⟨by simp, rfl⟩
theorem rep_cons {cs l : List Nat} {a c : Nat} (hc : c ∈ cs) (h : Rep cs l a) : Rep cs (c :: l) (a + c) := ⟨fun x hx => by
  rcases List.mem_cons.mp hx with e | e
  · rw [e]; exact hc
  · exact h.1 x e, by rw [List.sum_cons, h.2]; omega⟩
theorem sum_perm {l l' : List Nat} (p : l.Perm l') : l.sum = l'.sum := by
  induction p with
  | nil => rfl
  | cons x _ ih => simp [ih]
  | swap x y l => simp only [List.sum_cons]; omega
  | trans _ _ h1 h2 => rw [h1, h2]
theorem rep_perm {cs l l' : List Nat} {a : Nat} (p : l.Perm l') (h : Rep cs l a) : Rep cs l' a := ⟨fun x hx => h.1 x (p.mem_iff.mpr hx), by rw [← sum_perm p]; exact h.2⟩
theorem rep_erase {cs l : List Nat} {a c : Nat} (hc : c ∈ l) (h : Rep cs l a) : c ≤ a ∧ Rep cs (l.erase c) (a - c) ∧ (l.erase c).length + 1 = l.length := by
  have p := List.perm_cons_erase hc
  have s := sum_perm p
  rw [List.sum_cons, h.2] at s
  refine ⟨by omega, ⟨fun x hx => h.1 x (List.mem_of_mem_erase hx), by omega⟩, ?_⟩
  have := p.length_eq
  rw [List.length_cons] at this
  omega
theorem rep_mono {cs ds l : List Nat} {a : Nat} (h : Rep cs l a) (s : ∀ x ∈ cs, x ∈ ds) : Rep ds l a := ⟨fun x hx => s x (h.1 x hx), h.2⟩
theorem fw_nil (w : Nat) : fw [] w = if w = 0 then some 0 else none := by
  refine fw_eq ?_
  split
  · rename_i h
    subst h
    exact ⟨⟨[], rep_nil _, rfl⟩, fun l _ => Nat.zero_le _⟩
  · rename_i h
    intro l hl
    cases l with
    | nil => exact h hl.2.symm
    | cons x l => exact absurd (hl.1 x (.head _)) (by simp)
theorem fw_lt {cs : List Nat} {c w : Nat} (h : w < c) : fw (cs ++ [c]) w = fw cs w := by
  refine fw_eq ?_
  have back : ∀ l, Rep (cs ++ [c]) l w → Rep cs l w := fun l hl => ⟨fun x hx => by
    rcases List.mem_append.mp (hl.1 x hx) with e | e
    · exact e
    · have e : x = c := by simpa using e
      subst e
      have := (rep_erase hx hl).1
      omega, hl.2⟩
  cases e : fw cs w with
  | none => exact fun l hl => fw_none e l (back l hl)
  | some k =>
    obtain ⟨⟨l, h1, h2⟩, m⟩ := fw_some e
    exact ⟨⟨l, rep_mono h1 (fun x hx => List.mem_append_left _ hx), h2⟩, fun l hl => m l (back l hl)⟩
def stepF : Option Nat → Option Nat → Option Nat
  | o, none => o
  | none, some k => some (k + 1)
  | some m, some k => if k + 1 < m then some (k + 1) else some m
theorem fw_ge {cs : List Nat} {c k : Nat} (hc : 0 < c) : fw (cs ++ [c]) (c + k) = stepF (fw cs (c + k)) (fw (cs ++ [c]) k) := by
  refine fw_eq ?_
  have split : ∀ l, Rep (cs ++ [c]) l (c + k) → Rep cs l (c + k) ∨ ∃ l', Rep (cs ++ [c]) l' k ∧ l'.length + 1 = l.length := fun l hl => by
    by_cases h : c ∈ l
    · obtain ⟨_, h1, h2⟩ := rep_erase h hl
      rw [Nat.add_sub_cancel_left] at h1
      exact .inr ⟨_, h1, h2⟩
    · refine .inl ⟨fun x hx => ?_, hl.2⟩
      rcases List.mem_append.mp (hl.1 x hx) with e | e
      · exact e
      · have e : x = c := by simpa using e
        subst e
        exact absurd hx h
  have mono : ∀ l w, Rep cs l w → Rep (cs ++ [c]) l w := fun l w h => rep_mono h (fun x hx => List.mem_append_left _ hx)
  have cin : c ∈ cs ++ [c] := by simp
  cases e : fw (cs ++ [c]) k with
  | none =>
    cases e2 : fw cs (c + k) with
    | none =>
      intro l hl
      rcases split l hl with h | ⟨l', h, _⟩
      · exact fw_none e2 l h
      · exact fw_none e l' h
    | some m =>
      obtain ⟨⟨l, h1, h2⟩, mm⟩ := fw_some e2
      refine ⟨⟨l, mono _ _ h1, h2⟩, fun l hl => ?_⟩
      rcases split l hl with h | ⟨l', h, _⟩
      · exact mm l h
      · exact absurd h (fw_none e l')
  | some j =>
    obtain ⟨⟨l1, h1, h2⟩, mm⟩ := fw_some e
    have r1 := rep_cons cin h1
    rw [Nat.add_comm k c] at r1
    cases e2 : fw cs (c + k) with
    | none =>
      refine ⟨⟨c :: l1, r1, by simp [h2]⟩, fun l hl => ?_⟩
      rcases split l hl with h | ⟨l', h, q⟩
      · exact absurd h (fw_none e2 l)
      · have := mm l' h; omega
    | some m =>
      obtain ⟨⟨l2, g1, g2⟩, m2⟩ := fw_some e2
      unfold stepF
      dsimp only
      split
      · rename_i q
        refine ⟨⟨c :: l1, r1, by simp [h2]⟩, fun l hl => ?_⟩
        rcases split l hl with h | ⟨l', h, q2⟩
        · have := m2 l h; omega
        · have := mm l' h; omega
      · rename_i q
        refine ⟨⟨l2, mono _ _ g1, g2⟩, fun l hl => ?_⟩
        rcases split l hl with h | ⟨l', h, q2⟩
        · exact m2 l h
        · have := mm l' h; omega
/-! the tables -/
def on : Option Nat → D
  | none => .none
  | some k => nat k
noncomputable def tabD (cs : List Nat) (a : Nat) : D := .list ((List.range (a + 1)).map fun w => on (fw cs w))
noncomputable def tabsD (cs : List Nat) (a : Nat) : D := .list ((List.range (cs.length + 1)).map fun t => tabD (cs.take t) a)
end Lib
end

section
set_option Elab.async false
set_option linter.all false
set_option maxRecDepth 10000
/-! k25, part b: coin_tables. -/
namespace Lib
open DS PySem
def den_coin_tables : Fn := dfun 7 2 (sSeq (sSet 2 1 (eOp dAdd (eLst (aCons (eC (.int 0)) aNil)) (eOp dMul (eLst (aCons (eC .none) aNil)) (eVar 1))) (([] ++ []) ++ (([] ++ []) ++ [(1, 1)])))
  (sSeq (sSet 3 1 (eLst (aCons (eVar 2) aNil)) ([(2, 0)] ++ []))
  (sSeq (sFor (iSeq (eVar 0)) [(0, 0)] (.nm 4)
  (sSeq (sSet 2 1 (eCB (d1 dList) (aCons (eVar 2) aNil)) ([(2, 1)] ++ []))
  (sSeq (sFor (iRange2 (eVar 4) (eOp dAdd (eVar 1) (eC (.int 1)))) [] (.nm 5)
  (sSeq (sSet 6 0 (eIx (eVar 2) (eOp dSub (eVar 5) (eVar 4))) [(2, 1)])
  (sIf (tAndD (tNotND (eVar 6)) (tOrD (tIsND (eIx (eVar 2) (eVar 5))) (tCmp dLt (eOp dAdd (eVar 6) (eC (.int 1))) (eIx (eVar 2) (eVar 5)))))
  (sPut 2 (eVar 5) (eOp dAdd (eVar 6) (eC (.int 1))) ([(6, 1)] ++ []))
  sNil)))
  (sApp 3 (eVar 2) [(2, 0)]))))
  (sRet (eVar 3)))))
theorem ixN_n {n i : Nat} (h : i < n) : L2.ixN n (i : Int) = some i := by
  unfold L2.ixN
  rw [if_pos (by omega), if_pos (by omega)]
  simp
theorem lst_ix {l : List D} {i : Nat} {d : D} (h : l[i]? = some d) : dIx (.list l) (.int (i : Int)) = some d := by
  show L2.atI l (i : Int) = _
  unfold L2.atI
  rw [ixN_n (List.getElem?_eq_some_iff.mp h).1]
  exact h
theorem rng_at {α : Type} (g : Nat → α) {n i : Nat} (h : i < n) : ((List.range n).map g)[i]? = some (g i) := by
  rw [List.getElem?_map, List.getElem?_range h]
  rfl
theorem wp_setL {N B C : S → Prop} {R : D → Prop} {ρ : PEnv} {L L' : List Nat} {i l : Nat} {f : FE} {c : Esc} {d : D} (h : f ρ = some d) (hd : flat d = false) (hL : (demote c L).set i l = L') (q : N (ρ.set i (some d), L')) : WP (sSet i l f c) (ρ, L) N R B C := wp_setD h hd (by rw [hL]; exact q)
theorem wp_appL {N B C : S → Prop} {R : D → Prop} {ρ : PEnv} {L L' : List Nat} {i : Nat} {f : FE} {c : Esc} {d : D} {ds : List D} (h : f ρ = some d) (hi : eVar i ρ = some (.list ds)) (hd : flat d = false) (hl : ds.length < 16777216) (hL : demote c L = L') (hL1 : lv L' i = 1) (q : N (ρ.set i (some (.list (ds ++ [d]))), L')) : WP (sApp i f c) (ρ, L) N R B C := wp_appD h hi hd hl (by rw [hL]; exact hL1) (by rw [hL]; exact q)
theorem flat_on (o : Option Nat) : flat (on o) = true := by cases o <;> rfl
/-- a table while coin c is at work: up to c + k it is the new one -/
noncomputable def mixT (cs : List Nat) (c k w : Nat) : Option Nat := if w < c + k then fw (cs ++ [c]) w else fw cs w
noncomputable def mixD (cs : List Nat) (c a k : Nat) : D := .list ((List.range (a + 1)).map fun w => on (mixT cs c k w))
theorem mix_0 (cs : List Nat) (c a : Nat) : mixD cs c a 0 = tabD cs a := by
  unfold mixD tabD
  congr 1
  refine List.map_congr_left fun w _ => ?_
  unfold mixT
  split
  · rw [fw_lt (by omega)]
  · rfl
theorem mix_end {cs : List Nat} {c a k : Nat} (h : a < c + k) : mixD cs c a k = tabD (cs ++ [c]) a := by
  unfold mixD tabD
  congr 1
  refine List.map_congr_left fun w hw => ?_
  have := List.mem_range.mp hw
  unfold mixT
  rw [if_pos (by omega)]
theorem mix_same {cs : List Nat} {c a k : Nat} (h : fw (cs ++ [c]) (c + k) = fw cs (c + k)) : mixD cs c a (k + 1) = mixD cs c a k := by
  unfold mixD
  congr 1
  refine List.map_congr_left fun w _ => ?_
  unfold mixT
  by_cases e : w = c + k
  · subst e
    rw [if_pos (by omega), if_neg (by omega), h]
  · by_cases e2 : w < c + k
    · rw [if_pos (by omega), if_pos e2]
    · rw [if_neg (by omega), if_neg e2]
theorem mix_put {cs : List Nat} {c a k : Nat} : (PyData.list (((List.range (a + 1)).map fun w => on (mixT cs c k w)).set (c + k) (on (fw (cs ++ [c]) (c + k))))) = mixD cs c a (k + 1) := by
  unfold mixD
  refine congrArg PyData.list (List.ext_getElem (by simp) fun i h1 h2 => ?_)
  rw [List.getElem_set, List.getElem_map, List.getElem_map, List.getElem_range]
  unfold mixT
  by_cases e : c + k = i
  · subst e
    rw [if_pos rfl, if_pos (by omega)]
  · rw [if_neg e]
    by_cases e2 : i < c + k
    · rw [if_pos e2, if_pos (by omega)]
    · rw [if_neg e2, if_neg (by omega)]
theorem tables_ok {cs : List Nat} {a : Nat} (hc : ∀ c ∈ cs, 0 < c ∧ c ≤ 1000) (hl : cs.length ≤ 1000) (ha : a ≤ 1000) (ct : D) (hs : seqOf ct = some (cs.map nat)) : den_coin_tables [ct, nat a] = some (tabsD cs a) := by
  refine dfun_wp rfl ?_
  simp only [List.map_cons, List.map_nil, List.replicate_succ, List.replicate_zero, List.nil_append, List.cons_append, List.append_nil, Nat.reduceSub, Nat.reduceAdd, setsD, zeros, stt, setsO, setsJ, List.foldl_cons, List.foldl_nil, List.set_cons_zero, List.set_cons_succ, demote]
  refine wp_seq (wp_setL (d := tabD [] a) (L' := [0, 0, 1, 0, 0, 0, 0]) ?_ rfl rfl ?_)
  · have e1 : dMul (.list [.none]) (nat a) = some (.list (List.replicate a PyData.none)) := by
      show (if [PyData.none].length * ((a : Int)).toNat ≤ sz ∧ -9223372036854775808 ≤ (a : Int) ∧ (a : Int) < 9223372036854775808 then some (PyData.list (List.replicate ((a : Int)).toNat [PyData.none]).flatten) else none) = _
      rw [if_pos ⟨by
        have : sz = 16777216 := rfl
        rw [this, Int.toNat_natCast]
        simp only [List.length_cons, List.length_nil]
        omega, by omega, by omega⟩, Int.toNat_natCast, List.flatten_replicate_singleton]
    rw [eOp_a, eLst_1 (x := .int 0) rfl, eOp_a, eLst_1 (x := .none) rfl]
    simp only [eVar_0, eVar_s, o2_ss, e1]
    rw [dAdd_ll (by simp; omega)]
    unfold tabD
    refine congrArg (fun l => some (PyData.list l)) (List.ext_getElem (by simp) fun i h1 h2 => ?_)
    rw [List.getElem_map, List.getElem_range, fw_nil]
    cases i with
    | zero => rfl
    | succ i => simp [on]
  simp only [List.map_cons, List.map_nil, List.replicate_succ, List.replicate_zero, List.nil_append, List.cons_append, List.append_nil, Nat.reduceSub, Nat.reduceAdd, setsD, zeros, stt, setsO, setsJ, List.foldl_cons, List.foldl_nil, List.set_cons_zero, List.set_cons_succ, demote]
  refine wp_seq (wp_setL (d := .list [tabD [] a]) (L' := [0, 0, 0, 1, 0, 0, 0]) (eLst_1 rfl) rfl rfl ?_)
  simp only [List.map_cons, List.map_nil, List.replicate_succ, List.replicate_zero, List.nil_append, List.cons_append, List.append_nil, Nat.reduceSub, Nat.reduceAdd, setsD, zeros, stt, setsO, setsJ, List.foldl_cons, List.foldl_nil, List.set_cons_zero, List.set_cons_succ, demote]
  refine wp_seq ?_
  refine wp_for (ds := cs.map nat) (P := fun k s => ∃ x4 x5 x6, s = ([some ct, some (nat a), some (tabD (cs.take k) a), some (.list ((List.range (k + 1)).map fun t => tabD (cs.take t) a)), x4, x5, x6], [0, 0, 0, 1, 0, 0, 0])) (by simp only [iSeq_a, eVar_0, o1_s, hs]) ⟨none, none, none, rfl⟩ ?_ ?_
  · rintro k d _ hdk ⟨x4, x5, x6, rfl⟩
    rw [List.getElem?_map] at hdk
    obtain ⟨c, hk, rfl⟩ := Option.map_eq_some_iff.mp hdk
    obtain ⟨c0, c1⟩ := hc c (List.mem_of_getElem? hk)
    have hkl := (List.getElem?_eq_some_iff.mp hk).1
    have tk : cs.take (k + 1) = cs.take k ++ [c] := by rw [List.take_add_one, hk]; rfl
    refine ⟨[(4, nat c)], rfl, ?_⟩
    simp only [List.map_cons, List.map_nil, List.replicate_succ, List.replicate_zero, List.nil_append, List.cons_append, List.append_nil, Nat.reduceSub, Nat.reduceAdd, setsD, zeros, stt, setsO, setsJ, List.foldl_cons, List.foldl_nil, List.set_cons_zero, List.set_cons_succ, demote]
    refine wp_seq (wp_setL (d := tabD (cs.take k) a) (L' := [0, 0, 1, 1, 0, 0, 0]) (by
      unfold tabD
      (first | rfl | (simp only [eOp_a, eUn_a, eCB_a, aCons_a, aNil_a, eIx_a, eC_a, eVar_0, eVar_s, o2_ss, o1_s, d1_1, d2_2, eB_a, tCmp_a, tTru_a, tNotD_a, tIsND_a, tNotND_a, eIsN_a, eNotN_a, tTrue_a, iSeq_a, seqOf_l, seqOf_t, dAdd_i, dAddI_i, dSub_i, dNeg_i, dLt_i, dLe_i, dGt_i, dGe_i, dEq_i, dNe_i, dTru_b, dTru_i, dTru_l, dTru_t, dTru_n, isNon_n, isNon_b, isNon_i, isNon_s, isNon_l, isNon_t, dLen_l, dLen_t, dInt_i, dInt_b, dTuple_l, dTuple_t, dList_l, dList_t, eCall_1, eCall_2, eCall_3, eCall_4, eCall_5, eCall_6, eCall_7] <;> rfl))) rfl rfl ?_)
    simp only [List.map_cons, List.map_nil, List.replicate_succ, List.replicate_zero, List.nil_append, List.cons_append, List.append_nil, Nat.reduceSub, Nat.reduceAdd, setsD, zeros, stt, setsO, setsJ, List.foldl_cons, List.foldl_nil, List.set_cons_zero, List.set_cons_succ, demote]
    refine wp_seq ?_
    refine wp_for (ds := rngD c (a + 1 - c : Int).toNat) (P := fun j s => ∃ x5 x6, s = ([some ct, some (nat a), some (mixD (cs.take k) c a j), some (.list ((List.range (k + 1)).map fun t => tabD (cs.take t) a)), some (nat c), x5, x6], [0, 0, 1, 1, 0, 0, 0])) (range2_ok (i := c) (j := (a : Int) + 1) rfl (by (first | rfl | (simp only [eOp_a, eUn_a, eCB_a, aCons_a, aNil_a, eIx_a, eC_a, eVar_0, eVar_s, o2_ss, o1_s, d1_1, d2_2, eB_a, tCmp_a, tTru_a, tNotD_a, tIsND_a, tNotND_a, eIsN_a, eNotN_a, tTrue_a, iSeq_a, seqOf_l, seqOf_t, dAdd_i, dAddI_i, dSub_i, dNeg_i, dLt_i, dLe_i, dGt_i, dGe_i, dEq_i, dNe_i, dTru_b, dTru_i, dTru_l, dTru_t, dTru_n, isNon_n, isNon_b, isNon_i, isNon_s, isNon_l, isNon_t, dLen_l, dLen_t, dInt_i, dInt_b, dTuple_l, dTuple_t, dList_l, dList_t, eCall_1, eCall_2, eCall_3, eCall_4, eCall_5, eCall_6, eCall_7, nat] <;> rfl))) (by omega) (by omega) (by omega) (by omega)) ⟨x5, x6, by rw [mix_0]; rfl⟩ ?_ ?_
    · rintro j d _ hdj ⟨x5, x6, rfl⟩
      obtain ⟨hj, rfl⟩ := rng_get hdj
      have hja : c + j ≤ a := by omega
      refine ⟨[(5, nat (c + j))], by simp [Tg.go, nat], ?_⟩
      simp only [List.map_cons, List.map_nil, List.replicate_succ, List.replicate_zero, List.nil_append, List.cons_append, List.append_nil, Nat.reduceSub, Nat.reduceAdd, setsD, zeros, stt, setsO, setsJ, List.foldl_cons, List.foldl_nil, List.set_cons_zero, List.set_cons_succ, demote]
      have i0 : dIx (mixD (cs.take k) c a j) (.int ((c + j : Nat) - (c : Nat) : Int)) = some (on (fw (cs.take k ++ [c]) j)) := by
        have e : ((c + j : Nat) - (c : Nat) : Int) = ((j : Nat) : Int) := by omega
        rw [e]
        refine (lst_ix (rng_at (fun w => on (mixT (cs.take k) c j w)) (show j < a + 1 by omega))).trans ?_
        unfold mixT
        rw [if_pos (by omega)]
      have i1 : dIx (mixD (cs.take k) c a j) (nat (c + j)) = some (on (fw (cs.take k) (c + j))) := by
        refine (lst_ix (rng_at (fun w => on (mixT (cs.take k) c j w)) (show c + j < a + 1 by omega))).trans ?_
        unfold mixT
        rw [if_neg (by omega)]
      have st := fw_ge (cs := cs.take k) (k := j) c0
      refine wp_seq (wp_set (d := on (fw (cs.take k ++ [c]) j)) ?_ (flat_on _) ?_)
      · simp only [eIx_a, eOp_a, eVar_0, eVar_s, o2_ss, nat, dSub_i]
        exact i0
      simp only [List.map_cons, List.map_nil, List.replicate_succ, List.replicate_zero, List.nil_append, List.cons_append, List.append_nil, Nat.reduceSub, Nat.reduceAdd, setsD, zeros, stt, setsO, setsJ, List.foldl_cons, List.foldl_nil, List.set_cons_zero, List.set_cons_succ, demote]
      generalize hb : fw (cs.take k ++ [c]) j = b at st
      generalize ho : fw (cs.take k) (c + j) = o at st i1
      have ixe : ∀ x6 : Option D, (eIx (eVar 2) (eVar 5)) [some ct, some (nat a), some (mixD (cs.take k) c a j), some (.list ((List.range (k + 1)).map fun t => tabD (cs.take t) a)), some (nat c), some (nat (c + j)), x6] = some (on o) := fun x6 => by
        simp only [eIx_a, eVar_0, eVar_s, o2_ss]
        exact i1
      have same : stepF o b = o → ∃ x5 x6, (([some ct, some (nat a), some (mixD (cs.take k) c a j), some (.list ((List.range (k + 1)).map fun t => tabD (cs.take t) a)), some (nat c), some (nat (c + j)), some (on b)], [0, 0, 1, 1, 0, 0, 0]) : S) = ([some ct, some (nat a), some (mixD (cs.take k) c a (j + 1)), some (.list ((List.range (k + 1)).map fun t => tabD (cs.take t) a)), some (nat c), x5, x6], [0, 0, 1, 1, 0, 0, 0]) := fun q => ⟨_, _, by rw [mix_same (by rw [st, q, ho])]⟩
      have put : ∀ {R' : D → Prop} {B' : S → Prop} (n : Nat), b = some n → stepF o b = some (n + 1) → WP (sPut 2 (eVar 5) (eOp dAdd (eVar 6) (eC (.int 1))) [(6, 1)]) ([some ct, some (nat a), some (mixD (cs.take k) c a j), some (.list ((List.range (k + 1)).map fun t => tabD (cs.take t) a)), some (nat c), some (nat (c + j)), some (on b)], [0, 0, 1, 1, 0, 0, 0]) (fun s => ∃ x5 x6, s = ([some ct, some (nat a), some (mixD (cs.take k) c a (j + 1)), some (.list ((List.range (k + 1)).map fun t => tabD (cs.take t) a)), some (nat c), x5, x6], [0, 0, 1, 1, 0, 0, 0])) R' B' (fun s => ∃ x5 x6, s = ([some ct, some (nat a), some (mixD (cs.take k) c a (j + 1)), some (.list ((List.range (k + 1)).map fun t => tabD (cs.take t) a)), some (nat c), x5, x6], [0, 0, 1, 1, 0, 0, 0])) := fun {R' B'} n hn q => by
        subst hn
        refine wp_put (d := nat (n + 1)) (x := ((c + j : Nat) : Int)) (m := c + j) (ds := (List.range (a + 1)).map fun w => on (mixT (cs.take k) c j w)) (by show o2 (some (nat n)) _ _ = _; (first | rfl | (simp only [eOp_a, eUn_a, eCB_a, aCons_a, aNil_a, eIx_a, eC_a, eVar_0, eVar_s, o2_ss, o1_s, d1_1, d2_2, eB_a, tCmp_a, tTru_a, tNotD_a, tIsND_a, tNotND_a, eIsN_a, eNotN_a, tTrue_a, iSeq_a, seqOf_l, seqOf_t, dAdd_i, dAddI_i, dSub_i, dNeg_i, dLt_i, dLe_i, dGt_i, dGe_i, dEq_i, dNe_i, dTru_b, dTru_i, dTru_l, dTru_t, dTru_n, isNon_n, isNon_b, isNon_i, isNon_s, isNon_l, isNon_t, dLen_l, dLen_t, dInt_i, dInt_b, dTuple_l, dTuple_t, dList_l, dList_t, eCall_1, eCall_2, eCall_3, eCall_4, eCall_5, eCall_6, eCall_7, nat] <;> rfl))) rfl rfl (ixN_n (by simp; omega)) rfl rfl ?_
        simp only [List.map_cons, List.map_nil, List.replicate_succ, List.replicate_zero, List.nil_append, List.cons_append, List.append_nil, Nat.reduceSub, Nat.reduceAdd, setsD, zeros, stt, setsO, setsJ, List.foldl_cons, List.foldl_nil, List.set_cons_zero, List.set_cons_succ, demote]
        have e := mix_put (cs := cs.take k) (c := c) (a := a) (k := j)
        rw [st, q] at e
        have e : (PyData.list (((List.range (a + 1)).map fun w => on (mixT (cs.take k) c j w)).set (c + j) (nat (n + 1)))) = _ := e
        rw [e]
        exact ⟨_, _, rfl⟩
      have t2 : (tIsND (eIx (eVar 2) (eVar 5))) [some ct, some (nat a), some (mixD (cs.take k) c a j), some (.list ((List.range (k + 1)).map fun t => tabD (cs.take t) a)), some (nat c), some (nat (c + j)), some (on b)] = some (isNon (on o)) := by
        unfold tIsND
        rw [ixe]
        rfl
      cases b with
      | none => exact wp_pass rfl (same (by cases o <;> rfl))
      | some n =>
        cases o with
        | none =>
          refine wp_ift ?_ (put n rfl rfl)
          unfold tAndD tOrD
          rw [t2]
          rfl
        | some m =>
          have t3 : (tCmp dLt (eOp dAdd (eVar 6) (eC (.int 1))) (eIx (eVar 2) (eVar 5))) [some ct, some (nat a), some (mixD (cs.take k) c a j), some (.list ((List.range (k + 1)).map fun t => tabD (cs.take t) a)), some (nat c), some (nat (c + j)), some (on (some n))] = some (decide (n + 1 < m)) := by
            rw [tCmp_a, ixe]
            show o2 (o2 (some (nat n)) (some (.int 1)) dAdd) (some (nat m)) dLt = _
            simp only [nat, o2_ss, dAdd_i, dLt_i]
            exact congrArg some (decide_eq_decide.mpr ⟨fun h => by omega, fun h => by omega⟩)
          refine wp_if (t := decide (n + 1 < m)) ?_ (fun h => put n rfl (if_pos (of_decide_eq_true h))) fun h => wp_nil (same (if_neg (of_decide_eq_false h)))
          unfold tAndD tOrD
          rw [t2]
          exact t3
    · rintro _ ⟨x5, x6, rfl⟩
      rw [mix_end (by rw [rng_len]; omega), ← tk]
      refine wp_appL (d := tabD (cs.take (k + 1)) a) (ds := (List.range (k + 1)).map fun t => tabD (cs.take t) a) (L' := [0, 0, 0, 1, 0, 0, 0]) rfl rfl rfl (by simp; omega) rfl rfl ?_
      simp only [List.map_cons, List.map_nil, List.replicate_succ, List.replicate_zero, List.nil_append, List.cons_append, List.append_nil, Nat.reduceSub, Nat.reduceAdd, setsD, zeros, stt, setsO, setsJ, List.foldl_cons, List.foldl_nil, List.set_cons_zero, List.set_cons_succ, demote]
      refine ⟨some (nat c), x5, x6, ?_⟩
      rw [List.range_succ (n := k + 1), List.map_append]
      rfl
  · rintro _ ⟨x4, x5, x6, rfl⟩
    refine wp_ret rfl ?_
    rw [List.length_map]
    rfl
end Lib
end

section
set_option Elab.async false
set_option linter.all false
set_option maxRecDepth 10000
/-! k25, part c: the least rows. -/
namespace Lib
open DS PySem
abbrev Desc (l : List Nat) : Prop := l.Pairwise fun a b => b ≤ a
def ins (c : Nat) : List Nat → List Nat
  | [] => [c]
  | y :: l => if y ≤ c then c :: y :: l else y :: ins c l
theorem ins_perm (c : Nat) : ∀ l, (ins c l).Perm (c :: l)
  | [] => .refl _
  | y :: l => by
    unfold ins
    split
    · exact .refl _
    · exact ((ins_perm c l).cons y).trans (.swap c y l)
theorem ins_desc {c : Nat} : ∀ {l : List Nat}, Desc l → Desc (ins c l)
  | [], _ => by simp [ins, Desc]
  | y :: l, h => by
    obtain ⟨h1, h2⟩ := List.pairwise_cons.mp h
    unfold ins
    split
    · rename_i q
      refine List.pairwise_cons.mpr ⟨fun z hz => ?_, h⟩
      rcases List.mem_cons.mp hz with e | e
      · rw [e]; exact q
      · have := h1 z e; omega
    · rename_i q
      refine List.pairwise_cons.mpr ⟨fun z hz => ?_, ins_desc h2⟩
      rcases List.mem_cons.mp ((ins_perm c l).mem_iff.mp hz) with e | e
      · rw [e]; omega
      · exact h1 z e
theorem ins_len (c : Nat) (l : List Nat) : (ins c l).length = l.length + 1 := by
  rw [(ins_perm c l).length_eq]; rfl
theorem desc_uniq : ∀ {a b : List Nat}, Desc a → Desc b → a.Perm b → a = b
  | [], b, _, _, p => by rw [List.nil_perm.mp p]
  | x :: a, [], _, _, p => absurd p.length_eq (by simp)
  | x :: a, y :: b, ha, hb, p => by
    obtain ⟨a1, a2⟩ := List.pairwise_cons.mp ha
    obtain ⟨b1, b2⟩ := List.pairwise_cons.mp hb
    have e : x = y := by
      have h1 : x ≤ y := by
        rcases List.mem_cons.mp (p.mem_iff.mp (.head _)) with q | q
        · omega
        · exact b1 x q
      have h2 : y ≤ x := by
        rcases List.mem_cons.mp (p.mem_iff.mpr (.head _)) with q | q
        · omega
        · exact a1 y q
      omega
    subst e
    rw [desc_uniq a2 b2 (List.Perm.cons_inv p)]
theorem ins_mono (c : Nat) : ∀ {r l : List Nat}, r.length = l.length → llt l r = false → llt (ins c l) (ins c r) = false
  | [], [], _, _ => llt_irrefl _
  | [], _ :: _, h, _ => by simp at h
  | _ :: _, [], h, _ => by simp at h
  | x :: r, y :: l, h, q => by
    have hl : r.length = l.length := by simpa using h
    unfold llt at q
    by_cases e : y = x
    · subst e
      rw [if_pos rfl] at q
      unfold ins
      split
      · unfold llt
        rw [if_pos rfl]
        unfold llt
        rw [if_pos rfl]
        exact q
      · unfold llt
        rw [if_pos rfl]
        exact ins_mono c hl q
    · rw [if_neg e] at q
      have q := of_decide_eq_false q
      unfold ins
      by_cases c1 : y ≤ c
      · rw [if_pos c1, if_pos (by omega)]
        unfold llt
        rw [if_pos rfl]
        unfold llt
        rw [if_neg e]
        exact decide_eq_false q
      · rw [if_neg c1]
        split
        · unfold llt
          rw [if_neg (by omega)]
          exact decide_eq_false (by omega)
        · unfold llt
          rw [if_neg e]
          exact decide_eq_false q
theorem slt_irr (a : List Nat) : slt a a = false := by unfold slt; rw [if_pos rfl, llt_irrefl]
theorem slt_tri {a b : List Nat} (h : slt a b = false) (h' : slt b a = false) : a = b := by
  unfold slt at h h'
  by_cases e : a.length = b.length
  · rw [if_pos e] at h
    rw [if_pos e.symm] at h'
    exact llt_tri a b h h'
  · rw [if_neg e] at h
    rw [if_neg (fun q => e q.symm)] at h'
    have := of_decide_eq_false h
    have := of_decide_eq_false h'
    omega
theorem slt_trans {a b c : List Nat} (h : slt a b = false) (h' : slt b c = false) : slt a c = false := by
  unfold slt at *
  by_cases e : a.length = b.length
  · rw [if_pos e] at h
    by_cases e2 : b.length = c.length
    · rw [if_pos e2] at h'
      rw [if_pos (by omega)]
      have t := lle_trans (a := c) (b := b) (c := a) (by unfold lle; rw [h']; rfl) (by unfold lle; rw [h]; rfl)
      unfold lle at t
      simpa using t
    · rw [if_neg e2] at h'
      rw [if_neg (by omega)]
      have := of_decide_eq_false h'
      exact decide_eq_false (by omega)
  · rw [if_neg e] at h
    have h := of_decide_eq_false h
    by_cases e2 : b.length = c.length
    · rw [if_neg (by omega)]
      exact decide_eq_false (by omega)
    · rw [if_neg e2] at h'
      have h' := of_decide_eq_false h'
      rw [if_neg (by omega)]
      exact decide_eq_false (by omega)
theorem slt_ins {c : Nat} {a b : List Nat} (h : slt a b = false) : slt (ins c a) (ins c b) = false := by
  unfold slt at *
  rw [ins_len, ins_len]
  by_cases e : a.length = b.length
  · rw [if_pos e] at h
    rw [if_pos (by omega)]
    exact ins_mono c e.symm h
  · rw [if_neg e] at h
    have h := of_decide_eq_false h
    rw [if_neg (by omega)]
    exact decide_eq_false (by omega)
/-- the least row of the sum a: fewest, then least -/
structure Best (cs : List Nat) (a : Nat) (r : List Nat) : Prop where
  rep : Rep cs r a
  desc : Desc r
  least : ∀ l, Rep cs l a → Desc l → slt l r = false
def IsL (cs : List Nat) (a : Nat) : Option (List Nat) → Prop
  | some r => Best cs a r
  | none => ∀ l, ¬ Rep cs l a
theorem IsL.uniq {cs : List Nat} {a : Nat} : ∀ {o o' : Option (List Nat)}, IsL cs a o → IsL cs a o' → o = o'
  | none, none, _, _ => rfl
  | some r, none, h, h' => absurd h.rep (h' r)
  | none, some r, h, h' => absurd h'.rep (h r)
  | some r, some r', h, h' => by rw [slt_tri (h'.least r h.rep h.desc) (h.least r' h'.rep h'.desc)]
def sortD (l : List Nat) : List Nat := l.foldr ins []
theorem sortD_perm : ∀ l : List Nat, (sortD l).Perm l
  | [] => .refl _
  | x :: l => (ins_perm x _).trans ((sortD_perm l).cons x)
theorem sortD_desc : ∀ l : List Nat, Desc (sortD l)
  | [] => .nil
  | x :: l => ins_desc (sortD_desc l)
theorem IsL.fw {cs : List Nat} {a : Nat} : ∀ {o : Option (List Nat)}, IsL cs a o → fw cs a = o.map (·.length)
  | none, h => fw_eq h
  | some r, h => fw_eq ⟨⟨r, h.rep, rfl⟩, fun l hl => by
    have := h.least (sortD l) (rep_perm (sortD_perm l).symm hl) (sortD_desc l)
    unfold slt at this
    have e := (sortD_perm l).length_eq
    show r.length ≤ l.length
    split at this
    · omega
    · have := of_decide_eq_false this
      omega⟩
theorem isL_0 {cs : List Nat} (hc : ∀ c ∈ cs, 0 < c) : IsL cs 0 (some []) := ⟨rep_nil cs, .nil, fun l hl _ => by
  cases l with
  | nil => rfl
  | cons x l =>
    have h1 := hl.2
    have h2 := hc x (hl.1 x (.head _))
    rw [List.sum_cons] at h1
    omega⟩
/-- what the coins looked at so far give -/
structure Cand (cs : List Nat) (f : Nat → Option (List Nat)) (a k : Nat) (o : Option (List Nat)) : Prop where
  from_ : ∀ r, o = some r → ∃ c ∈ cs, c ≤ a ∧ ∃ b, f (a - c) = some b ∧ r = ins c b
  low : ∀ c ∈ cs.take k, c ≤ a → ∀ b, f (a - c) = some b → ∃ r, o = some r ∧ slt (ins c b) r = false
theorem Cand.fin {cs : List Nat} {f : Nat → Option (List Nat)} {a : Nat} {o : Option (List Nat)} (h : Cand cs f a cs.length o) (hc : ∀ c ∈ cs, 0 < c) (ha : 0 < a) (hf : ∀ w, w < a → IsL cs w (f w)) : IsL cs a o := by
  have low := h.low
  rw [List.take_length] at low
  have pick : ∀ l, Rep cs l a → ∃ c ∈ l, c ∈ cs ∧ c ≤ a ∧ Rep cs (l.erase c) (a - c) ∧ ∃ b, f (a - c) = some b ∧ Best cs (a - c) b := fun l hl => by
    cases l with
    | nil => have := hl.2; simp at this; omega
    | cons c l =>
      obtain ⟨h1, h2, _⟩ := rep_erase (.head _) hl
      have hcs := hl.1 c (.head _)
      have hi := hf (a - c) (by have := hc c hcs; omega)
      refine ⟨c, .head _, hcs, h1, h2, ?_⟩
      cases e : f (a - c) with
      | none => rw [e] at hi; exact absurd h2 (hi _)
      | some b => rw [e] at hi; exact ⟨b, rfl, hi⟩
  cases o with
  | none =>
    intro l hl
    obtain ⟨c, _, hcs, h1, _, b, hb, _⟩ := pick l hl
    obtain ⟨r, e, _⟩ := low c hcs h1 b hb
    cases e
  | some r =>
    obtain ⟨c, hcs, hca, b, hb, rfl⟩ := h.from_ r rfl
    have hi := hf (a - c) (by have := hc c hcs; omega)
    rw [hb] at hi
    have hi : Best cs (a - c) b := hi
    refine ⟨rep_perm (ins_perm c b).symm ?_, ins_desc hi.desc, fun l hl hd => ?_⟩
    · have := rep_cons hcs hi.rep
      rw [Nat.sub_add_cancel hca] at this
      exact this
    · obtain ⟨c', hcl, hcs', hca', hr', b', hb', best'⟩ := pick l hl
      obtain ⟨r2, e2, q⟩ := low c' hcs' hca' b' hb'
      cases e2
      have d' : Desc (l.erase c') := hd.sublist List.erase_sublist
      have i := slt_ins (c := c') (best'.least _ hr' d')
      have e : ins c' (l.erase c') = l := desc_uniq (ins_desc d') hd ((ins_perm _ _).trans (List.perm_cons_erase hcl).symm)
      rw [e] at i
      exact slt_trans i q
end Lib
end

section
set_option Elab.async false
set_option linter.all false
set_option maxRecDepth 10000
/-! k25, part d: the law's tables. -/
namespace Lib
open DS PySem
def den__law_tables : Fn := dfun 9 2 (sSeq (sSet 2 1 (eLst (aCons (eTup (aCons (eC (.int 0)) (aCons (eTup aNil) aNil))) aNil)) (([] ++ ([] ++ [])) ++ []))
  (sSeq (sFor (iRange2 (eC (.int 1)) (eOp dAdd (eVar 1) (eC (.int 1)))) [] (.nm 3)
  (sSeq (sSet 4 0 (eC .none) [])
  (sSeq (sFor (iSeq (eVar 0)) [(0, 0)] (.nm 5)
  (sIf (tAndD (tCmp dLe (eVar 5) (eVar 3)) (tNotND (eIx (eVar 2) (eOp dSub (eVar 3) (eVar 5)))))
  (sSeq (sTup (.tp [(.nm 6), (.nm 7)]) (eIx (eVar 2) (eOp dSub (eVar 3) (eVar 5))) [(2, 1)])
  (sSeq (sSet 8 0 (eCB (d1 dTuple) (aCons (eOp dSortRvB (eOp dAdd (eVar 7) (eTup (aCons (eVar 5) aNil))) (eC (.bool true))) aNil)) ((([(7, 1)] ++ ([(5, 0)] ++ [])) ++ []) ++ []))
  (sIf (tOrD (tIsND (eVar 4)) (tCmp dLt (eTup (aCons (eOp dAdd (eVar 6) (eC (.int 1))) (aCons (eVar 8) aNil))) (eVar 4)))
  (sSet 4 0 (eTup (aCons (eOp dAdd (eVar 6) (eC (.int 1))) (aCons (eVar 8) aNil))) (([(6, 1)] ++ []) ++ ([(8, 0)] ++ [])))
  sNil)))
  sNil))
  (sApp 2 (eVar 4) [(4, 0)]))))
  (sRet (eVar 2))))
def osk : Option (List Nat) → D
  | none => .none
  | some r => skey r
theorem skey_flat (r : List Nat) : flat (skey r) = true := by
  have := nt_flat r
  unfold skey
  simp only [flat, flats, this, nat]
  rfl
theorem osk_flat : ∀ o, flat (osk o) = true
  | none => rfl
  | some r => skey_flat r
theorem dLt_skey (a b : List Nat) : dLt (skey a) (skey b) = some (slt a b) := by
  have h := allCmp_skey [a, b]
  have e : cmpOk (skey a) (skey b) = true := by
    have l : ∀ r : List Nat, (skey r).canLay0 = true := fun r => by
      unfold skey
      rw [PyData.canLay0, PyData.canLayAll0, PyData.canLayAll0, lay_nt]
      rfl
    have dp : (skey a).depth ≤ 60 := by
      have := depth_nt a
      simp only [skey, PyData.depth, PyData.depthAll, nat]
      omega
    have al : PySem.W.alike (skey a) (skey b) = true := by
      unfold skey
      rw [PySem.W.alike, PySem.W.alikeAll, PySem.W.alikeAll, alike_nt, PySem.W.alikeAll]
      simp [nat, PySem.W.alike]
    unfold cmpOk
    rw [l a, l b, al, decide_eq_true dp]
    rfl
  show (if cmpOk (skey a) (skey b) = true then some (PySem.W.dataLt (skey a) (skey b)) else none) = _
  rw [if_pos e, dataLt_skey]
def dnN (l : List Nat) : List Nat := l.mergeSort fun a b => decide (b ≤ a)
theorem dnN_desc (l : List Nat) : Desc (dnN l) := (List.pairwise_mergeSort (le := fun a b => decide (b ≤ a)) (fun a b c h h' => by
  have := of_decide_eq_true h; have := of_decide_eq_true h'; exact decide_eq_true (by omega)) (fun a b => by
  rw [Bool.or_eq_true]
  by_cases h : b ≤ a
  · exact .inl (decide_eq_true h)
  · exact .inr (decide_eq_true (by omega))) l).imp fun h => of_decide_eq_true h
theorem dnN_eq {l r : List Nat} (h : Desc r) (p : r.Perm l) : dnN l = r := desc_uniq (dnN_desc l) h ((List.mergeSort_perm _ _).trans p.symm)
theorem allCmp_nats (l : List Nat) : allCmp (l.map nat) = true := by
  refine allCmp_map ?_ ?_ ?_ ?_
  · intro a _; simp [PyData.canLay0, nat]
  · intro a _; simp [PyData.depth, nat]
  · intro a _; rfl
  · intro a _ b _; simp [PySem.W.alike, nat]
theorem dSortRvB_nt (l : List Nat) : dSortRvB (nt l) (.bool true) = some (.list ((dnN l).map nat)) := by
  show (if allCmp (l.map nat) = true then some (PyData.list ((l.map nat).mergeSort geD)) else none) = _
  rw [if_pos (allCmp_nats l)]
  unfold dnN
  refine congrArg (fun x => some (PyData.list x)) (List.map_mergeSort fun a _ b _ => ?_).symm
  unfold geD nat
  rw [PySem.W.dataLt_int, ← decide_not, decide_eq_decide]
  omega
theorem ltab_ok {cs : List Nat} {m : Nat} (hc : ∀ c ∈ cs, 0 < c ∧ c ≤ 1000) (hm : m ≤ 1000) : ∃ d, den__law_tables [nt cs, nat m] = some d ∧ ∃ f : Nat → Option (List Nat), (∀ w, w ≤ m → IsL cs w (f w)) ∧ d = .list ((List.range (m + 1)).map fun w => osk (f w)) := by
  have hc0 : ∀ c ∈ cs, 0 < c := fun c h => (hc c h).1
  refine dfun_wpE rfl ?_
  simp only [List.map_cons, List.map_nil, List.replicate_succ, List.replicate_zero, List.nil_append, List.cons_append, List.append_nil, Nat.reduceSub, Nat.reduceAdd, setsD, zeros, stt, setsO, setsJ, List.foldl_cons, List.foldl_nil, List.set_cons_zero, List.set_cons_succ, demote]
  refine wp_seq (wp_setL (d := .list [skey []]) (L' := [0, 0, 1, 0, 0, 0, 0, 0, 0]) (eLst_1 (eTup_2 rfl rfl)) rfl rfl ?_)
  simp only [List.map_cons, List.map_nil, List.replicate_succ, List.replicate_zero, List.nil_append, List.cons_append, List.append_nil, Nat.reduceSub, Nat.reduceAdd, setsD, zeros, stt, setsO, setsJ, List.foldl_cons, List.foldl_nil, List.set_cons_zero, List.set_cons_succ, demote]
  refine wp_seq ?_
  refine wp_for (ds := rngD 1 (m + 1 - 1 : Int).toNat) (P := fun k s => ∃ (f : Nat → Option (List Nat)) (x3 x4 x5 x6 x7 x8 : Option D), (∀ w, w < k + 1 → IsL cs w (f w)) ∧ s = ([some (nt cs), some (nat m), some (.list ((List.range (k + 1)).map fun w => osk (f w))), x3, x4, x5, x6, x7, x8], [0, 0, 1, 0, 0, 0, 0, 0, 0])) (range2_ok (i := 1) (j := (m : Int) + 1) rfl (by (first | rfl | (simp only [eOp_a, eUn_a, eCB_a, aCons_a, aNil_a, eIx_a, eC_a, eVar_0, eVar_s, o2_ss, o1_s, d1_1, d2_2, eB_a, tCmp_a, tTru_a, tNotD_a, tIsND_a, tNotND_a, eIsN_a, eNotN_a, tTrue_a, iSeq_a, seqOf_l, seqOf_t, dAdd_i, dAddI_i, dSub_i, dNeg_i, dLt_i, dLe_i, dGt_i, dGe_i, dEq_i, dNe_i, dTru_b, dTru_i, dTru_l, dTru_t, dTru_n, isNon_n, isNon_b, isNon_i, isNon_s, isNon_l, isNon_t, dLen_l, dLen_t, dInt_i, dInt_b, dTuple_l, dTuple_t, dList_l, dList_t, eCall_1, eCall_2, eCall_3, eCall_4, eCall_5, eCall_6, eCall_7, nat] <;> rfl))) (by omega) (by omega) (by omega) (by omega)) ⟨fun _ => some [], none, none, none, none, none, none, fun w hw => by
    have : w = 0 := by omega
    subst this
    exact isL_0 hc0, rfl⟩ ?_ ?_
  · rintro k d _ hdk ⟨f, x3, x4, x5, x6, x7, x8, hf, rfl⟩
    obtain ⟨hk, rfl⟩ := rng_get hdk
    have hkm : k + 1 ≤ m := by omega
    have ek : (1 : Int) + k = ((k + 1 : Nat) : Int) := by omega
    rw [ek]
    refine ⟨[(3, nat (k + 1))], rfl, ?_⟩
    simp only [List.map_cons, List.map_nil, List.replicate_succ, List.replicate_zero, List.nil_append, List.cons_append, List.append_nil, Nat.reduceSub, Nat.reduceAdd, setsD, zeros, stt, setsO, setsJ, List.foldl_cons, List.foldl_nil, List.set_cons_zero, List.set_cons_succ, demote]
    refine wp_seq (wp_set (d := .none) rfl rfl ?_)
    simp only [List.map_cons, List.map_nil, List.replicate_succ, List.replicate_zero, List.nil_append, List.cons_append, List.append_nil, Nat.reduceSub, Nat.reduceAdd, setsD, zeros, stt, setsO, setsJ, List.foldl_cons, List.foldl_nil, List.set_cons_zero, List.set_cons_succ, demote]
    refine wp_seq ?_
    refine wp_for (ds := cs.map nat) (P := fun j s => ∃ (o : Option (List Nat)) (x5 x6 x7 x8 : Option D), Cand cs f (k + 1) j o ∧ s = ([some (nt cs), some (nat m), some (.list ((List.range (k + 1)).map fun w => osk (f w))), some (nat (k + 1)), some (osk o), x5, x6, x7, x8], [0, 0, 1, 0, 0, 0, 0, 0, 0])) (by (first | rfl | (simp only [eOp_a, eUn_a, eCB_a, aCons_a, aNil_a, eIx_a, eC_a, eVar_0, eVar_s, o2_ss, o1_s, d1_1, d2_2, eB_a, tCmp_a, tTru_a, tNotD_a, tIsND_a, tNotND_a, eIsN_a, eNotN_a, tTrue_a, iSeq_a, seqOf_l, seqOf_t, dAdd_i, dAddI_i, dSub_i, dNeg_i, dLt_i, dLe_i, dGt_i, dGe_i, dEq_i, dNe_i, dTru_b, dTru_i, dTru_l, dTru_t, dTru_n, isNon_n, isNon_b, isNon_i, isNon_s, isNon_l, isNon_t, dLen_l, dLen_t, dInt_i, dInt_b, dTuple_l, dTuple_t, dList_l, dList_t, eCall_1, eCall_2, eCall_3, eCall_4, eCall_5, eCall_6, eCall_7, nt_seq] <;> rfl))) ⟨none, x5, x6, x7, x8, ⟨fun r h => (by cases h), fun c h => absurd h (by simp)⟩, rfl⟩ ?_ ?_
    · rintro j d _ hdj ⟨o, x5, x6, x7, x8, hcd, rfl⟩
      rw [List.getElem?_map] at hdj
      obtain ⟨c, hj, rfl⟩ := Option.map_eq_some_iff.mp hdj
      have hcs := List.mem_of_getElem? hj
      obtain ⟨c0, c1⟩ := hc c hcs
      have tk : cs.take (j + 1) = cs.take j ++ [c] := by rw [List.take_add_one, hj]; rfl
      refine ⟨[(5, nat c)], rfl, ?_⟩
      simp only [List.map_cons, List.map_nil, List.replicate_succ, List.replicate_zero, List.nil_append, List.cons_append, List.append_nil, Nat.reduceSub, Nat.reduceAdd, setsD, zeros, stt, setsO, setsJ, List.foldl_cons, List.foldl_nil, List.set_cons_zero, List.set_cons_succ, demote]
      by_cases hca : c ≤ k + 1
      · have ix : ∀ y6 y7 y8 : Option D, (eIx (eVar 2) (eOp dSub (eVar 3) (eVar 5))) [some (nt cs), some (nat m), some (.list ((List.range (k + 1)).map fun w => osk (f w))), some (nat (k + 1)), some (osk o), some (nat c), y6, y7, y8] = some (osk (f (k + 1 - c))) := fun y6 y7 y8 => by
          simp only [eIx_a, eOp_a, eVar_0, eVar_s, o2_ss, nat, dSub_i]
          have e : (((k + 1 : Nat) : Int) - (c : Int)) = ((k + 1 - c : Nat) : Int) := by omega
          rw [e]
          exact lst_ix (rng_at (fun w => osk (f w)) (by omega))
        have t1 : (tCmp dLe (eVar 5) (eVar 3)) [some (nt cs), some (nat m), some (.list ((List.range (k + 1)).map fun w => osk (f w))), some (nat (k + 1)), some (osk o), some (nat c), x6, x7, x8] = some true := by
          simp only [tCmp_a, eVar_0, eVar_s, o2_ss, nat, dLe_i]
          exact congrArg some (decide_eq_true (by omega))
        have t2 : (tAndD (tCmp dLe (eVar 5) (eVar 3)) (tNotND (eIx (eVar 2) (eOp dSub (eVar 3) (eVar 5))))) [some (nt cs), some (nat m), some (.list ((List.range (k + 1)).map fun w => osk (f w))), some (nat (k + 1)), some (osk o), some (nat c), x6, x7, x8] = some (!isNon (osk (f (k + 1 - c)))) := by
          unfold tAndD tNotND
          rw [t1, ix]
          rfl
        cases hb : f (k + 1 - c) with
        | none =>
          rw [hb] at t2
          refine wp_pass t2 ⟨o, _, _, _, _, ⟨hcd.from_, fun c' hc' hca' b hb' => ?_⟩, rfl⟩
          rw [tk] at hc'
          rcases List.mem_append.mp hc' with h | h
          · exact hcd.low c' h hca' b hb'
          · have e : c' = c := by simpa using h
            subst e
            rw [hb] at hb'
            cases hb'
        | some b =>
          rw [hb] at t2 ix
          have hbest : Best cs (k + 1 - c) b := by
            have := hf (k + 1 - c) (by omega)
            rw [hb] at this
            exact this
          have blen : b.length ≤ 1000 := by
            have h1 := hbest.rep
            have : ∀ l : List Nat, (∀ x ∈ l, 0 < x) → l.length ≤ l.sum := fun l => by
              induction l with
              | nil => intro _; simp
              | cons x l ih =>
                intro h
                have := ih fun y hy => h y (.tail _ hy)
                have := h x (.head _)
                rw [List.length_cons, List.sum_cons]
                omega
            have := this b fun x hx => hc0 x (h1.1 x hx)
            have := h1.2
            omega
          refine wp_ift t2 ?_
          refine wp_seq (wp_tup (d := skey b) (m := [(6, nat b.length), (7, nt b)]) (ix _ _ _) rfl (skey_flat b) ?_)
          simp only [List.map_cons, List.map_nil, List.replicate_succ, List.replicate_zero, List.nil_append, List.cons_append, List.append_nil, Nat.reduceSub, Nat.reduceAdd, setsD, zeros, stt, setsO, setsJ, List.foldl_cons, List.foldl_nil, List.set_cons_zero, List.set_cons_succ, demote]
          refine wp_seq (wp_set (d := nt (ins c b)) (tup_of ?_) (nt_flat _) ?_)
          · have a1 : dAdd (nt b) (.tuple [nat c]) = some (nt (b ++ [c])) := by
              unfold nt
              rw [dAdd_tt (by simp; omega), List.map_append]
              rfl
            have a2 := dSortRvB_nt (b ++ [c])
            rw [dnN_eq (r := ins c b) (ins_desc hbest.desc) ((ins_perm c b).trans (List.perm_append_comm (l₁ := [c])))] at a2
            rw [eOp_a, eOp_a, eTup_1 (x := nat c) rfl]
            simp only [eVar_0, eVar_s, eC_a, o2_ss, a1]
            exact a2
          simp only [List.map_cons, List.map_nil, List.replicate_succ, List.replicate_zero, List.nil_append, List.cons_append, List.append_nil, Nat.reduceSub, Nat.reduceAdd, setsD, zeros, stt, setsO, setsJ, List.foldl_cons, List.foldl_nil, List.set_cons_zero, List.set_cons_succ, demote]
          have et : ∀ x7 : Option D, (eTup (aCons (eOp dAdd (eVar 6) (eC (.int 1))) (aCons (eVar 8) aNil))) [some (nt cs), some (nat m), some (.list ((List.range (k + 1)).map fun w => osk (f w))), some (nat (k + 1)), some (osk o), some (nat c), some (nat b.length), x7, some (nt (ins c b))] = some (skey (ins c b)) := fun x7 => by
            unfold skey
            rw [ins_len]
            exact eTup_2 (by (first | rfl | (simp only [eOp_a, eUn_a, eCB_a, aCons_a, aNil_a, eIx_a, eC_a, eVar_0, eVar_s, o2_ss, o1_s, d1_1, d2_2, eB_a, tCmp_a, tTru_a, tNotD_a, tIsND_a, tNotND_a, eIsN_a, eNotN_a, tTrue_a, iSeq_a, seqOf_l, seqOf_t, dAdd_i, dAddI_i, dSub_i, dNeg_i, dLt_i, dLe_i, dGt_i, dGe_i, dEq_i, dNe_i, dTru_b, dTru_i, dTru_l, dTru_t, dTru_n, isNon_n, isNon_b, isNon_i, isNon_s, isNon_l, isNon_t, dLen_l, dLen_t, dInt_i, dInt_b, dTuple_l, dTuple_t, dList_l, dList_t, eCall_1, eCall_2, eCall_3, eCall_4, eCall_5, eCall_6, eCall_7, nat] <;> rfl))) rfl
          have good : ∀ r, (r = ins c b ∨ (o = some r ∧ slt (ins c b) r = false)) → (∀ r', o = some r' → slt r' r = false) → Cand cs f (k + 1) (j + 1) (some r) := fun r h1 h2 => by
            refine ⟨fun r2 e => ?_, fun c' hc' hca' b2 hb' => ?_⟩
            · cases e
              rcases h1 with h | ⟨h, _⟩
              · exact ⟨c, hcs, hca, b, hb, h⟩
              · exact hcd.from_ r h
            · rw [tk] at hc'
              rcases List.mem_append.mp hc' with h | h
              · obtain ⟨r2, e2, q2⟩ := hcd.low c' h hca' b2 hb'
                exact ⟨r, rfl, slt_trans q2 (h2 r2 e2)⟩
              · have e : c' = c := by simpa using h
                subst e
                rw [hb] at hb'
                cases hb'
                rcases h1 with h | ⟨_, h⟩
                · exact ⟨r, rfl, by rw [h]; exact slt_irr _⟩
                · exact ⟨r, rfl, h⟩
          cases o with
          | none =>
            refine wp_ift (by unfold tOrD; rfl) (wp_set (d := skey (ins c b)) (et _) (skey_flat _) ?_)
            simp only [List.map_cons, List.map_nil, List.replicate_succ, List.replicate_zero, List.nil_append, List.cons_append, List.append_nil, Nat.reduceSub, Nat.reduceAdd, setsD, zeros, stt, setsO, setsJ, List.foldl_cons, List.foldl_nil, List.set_cons_zero, List.set_cons_succ, demote]
            exact ⟨some (ins c b), _, _, _, _, good _ (.inl rfl) (fun r h => by cases h), rfl⟩
          | some r =>
            have t3 : (tOrD (tIsND (eVar 4)) (tCmp dLt (eTup (aCons (eOp dAdd (eVar 6) (eC (.int 1))) (aCons (eVar 8) aNil))) (eVar 4))) [some (nt cs), some (nat m), some (.list ((List.range (k + 1)).map fun w => osk (f w))), some (nat (k + 1)), some (osk (some r)), some (nat c), some (nat b.length), some (nt b), some (nt (ins c b))] = some (slt (ins c b) r) := by
              have z : (tIsND (eVar 4)) [some (nt cs), some (nat m), some (.list ((List.range (k + 1)).map fun w => osk (f w))), some (nat (k + 1)), some (osk (some r)), some (nat c), some (nat b.length), some (nt b), some (nt (ins c b))] = some false := rfl
              unfold tOrD
              rw [z, tCmp_a, et]
              show o2 (some (skey (ins c b))) (some (skey r)) dLt = _
              rw [o2_ss, dLt_skey]
            refine wp_if t3 (fun h => ?_) fun h => ?_
            · refine wp_set (d := skey (ins c b)) (et _) (skey_flat _) ?_
              simp only [List.map_cons, List.map_nil, List.replicate_succ, List.replicate_zero, List.nil_append, List.cons_append, List.append_nil, Nat.reduceSub, Nat.reduceAdd, setsD, zeros, stt, setsO, setsJ, List.foldl_cons, List.foldl_nil, List.set_cons_zero, List.set_cons_succ, demote]
              refine ⟨some (ins c b), _, _, _, _, good _ (.inl rfl) (fun r' e => ?_), rfl⟩
              cases e
              by_cases q : slt r (ins c b) = true
              · have : slt r r = false ∨ True := .inr trivial
                unfold slt at h q
                by_cases e : (ins c b).length = r.length
                · rw [if_pos e] at h
                  rw [if_pos e.symm] at q
                  have := llt_trans h q
                  rw [llt_irrefl] at this
                  cases this
                · rw [if_neg e] at h
                  rw [if_neg (fun z => e z.symm)] at q
                  have := of_decide_eq_true h
                  have := of_decide_eq_true q
                  omega
              · simpa using q
            · exact wp_nil ⟨some r, _, _, _, _, good r (.inr ⟨rfl, h⟩) (fun r' e => by cases e; exact slt_irr r), rfl⟩
      · have t1 : (tAndD (tCmp dLe (eVar 5) (eVar 3)) (tNotND (eIx (eVar 2) (eOp dSub (eVar 3) (eVar 5))))) [some (nt cs), some (nat m), some (.list ((List.range (k + 1)).map fun w => osk (f w))), some (nat (k + 1)), some (osk o), some (nat c), x6, x7, x8] = some false := by
          have : (tCmp dLe (eVar 5) (eVar 3)) [some (nt cs), some (nat m), some (.list ((List.range (k + 1)).map fun w => osk (f w))), some (nat (k + 1)), some (osk o), some (nat c), x6, x7, x8] = some false := by
            simp only [tCmp_a, eVar_0, eVar_s, o2_ss, nat, dLe_i]
            exact congrArg some (decide_eq_false (by omega))
          unfold tAndD
          rw [this]
        refine wp_pass t1 ⟨o, _, _, _, _, ⟨hcd.from_, fun c' hc' hca' b hb' => ?_⟩, rfl⟩
        rw [tk] at hc'
        rcases List.mem_append.mp hc' with h | h
        · exact hcd.low c' h hca' b hb'
        · have e : c' = c := by simpa using h
          subst e
          exact absurd hca' hca
    · rintro _ ⟨o, x5, x6, x7, x8, hcd, rfl⟩
      rw [List.length_map] at hcd
      have il := hcd.fin hc0 (by omega) hf
      refine wp_app (d := osk o) (ds := (List.range (k + 1)).map fun w => osk (f w)) rfl rfl (osk_flat o) (by simp; omega) rfl ?_
      simp only [List.map_cons, List.map_nil, List.replicate_succ, List.replicate_zero, List.nil_append, List.cons_append, List.append_nil, Nat.reduceSub, Nat.reduceAdd, setsD, zeros, stt, setsO, setsJ, List.foldl_cons, List.foldl_nil, List.set_cons_zero, List.set_cons_succ, demote]
      refine ⟨fun w => if w = k + 1 then o else f w, some (nat (k + 1)), some (osk o), x5, x6, x7, x8, fun w hw => ?_, ?_⟩
      · dsimp only
        by_cases e : w = k + 1
        · rw [if_pos e, e]; exact il
        · rw [if_neg e]; exact hf w (by omega)
      · have e : (List.range (k + 1 + 1)).map (fun w => osk (if w = k + 1 then o else f w)) = (List.range (k + 1)).map (fun w => osk (f w)) ++ [osk o] := by
          rw [List.range_succ (n := k + 1), List.map_append]
          refine congr (congrArg _ (List.map_congr_left fun w hw => ?_)) (by simp)
          have := List.mem_range.mp hw
          rw [if_neg (by omega)]
        rw [e]
  · rintro _ ⟨f, x3, x4, x5, x6, x7, x8, hf, rfl⟩
    have e : (rngD 1 (m + 1 - 1 : Int).toNat).length = m := by rw [rng_len]; omega
    rw [e] at hf ⊢
    exact wp_ret rfl ⟨f, fun w hw => hf w (by omega), rfl⟩
end Lib
end

section
set_option Elab.async false
set_option linter.all false
set_option maxRecDepth 10000
/-! k25, part e: best_change. -/
namespace Lib
open DS PySem
def den_best_change : Fn := dfun 8 2 (sSeq (sSet 2 0 (eCB (d1 dSortSet) (aCons (eVar 0) aNil)) ([(0, 1)] ++ []))
  (sSeq (sSet 3 0 (eCall 2 den_coin_tables (aCons (eVar 2) (aCons (eVar 1) aNil))) ([(2, 0)] ++ ([(1, 0)] ++ [])))
  (sSeq (sSet 4 0 (eIx (eIx (eVar 3) (eUn dNeg (eC (.int 1)))) (eVar 1)) [(3, 2)])
  (sSeq (sIf (tIsND (eVar 4))
  (sRet (eC .none))
  sNil)
  (sSeq (sSet 5 1 (eLst aNil) [])
  (sSeq (sFor (iRange3 (eVar 4) (eC (.int 0)) (eUn dNeg (eC (.int 1)))) [] (.nm 6)
  (sSeq (sSet 7 0 (eC (.int 0)) [])
  (sSeq (sWhile 100000 (tCmp dNe (eIx (eIx (eVar 3) (eVar 7)) (eVar 1)) (eVar 6))
  (sAug 7 dAddI (eC (.int 1))))
  (sSeq (sApp 5 (eIx (eVar 2) (eOp dSub (eVar 7) (eC (.int 1)))) [(2, 1)])
  (sAug 1 dSub (eIx (eVar 2) (eOp dSub (eVar 7) (eC (.int 1)))))))))
  (sRet (eTup (aCons (eVar 4) (aCons (eCB (d1 dTuple) (aCons (eVar 5) aNil)) aNil))))))))))
/-- the coins, rising -/
def srtN (cs : List Nat) : List Nat := (srtI (cs.map fun c : Nat => (c : Int))).map Int.toNat
theorem srtN_cast (cs : List Nat) : (srtN cs).map (fun c : Nat => (c : Int)) = srtI (cs.map fun c : Nat => (c : Int)) := by
  unfold srtN
  rw [List.map_map]
  conv => rhs; rw [← List.map_id (srtI (cs.map fun c : Nat => (c : Int)))]
  refine List.map_congr_left fun x hx => ?_
  obtain ⟨c, _, rfl⟩ := List.mem_map.mp (mem_srtI.mp hx)
  simp
theorem mem_srtN {c : Nat} {cs : List Nat} : c ∈ srtN cs ↔ c ∈ cs := by
  have h : (c : Int) ∈ (srtN cs).map (fun c : Nat => (c : Int)) ↔ c ∈ srtN cs := by
    constructor
    · intro h
      obtain ⟨x, hx, e⟩ := List.mem_map.mp h
      have : x = c := by omega
      rw [← this]; exact hx
    · exact fun h => List.mem_map.mpr ⟨c, h, rfl⟩
  rw [← h, srtN_cast, mem_srtI]
  constructor
  · intro h
    obtain ⟨x, hx, e⟩ := List.mem_map.mp h
    have : x = c := by omega
    rw [← this]; exact hx
  · exact fun h => List.mem_map.mpr ⟨c, h, rfl⟩
theorem srtN_up (cs : List Nat) : (srtN cs).Pairwise (· < ·) := by
  have h := srtI_up (cs.map fun c : Nat => (c : Int))
  rw [← srtN_cast, List.pairwise_map] at h
  exact h.imp fun h => by omega
theorem srtN_len (cs : List Nat) : (srtN cs).length ≤ cs.length := by
  have nd : (srtN cs).Nodup := (srtN_up cs).imp fun h => Nat.ne_of_lt h
  exact nd.length_le_of_subset fun x hx => mem_srtN.mp hx
theorem intsD_nats (l : List Nat) : intsD (l.map nat) = some (l.map fun c : Nat => (c : Int)) := by
  have := intsD_map (l.map fun c => ((c : Nat) : Int))
  rw [List.map_map] at this
  exact this
theorem sortSet_ok {cs : List Nat} (h : cs.length < 60) : dSortSet (nt cs) = some (.list ((srtN cs).map nat)) := by
  show o1 (intsD (cs.map nat)) (fun is => if is.length < 60 then some (PyData.list ((srtI is).map PyData.int)) else none) = _
  rw [intsD_nats, o1_s, if_pos (by simpa using h), ← srtN_cast, List.map_map]
  rfl
theorem rep_congr {cs ds : List Nat} (h : ∀ c, c ∈ cs ↔ c ∈ ds) {l : List Nat} {a : Nat} : Rep cs l a ↔ Rep ds l a := ⟨fun r => rep_mono r fun x hx => (h x).mp hx, fun r => rep_mono r fun x hx => (h x).mpr hx⟩
theorem isL_congr {cs ds : List Nat} (h : ∀ c, c ∈ cs ↔ c ∈ ds) {a : Nat} : ∀ {o : Option (List Nat)}, IsL cs a o → IsL ds a o
  | none, q => fun l hl => q l ((rep_congr h).mpr hl)
  | some r, q => ⟨(rep_congr h).mp q.rep, q.desc, fun l hl hd => q.least l ((rep_congr h).mpr hl) hd⟩
theorem row_at {cs : List Nat} {a t : Nat} (h : t ≤ cs.length) : dIx (tabsD cs a) (nat t) = some (tabD (cs.take t) a) := lst_ix (rng_at (fun t => tabD (cs.take t) a) (by omega))
theorem cell_at {cs : List Nat} {a w : Nat} (h : w ≤ a) : dIx (tabD cs a) (nat w) = some (on (fw cs w)) := lst_ix (rng_at (fun w => on (fw cs w)) (by omega))
theorem row_last (cs : List Nat) (a : Nat) : dIx (tabsD cs a) (.int (-1)) = some (tabD cs a) := by
  show L2.atI ((List.range (cs.length + 1)).map fun t => tabD (cs.take t) a) (-1) = _
  have e : L2.ixN (cs.length + 1) (-1) = some cs.length := by
    unfold L2.ixN
    rw [if_neg (by decide), if_pos (by omega)]
    congr 1
    omega
  unfold L2.atI
  rw [List.length_map, List.length_range, e]
  show ((List.range (cs.length + 1)).map fun t => tabD (cs.take t) a)[cs.length]? = _
  rw [rng_at (fun t => tabD (cs.take t) a) (by omega), List.take_length]
theorem dNe_on (o : Option Nat) (k : Nat) : dNe (on o) (nat k) = some (!decide (o = some k)) := by
  cases o with
  | none => rfl
  | some m =>
    show dNe (.int m) (.int k) = _
    rw [dNe_i]
    congr 1
    by_cases h : m = k
    · subst h; simp
    · simp [h]
      omega
theorem fw_len {cs r : List Nat} {a : Nat} (h : Best cs a r) : fw cs a = some r.length := IsL.fw (o := some r) h
/-- the last coin that a fewest row needs -/
theorem cut {as : List Nat} {a k p : Nat} (up : as.Pairwise (· < ·)) (h0 : ∀ c ∈ as, 0 < c) (hp : p < as.length) (hk : fw as a = some (k + 1)) (h1 : fw (as.take (p + 1)) a = some (k + 1)) (h2 : fw (as.take p) a ≠ some (k + 1)) :
    as[p] ≤ a ∧ fw as (a - as[p]) = some k ∧ ∀ t, Best as (a - as[p]) t → Best as a (as[p] :: t) := by
  have inAs : ∀ q x, x ∈ as.take q → x ∈ as := fun q x hx => List.mem_of_mem_take hx
  have no : ∀ l, Rep (as.take p) l a → l.length ≠ k + 1 := fun l hl e => by
    obtain ⟨j, hj, hle⟩ := fw_le hl
    have : k + 1 ≤ j := by
      obtain ⟨⟨l2, g1, g2⟩, _⟩ := fw_some hj
      rw [← g2]
      exact (fw_some hk).2 l2 (rep_mono g1 (inAs p))
    have : j = k + 1 := by omega
    rw [this] at hj
    exact h2 hj
  have tk : as.take (p + 1) = as.take p ++ [as[p]] := by rw [List.take_add_one, List.getElem?_eq_getElem hp]; rfl
  have lt : ∀ x ∈ as, x < as[p] → x ∈ as.take p := fun x hx hlt => by
    obtain ⟨i, hi, rfl⟩ := List.getElem_of_mem hx
    have : i < p := by
      rcases Nat.lt_or_ge i p with h | h
      · exact h
      · rcases Nat.lt_or_eq_of_le h with h | h
        · have := List.pairwise_iff_getElem.mp up p i hp hi h
          omega
        · subst h; omega
    rw [List.mem_take_iff_getElem]
    exact ⟨i, by omega, rfl⟩
  have le : ∀ x ∈ as.take (p + 1), x ≤ as[p] := fun x hx => by
    obtain ⟨i, hi, rfl⟩ := List.mem_take_iff_getElem.mp hx
    rcases Nat.lt_or_ge i p with h | h
    · have := List.pairwise_iff_getElem.mp up i p (by omega) hp h
      omega
    · have : i = p := by omega
      subst this
      exact Nat.le_refl _
  obtain ⟨⟨l, g1, g2⟩, _⟩ := fw_some h1
  have cin : as[p] ∈ l := by
    by_cases h : as[p] ∈ l
    · exact h
    · refine absurd g2 (no l ⟨fun x hx => ?_, g1.2⟩)
      have := g1.1 x hx
      rw [tk] at this
      rcases List.mem_append.mp this with e | e
      · exact e
      · have e : x = as[p] := by simpa using e
        subst e
        exact absurd hx h
  obtain ⟨e1, e2, e3⟩ := rep_erase cin g1
  have r2 : Rep as (l.erase as[p]) (a - as[p]) := rep_mono e2 (inAs _)
  have hin : as[p] ∈ as := List.getElem_mem hp
  have fk : fw as (a - as[p]) = some k := fw_eq ⟨⟨_, r2, by omega⟩, fun l' hl' => by
    have := rep_cons hin hl'
    rw [Nat.sub_add_cancel e1] at this
    have := (fw_some hk).2 _ this
    rw [List.length_cons] at this
    omega⟩
  refine ⟨e1, fk, fun t ht => ?_⟩
  have tl : t.length = k := by
    have := fw_len ht
    rw [fk] at this
    exact (Option.some.inj this).symm
  have hd1 : ∀ x ∈ t, x ≤ as[p] := fun x hx => by
    have q := ht.least (sortD (l.erase as[p])) (rep_perm (sortD_perm _).symm r2) (sortD_desc _)
    have ln := (sortD_perm (l.erase as[p])).length_eq
    unfold slt at q
    rw [if_pos (by omega)] at q
    have mem : ∀ y ∈ sortD (l.erase as[p]), y ≤ as[p] := fun y hy => le y (e2.1 y ((sortD_perm _).mem_iff.mp hy))
    generalize sortD (l.erase as[p]) = u at q ln mem
    match t, u, tl with
    | y :: t, [], hh => rw [List.length_nil] at ln; rw [List.length_cons] at hh; omega
    | y :: t, z :: u, _ =>
      have hyz : y ≤ z := by
        unfold llt at q
        by_cases e : z = y
        · omega
        · rw [if_neg e] at q
          have := of_decide_eq_false q
          omega
      have hz := mem z (.head _)
      rcases List.mem_cons.mp hx with e | e
      · omega
      · have := (List.pairwise_cons.mp ht.desc).1 x e
        omega
  refine ⟨by have := rep_cons hin ht.rep; rw [Nat.sub_add_cancel e1] at this; exact this, List.pairwise_cons.mpr ⟨hd1, ht.desc⟩, fun u hu hd => ?_⟩
  have ul := (fw_some hk).2 u hu
  unfold slt
  by_cases e : u.length = (as[p] :: t).length
  · rw [if_pos e]
    match u, hu, hd, ul, e with
    | h :: u, hu, hd, ul, e =>
      have e : u.length = t.length := by simpa using e
      obtain ⟨d1, d2⟩ := List.pairwise_cons.mp hd
      unfold llt
      by_cases c1 : h = as[p]
      · rw [if_pos c1]
        have ru : Rep as u (a - as[p]) := ⟨fun x hx => hu.1 x (.tail _ hx), by have := hu.2; rw [List.sum_cons] at this; omega⟩
        have := ht.least u ru d2
        unfold slt at this
        rw [if_pos e] at this
        exact this
      · rw [if_neg c1]
        refine decide_eq_false fun hlt => ?_
        refine no (h :: u) ⟨fun x hx => ?_, hu.2⟩ (by rw [List.length_cons]; omega)
        refine lt x (hu.1 x hx) ?_
        rcases List.mem_cons.mp hx with q | q
        · omega
        · have := d1 x q; omega
  · rw [if_neg e]
    rw [List.length_cons] at e
    exact decide_eq_false (by rw [List.length_cons]; omega)
theorem best_change_ok {cs : List Nat} {a : Nat} (hc : ∀ c ∈ cs, 0 < c ∧ c ≤ 1000) (hl : cs.length < 60) (ha : a ≤ 1000) : ∃ o, IsL cs a o ∧ den_best_change [nt cs, nat a] = some (osk o) := by
  have cg : ∀ c, c ∈ srtN cs ↔ c ∈ cs := fun c => mem_srtN
  have up := srtN_up cs
  have ln := srtN_len cs
  have so := sortSet_ok hl
  have hcs : ∀ c ∈ srtN cs, 0 < c ∧ c ≤ 1000 := fun c h => hc c ((cg c).mp h)
  generalize srtN cs = as at cg up ln so hcs
  suffices h : ∃ d, den_best_change [nt cs, nat a] = some d ∧ ∃ o, IsL as a o ∧ d = osk o by
    obtain ⟨d, h1, o, h2, rfl⟩ := h
    exact ⟨o, isL_congr cg h2, h1⟩
  have tb := tables_ok (a := a) hcs (by omega) ha (.list (as.map nat)) rfl
  refine dfun_wpE rfl ?_
  simp only [List.map_cons, List.map_nil, List.replicate_succ, List.replicate_zero, List.nil_append, List.cons_append, List.append_nil, Nat.reduceSub, Nat.reduceAdd, setsD, zeros, stt, setsO, setsJ, List.foldl_cons, List.foldl_nil, List.set_cons_zero, List.set_cons_succ, demote]
  refine wp_seq (wp_setL (d := .list (as.map nat)) (L' := [0, 0, 0, 0, 0, 0, 0, 0]) (by (first | rfl | (simp only [eOp_a, eUn_a, eCB_a, aCons_a, aNil_a, eIx_a, eC_a, eVar_0, eVar_s, o2_ss, o1_s, d1_1, d2_2, eB_a, tCmp_a, tTru_a, tNotD_a, tIsND_a, tNotND_a, eIsN_a, eNotN_a, tTrue_a, iSeq_a, seqOf_l, seqOf_t, dAdd_i, dAddI_i, dSub_i, dNeg_i, dLt_i, dLe_i, dGt_i, dGe_i, dEq_i, dNe_i, dTru_b, dTru_i, dTru_l, dTru_t, dTru_n, isNon_n, isNon_b, isNon_i, isNon_s, isNon_l, isNon_t, dLen_l, dLen_t, dInt_i, dInt_b, dTuple_l, dTuple_t, dList_l, dList_t, eCall_1, eCall_2, eCall_3, eCall_4, eCall_5, eCall_6, eCall_7, so] <;> rfl))) rfl rfl ?_)
  simp only [List.map_cons, List.map_nil, List.replicate_succ, List.replicate_zero, List.nil_append, List.cons_append, List.append_nil, Nat.reduceSub, Nat.reduceAdd, setsD, zeros, stt, setsO, setsJ, List.foldl_cons, List.foldl_nil, List.set_cons_zero, List.set_cons_succ, demote]
  refine wp_seq (wp_setL (d := tabsD as a) (L' := [0, 0, 0, 0, 0, 0, 0, 0]) (by (first | rfl | (simp only [eOp_a, eUn_a, eCB_a, aCons_a, aNil_a, eIx_a, eC_a, eVar_0, eVar_s, o2_ss, o1_s, d1_1, d2_2, eB_a, tCmp_a, tTru_a, tNotD_a, tIsND_a, tNotND_a, eIsN_a, eNotN_a, tTrue_a, iSeq_a, seqOf_l, seqOf_t, dAdd_i, dAddI_i, dSub_i, dNeg_i, dLt_i, dLe_i, dGt_i, dGe_i, dEq_i, dNe_i, dTru_b, dTru_i, dTru_l, dTru_t, dTru_n, isNon_n, isNon_b, isNon_i, isNon_s, isNon_l, isNon_t, dLen_l, dLen_t, dInt_i, dInt_b, dTuple_l, dTuple_t, dList_l, dList_t, eCall_1, eCall_2, eCall_3, eCall_4, eCall_5, eCall_6, eCall_7, tb] <;> rfl))) rfl rfl ?_)
  simp only [List.map_cons, List.map_nil, List.replicate_succ, List.replicate_zero, List.nil_append, List.cons_append, List.append_nil, Nat.reduceSub, Nat.reduceAdd, setsD, zeros, stt, setsO, setsJ, List.foldl_cons, List.foldl_nil, List.set_cons_zero, List.set_cons_succ, demote]
  refine wp_seq (wp_set (d := on (fw as a)) (by
    simp only [eIx_a, eUn_a, eC_a, eVar_0, eVar_s, o1_s, o2_ss, dNeg_i]
    rw [row_last, o2_ss, cell_at (Nat.le_refl _)]) (flat_on _) ?_)
  simp only [List.map_cons, List.map_nil, List.replicate_succ, List.replicate_zero, List.nil_append, List.cons_append, List.append_nil, Nat.reduceSub, Nat.reduceAdd, setsD, zeros, stt, setsO, setsJ, List.foldl_cons, List.foldl_nil, List.set_cons_zero, List.set_cons_succ, demote]
  cases hk : fw as a with
  | none =>
    exact wp_seq (wp_ift rfl (wp_ret (d := .none) rfl ⟨none, fw_none hk, rfl⟩))
  | some k =>
    refine wp_seq (wp_pass rfl ?_)
    refine wp_seq (wp_setL (d := .list []) (L' := [0, 0, 0, 0, 0, 1, 0, 0]) rfl rfl rfl ?_)
    simp only [List.map_cons, List.map_nil, List.replicate_succ, List.replicate_zero, List.nil_append, List.cons_append, List.append_nil, Nat.reduceSub, Nat.reduceAdd, setsD, zeros, stt, setsO, setsJ, List.foldl_cons, List.foldl_nil, List.set_cons_zero, List.set_cons_succ, demote]
    have kb : k ≤ a := by
      obtain ⟨⟨l, h1, h2⟩, _⟩ := fw_some hk
      have : ∀ l : List Nat, (∀ x ∈ l, 0 < x) → l.length ≤ l.sum := fun l => by
        induction l with
        | nil => intro _; simp
        | cons x l ih =>
          intro h
          have := ih fun y hy => h y (.tail _ hy)
          have := h x (.head _)
          rw [List.length_cons, List.sum_cons]
          omega
      have := this l fun x hx => (hcs x (h1.1 x hx)).1
      have := h1.2
      omega
    refine wp_seq ?_
    refine wp_for (ds := rngDn (k : Int) k) (P := fun j s => ∃ (ch : List Nat) (rem : Nat) (x6 x7 : Option D), s = ([some (nt cs), some (nat rem), some (.list (as.map nat)), some (tabsD as a), some (nat k), some (.list (ch.map nat)), x6, x7], [0, 0, 0, 0, 0, 1, 0, 0]) ∧ ch.length = j ∧ rem ≤ a ∧ j ≤ k ∧ fw as rem = some (k - j) ∧ ∀ t, Best as rem t → Best as a (ch ++ t)) ?_ ⟨[], a, none, none, rfl, rfl, Nat.le_refl _, Nat.zero_le _, hk, fun t h => h⟩ ?_ ?_
    · unfold iRange3
      simp only [eUn_a, eVar_0, eVar_s, eC_a, o1_s, dNeg_i]
      show (if (rngOk (k : Int) 0 && decide ((-1 : Int) = -1)) = true then some (rngDn (k : Int) ((k : Int) - 0).toNat) else none) = _
      have r1 : rngOk (k : Int) 0 = true := by
        unfold rngOk
        simp only [Bool.and_eq_true, decide_eq_true_eq]
        refine ⟨⟨⟨?_, ?_⟩, ?_⟩, ?_⟩ <;> omega
      rw [if_pos (by rw [r1]; rfl)]
      congr 2
    · rintro j d _ hdj ⟨ch, rem, x6, x7, rfl, hch, hrem, hjk, hfw, hbest⟩
      have hj : j < k := by
        have := (List.getElem?_eq_some_iff.mp hdj).1
        simpa [rngDn] using this
      have e : d = nat (k - j) := by
        unfold rngDn at hdj
        rw [List.getElem?_map, List.getElem?_range hj] at hdj
        rw [← (Option.some.inj hdj)]
        show PyData.int ((k : Int) - (j : Int)) = PyData.int ((k - j : Nat) : Int)
        congr 1
        omega
      subst e
      refine ⟨[(6, nat (k - j))], rfl, ?_⟩
      simp only [List.map_cons, List.map_nil, List.replicate_succ, List.replicate_zero, List.nil_append, List.cons_append, List.append_nil, Nat.reduceSub, Nat.reduceAdd, setsD, zeros, stt, setsO, setsJ, List.foldl_cons, List.foldl_nil, List.set_cons_zero, List.set_cons_succ, demote]
      refine wp_seq (wp_set (d := nat 0) rfl rfl ?_)
      simp only [List.map_cons, List.map_nil, List.replicate_succ, List.replicate_zero, List.nil_append, List.cons_append, List.append_nil, Nat.reduceSub, Nat.reduceAdd, setsD, zeros, stt, setsO, setsJ, List.foldl_cons, List.foldl_nil, List.set_cons_zero, List.set_cons_succ, demote]
      refine wp_seq ?_
      have full : fw (as.take as.length) rem = some (k - j) := by rw [List.take_length]; exact hfw
      refine wp_while (P := fun s => ∃ q : Nat, s = ([some (nt cs), some (nat rem), some (.list (as.map nat)), some (tabsD as a), some (nat k), some (.list (ch.map nat)), some (nat (k - j)), some (nat q)], [0, 0, 0, 0, 0, 1, 0, 0]) ∧ q ≤ as.length ∧ ∀ i, i < q → fw (as.take i) rem ≠ some (k - j)) (μ := fun s => as.length - (match s.1[7]? with | some (some (PyData.int a)) => a.toNat | _ => 0)) ⟨0, rfl, Nat.zero_le _, fun i h => absurd h (Nat.not_lt_zero _)⟩ (by show as.length - _ < 100000; omega) ?_
      rintro _ ⟨q, rfl, hq, hne⟩
      refine ⟨!decide (fw (as.take q) rem = some (k - j)), ?_, fun hb => ?_, fun hb => ?_⟩
      · simp only [tCmp_a, eIx_a, eVar_0, eVar_s, o2_ss]
        rw [row_at hq, o2_ss, cell_at hrem, o2_ss, dNe_on]
      · have hb : fw (as.take q) rem ≠ some (k - j) := by simpa using hb
        have hql : q < as.length := by
          rcases Nat.lt_or_eq_of_le hq with h | h
          · exact h
          · subst h; exact absurd full hb
        refine wp_aug (d := nat (q + 1)) (x := nat q) (y := nat 1) rfl rfl (by show some _ = some _; simp [nat]) ?_
        simp only [List.map_cons, List.map_nil, List.replicate_succ, List.replicate_zero, List.nil_append, List.cons_append, List.append_nil, Nat.reduceSub, Nat.reduceAdd, setsD, zeros, stt, setsO, setsJ, List.foldl_cons, List.foldl_nil, List.set_cons_zero, List.set_cons_succ, demote]
        refine ⟨⟨q + 1, rfl, hql, fun i hi => ?_⟩, ?_⟩
        · by_cases h : i = q
          · rw [h]; exact hb
          · exact hne i (by omega)
        · show as.length - ((q + 1 : Nat) : Int).toNat < as.length - ((q : Nat) : Int).toNat
          omega
      · have hb : fw (as.take q) rem = some (k - j) := by simpa using hb
        obtain ⟨p, rfl⟩ : ∃ p, q = p + 1 := by
          cases q with
          | zero =>
            rw [List.take_zero, fw_nil] at hb
            split at hb
            · have := Option.some.inj hb; omega
            · cases hb
          | succ p => exact ⟨p, rfl⟩
        have hp : p < as.length := by omega
        have kj : k - j = (k - (j + 1)) + 1 := by omega
        obtain ⟨c1, c2, c3⟩ := cut (k := k - (j + 1)) up (fun c h => (hcs c h).1) hp (by rw [← kj]; exact hfw) (by rw [← kj]; exact hb) (by rw [← kj]; exact hne p (by omega))
        have ix : ∀ y1 y5 : D, (eIx (eVar 2) (eOp dSub (eVar 7) (eC (.int 1)))) [some (nt cs), some y1, some (.list (as.map nat)), some (tabsD as a), some (nat k), some y5, some (nat (k - j)), some (nat (p + 1))] = some (nat as[p]) := fun y1 y5 => by
          simp only [eIx_a, eOp_a, eVar_0, eVar_s, eC_a, o2_ss, nat, dSub_i]
          have e : (((p + 1 : Nat) : Int) - 1) = (p : Int) := by omega
          rw [e]
          refine lst_ix ?_
          rw [List.getElem?_map, List.getElem?_eq_getElem hp]
          rfl
        refine wp_seq (wp_app (d := nat as[p]) (ds := ch.map nat) (ix _ _) rfl rfl (by rw [List.length_map]; omega) rfl ?_)
        simp only [List.map_cons, List.map_nil, List.replicate_succ, List.replicate_zero, List.nil_append, List.cons_append, List.append_nil, Nat.reduceSub, Nat.reduceAdd, setsD, zeros, stt, setsO, setsJ, List.foldl_cons, List.foldl_nil, List.set_cons_zero, List.set_cons_succ, demote]
        refine wp_aug (d := nat (rem - as[p])) (x := nat rem) (y := nat as[p]) rfl (ix _ _) (by
          show some (PyData.int _) = some (PyData.int _)
          congr 2
          omega) ?_
        simp only [List.map_cons, List.map_nil, List.replicate_succ, List.replicate_zero, List.nil_append, List.cons_append, List.append_nil, Nat.reduceSub, Nat.reduceAdd, setsD, zeros, stt, setsO, setsJ, List.foldl_cons, List.foldl_nil, List.set_cons_zero, List.set_cons_succ, demote]
        refine ⟨ch ++ [as[p]], rem - as[p], some (nat (k - j)), some (nat (p + 1)), ?_, by simp [hch], by omega, hj, c2, fun t ht => ?_⟩
        · rw [List.map_append]; rfl
        · have := hbest _ (c3 t ht)
          rw [List.append_assoc]
          exact this
    · rintro _ ⟨ch, rem, x6, x7, rfl, hch, hrem, hjk, hfw, hbest⟩
      have e : (rngDn (k : Int) k).length = k := by simp [rngDn]
      rw [e] at hch hfw
      rw [Nat.sub_self] at hfw
      have r0 : rem = 0 := by
        obtain ⟨⟨l, h1, h2⟩, _⟩ := fw_some hfw
        have : l = [] := List.eq_nil_of_length_eq_zero h2
        subst this
        exact h1.2.symm
      subst r0
      have b := hbest [] (isL_0 (cs := as) fun c h => (hcs c h).1)
      rw [List.append_nil] at b
      refine wp_ret (d := skey ch) ?_ ⟨some ch, b, rfl⟩
      unfold skey
      rw [hch]
      exact eTup_2 rfl (tup_of rfl)
end Lib
end

section
set_option Elab.async false
set_option linter.all false
set_option maxRecDepth 10000
/-! k25, part f: the greedy rows. -/
namespace Lib
open DS PySem
def den_greedy_change : Fn := dfun 4 2 (sSeq (sSet 2 0 (eTup aNil) [])
  (sSeq (sFor (iSeq (eRev (eCB (d1 dSortSet) (aCons (eVar 0) aNil)))) ([(0, 1)] ++ []) (.nm 3)
  (sSeq (sAug 2 dAddT (eOp dMulT (eTup (aCons (eVar 3) aNil)) (eOp dFdiv (eVar 1) (eVar 3))))
  (sSet 1 0 (eOp dMod (eVar 1) (eVar 3)) ([(1, 1)] ++ [(3, 1)]))))
  (sRet (eIfD (tCmp dEq (eVar 1) (eC (.int 0))) (eVar 2) (eC .none)))))
def den__law_greedy : Fn := dfun 5 2 (sSeq (sSet 2 1 (eLst aNil) [])
  (sSeq (sFor (iSeq (eOp dSortRvB (eVar 0) (eC (.bool true)))) ([(0, 1)] ++ []) (.nm 3)
  (sFor (iRange1 (eOp dFdiv (eVar 1) (eVar 3))) [] (.nm 4)
  (sSeq (sApp 2 (eVar 3) [(3, 0)])
  (sAug 1 dSub (eVar 3)))))
  (sSeq (sIf (tCmp dGt (eVar 1) (eC (.int 0)))
  (sRet (eC .none))
  sNil)
  (sRet (eCB (d1 dTuple) (aCons (eVar 2) aNil))))))
/-- the greedy row, and what is left -/
def gro : List Nat → Nat → List Nat × Nat
  | [], a => ([], a)
  | c :: ds, a => (List.replicate (a / c) c ++ (gro ds (a % c)).1, (gro ds (a % c)).2)
def groD (ds : List Nat) (a : Nat) : D := if (gro ds a).2 = 0 then nt (gro ds a).1 else .none
theorem div_len {a c : Nat} (h : 0 < c) : a / c + a % c ≤ a := by
  have := Nat.div_add_mod a c
  have : a / c ≤ c * (a / c) := Nat.le_mul_of_pos_left _ h
  omega
theorem greedy_ok {cs : List Nat} {a : Nat} (hc : ∀ c ∈ cs, 0 < c ∧ c ≤ 1000) (hl : cs.length < 60) (ha : a ≤ 1000) : den_greedy_change [nt cs, nat a] = some (groD (srtN cs).reverse a) := by
  have so := sortSet_ok hl
  have hcs : ∀ c ∈ (srtN cs).reverse, 0 < c ∧ c ≤ 1000 := fun c h => hc c (mem_srtN.mp (List.mem_reverse.mp h))
  have rv : dRev (.list ((srtN cs).map nat)) = some (.list ((srtN cs).reverse.map nat)) := by
    rw [List.map_reverse]
    rfl
  generalize (srtN cs).reverse = ds at hcs rv
  refine dfun_wp rfl ?_
  simp only [List.map_cons, List.map_nil, List.replicate_succ, List.replicate_zero, List.nil_append, List.cons_append, List.append_nil, Nat.reduceSub, Nat.reduceAdd, setsD, zeros, stt, setsO, setsJ, List.foldl_cons, List.foldl_nil, List.set_cons_zero, List.set_cons_succ, demote]
  refine wp_seq (wp_set (d := nt []) rfl rfl ?_)
  simp only [List.map_cons, List.map_nil, List.replicate_succ, List.replicate_zero, List.nil_append, List.cons_append, List.append_nil, Nat.reduceSub, Nat.reduceAdd, setsD, zeros, stt, setsO, setsJ, List.foldl_cons, List.foldl_nil, List.set_cons_zero, List.set_cons_succ, demote]
  refine wp_seq ?_
  refine wp_for (ds := ds.map nat) (P := fun k s => ∃ (pre : List Nat) (rem : Nat) (x3 : Option D), s = ([some (nt cs), some (nat rem), some (nt pre), x3], [0, 0, 0, 0]) ∧ gro ds a = (pre ++ (gro (ds.drop k) rem).1, (gro (ds.drop k) rem).2) ∧ pre.length + rem ≤ a) (by
    unfold iSeq
    rw [eRev_a, eCB_a]
    simp only [aCons_a, aNil_a, eVar_0, o1_s, o2_ss, d1_1, so, rv]
    rfl) ⟨[], a, none, rfl, by simp, by simp⟩ ?_ ?_
  · rintro k d _ hdk ⟨pre, rem, x3, rfl, hg, hpl⟩
    rw [List.getElem?_map] at hdk
    obtain ⟨c, hk, rfl⟩ := Option.map_eq_some_iff.mp hdk
    obtain ⟨c0, c1⟩ := hcs c (List.mem_of_getElem? hk)
    have hkl := (List.getElem?_eq_some_iff.mp hk).1
    have dk : ds.drop k = c :: ds.drop (k + 1) := by
      rw [List.drop_eq_getElem_cons hkl]
      congr 1
      exact (List.getElem?_eq_some_iff.mp hk).2
    have dl := div_len (a := rem) c0
    have fo : fdivOk (c : Int) = true := by
      unfold fdivOk
      rw [decide_eq_true (show (0 : Int) < c by omega), Bool.true_and]
      refine decide_eq_true ?_
      have : ((c : Int)).natAbs = c := by simp
      rw [this]
      have := Nat.log2_lt (n := c) (k := 10) (by omega)
      have := this.mpr (by omega)
      omega
    refine ⟨[(3, nat c)], rfl, ?_⟩
    simp only [List.map_cons, List.map_nil, List.replicate_succ, List.replicate_zero, List.nil_append, List.cons_append, List.append_nil, Nat.reduceSub, Nat.reduceAdd, setsD, zeros, stt, setsO, setsJ, List.foldl_cons, List.foldl_nil, List.set_cons_zero, List.set_cons_succ, demote]
    refine wp_seq (wp_aug (d := nt (pre ++ List.replicate (rem / c) c)) (x := nt pre) (y := nt (List.replicate (rem / c) c)) rfl ?_ ?_ ?_)
    · rw [eOp_a, eTup_1 (x := nat c) rfl, eOp_a]
      simp only [eVar_0, eVar_s, o2_ss, nat, dFdiv_i fo]
      have e : ((rem : Int) / (c : Int)) = ((rem / c : Nat) : Int) := by omega
      rw [e]
      unfold dMulT
      dsimp only
      have hq1 : rem / c ≤ 1000 := by omega
      generalize rem / c = q at hq1
      rw [if_pos ⟨by simp, by simp, by omega, by omega⟩, Int.toNat_natCast, List.flatten_replicate_singleton]
      unfold nt
      rw [List.map_replicate]
      rfl
    · show (if (pre.map nat).length + ((List.replicate (rem / c) c).map nat).length ≤ sz ∧ flat (.tuple (pre.map nat ++ (List.replicate (rem / c) c).map nat)) = true ∧ flat (nt (List.replicate (rem / c) c)) = true ∧ flat (nt pre) = true then some (PyData.tuple (pre.map nat ++ (List.replicate (rem / c) c).map nat)) else none) = _
      have e : (.tuple (pre.map nat ++ (List.replicate (rem / c) c).map nat) : D) = nt (pre ++ List.replicate (rem / c) c) := by unfold nt; rw [List.map_append]
      rw [e, if_pos ⟨by
        have : sz = 16777216 := rfl
        rw [this]
        simp
        omega, nt_flat _, nt_flat _, nt_flat _⟩]
    simp only [List.map_cons, List.map_nil, List.replicate_succ, List.replicate_zero, List.nil_append, List.cons_append, List.append_nil, Nat.reduceSub, Nat.reduceAdd, setsD, zeros, stt, setsO, setsJ, List.foldl_cons, List.foldl_nil, List.set_cons_zero, List.set_cons_succ, demote]
    refine wp_set (d := nat (rem % c)) (by
      simp only [eOp_a, eVar_0, eVar_s, o2_ss, nat, dMod_i (show (0 : Int) < c by omega)]
      have e : ((rem : Int) % (c : Int)) = ((rem % c : Nat) : Int) := by omega
      rw [e]) rfl ?_
    simp only [List.map_cons, List.map_nil, List.replicate_succ, List.replicate_zero, List.nil_append, List.cons_append, List.append_nil, Nat.reduceSub, Nat.reduceAdd, setsD, zeros, stt, setsO, setsJ, List.foldl_cons, List.foldl_nil, List.set_cons_zero, List.set_cons_succ, demote]
    refine ⟨pre ++ List.replicate (rem / c) c, rem % c, some (nat c), rfl, ?_, ?_⟩
    · rw [hg, dk]
      simp only [gro, List.append_assoc]
    · rw [List.length_append, List.length_replicate]
      omega
  · rintro _ ⟨pre, rem, x3, rfl, hg, hpl⟩
    rw [List.length_map, List.drop_length] at hg
    simp only [gro, List.append_nil] at hg
    refine wp_ret (d := groD ds a) ?_ rfl
    unfold eIfD groD
    rw [hg]
    simp only [tCmp_a, eVar_0, eVar_s, eC_a, o2_ss, nat, dEq_i]
    by_cases h : rem = 0
    · subst h
      rfl
    · rw [decide_eq_false (by omega), if_neg h]
theorem lgreedy_ok {cs ds : List Nat} {a : Nat} (hc : ∀ c ∈ cs, 0 < c ∧ c ≤ 1000) (ha : a ≤ 1000) (hd : dnN cs = ds) : den__law_greedy [nt cs, nat a] = some (groD ds a) := by
  have so := dSortRvB_nt cs
  rw [hd] at so
  have hcs : ∀ c ∈ ds, 0 < c ∧ c ≤ 1000 := fun c h => by
    rw [← hd] at h
    exact hc c ((List.mergeSort_perm _ _).mem_iff.mp h)
  clear hd
  refine dfun_wp rfl ?_
  simp only [List.map_cons, List.map_nil, List.replicate_succ, List.replicate_zero, List.nil_append, List.cons_append, List.append_nil, Nat.reduceSub, Nat.reduceAdd, setsD, zeros, stt, setsO, setsJ, List.foldl_cons, List.foldl_nil, List.set_cons_zero, List.set_cons_succ, demote]
  refine wp_seq (wp_setL (d := .list []) (L' := [0, 0, 1, 0, 0]) rfl rfl rfl ?_)
  simp only [List.map_cons, List.map_nil, List.replicate_succ, List.replicate_zero, List.nil_append, List.cons_append, List.append_nil, Nat.reduceSub, Nat.reduceAdd, setsD, zeros, stt, setsO, setsJ, List.foldl_cons, List.foldl_nil, List.set_cons_zero, List.set_cons_succ, demote]
  refine wp_seq ?_
  refine wp_for (ds := ds.map nat) (P := fun k s => ∃ (pre : List Nat) (rem : Nat) (x3 x4 : Option D), s = ([some (nt cs), some (nat rem), some (.list (pre.map nat)), x3, x4], [0, 0, 1, 0, 0]) ∧ gro ds a = (pre ++ (gro (ds.drop k) rem).1, (gro (ds.drop k) rem).2) ∧ pre.length + rem ≤ a) (by
    unfold iSeq
    rw [eOp_a]
    simp only [eVar_0, eC_a, o1_s, o2_ss, so]
    rfl) ⟨[], a, none, none, rfl, by simp, by simp⟩ ?_ ?_
  · rintro k d _ hdk ⟨pre, rem, x3, x4, rfl, hg, hpl⟩
    rw [List.getElem?_map] at hdk
    obtain ⟨c, hk, rfl⟩ := Option.map_eq_some_iff.mp hdk
    obtain ⟨c0, c1⟩ := hcs c (List.mem_of_getElem? hk)
    have hkl := (List.getElem?_eq_some_iff.mp hk).1
    have dk : ds.drop k = c :: ds.drop (k + 1) := by
      rw [List.drop_eq_getElem_cons hkl]
      congr 1
      exact (List.getElem?_eq_some_iff.mp hk).2
    have dl := div_len (a := rem) c0
    have fo : fdivOk (c : Int) = true := by
      unfold fdivOk
      rw [decide_eq_true (show (0 : Int) < c by omega), Bool.true_and]
      refine decide_eq_true ?_
      have : ((c : Int)).natAbs = c := by simp
      rw [this]
      have := Nat.log2_lt (n := c) (k := 10) (by omega)
      have := this.mpr (by omega)
      omega
    refine ⟨[(3, nat c)], rfl, ?_⟩
    simp only [List.map_cons, List.map_nil, List.replicate_succ, List.replicate_zero, List.nil_append, List.cons_append, List.append_nil, Nat.reduceSub, Nat.reduceAdd, setsD, zeros, stt, setsO, setsJ, List.foldl_cons, List.foldl_nil, List.set_cons_zero, List.set_cons_succ, demote]
    refine wp_forN (n := rem / c) [4] (fun j => [(1, nat (rem - j * c)), (2, .list ((pre ++ List.replicate j c).map nat))]) (by
      simp only [eOp_a, eVar_0, eVar_s, o2_ss, nat, dFdiv_i fo]
      have e : ((rem : Int) / (c : Int)) = ((rem / c : Nat) : Int) := by omega
      rw [e]) (by omega) (fun p hp => ?_) (fun j xs hj => ?_) fun xs => ?_
    · simp only [List.mem_cons, List.not_mem_nil, or_false] at hp
      rcases hp with rfl | rfl
      · simp
      · simp
    · simp only [List.map_cons, List.map_nil, List.replicate_succ, List.replicate_zero, List.nil_append, List.cons_append, List.append_nil, Nat.reduceSub, Nat.reduceAdd, setsD, zeros, stt, setsO, setsJ, List.foldl_cons, List.foldl_nil, List.set_cons_zero, List.set_cons_succ, demote]
      have hjc : (j + 1) * c ≤ rem := by
        have : (j + 1) * c ≤ rem / c * c := Nat.mul_le_mul_right c hj
        have := Nat.div_mul_le_self rem c
        omega
      rw [Nat.succ_mul] at hjc
      refine wp_seq (wp_app (d := nat c) (ds := (pre ++ List.replicate j c).map nat) rfl rfl rfl (by
        have : j ≤ rem := by omega
        simp
        omega) rfl ?_)
      simp only [List.map_cons, List.map_nil, List.replicate_succ, List.replicate_zero, List.nil_append, List.cons_append, List.append_nil, Nat.reduceSub, Nat.reduceAdd, setsD, zeros, stt, setsO, setsJ, List.foldl_cons, List.foldl_nil, List.set_cons_zero, List.set_cons_succ, demote]
      refine wp_aug (d := nat (rem - (j + 1) * c)) (x := nat (rem - j * c)) (y := nat c) rfl rfl (by
        show some (PyData.int _) = some (PyData.int _)
        congr 2
        rw [Nat.succ_mul]
        omega) ?_
      simp only [List.map_cons, List.map_nil, List.replicate_succ, List.replicate_zero, List.nil_append, List.cons_append, List.append_nil, Nat.reduceSub, Nat.reduceAdd, setsD, zeros, stt, setsO, setsJ, List.foldl_cons, List.foldl_nil, List.set_cons_zero, List.set_cons_succ, demote]
      have e : (pre ++ List.replicate j c).map nat ++ [nat c] = (pre ++ List.replicate (j + 1) c).map nat := by
        rw [List.replicate_succ', ← List.append_assoc, List.map_append (l₂ := [c])]
        rfl
      rw [e]
      exact cl rfl
    · simp only [List.map_cons, List.map_nil, List.replicate_succ, List.replicate_zero, List.nil_append, List.cons_append, List.append_nil, Nat.reduceSub, Nat.reduceAdd, setsD, zeros, stt, setsO, setsJ, List.foldl_cons, List.foldl_nil, List.set_cons_zero, List.set_cons_succ, demote]
      refine ⟨pre ++ List.replicate (rem / c) c, rem % c, some (nat c), xs 4, ?_, ?_, ?_⟩
      · have e : rem - rem / c * c = rem % c := by
          have := Nat.div_add_mod rem c
          rw [Nat.mul_comm] at this
          omega
        rw [e]
      · rw [hg, dk]
        simp only [gro, List.append_assoc]
      · rw [List.length_append, List.length_replicate]
        omega
  · rintro _ ⟨pre, rem, x3, x4, rfl, hg, hpl⟩
    rw [List.length_map, List.drop_length] at hg
    simp only [gro, List.append_nil] at hg
    have e : groD ds a = if rem = 0 then nt pre else .none := by
      unfold groD
      rw [hg]
    have t1 : (tCmp dGt (eVar 1) (eC (.int 0))) [some (nt cs), some (nat rem), some (.list (pre.map nat)), x3, x4] = some (decide (0 < rem)) := by
      simp only [tCmp_a, eVar_0, eVar_s, eC_a, o2_ss, nat, dGt_i]
      exact congrArg some (decide_eq_decide.mpr ⟨fun h => by omega, fun h => by omega⟩)
    rw [e]
    refine wp_seq (wp_if t1 (fun h => ?_) fun h => ?_)
    · have := of_decide_eq_true h
      rw [if_neg (by omega)]
      exact wp_ret rfl rfl
    · have := of_decide_eq_false h
      rw [if_pos (by omega)]
      exact wp_nil (wp_ret (tup_of rfl) rfl)
end Lib
end

section
set_option Elab.async false
set_option linter.all false
set_option maxRecDepth 10000
/-! k25, part g: is the greedy row a fewest one? -/
namespace Lib
open DS PySem
def den_is_greedy_best : Fn := dfun 6 1 (sSeq (sSet 1 0 (eCB (d1 dSum) (aCons (eSl (eVar 0) (oSome (eUn dNeg (eC (.int 2)))) oNone) aNil)) [])
  (sSeq (sSet 2 0 (eIx (eCall 2 den_coin_tables (aCons (eVar 0) (aCons (eVar 1) aNil))) (eUn dNeg (eC (.int 1)))) ([(0, 0)] ++ ([(1, 0)] ++ [])))
  (sSeq (sSet 3 1 (eLst (aCons (eC (.int 0)) aNil)) ([] ++ []))
  (sSeq (sSet 4 0 (eC (.int 0)) [])
  (sSeq (sFor (iRange2 (eC (.int 1)) (eVar 1)) [] (.nm 5)
  (sSeq (sWhile 100000 (tAndD (tCmp dLt (eOp dAdd (eVar 4) (eC (.int 1))) (eCB (d1 dLen) (aCons (eVar 0) aNil))) (tCmp dLe (eIx (eVar 0) (eOp dAdd (eVar 4) (eC (.int 1)))) (eVar 5)))
  (sAug 4 dAddI (eC (.int 1))))
  (sSeq (sApp 3 (eOp dAdd (eIx (eVar 3) (eOp dSub (eVar 5) (eIx (eVar 0) (eVar 4)))) (eC (.int 1))) ([(3, 2)] ++ []))
  (sIf (tCmp dNe (eIx (eVar 3) (eVar 5)) (eIx (eVar 2) (eVar 5)))
  (sRet (eC (.bool false)))
  sNil))))
  (sRet (eC (.bool true))))))))
def den__law_greedy_best : Fn := dfun 4 1 (sSeq (sSet 1 0 (eCB (d1 dSum) (aCons (eSl (eVar 0) (oSome (eCB (d2 dMax2) (aCons (eC (.int 0)) (aCons (eOp dSub (eCB (d1 dLen) (aCons (eVar 0) aNil)) (eC (.int 2))) aNil)))) oNone) aNil)) [])
  (sSeq (sSet 2 0 (eCall 2 den__law_tables (aCons (eVar 0) (aCons (eVar 1) aNil))) ([(0, 0)] ++ ([(1, 0)] ++ [])))
  (sRet (eCB (d1 dAll) (aCons (eLc (iRange1 (eVar 1)) (.nm 3) tTrue (eB (tCmp dEq (eCB (d1 dLen) (aCons (eCall 2 den__law_greedy (aCons (eVar 0) (aCons (eVar 3) aNil))) aNil)) (eIx (eIx (eVar 2) (eVar 3)) (eC (.int 0))))) [3]) aNil)))))
/-- the number of coins of the greedy row -/
def gn (cs : List Nat) (a : Nat) : Nat := (gro cs.reverse a).1.length
def ends25 (cs : List Nat) : Nat := (cs.drop (cs.length - 2)).sum
theorem gro_skip : ∀ {u ds : List Nat} {a : Nat}, (∀ x ∈ u, a < x) → gro (u ++ ds) a = gro ds a
  | [], _, _, _ => rfl
  | c :: u, ds, a, h => by
    have hc := h c (.head _)
    rw [List.cons_append, gro, Nat.div_eq_of_lt hc, Nat.mod_eq_of_lt hc, gro_skip fun x hx => h x (.tail _ hx)]
    rfl
theorem gro_step {c a : Nat} {ds : List Nat} (hc : 0 < c) (h : c ≤ a) : (gro (c :: ds) a).1.length = (gro (c :: ds) (a - c)).1.length + 1 ∧ (gro (c :: ds) a).2 = (gro (c :: ds) (a - c)).2 := by
  simp only [gro, List.length_append, List.length_replicate]
  rw [Nat.div_eq_sub_div hc h, Nat.mod_eq_sub_mod h]
  exact ⟨by omega, rfl⟩
theorem gn_step {cs : List Nat} {a p : Nat} (up : cs.Pairwise (· < ·)) (h0 : ∀ c ∈ cs, 0 < c) (hp : p < cs.length) (h : cs[p] ≤ a) (hn : ∀ q (hq : q < cs.length), p < q → a < cs[q]) : gn cs a = gn cs (a - cs[p]) + 1 := by
  have e : cs.reverse = (cs.drop (p + 1)).reverse ++ (cs[p] :: (cs.take p).reverse) := by
    conv => lhs; rw [← List.take_append_drop p cs, List.drop_eq_getElem_cons hp]
    simp
  have sk : ∀ b, b ≤ a → ∀ x ∈ (cs.drop (p + 1)).reverse, b < x := fun b hb x hx => by
    obtain ⟨i, hi, rfl⟩ := List.getElem_of_mem (List.mem_reverse.mp hx)
    rw [List.getElem_drop]
    have := hn (p + 1 + i) (by rw [List.length_drop] at hi; omega) (by omega)
    omega
  unfold gn
  rw [e, gro_skip (sk a (Nat.le_refl _)), gro_skip (sk (a - cs[p]) (by omega))]
  exact (gro_step (h0 _ (List.getElem_mem hp)) h).1
theorem gro_one : ∀ {ds : List Nat} {a : Nat}, 1 ∈ ds → (gro ds a).2 = 0
  | [], _, h => by cases h
  | c :: ds, a, h => by
    rw [gro]
    rcases List.mem_cons.mp h with e | e
    · subst e
      show (gro ds (a % 1)).2 = 0
      rw [Nat.mod_one]
      have z : ∀ ds : List Nat, (gro ds 0).2 = 0 := fun ds => by
        induction ds with
        | nil => rfl
        | cons c ds ih => rw [gro, Nat.zero_mod]; exact ih
      exact z ds
    · exact gro_one e
theorem gro_rep : ∀ (ds : List Nat) (a : Nat), (∀ x ∈ (gro ds a).1, x ∈ ds) ∧ (gro ds a).1.sum + (gro ds a).2 = a
  | [], a => by simp [gro]
  | c :: ds, a => by
    obtain ⟨h1, h2⟩ := gro_rep ds (a % c)
    rw [gro]
    refine ⟨fun x hx => ?_, ?_⟩
    · rcases List.mem_append.mp hx with h | h
      · rw [List.eq_of_mem_replicate h]; exact .head _
      · exact .tail _ (h1 x h)
    · dsimp only
      rw [List.sum_append, Nat.add_assoc, h2, List.sum_replicate_nat]
      exact Nat.div_add_mod' a c
theorem gn_zero (cs : List Nat) : gn cs 0 = 0 := by
  unfold gn
  have z : ∀ ds : List Nat, (gro ds 0).1 = [] := fun ds => by
    induction ds with
    | nil => rfl
    | cons c ds ih => rw [gro, Nat.zero_mod, Nat.zero_div, ih]; rfl
  rw [z]
  rfl
theorem dSum_nt (l : List Nat) : dSum (nt l) = some (nat l.sum) := by
  show o1 (intsD (l.map nat)) (fun is => some (PyData.int is.sum)) = _
  rw [intsD_nats, o1_s]
  have : (l.map fun c : Nat => (c : Int)).sum = ((l.sum : Nat) : Int) := by
    induction l with
    | nil => rfl
    | cons x l ih => rw [List.map_cons, List.sum_cons, List.sum_cons, ih]; omega
  rw [this]
  rfl
theorem cut_2 (cs : List Nat) : dSlice (some (-2)) none (nt cs) = some (nt (cs.drop (cs.length - 2))) := by
  show some (PyData.tuple (cutD (cs.map nat) (some (-2)) none)) = _
  unfold cutD
  have e : HT.sIx (cs.map nat).length 0 (some (-2)) = cs.length - 2 := by
    unfold HT.sIx
    rw [List.length_map]
    dsimp only
    rw [if_pos (by decide)]
    omega
  rw [e, HT.sIx_none, List.take_of_length_le (by simp), ← List.map_drop]
  rfl
theorem cut_n (cs : List Nat) (k : Nat) (h : k ≤ cs.length) : dSlice (some (k : Int)) none (nt cs) = some (nt (cs.drop k)) := by
  have := dSlice_from (ds := cs.map nat) (k := k) (by rw [List.length_map]; exact h)
  rw [← List.map_drop] at this
  exact this
/-- coins 1 = c0 < c1 < .. -/
structure Co (cs : List Nat) : Prop where
  up : cs.Pairwise (· < ·)
  b : ∀ c ∈ cs, 0 < c ∧ c ≤ 200
  one : ∃ r, cs = 1 :: r
  len : cs.length ≤ 50
theorem ends_le {cs : List Nat} (h : Co cs) : ends25 cs ≤ 400 := by
  unfold ends25
  have l : (cs.drop (cs.length - 2)).length ≤ 2 := by rw [List.length_drop]; omega
  have m : ∀ x ∈ cs.drop (cs.length - 2), x ≤ 200 := fun x hx => (h.b x (List.mem_of_mem_drop hx)).2
  generalize cs.drop (cs.length - 2) = u at l m
  match u, l with
  | [], _ => simp
  | [x], _ => have := m x (by simp); simp; omega
  | [x, y], _ => have := m x (by simp); have := m y (by simp); simp; omega
def GB (cs : List Nat) : Prop := ∀ a, a < ends25 cs → fw cs a = some (gn cs a)
theorem fw_0 (cs : List Nat) : fw cs 0 = some 0 := fw_eq ⟨⟨[], rep_nil _, rfl⟩, fun l _ => Nat.zero_le _⟩
theorem dNe_non (o : Option Nat) (k : Nat) : dNe (nat k) (on o) = some (!decide (o = some k)) := by
  cases o with
  | none => rfl
  | some m =>
    show dNe (.int k) (.int m) = _
    rw [dNe_i]
    congr 1
    by_cases h : m = k
    · subst h; simp
    · simp [h]
      omega
theorem gb_ok {cs : List Nat} (h : Co cs) : ∃ d, den_is_greedy_best [nt cs] = some d ∧ ∃ b : Bool, d = .bool b ∧ (b = true ↔ GB cs) := by
  have el := ends_le h
  have h0 : ∀ c ∈ cs, 0 < c := fun c hc => (h.b c hc).1
  have tb := tables_ok (a := ends25 cs) (cs := cs) (fun c hc => ⟨(h.b c hc).1, by have := (h.b c hc).2; omega⟩) (by have := h.len; omega) (by omega) (nt cs) rfl
  obtain ⟨r, hr⟩ := h.one
  have l0 : 0 < cs.length := by rw [hr]; simp
  have c0 : cs[0] = 1 := by simp [hr]
  obtain ⟨E, hE⟩ : ∃ E, E = ends25 cs := ⟨_, rfl⟩
  refine dfun_wpE rfl ?_
  simp only [List.map_cons, List.map_nil, List.replicate_succ, List.replicate_zero, List.nil_append, List.cons_append, List.append_nil, Nat.reduceSub, Nat.reduceAdd, setsD, zeros, stt, setsO, setsJ, List.foldl_cons, List.foldl_nil, List.set_cons_zero, List.set_cons_succ, demote]
  refine wp_seq (wp_set (d := nat E) (by
    rw [eCB_a]
    have : (eSl (eVar 0) (oSome (eUn dNeg (eC (.int 2)))) oNone) [some (nt cs), none, none, none, none, none] = some (nt (cs.drop (cs.length - 2))) := by
      unfold eSl oSome oNone
      rw [eUn_a]
      exact cut_2 cs
    rw [aCons_a, this, aNil_a, o2_ss, o1_s, d1_1, dSum_nt, hE]
    rfl) rfl ?_)
  simp only [List.map_cons, List.map_nil, List.replicate_succ, List.replicate_zero, List.nil_append, List.cons_append, List.append_nil, Nat.reduceSub, Nat.reduceAdd, setsD, zeros, stt, setsO, setsJ, List.foldl_cons, List.foldl_nil, List.set_cons_zero, List.set_cons_succ, demote]
  refine wp_seq (wp_setL (d := tabD cs E) (L' := [0, 0, 0, 0, 0, 0]) (by
    rw [eIx_a, eCall_2, hE]
    simp only [eVar_0, eVar_s, o1_s, o2_ss]
    rw [tb]
    simp only [eUn_a, eC_a, o1_s, o2_ss, dNeg_i]
    exact row_last cs _) rfl rfl ?_)
  simp only [List.map_cons, List.map_nil, List.replicate_succ, List.replicate_zero, List.nil_append, List.cons_append, List.append_nil, Nat.reduceSub, Nat.reduceAdd, setsD, zeros, stt, setsO, setsJ, List.foldl_cons, List.foldl_nil, List.set_cons_zero, List.set_cons_succ, demote]
  refine wp_seq (wp_setL (d := .list [nat 0]) (L' := [0, 0, 0, 1, 0, 0]) (eLst_1 rfl) rfl rfl ?_)
  simp only [List.map_cons, List.map_nil, List.replicate_succ, List.replicate_zero, List.nil_append, List.cons_append, List.append_nil, Nat.reduceSub, Nat.reduceAdd, setsD, zeros, stt, setsO, setsJ, List.foldl_cons, List.foldl_nil, List.set_cons_zero, List.set_cons_succ, demote]
  refine wp_seq (wp_set (d := nat 0) rfl rfl ?_)
  simp only [List.map_cons, List.map_nil, List.replicate_succ, List.replicate_zero, List.nil_append, List.cons_append, List.append_nil, Nat.reduceSub, Nat.reduceAdd, setsD, zeros, stt, setsO, setsJ, List.foldl_cons, List.foldl_nil, List.set_cons_zero, List.set_cons_succ, demote]
  refine wp_seq ?_
  refine wp_for (ds := rngD 1 (E - 1 : Int).toNat) (P := fun k s => ∃ (p : Nat) (x5 : Option D), s = ([some (nt cs), some (nat E), some (tabD cs E), some (.list ((List.range (k + 1)).map fun a => nat (gn cs a))), some (nat p), x5], [0, 0, 0, 1, 0, 0]) ∧ (∃ hp : p < cs.length, cs[p] ≤ k + 1) ∧ ∀ a, a ≤ k → fw cs a = some (gn cs a)) (range2_ok (i := 1) (j := (E : Int)) rfl rfl (by omega) (by omega) (by omega) (by omega)) ⟨0, none, by simp [gn_zero, demote], ⟨l0, by omega⟩, fun a ha => by
    have : a = 0 := by omega
    subst this
    rw [fw_0, gn_zero]⟩ ?_ ?_
  · rintro k d _ hdk ⟨p, x5, rfl, ⟨hp, hpk⟩, hf⟩
    obtain ⟨hk, rfl⟩ := rng_get hdk
    have ek : (1 : Int) + k = ((k + 1 : Nat) : Int) := by omega
    rw [ek]
    refine ⟨[(5, nat (k + 1))], rfl, ?_⟩
    simp only [List.map_cons, List.map_nil, List.replicate_succ, List.replicate_zero, List.nil_append, List.cons_append, List.append_nil, Nat.reduceSub, Nat.reduceAdd, setsD, zeros, stt, setsO, setsJ, List.foldl_cons, List.foldl_nil, List.set_cons_zero, List.set_cons_succ, demote]
    refine wp_seq ?_
    refine wp_while (P := fun s => ∃ q : Nat, s = ([some (nt cs), some (nat E), some (tabD cs E), some (.list ((List.range (k + 1)).map fun a => nat (gn cs a))), some (nat q), some (nat (k + 1))], [0, 0, 0, 1, 0, 0]) ∧ ∃ hq : q < cs.length, cs[q] ≤ k + 1) (μ := fun s => cs.length - (match s.1[4]? with | some (some (PyData.int a)) => a.toNat | _ => 0)) ⟨p, rfl, hp, hpk⟩ (by have := h.len; show cs.length - _ < 100000; omega) ?_
    rintro _ ⟨q, rfl, hq, hqk⟩
    have ixc : ∀ (i : Nat) (hi : i < cs.length), dIx (nt cs) (.int (i : Int)) = some (nat cs[i]) := fun i hi => by
      show L2.atI (cs.map nat) (i : Int) = _
      rw [atI_mp hi]
    refine ⟨decide (∃ hq : q + 1 < cs.length, cs[q + 1] ≤ k + 1), ?_, fun hb => ?_, fun hb => ?_⟩
    · have t1 : (tCmp dLt (eOp dAdd (eVar 4) (eC (.int 1))) (eCB (d1 dLen) (aCons (eVar 0) aNil))) [some (nt cs), some (nat E), some (tabD cs E), some (.list ((List.range (k + 1)).map fun a => nat (gn cs a))), some (nat q), some (nat (k + 1))] = some (decide (q + 1 < cs.length)) := by
        simp only [tCmp_a, eOp_a, eCB_a, aCons_a, aNil_a, eVar_0, eVar_s, eC_a, o2_ss, o1_s, d1_1, nt_len, nat, dAdd_i, dLt_i]
        exact congrArg some (decide_eq_decide.mpr ⟨fun h => by omega, fun h => by omega⟩)
      unfold tAndD
      rw [t1]
      by_cases hl : q + 1 < cs.length
      · rw [decide_eq_true hl]
        show (tCmp dLe (eIx (eVar 0) (eOp dAdd (eVar 4) (eC (.int 1)))) (eVar 5)) _ = _
        have e : (q : Int) + 1 = ((q + 1 : Nat) : Int) := by omega
        simp only [tCmp_a, eIx_a, eOp_a, eVar_0, eVar_s, eC_a, o2_ss, nat, dAdd_i, e]
        rw [ixc (q + 1) hl, o2_ss]
        show some (decide ((cs[q + 1] : Int) ≤ ((k + 1 : Nat) : Int))) = _
        refine congrArg some (decide_eq_decide.mpr ⟨fun h => ⟨hl, by omega⟩, fun ⟨_, h⟩ => by omega⟩)
      · rw [decide_eq_false hl]
        refine congrArg some (decide_eq_false fun ⟨h, _⟩ => hl h).symm
    · obtain ⟨hq1, hq2⟩ := of_decide_eq_true hb
      refine wp_aug (d := nat (q + 1)) (x := nat q) (y := nat 1) rfl rfl (by show some _ = some _; simp [nat]) ?_
      simp only [List.map_cons, List.map_nil, List.replicate_succ, List.replicate_zero, List.nil_append, List.cons_append, List.append_nil, Nat.reduceSub, Nat.reduceAdd, setsD, zeros, stt, setsO, setsJ, List.foldl_cons, List.foldl_nil, List.set_cons_zero, List.set_cons_succ, demote]
      refine ⟨⟨q + 1, rfl, hq1, hq2⟩, ?_⟩
      show cs.length - ((q + 1 : Nat) : Int).toNat < cs.length - ((q : Nat) : Int).toNat
      omega
    · have hb := of_decide_eq_false hb
      have gs := gn_step (a := k + 1) h.up h0 hq hqk (fun i hi hqi => by
        rcases Nat.lt_or_eq_of_le (show q + 1 ≤ i by omega) with e | e
        · have h1 := List.pairwise_iff_getElem.mp h.up (q + 1) i (by omega) hi e
          by_cases c : cs[q + 1]'(by omega) ≤ k + 1
          · exact absurd ⟨by omega, c⟩ hb
          · omega
        · subst e
          by_cases c : cs[q + 1] ≤ k + 1
          · exact absurd ⟨hi, c⟩ hb
          · omega)
      have cp := h0 _ (List.getElem_mem hq)
      refine wp_seq (wp_app (d := nat (gn cs (k + 1))) (ds := (List.range (k + 1)).map fun a => nat (gn cs a)) ?_ rfl rfl (by simp; omega) rfl ?_)
      · simp only [eOp_a, eIx_a, eVar_0, eVar_s, eC_a, o2_ss, nat]
        rw [ixc q hq, o2_ss]
        show o2 (o2 (some _) (some (PyData.int (((k + 1 : Nat) : Int) - (cs[q] : Int)))) dIx) (some (.int 1)) dAdd = _
        have e : (((k + 1 : Nat) : Int) - (cs[q] : Int)) = ((k + 1 - cs[q] : Nat) : Int) := by omega
        rw [e, o2_ss, lst_ix (rng_at (fun a => PyData.int (gn cs a : Int)) (show k + 1 - cs[q] < k + 1 by omega)), o2_ss, gs]
        show some (PyData.int _) = some (PyData.int _)
        congr 2
      simp only [List.map_cons, List.map_nil, List.replicate_succ, List.replicate_zero, List.nil_append, List.cons_append, List.append_nil, Nat.reduceSub, Nat.reduceAdd, setsD, zeros, stt, setsO, setsJ, List.foldl_cons, List.foldl_nil, List.set_cons_zero, List.set_cons_succ, demote]
      have el2 : (List.range (k + 1)).map (fun a => nat (gn cs a)) ++ [nat (gn cs (k + 1))] = (List.range (k + 1 + 1)).map fun a => nat (gn cs a) := by
        rw [List.range_succ (n := k + 1), List.map_append]
        rfl
      rw [el2]
      have t2 : (tCmp dNe (eIx (eVar 3) (eVar 5)) (eIx (eVar 2) (eVar 5))) [some (nt cs), some (nat E), some (tabD cs E), some (.list ((List.range (k + 1 + 1)).map fun a => nat (gn cs a))), some (nat q), some (nat (k + 1))] = some (!decide (fw cs (k + 1) = some (gn cs (k + 1)))) := by
        simp only [tCmp_a, eIx_a, eVar_0, eVar_s, o2_ss]
        have i1 : dIx (.list ((List.range (k + 1 + 1)).map fun a => nat (gn cs a))) (nat (k + 1)) = some (nat (gn cs (k + 1))) := lst_ix (rng_at (fun a => nat (gn cs a)) (by omega))
        rw [i1, cell_at (by omega), o2_ss, dNe_non]
      refine wp_if t2 (fun hb2 => ?_) fun hb2 => ?_
      · have hb2 : fw cs (k + 1) ≠ some (gn cs (k + 1)) := by simpa using hb2
        refine wp_ret (d := .bool false) rfl ⟨false, rfl, ?_⟩
        constructor
        · intro z; cases z
        · intro g
          exact absurd (g (k + 1) (by omega)) hb2
      · have hb2 : fw cs (k + 1) = some (gn cs (k + 1)) := by simpa using hb2
        refine wp_nil ⟨q, some (nat (k + 1)), rfl, ⟨hq, by omega⟩, fun a ha => ?_⟩
        by_cases e : a = k + 1
        · rw [e]; exact hb2
        · exact hf a (by omega)
  · rintro _ ⟨p, x5, rfl, _, hf⟩
    refine wp_ret (d := .bool true) rfl ⟨true, rfl, fun _ a ha => hf a ?_, fun _ => rfl⟩
    rw [rng_len]
    omega
theorem lgb_ok {cs : List Nat} (h : Co cs) : ∃ d, den__law_greedy_best [nt cs] = some d ∧ ∃ b : Bool, d = .bool b ∧ (b = true ↔ GB cs) := by
  have el := ends_le h
  have hc : ∀ c ∈ cs, 0 < c ∧ c ≤ 1000 := fun c hc => ⟨(h.b c hc).1, by have := (h.b c hc).2; omega⟩
  have hd : dnN cs = cs.reverse := dnN_eq (List.pairwise_reverse.mpr (h.up.imp fun h => Nat.le_of_lt h)) (List.reverse_perm cs)
  obtain ⟨r, hr⟩ := h.one
  have one : 1 ∈ cs := by rw [hr]; exact .head _
  have onr : 1 ∈ cs.reverse := List.mem_reverse.mpr one
  obtain ⟨E, hE⟩ : ∃ E, E = ends25 cs := ⟨_, rfl⟩
  obtain ⟨d, ht, f, hf, rfl⟩ := ltab_ok (cs := cs) (m := E) hc (by omega)
  refine dfun_wpE rfl ?_
  simp only [List.map_cons, List.map_nil, List.replicate_succ, List.replicate_zero, List.nil_append, List.cons_append, List.append_nil, Nat.reduceSub, Nat.reduceAdd, setsD, zeros, stt, setsO, setsJ, List.foldl_cons, List.foldl_nil, List.set_cons_zero, List.set_cons_succ, demote]
  refine wp_seq (wp_set (d := nat E) (by
    rw [eCB_a]
    have : (eSl (eVar 0) (oSome (eCB (d2 dMax2) (aCons (eC (.int 0)) (aCons (eOp dSub (eCB (d1 dLen) (aCons (eVar 0) aNil)) (eC (.int 2))) aNil)))) oNone) [some (nt cs), none, none, none] = some (nt (cs.drop (cs.length - 2))) := by
      unfold eSl oSome oNone
      simp only [eCB_a, aCons_a, aNil_a, eOp_a, eVar_0, eC_a, o2_ss, o1_s, d1_1, d2_2, nt_len, dSub_i]
      have e : dMax2 (.int 0) (.int ((cs.length : Int) - 2)) = some (.int ((cs.length - 2 : Nat) : Int)) := by
        show some (PyData.int (if (cs.length : Int) - 2 > 0 then (cs.length : Int) - 2 else 0)) = _
        exact congrArg (fun x => some (PyData.int x)) (by split <;> omega)
      rw [e]
      exact cut_n cs _ (by omega)
    rw [aCons_a, this, aNil_a, o2_ss, o1_s, d1_1, dSum_nt, hE]
    rfl) rfl ?_)
  simp only [List.map_cons, List.map_nil, List.replicate_succ, List.replicate_zero, List.nil_append, List.cons_append, List.append_nil, Nat.reduceSub, Nat.reduceAdd, setsD, zeros, stt, setsO, setsJ, List.foldl_cons, List.foldl_nil, List.set_cons_zero, List.set_cons_succ, demote]
  refine wp_seq (wp_setL (d := .list ((List.range (E + 1)).map fun w => osk (f w))) (L' := [0, 0, 0, 0]) (by rw [eCall_2]; simp only [eVar_0, eVar_s, o1_s, o2_ss]; exact ht) rfl rfl ?_)
  simp only [List.map_cons, List.map_nil, List.replicate_succ, List.replicate_zero, List.nil_append, List.cons_append, List.append_nil, Nat.reduceSub, Nat.reduceAdd, setsD, zeros, stt, setsO, setsJ, List.foldl_cons, List.foldl_nil, List.set_cons_zero, List.set_cons_succ, demote]
  refine wp_ret (all_of (p := fun a => decide (fw cs a = some (gn cs a))) (l := List.range E) (eLc_of nat _ (l := List.range E) (range1_nat rfl (by omega)) (by rw [List.length_range]; omega) fun a ha => ⟨[(3, nat a)], rfl, ?_⟩)) ⟨_, rfl, ?_⟩
  · have ha := List.mem_range.mp ha
    have lg := lgreedy_ok (a := a) hc (by omega) hd
    have gd : groD cs.reverse a = nt (gro cs.reverse a).1 := by
      unfold groD
      rw [if_pos (gro_one onr)]
    rw [gd] at lg
    have hfa := hf a (by omega)
    have hne : ∃ r, f a = some r := by
      cases e : f a with
      | some r => exact ⟨r, rfl⟩
      | none =>
        rw [e] at hfa
        refine absurd ⟨fun x hx => ?_, ?_⟩ (hfa (List.replicate a 1))
        · rw [List.eq_of_mem_replicate hx]; exact one
        · rw [List.sum_replicate_nat]; omega
    obtain ⟨r, e⟩ := hne
    rw [e] at hfa
    have fe := IsL.fw hfa
    simp only [setsD, wipeD, List.foldl_cons, List.foldl_nil, List.set_cons_zero, List.set_cons_succ]
    refine eB_b ?_
    simp only [tCmp_a, eCB_a, aCons_a, aNil_a, eIx_a, eCall_2, eVar_0, eVar_s, eC_a, o2_ss, o1_s, d1_1, lg, nt_len]
    have i1 : dIx (.list ((List.range (E + 1)).map fun w => osk (f w))) (nat a) = some (osk (f a)) := lst_ix (rng_at (fun w => osk (f w)) (by omega))
    rw [i1, e, o2_ss]
    have i2 : dIx (osk (some r)) (.int 0) = some (nat r.length) := atI_0
    rw [i2, o2_ss]
    show dEq (.int ((gro cs.reverse a).1.length : Int)) (.int (r.length : Int)) = _
    rw [dEq_i]
    have fe : fw cs a = some r.length := fe
    refine congrArg some (decide_eq_decide.mpr ⟨fun q => ?_, fun q => ?_⟩)
    · rw [fe]
      unfold gn
      exact congrArg some (by omega)
    · rw [fe] at q
      have := Option.some.inj q
      unfold gn at this
      omega
  · rw [List.all_eq_true]
    unfold GB
    rw [← hE]
    exact ⟨fun q a ha => of_decide_eq_true (q a (List.mem_range.mpr ha)), fun q a ha => decide_eq_true (q a (List.mem_range.mp ha))⟩
/-! three coins -/
theorem gb_false {c : Nat} (h : 3 ≤ c) : ¬ GB [1, c, c + 1] := fun g => by
  have g := g (2 * c) (by unfold ends25; simp; omega)
  have r : Rep [1, c, c + 1] [c, c] (2 * c) := ⟨fun x hx => by simp at hx; subst hx; simp, by simp; omega⟩
  obtain ⟨k, h1, h2⟩ := fw_le r
  rw [g] at h1
  have e : gn [1, c, c + 1] (2 * c) = k := Option.some.inj h1
  have v : gn [1, c, c + 1] (2 * c) = c := by
    unfold gn
    show (gro [c + 1, c, 1] (2 * c)).1.length = c
    have d1 : 2 * c / (c + 1) = 1 := by
      rw [Nat.div_eq_sub_div (by omega) (by omega), Nat.div_eq_of_lt (by omega)]
    have m1 : 2 * c % (c + 1) = c - 1 := by
      rw [Nat.mod_eq_sub_mod (by omega), Nat.mod_eq_of_lt (by omega)]
      omega
    have d2 : (c - 1) / c = 0 := Nat.div_eq_of_lt (by omega)
    have m2 : (c - 1) % c = c - 1 := Nat.mod_eq_of_lt (by omega)
    simp only [gro, d1, m1, d2, m2, List.length_append, List.length_replicate, Nat.div_one, List.length_nil]
    omega
  rw [v] at e
  have h2 : k ≤ 2 := h2
  omega
theorem three : ∀ {c d : Nat} (l : List Nat), (∀ x ∈ l, x ∈ [1, c, d]) → ∃ x y z, l.length = x + y + z ∧ l.sum = x + c * y + d * z
  | _, _, [], _ => ⟨0, 0, 0, rfl, by simp⟩
  | c, d, v :: l, h => by
    obtain ⟨x, y, z, h1, h2⟩ := three l fun x hx => h x (.tail _ hx)
    have := h v (.head _)
    simp only [List.mem_cons, List.not_mem_nil, or_false] at this
    rw [List.length_cons, List.sum_cons, h1, h2]
    rcases this with e | e | e <;> subst e
    · exact ⟨x + 1, y, z, by omega, by omega⟩
    · exact ⟨x, y + 1, z, by omega, by rw [Nat.mul_succ]; omega⟩
    · exact ⟨x, y, z + 1, by omega, by rw [Nat.mul_succ]; omega⟩
theorem gb_true {c k : Nat} (hc : 0 < c) (hk : 0 < k) : GB [1, c, c * k] := fun a _ => by
  refine fw_eq ?_
  have g1 := gro_rep [c * k, c, 1] a
  have g2 := gro_one (ds := [c * k, c, 1]) (a := a) (by simp)
  rw [g2] at g1
  refine ⟨⟨(gro [c * k, c, 1] a).1, ⟨fun x hx => ?_, g1.2⟩, rfl⟩, fun l hl => ?_⟩
  · have := g1.1 x hx
    simp only [List.mem_cons, List.not_mem_nil, or_false] at this ⊢
    rcases this with e | e | e <;> simp [e]
  · have v : gn [1, c, c * k] a = a / c / k + a / c % k + a % c := by
      unfold gn
      show (gro [c * k, c, 1] a).1.length = _
      simp only [gro, List.length_append, List.length_replicate, Nat.div_one, List.length_nil]
      rw [← Nat.div_div_eq_div_mul, Nat.mod_mul_right_div_self, Nat.mod_mul_right_mod]
      omega
    rw [v]
    obtain ⟨x, y, z, h1, h2⟩ := three l hl.1
    rw [hl.2] at h2
    rw [h1]
    have e : a = x + c * (y + k * z) := by rw [h2, Nat.mul_add, Nat.mul_assoc]; omega
    have ad : a / c = x / c + (y + k * z) := by rw [e, Nat.add_mul_div_left _ _ hc]
    have am : a % c = x % c := by rw [e, Nat.add_mul_mod_self_left]
    have ad2 : a / c / k = (x / c + y) / k + z := by rw [ad, ← Nat.add_assoc, Nat.add_mul_div_left _ _ hk]
    have am2 : a / c % k = (x / c + y) % k := by rw [ad, ← Nat.add_assoc, Nat.add_mul_mod_self_left]
    rw [ad2, am2, am]
    have d1 := div_len (a := x / c + y) hk
    have d2 := div_len (a := x) hc
    omega
end Lib
end

section
set_option Elab.async false
set_option linter.all false
set_option maxRecDepth 10000
/-! k25, part h: the ways of length one a coin. -/
namespace Lib
open DS PySem
def den_filled_ways : Fn := dfun 7 1 (sSeq (sSet 1 0 (eCB (d1 dLen) (aCons (eVar 0) aNil)) [])
  (sSeq (sSet 2 2 (eLc (iSeq (eVar 0)) (.nm 6) tTrue (eCB (d1 dList) (aCons (eVar 6) aNil)) [6]) ([(0, 1)] ++ ([(6, 1)] ++ [])))
  (sSeq (sFor (iRange1 (eVar 1)) [] (.nm 3)
  (sFor (iRange1 (eVar 1)) [] (.nm 4)
  (sFor (iRange1 (eVar 1)) [] (.nm 5)
  (sPut22 2 (eVar 4) (eVar 5) (eCB (d2 dMin2) (aCons (eIx (eIx (eVar 2) (eVar 4)) (eVar 5)) (aCons (eOp dAdd (eIx (eIx (eVar 2) (eVar 4)) (eVar 3)) (eIx (eIx (eVar 2) (eVar 3)) (eVar 5))) aNil)))))))
  (sRet (eCB (d1 dTuple) (aCons (eLc (iSeq (eVar 2)) (.nm 6) tTrue (eCB (d1 dTuple) (aCons (eVar 6) aNil)) [6]) aNil))))))
theorem wp_put22 {N B C : S → Prop} {R : D → Prop} {ρ : PEnv} {L : List Nat} {i n m : Nat} {jj kk f : FE} {d : D} {ds es : List D} {a b : Int} (h : f ρ = some d) (hi : eVar i ρ = some (.list ds)) (hj : jj ρ = some (.int a)) (hk : kk ρ = some (.int b)) (hn : L2.ixN ds.length a = some n) (he : ds[n]? = some (.list es)) (hm : L2.ixN es.length b = some m) (hd : flat d = true) (hL : lv L i = 2) (q : N (ρ.set i (some (.list (ds.set n (.list (es.set m d))))), L)) : WP (sPut22 i jj kk f) (ρ, L) N R B C := by
  unfold WP sPut22
  simp only [h, hi, hj, hk, hn, he, hm, hd, hL, decide_true, Bool.and_self, if_true]
  exact q
abbrev Mx := Nat → Nat → Nat
def rowM (M : Mx) (u : Nat) : List D := (List.range 8).map fun v => nat (M u v)
def mxL (M : Mx) : D := .list ((List.range 8).map fun u => .list (rowM M u))
def mxT (M : Mx) : D := .tuple ((List.range 8).map fun u => .tuple (rowM M u))
def upM (M : Mx) (i j x : Nat) : Mx := fun u v => if u = i ∧ v = j then x else M u v
theorem rowM_flat (M : Mx) (u : Nat) : flat (.tuple (rowM M u)) = true := by
  have := nt_flat ((List.range 8).map (M u))
  unfold nt at this
  rw [List.map_map] at this
  exact this
theorem mxT_flat (M : Mx) : flat (mxT M) = true := by
  have : ∀ l : List Nat, flats (l.map fun u => .tuple (rowM M u)) = true := fun l => by
    induction l with
    | nil => rfl
    | cons a l ih => rw [List.map_cons]; unfold flats; rw [rowM_flat, ih]; rfl
  unfold mxT
  simp only [flat, this]
theorem mx_row {M : Mx} {u : Nat} (h : u < 8) : dIx (mxL M) (nat u) = some (.list (rowM M u)) := lst_ix (rng_at (fun u => PyData.list (rowM M u)) h)
theorem mx_cell {M : Mx} {u v : Nat} (h : v < 8) : dIx (.list (rowM M u)) (nat v) = some (nat (M u v)) := lst_ix (rng_at (fun v => nat (M u v)) h)
theorem row_set {M : Mx} {i j x : Nat} : (rowM M i).set j (nat x) = rowM (upM M i j x) i := by
  unfold rowM
  refine List.ext_getElem (by simp) fun v h3 h4 => ?_
  rw [List.getElem_set, List.getElem_map, List.getElem_map, List.getElem_range]
  unfold upM
  by_cases e2 : j = v
  · subst e2
    rw [if_pos rfl, if_pos ⟨rfl, rfl⟩]
  · rw [if_neg e2, if_neg (fun q => e2 q.2.symm)]
theorem mx_set {M : Mx} {i j x : Nat} (hi : i < 8) (hj : j < 8) : (PyData.list (((List.range 8).map fun u => .list (rowM M u)).set i (.list ((rowM M i).set j (nat x))))) = mxL (upM M i j x) := by
  unfold mxL
  refine congrArg PyData.list (List.ext_getElem (by simp) fun u h1 h2 => ?_)
  rw [List.getElem_set, List.getElem_map, List.getElem_map, List.getElem_range]
  by_cases e : i = u
  · subst e
    rw [if_pos rfl]
    exact congrArg PyData.list row_set
  · rw [if_neg e]
    refine congrArg PyData.list ?_
    unfold rowM
    refine List.map_congr_left fun v _ => ?_
    unfold upM
    rw [if_neg (fun q => e q.1.symm)]
/-! distances -/
def dd : Option Nat → Nat
  | none => 60
  | some k => min k 60
noncomputable def dst (cs : List Nat) (u v : Nat) : Nat := if u ≤ v then dd (fw cs (v - u)) else 60
theorem dd_le (o : Option Nat) : dd o ≤ 60 := by cases o <;> simp [dd]; omega
theorem dst_le (cs : List Nat) (u v : Nat) : dst cs u v ≤ 60 := by
  unfold dst
  split
  · exact dd_le _
  · exact Nat.le_refl _
theorem dst_tri (cs : List Nat) (u k v : Nat) : dst cs u v ≤ dst cs u k + dst cs k v := by
  have h0 := dst_le cs u v
  by_cases h1 : u ≤ k
  · by_cases h2 : k ≤ v
    · unfold dst
      rw [if_pos (by omega), if_pos h1, if_pos h2]
      cases e1 : fw cs (k - u) with
      | none => have := dd_le (fw cs (v - u)); have : dd none = 60 := rfl; omega
      | some a =>
        cases e2 : fw cs (v - k) with
        | none => have := dd_le (fw cs (v - u)); have : dd none = 60 := rfl; omega
        | some b =>
          obtain ⟨⟨l1, r1, n1⟩, _⟩ := fw_some e1
          obtain ⟨⟨l2, r2, n2⟩, _⟩ := fw_some e2
          have r : Rep cs (l1 ++ l2) (v - u) := ⟨fun x hx => by
            rcases List.mem_append.mp hx with q | q
            · exact r1.1 x q
            · exact r2.1 x q, by rw [List.sum_append, r1.2, r2.2]; omega⟩
          obtain ⟨j, hj, hle⟩ := fw_le r
          rw [List.length_append] at hle
          rw [hj]
          simp only [dd]
          omega
    · have : dst cs k v = 60 := by unfold dst; rw [if_neg h2]
      omega
  · have : dst cs u k = 60 := by unfold dst; rw [if_neg h1]
    omega
/-- a way of coins whose inner places are below K -/
def Ub (cs : List Nat) (K : Nat) (M : Mx) : Prop := ∀ (i : Nat) (l : List Nat), (∀ x ∈ l, x ∈ cs) → i + l.sum < 8 → (∀ t, 0 < t → t < l.length → i + (l.take t).sum < K) → M i (i + l.sum) ≤ l.length
theorem sum_take_lt {l : List Nat} (h : ∀ x ∈ l, 0 < x) {s t : Nat} (hst : s < t) (ht : t ≤ l.length) : (l.take s).sum < (l.take t).sum := by
  have e : l.take t = l.take s ++ (l.drop s).take (t - s) := by
    rw [← List.take_add]
    congr 1
    omega
  rw [e, List.sum_append]
  have : 0 < ((l.drop s).take (t - s)).sum := by
    have hs : s < l.length := by omega
    rw [List.drop_eq_getElem_cons hs]
    obtain ⟨m, hm⟩ : ∃ m, t - s = m + 1 := ⟨t - s - 1, by omega⟩
    rw [hm, List.take_succ_cons, List.sum_cons]
    have := h _ (List.getElem_mem hs)
    omega
  omega
theorem ub_step {cs : List Nat} {K : Nat} {M M' : Mx} (hK : K < 8) (hc : ∀ c ∈ cs, 0 < c) (h : Ub cs K M) (h1 : ∀ i j, i < 8 → j < 8 → M' i j ≤ M i j) (h2 : ∀ i j, i < 8 → j < 8 → M' i j ≤ M i K + M K j) : Ub cs (K + 1) M' := by
  intro i l hl hs ht
  have pos : ∀ x ∈ l, 0 < x := fun x hx => hc x (hl x hx)
  by_cases c : ∃ t, 0 < t ∧ t < l.length ∧ i + (l.take t).sum = K
  · obtain ⟨t, t0, t1, e⟩ := c
    have sp : (l.take t).sum + (l.drop t).sum = l.sum := by rw [← List.sum_append, List.take_append_drop]
    have a := h i (l.take t) (fun x hx => hl x (List.mem_of_mem_take hx)) (by omega) (fun s s0 s1 => by
      rw [List.length_take] at s1
      rw [List.take_take, Nat.min_eq_left (by omega)]
      have := sum_take_lt pos (s := s) (t := t) (by omega) (by omega)
      omega)
    have b := h K (l.drop t) (fun x hx => hl x (List.mem_of_mem_drop hx)) (by omega) (fun s s0 s1 => by
      rw [List.length_drop] at s1
      have q := ht (t + s) (by omega) (by omega)
      rw [List.take_add, List.sum_append] at q
      have p := sum_take_lt pos (s := t) (t := t + s) (by omega) (by omega)
      rw [List.take_add, List.sum_append] at p
      omega)
    rw [e, List.length_take] at a
    have eb : K + (l.drop t).sum = i + l.sum := by omega
    rw [eb, List.length_drop] at b
    have := h2 i (i + l.sum) (by omega) hs
    omega
  · have := h i l hl hs fun t t0 t1 => by
      have q := ht t t0 t1
      have : i + (l.take t).sum ≠ K := fun z => c ⟨t, t0, t1, z⟩
      omega
    have q := h1 i (i + l.sum) (by omega) hs
    omega
/-- what the cells say at the start -/
structure Wst (cs : List Nat) (W : Mx) : Prop where
  same : ∀ u, W u u = 0
  coin : ∀ u c, c ∈ cs → W u (u + c) ≤ 1
  low : ∀ u v, u < 8 → v < 8 → dst cs u v ≤ W u v
  top : ∀ u v, W u v ≤ 60
theorem ub_0 {cs : List Nat} {W : Mx} (h : Wst cs W) : Ub cs 0 W := by
  intro i l hl hs ht
  match l, hl, ht with
  | [], _, _ => rw [List.sum_nil, Nat.add_zero, h.same]; exact Nat.zero_le _
  | [c], hl, _ => have := h.coin i c (hl c (.head _)); simpa using this
  | a :: b :: l, _, ht => have := ht 1 (by omega) (by simp); omega
theorem ways_ok {cs : List Nat} {W : Mx} (hc : ∀ c ∈ cs, 0 < c) (hW : Wst cs W) : ∃ d, den_filled_ways [mxT W] = some d ∧ ∃ M : Mx, d = mxT M ∧ ∀ v, v < 8 → M 0 v = dd (fw cs v) := by
  refine dfun_wpE rfl ?_
  simp only [List.map_cons, List.map_nil, List.replicate_succ, List.replicate_zero, List.nil_append, List.cons_append, List.append_nil, Nat.reduceSub, Nat.reduceAdd, setsD, zeros, stt, setsO, setsJ, List.foldl_cons, List.foldl_nil, List.set_cons_zero, List.set_cons_succ, demote]
  refine wp_seq (wp_set (d := nat 8) (by
    simp only [eCB_a, aCons_a, aNil_a, eVar_0, o2_ss, o1_s, d1_1]
    show some (PyData.int (((List.range 8).map fun u => PyData.tuple (rowM W u)).length : Nat)) = _
    rw [List.length_map, List.length_range]
    rfl) rfl ?_)
  simp only [List.map_cons, List.map_nil, List.replicate_succ, List.replicate_zero, List.nil_append, List.cons_append, List.append_nil, Nat.reduceSub, Nat.reduceAdd, setsD, zeros, stt, setsO, setsJ, List.foldl_cons, List.foldl_nil, List.set_cons_zero, List.set_cons_succ, demote]
  refine wp_seq (wp_setL (d := mxL W) (L' := [0, 0, 2, 0, 0, 0, 0]) (eLc_of (fun u => .tuple (rowM W u)) (fun u => .list (rowM W u)) (l := List.range 8) rfl (by decide) fun u hu => ⟨[(6, .tuple (rowM W u))], rfl, by
    simp only [setsD, wipeD, List.foldl_cons, List.foldl_nil, List.set_cons_zero, List.set_cons_succ]
    (first | rfl | (simp only [eOp_a, eUn_a, eCB_a, aCons_a, aNil_a, eIx_a, eC_a, eVar_0, eVar_s, o2_ss, o1_s, d1_1, d2_2, eB_a, tCmp_a, tTru_a, tNotD_a, tIsND_a, tNotND_a, eIsN_a, eNotN_a, tTrue_a, iSeq_a, seqOf_l, seqOf_t, dAdd_i, dAddI_i, dSub_i, dNeg_i, dLt_i, dLe_i, dGt_i, dGe_i, dEq_i, dNe_i, dTru_b, dTru_i, dTru_l, dTru_t, dTru_n, isNon_n, isNon_b, isNon_i, isNon_s, isNon_l, isNon_t, dLen_l, dLen_t, dInt_i, dInt_b, dTuple_l, dTuple_t, dList_l, dList_t, eCall_1, eCall_2, eCall_3, eCall_4, eCall_5, eCall_6, eCall_7] <;> rfl))⟩) rfl rfl ?_)
  simp only [List.map_cons, List.map_nil, List.replicate_succ, List.replicate_zero, List.nil_append, List.cons_append, List.append_nil, Nat.reduceSub, Nat.reduceAdd, setsD, zeros, stt, setsO, setsJ, List.foldl_cons, List.foldl_nil, List.set_cons_zero, List.set_cons_succ, demote]
  refine wp_seq ?_
  refine wp_for (ds := (List.range 8).map nat) (P := fun K s => ∃ (M : Mx) (x3 x4 x5 x6 : Option D), s = ([some (mxT W), some (nat 8), some (mxL M), x3, x4, x5, x6], [0, 0, 2, 0, 0, 0, 0]) ∧ Ub cs K M ∧ (∀ u v, u < 8 → v < 8 → dst cs u v ≤ M u v) ∧ ∀ u v, u < 8 → v < 8 → M u v ≤ 60) (range1_nat rfl (by decide)) ⟨W, none, none, none, none, rfl, ub_0 hW, hW.low, fun u v _ _ => hW.top u v⟩ ?_ ?_
  · rintro K d _ hdk ⟨M0, x3, x4, x5, x6, rfl, ub, low, top⟩
    rw [List.getElem?_map] at hdk
    obtain ⟨k', hk, rfl⟩ := Option.map_eq_some_iff.mp hdk
    obtain ⟨hlt, e⟩ := List.getElem?_eq_some_iff.mp hk
    rw [List.getElem_range] at e
    subst e
    have hK : K < 8 := by simpa using hlt
    refine ⟨[(3, nat K)], rfl, ?_⟩
    simp only [List.map_cons, List.map_nil, List.replicate_succ, List.replicate_zero, List.nil_append, List.cons_append, List.append_nil, Nat.reduceSub, Nat.reduceAdd, setsD, zeros, stt, setsO, setsJ, List.foldl_cons, List.foldl_nil, List.set_cons_zero, List.set_cons_succ, demote]
    refine wp_for (ds := (List.range 8).map nat) (P := fun I s => ∃ (M : Mx) (x4 x5 x6 : Option D), s = ([some (mxT W), some (nat 8), some (mxL M), some (nat K), x4, x5, x6], [0, 0, 2, 0, 0, 0, 0]) ∧ (∀ u v, u < 8 → v < 8 → dst cs u v ≤ M u v) ∧ (∀ u v, u < 8 → v < 8 → M u v ≤ M0 u v) ∧ ∀ u v, u < I → v < 8 → M u v ≤ M0 u K + M0 K v) (range1_nat rfl (by decide)) ⟨M0, x4, x5, x6, rfl, low, fun u v _ _ => Nat.le_refl _, fun u v h => absurd h (Nat.not_lt_zero _)⟩ ?_ ?_
    · rintro I d _ hdi ⟨M1, x4, x5, x6, rfl, low1, le1, pr1⟩
      rw [List.getElem?_map] at hdi
      obtain ⟨k', hk, rfl⟩ := Option.map_eq_some_iff.mp hdi
      obtain ⟨hlt, e⟩ := List.getElem?_eq_some_iff.mp hk
      rw [List.getElem_range] at e
      subst e
      have hI : I < 8 := by simpa using hlt
      refine ⟨[(4, nat I)], rfl, ?_⟩
      simp only [List.map_cons, List.map_nil, List.replicate_succ, List.replicate_zero, List.nil_append, List.cons_append, List.append_nil, Nat.reduceSub, Nat.reduceAdd, setsD, zeros, stt, setsO, setsJ, List.foldl_cons, List.foldl_nil, List.set_cons_zero, List.set_cons_succ, demote]
      refine wp_for (ds := (List.range 8).map nat) (P := fun J s => ∃ (M : Mx) (x5 x6 : Option D), s = ([some (mxT W), some (nat 8), some (mxL M), some (nat K), some (nat I), x5, x6], [0, 0, 2, 0, 0, 0, 0]) ∧ (∀ u v, u < 8 → v < 8 → dst cs u v ≤ M u v) ∧ (∀ u v, u < 8 → v < 8 → M u v ≤ M0 u v) ∧ (∀ u v, u < I → v < 8 → M u v ≤ M0 u K + M0 K v) ∧ ∀ v, v < J → M I v ≤ M0 I K + M0 K v) (range1_nat rfl (by decide)) ⟨M1, x5, x6, rfl, low1, le1, pr1, fun v h => absurd h (Nat.not_lt_zero _)⟩ ?_ ?_
      · rintro J d _ hdj ⟨M, x5, x6, rfl, low2, le2, pr2, pj⟩
        rw [List.getElem?_map] at hdj
        obtain ⟨k', hk, rfl⟩ := Option.map_eq_some_iff.mp hdj
        obtain ⟨hlt, e⟩ := List.getElem?_eq_some_iff.mp hk
        rw [List.getElem_range] at e
        subst e
        have hJ : J < 8 := by simpa using hlt
        refine ⟨[(5, nat J)], rfl, ?_⟩
        simp only [List.map_cons, List.map_nil, List.replicate_succ, List.replicate_zero, List.nil_append, List.cons_append, List.append_nil, Nat.reduceSub, Nat.reduceAdd, setsD, zeros, stt, setsO, setsJ, List.foldl_cons, List.foldl_nil, List.set_cons_zero, List.set_cons_succ, demote]
        refine wp_put22 (d := nat (min (M I J) (M I K + M K J))) (a := (I : Int)) (b := (J : Int)) (n := I) (m := J) (ds := (List.range 8).map fun u => .list (rowM M u)) (es := rowM M I) ?_ rfl rfl rfl (ixN_n (by simpa using hI)) (rng_at (fun u => PyData.list (rowM M u)) hI) (ixN_n (by simpa [rowM] using hJ)) rfl rfl ?_
        · simp only [eCB_a, aCons_a, aNil_a, eIx_a, eOp_a, eVar_0, eVar_s, o2_ss]
          rw [mx_row hI, mx_row hK, o2_ss, o2_ss, o2_ss, mx_cell hJ, mx_cell hK, mx_cell hJ, o2_ss]
          show some (PyData.int (if ((M I K : Int) + (M K J : Int)) < (M I J : Int) then ((M I K : Int) + (M K J : Int)) else (M I J : Int))) = some (PyData.int ((min (M I J) (M I K + M K J) : Nat) : Int))
          exact congrArg (fun x => some (PyData.int x)) (by split <;> omega)
        simp only [List.map_cons, List.map_nil, List.replicate_succ, List.replicate_zero, List.nil_append, List.cons_append, List.append_nil, Nat.reduceSub, Nat.reduceAdd, setsD, zeros, stt, setsO, setsJ, List.foldl_cons, List.foldl_nil, List.set_cons_zero, List.set_cons_succ, demote]
        rw [mx_set hI hJ]
        refine ⟨upM M I J (min (M I J) (M I K + M K J)), some (nat J), x6, rfl, fun u v hu hv => ?_, fun u v hu hv => ?_, fun u v hu hv => ?_, fun v hv => ?_⟩
        · unfold upM
          split
          · rename_i q
            obtain ⟨rfl, rfl⟩ := q
            have a := low2 u v hu hv
            have b := low2 u K hu hK
            have c := low2 K v hK hv
            have t := dst_tri cs u K v
            omega
          · exact low2 u v hu hv
        · unfold upM
          split
          · rename_i q
            obtain ⟨rfl, rfl⟩ := q
            have := le2 u v hu hv
            omega
          · exact le2 u v hu hv
        · unfold upM
          rw [if_neg (by omega)]
          exact pr2 u v hu hv
        · unfold upM
          by_cases q : v = J
          · subst q
            rw [if_pos ⟨rfl, rfl⟩]
            have a := le2 I K hI hK
            have b := le2 K v hK hJ
            omega
          · rw [if_neg (fun z => q z.2)]
            exact pj v (by omega)
      · rintro _ ⟨M, x5, x6, rfl, low2, le2, pr2, pj⟩
        rw [List.length_map, List.length_range] at pj
        refine ⟨M, some (nat I), x5, x6, rfl, low2, le2, fun u v hu hv => ?_⟩
        by_cases q : u = I
        · rw [q]; exact pj v hv
        · exact pr2 u v (by omega) hv
    · rintro _ ⟨M, x4, x5, x6, rfl, low1, le1, pr1⟩
      rw [List.length_map, List.length_range] at pr1
      exact ⟨M, some (nat K), x4, x5, x6, rfl, ub_step hK hc ub le1 pr1, low1, fun u v hu hv => Nat.le_trans (le1 u v hu hv) (top u v hu hv)⟩
  · rintro _ ⟨M, x3, x4, x5, x6, rfl, ub, low, top⟩
    rw [List.length_map, List.length_range] at ub
    refine wp_ret (d := mxT M) (tup_of (eLc_of (fun u => .list (rowM M u)) (fun u => .tuple (rowM M u)) (l := List.range 8) rfl (by decide) fun u hu => ⟨[(6, .list (rowM M u))], rfl, by
      simp only [setsD, wipeD, List.foldl_cons, List.foldl_nil, List.set_cons_zero, List.set_cons_succ]
      (first | rfl | (simp only [eOp_a, eUn_a, eCB_a, aCons_a, aNil_a, eIx_a, eC_a, eVar_0, eVar_s, o2_ss, o1_s, d1_1, d2_2, eB_a, tCmp_a, tTru_a, tNotD_a, tIsND_a, tNotND_a, eIsN_a, eNotN_a, tTrue_a, iSeq_a, seqOf_l, seqOf_t, dAdd_i, dAddI_i, dSub_i, dNeg_i, dLt_i, dLe_i, dGt_i, dGe_i, dEq_i, dNe_i, dTru_b, dTru_i, dTru_l, dTru_t, dTru_n, isNon_n, isNon_b, isNon_i, isNon_s, isNon_l, isNon_t, dLen_l, dLen_t, dInt_i, dInt_b, dTuple_l, dTuple_t, dList_l, dList_t, eCall_1, eCall_2, eCall_3, eCall_4, eCall_5, eCall_6, eCall_7] <;> rfl))⟩)) ⟨M, rfl, fun v hv => ?_⟩
    have lo := low 0 v (by decide) hv
    have tp := top 0 v (by decide) hv
    unfold dst at lo
    rw [if_pos (Nat.zero_le _), Nat.sub_zero] at lo
    refine Nat.le_antisymm ?_ lo
    cases e : fw cs v with
    | none => exact tp
    | some k =>
      obtain ⟨⟨l, r, n⟩, _⟩ := fw_some e
      have := ub 0 l r.1 (by rw [r.2]; omega) (fun t t0 t1 => by
        have s := sum_take_lt (fun x hx => hc x (r.1 x hx)) (s := t) (t := l.length) t1 (Nat.le_refl _)
        rw [List.take_length, r.2] at s
        omega)
      rw [Nat.zero_add, r.2, n] at this
      simp only [dd]
      omega
end Lib
end

section
set_option Elab.async false
set_option linter.all false
set_option maxRecDepth 10000
/-! k25, part i: one amount. -/
namespace Lib
open DS PySem
def den__law_fewest_right : Fn := dfun 9 2 (sSeq (sSet 2 0 (eCall 2 den__law_tables (aCons (eVar 0) (aCons (eCB (d2 dMax2) (aCons (eVar 1) (aCons (eC (.int 7)) aNil))) aNil))) ([(0, 0)] ++ ([] ++ [])))
  (sSeq (sIf (tNotD (tTru (eCall 2 (den__law_like 30) (aCons (eCall 2 den_best_change (aCons (eVar 0) (aCons (eVar 1) aNil))) (aCons (eIx (eVar 2) (eVar 1)) aNil)))))
  (sRet (eC (.bool false)))
  sNil)
  (sSeq (sIf (tNotD (tTru (eCall 2 (den__law_like 30) (aCons (eCall 2 den_greedy_change (aCons (eVar 0) (aCons (eVar 1) aNil))) (aCons (eCall 2 den__law_greedy (aCons (eVar 0) (aCons (eVar 1) aNil))) aNil)))))
  (sRet (eC (.bool false)))
  sNil)
  (sSeq (sSet 3 1 (eLst aNil) [])
  (sSeq (sFor (iRange1 (eC (.int 8))) [] (.nm 4)
  (sApp 3 (eCB (d1 dTuple) (aCons (eLc (iRange1 (eC (.int 8))) (.nm 8) tTrue (eIx (eLst (aCons (eC (.int 60)) (aCons (eCB (d1 dInt) (aCons (eB (tCmp dNe (eVar 4) (eVar 8))) aNil)) aNil))) (eCB (d1 dInt) (aCons (eOrD (eB (tCmp dEq (eVar 8) (eVar 4))) (eB (tCmp dIn (eOp dSub (eVar 8) (eVar 4)) (eVar 0)))) aNil))) [8]) aNil)) (([] ++ ([] ++ ([] ++ []))) ++ [])))
  (sSeq (sSet 5 0 (eCall 1 den_filled_ways (aCons (eCB (d1 dTuple) (aCons (eVar 3) aNil)) aNil)) (([(3, 1)] ++ []) ++ []))
  (sSeq (sIf (tOrD (tNotD (tTru (eIsi "tuple" (eVar 5)))) (tCmp dNe (eCB (d1 dLen) (aCons (eVar 5) aNil)) (eC (.int 8))))
  (sRet (eC (.bool false)))
  sNil)
  (sSeq (sSet 6 1 (eLst aNil) [])
  (sSeq (sFor (iRange1 (eC (.int 8))) [] (.nm 7)
  (sIf (tIsND (eIx (eVar 2) (eVar 7)))
  (sApp 6 (eC (.int 60)) [])
  (sApp 6 (eIx (eIx (eVar 2) (eVar 7)) (eC (.int 0))) [(2, 2)])))
  (sRet (eCall 2 (den__law_like 30) (aCons (eIx (eVar 5) (eC (.int 0))) (aCons (eCB (d1 dTuple) (aCons (eVar 6) aNil)) aNil)))))))))))))
theorem pl_tup {k : Nat} {ds : List D} (hl : ds.length ≤ 1000000) (h : ∀ d ∈ ds, pl k d = true) : pl (k + 1) (.tuple ds) = true := by
  show (decide (ds.length ≤ 1000000) && ds.all (pl k)) = true
  rw [decide_eq_true hl, Bool.true_and, List.all_eq_true]
  exact h
theorem pl_nats {k : Nat} {s : List Nat} (h : s.length ≤ 1000000) : pl (k + 2) (nt s) = true := pl_tup (by simpa using h) fun d hd => by
  obtain ⟨i, _, rfl⟩ := List.mem_map.mp hd
  rfl
theorem pl_osk {o : Option (List Nat)} (h : ∀ r, o = some r → r.length ≤ 1000000) : pl 30 (osk o) = true := by
  cases o with
  | none => rfl
  | some r =>
    refine pl_tup (by simp) fun d hd => ?_
    simp only [List.mem_cons, List.not_mem_nil, or_false] at hd
    rcases hd with rfl | rfl
    · rfl
    · exact pl_nats (h r rfl)
theorem pl_gro {ds : List Nat} {a : Nat} (h : (gro ds a).1.length ≤ 1000000) : pl 30 (groD ds a) = true := by
  unfold groD
  split
  · exact pl_nats h
  · rfl
theorem len_le_sum : ∀ l : List Nat, (∀ x ∈ l, 0 < x) → l.length ≤ l.sum
  | [], _ => Nat.zero_le _
  | x :: l, h => by
    have := len_le_sum l fun y hy => h y (.tail _ hy)
    have := h x (.head _)
    rw [List.length_cons, List.sum_cons]
    omega
/-- the lengths of the links -/
def wM (cs : List Nat) : Mx := fun u v => if u = v then 0 else if u ≤ v ∧ (v - u) ∈ cs then 1 else 60
theorem wM_ok {cs : List Nat} (hc : ∀ c ∈ cs, 0 < c) : Wst cs (wM cs) where
  same u := by unfold wM; rw [if_pos rfl]
  coin u c h := by
    unfold wM
    have := hc c h
    rw [if_neg (by omega), if_pos ⟨by omega, by rw [Nat.add_sub_cancel_left]; exact h⟩]
    exact Nat.le_refl _
  low u v _ _ := by
    unfold wM dst
    by_cases e : u = v
    · subst e
      rw [if_pos (Nat.le_refl _), if_pos rfl, Nat.sub_self, fw_0]
      exact Nat.le_refl _
    · rw [if_neg e]
      split
      · split
        · rename_i q
          obtain ⟨k, h1, h2⟩ := fw_le (cs := cs) (l := [v - u]) (a := v - u) ⟨fun x hx => by
            have : x = v - u := by simpa using hx
            rw [this]; exact q.2, by simp⟩
          rw [h1]
          have h2 : k ≤ 1 := h2
          simp only [dd]
          omega
        · exact dd_le _
      · split
        · rename_i q; omega
        · exact Nat.le_refl _
  top u v := by
    unfold wM
    split
    · omega
    · split <;> omega
theorem int_in (i : Int) (o : List Nat) : dIn (.int i) (nt o) = some (decide (0 ≤ i ∧ i.toNat ∈ o)) := by
  have h : (o.map nat).all scal1 = true := by
    rw [List.all_eq_true]
    intro x hx
    obtain ⟨k, _, rfl⟩ := List.mem_map.mp hx
    rfl
  show (if (scal1 (.int i) && (o.map nat).all scal1) = true then some ((o.map nat).any fun z => PyData.eqv z (.int i)) else none) = _
  rw [h, if_pos (by rfl)]
  congr 1
  rw [Bool.eq_iff_iff, List.any_eq_true, decide_eq_true_iff]
  constructor
  · rintro ⟨z, hz, e⟩
    obtain ⟨k, hk, rfl⟩ := List.mem_map.mp hz
    have : (k : Int) = i := by simpa [nat, PyData.eqv] using e
    subst this
    exact ⟨by omega, by simpa using hk⟩
  · rintro ⟨h0, hm⟩
    refine ⟨nat i.toNat, List.mem_map.mpr ⟨_, hm, rfl⟩, ?_⟩
    have : ((i.toNat : Nat) : Int) = i := by omega
    simp [nat, PyData.eqv, this]
theorem right_ok {cs : List Nat} {a : Nat} (hc : ∀ c ∈ cs, 0 < c ∧ c ≤ 1000) (nd : cs.Nodup) (hl : cs.length < 60) (ha : a ≤ 900) : den__law_fewest_right [nt cs, nat a] = some (.bool true) := by
  have hc0 : ∀ c ∈ cs, 0 < c := fun c h => (hc c h).1
  obtain ⟨m, hm⟩ : ∃ m, m = if 7 > a then 7 else a := ⟨_, rfl⟩
  have ham : a ≤ m := by rw [hm]; split <;> omega
  have h7 : 7 ≤ m := by rw [hm]; split <;> omega
  have hm9 : m ≤ 900 := by rw [hm]; split <;> omega
  obtain ⟨d, ht, f, hf, rfl⟩ := ltab_ok (cs := cs) (m := m) hc (by omega)
  obtain ⟨o, ho, hb⟩ := best_change_ok (a := a) hc hl (by omega)
  have eo : o = f a := ho.uniq (hf a ham)
  subst eo
  have gr := greedy_ok (a := a) hc hl (by omega)
  have hd : dnN cs = (srtN cs).reverse := dnN_eq (List.pairwise_reverse.mpr ((srtN_up cs).imp fun h => Nat.le_of_lt h)) ((List.reverse_perm _).trans ((List.perm_ext_iff_of_nodup ((srtN_up cs).imp fun h => Nat.ne_of_lt h) nd).mpr fun c => mem_srtN))
  have lg := lgreedy_ok (a := a) hc (by omega) hd
  have rl : ∀ r, f a = some r → r.length ≤ 1000000 := fun r e => by
    have := hf a ham
    rw [e] at this
    have := this.rep
    have q := len_le_sum r fun x hx => hc0 x (this.1 x hx)
    rw [this.2] at q
    omega
  have gl : (gro (srtN cs).reverse a).1.length ≤ 1000000 := by
    obtain ⟨g1, g2⟩ := gro_rep (srtN cs).reverse a
    have q := len_le_sum _ fun x hx => hc0 x (mem_srtN.mp (List.mem_reverse.mp (g1 x hx)))
    omega
  have li1 := like_ok 30 (osk (f a)) (pl_osk rl)
  have li2 := like_ok 30 (groD (srtN cs).reverse a) (pl_gro gl)
  obtain ⟨dw, hw, M, rfl, hM⟩ := ways_ok hc0 (wM_ok hc0)
  refine dfun_wp rfl ?_
  simp only [List.map_cons, List.map_nil, List.replicate_succ, List.replicate_zero, List.nil_append, List.cons_append, List.append_nil, Nat.reduceSub, Nat.reduceAdd, setsD, zeros, stt, setsO, setsJ, List.foldl_cons, List.foldl_nil, List.set_cons_zero, List.set_cons_succ, demote]
  refine wp_seq (wp_setL (d := .list ((List.range (m + 1)).map fun w => osk (f w))) (L' := [0, 0, 0, 0, 0, 0, 0, 0, 0]) (by
    simp only [eCall_2, eCB_a, aCons_a, aNil_a, eVar_0, eVar_s, eC_a, o2_ss, o1_s, d2_2, nat]
    have e : dMax2 (.int (a : Int)) (.int 7) = some (.int (m : Int)) := by
      show some (PyData.int (if (7 : Int) > a then 7 else (a : Int))) = _
      exact congrArg (fun x => some (PyData.int x)) (by rw [hm]; split <;> split <;> omega)
    rw [e]
    simp only [o1_s, o2_ss]
    exact ht) rfl rfl ?_)
  simp only [List.map_cons, List.map_nil, List.replicate_succ, List.replicate_zero, List.nil_append, List.cons_append, List.append_nil, Nat.reduceSub, Nat.reduceAdd, setsD, zeros, stt, setsO, setsJ, List.foldl_cons, List.foldl_nil, List.set_cons_zero, List.set_cons_succ, demote]
  have ixm : ∀ w, w ≤ m → dIx (.list ((List.range (m + 1)).map fun w => osk (f w))) (nat w) = some (osk (f w)) := fun w hw => lst_ix (rng_at (fun w => osk (f w)) (by omega))
  refine wp_seq (wp_pass ?_ ?_)
  · refine tNot_b (b := true) (tTru_b ?_)
    simp only [eCall_2, eIx_a, eVar_0, eVar_s, o2_ss, o1_s]
    rw [hb, ixm a ham]
    simp only [o1_s, o2_ss]
    exact li1
  refine wp_seq (wp_pass ?_ ?_)
  · refine tNot_b (b := true) (tTru_b ?_)
    simp only [eCall_2, eVar_0, eVar_s, o2_ss, o1_s]
    rw [gr, lg]
    simp only [o1_s, o2_ss]
    exact li2
  refine wp_seq (wp_setL (d := .list []) (L' := [0, 0, 0, 1, 0, 0, 0, 0, 0]) rfl rfl rfl ?_)
  simp only [List.map_cons, List.map_nil, List.replicate_succ, List.replicate_zero, List.nil_append, List.cons_append, List.append_nil, Nat.reduceSub, Nat.reduceAdd, setsD, zeros, stt, setsO, setsJ, List.foldl_cons, List.foldl_nil, List.set_cons_zero, List.set_cons_succ, demote]
  refine wp_seq ?_
  refine wp_for (ds := (List.range 8).map nat) (P := fun k s => ∃ x4 : Option D, s = ([some (nt cs), some (nat a), some (.list ((List.range (m + 1)).map fun w => osk (f w))), some (.list ((List.range k).map fun u => .tuple (rowM (wM cs) u))), x4, none, none, none, none], [0, 0, 0, 1, 0, 0, 0, 0, 0])) (range1_nat rfl (by decide)) ⟨none, rfl⟩ ?_ ?_
  · rintro k d _ hdk ⟨x4, rfl⟩
    rw [List.getElem?_map] at hdk
    obtain ⟨k', hk, rfl⟩ := Option.map_eq_some_iff.mp hdk
    obtain ⟨hlt, e⟩ := List.getElem?_eq_some_iff.mp hk
    rw [List.getElem_range] at e
    subst e
    have hk8 : k < 8 := by simpa using hlt
    refine ⟨[(4, nat k)], rfl, ?_⟩
    simp only [List.map_cons, List.map_nil, List.replicate_succ, List.replicate_zero, List.nil_append, List.cons_append, List.append_nil, Nat.reduceSub, Nat.reduceAdd, setsD, zeros, stt, setsO, setsJ, List.foldl_cons, List.foldl_nil, List.set_cons_zero, List.set_cons_succ, demote]
    refine wp_app (d := .tuple (rowM (wM cs) k)) (ds := (List.range k).map fun u => .tuple (rowM (wM cs) u)) (tup_of (eLc_of nat _ (l := List.range 8) (range1_nat rfl (by decide)) (by decide) fun v hv => ⟨[(8, nat v)], rfl, ?_⟩)) rfl (rowM_flat _ _) (by simp; omega) rfl ?_
    · simp only [setsD, wipeD, List.foldl_cons, List.foldl_nil, List.set_cons_zero, List.set_cons_succ]
      have t1 : (eB (tCmp dEq (eVar 8) (eVar 4))) [some (nt cs), some (nat a), some (.list ((List.range (m + 1)).map fun w => osk (f w))), some (.list ((List.range k).map fun u => .tuple (rowM (wM cs) u))), some (nat k), none, none, none, some (nat v)] = some (.bool (decide (v = k))) := by
        refine eB_b ?_
        simp only [tCmp_a, eVar_0, eVar_s, o2_ss, nat, dEq_i]
        exact congrArg some (decide_eq_decide.mpr ⟨fun h => by omega, fun h => by omega⟩)
      have t2 : (eB (tCmp dIn (eOp dSub (eVar 8) (eVar 4)) (eVar 0))) [some (nt cs), some (nat a), some (.list ((List.range (m + 1)).map fun w => osk (f w))), some (.list ((List.range k).map fun u => .tuple (rowM (wM cs) u))), some (nat k), none, none, none, some (nat v)] = some (.bool (decide (k ≤ v ∧ v - k ∈ cs))) := by
        refine eB_b ?_
        simp only [tCmp_a, eOp_a, eVar_0, eVar_s, o2_ss, nat, dSub_i]
        rw [int_in]
        refine congrArg some (decide_eq_decide.mpr ?_)
        have e : ((v : Int) - (k : Int)).toNat = v - k := by omega
        rw [e]
        exact ⟨fun h => ⟨by omega, h.2⟩, fun h => ⟨by omega, h.2⟩⟩
      have t3 : (eLst (aCons (eC (.int 60)) (aCons (eCB (d1 dInt) (aCons (eB (tCmp dNe (eVar 4) (eVar 8))) aNil)) aNil))) [some (nt cs), some (nat a), some (.list ((List.range (m + 1)).map fun w => osk (f w))), some (.list ((List.range k).map fun u => .tuple (rowM (wM cs) u))), some (nat k), none, none, none, some (nat v)] = some (.list [.int 60, .int (if decide (v = k) = true then 0 else 1)]) := by
        have e : (eB (tCmp dNe (eVar 4) (eVar 8))) [some (nt cs), some (nat a), some (.list ((List.range (m + 1)).map fun w => osk (f w))), some (.list ((List.range k).map fun u => .tuple (rowM (wM cs) u))), some (nat k), none, none, none, some (nat v)] = some (.bool (!decide (v = k))) := by
          refine eB_b ?_
          simp only [tCmp_a, eVar_0, eVar_s, o2_ss, nat, dNe_i]
          refine congrArg some ?_
          by_cases q : v = k
          · subst q; simp
          · simp [q]; omega
        unfold eLst
        rw [aCons_a, aCons_a, eCB_a, aCons_a, e, aNil_a]
        by_cases q : v = k
        · rw [decide_eq_true q]; rfl
        · rw [decide_eq_false q]; rfl
      have q0 : ∀ x y : D, dIx (.list [x, y]) (.int 0) = some x := fun x y => atI_0
      have q1 : ∀ x y : D, dIx (.list [x, y]) (.int 1) = some y := fun x y => atI_1
      have t4 : (eOrD (eB (tCmp dEq (eVar 8) (eVar 4))) (eB (tCmp dIn (eOp dSub (eVar 8) (eVar 4)) (eVar 0)))) [some (nt cs), some (nat a), some (.list ((List.range (m + 1)).map fun w => osk (f w))), some (.list ((List.range k).map fun u => .tuple (rowM (wM cs) u))), some (nat k), none, none, none, some (nat v)] = some (.bool (decide (v = k) || decide (k ≤ v ∧ v - k ∈ cs))) := by
        unfold eOrD
        rw [t1]
        cases decide (v = k) with
        | true => rfl
        | false => rw [Bool.false_or]; exact t2
      rw [eIx_a, t3, eCB_a, aCons_a, t4]
      simp only [aNil_a, o2_ss, o1_s, d1_1, dInt_b]
      unfold wM
      by_cases q : v = k
      · rw [decide_eq_true q, Bool.true_or]
        have w : (if k = v then 0 else if k ≤ v ∧ v - k ∈ cs then 1 else 60) = 0 := if_pos q.symm
        rw [w]
        exact q1 _ _
      · rw [decide_eq_false q, Bool.false_or]
        have w : (if k = v then 0 else if k ≤ v ∧ v - k ∈ cs then 1 else 60) = if k ≤ v ∧ v - k ∈ cs then 1 else 60 := if_neg fun z => q z.symm
        rw [w]
        by_cases z : k ≤ v ∧ v - k ∈ cs
        · rw [decide_eq_true z, if_pos z]
          exact q1 _ _
        · rw [decide_eq_false z, if_neg z]
          exact q0 _ _
    · simp only [List.map_cons, List.map_nil, List.replicate_succ, List.replicate_zero, List.nil_append, List.cons_append, List.append_nil, Nat.reduceSub, Nat.reduceAdd, setsD, zeros, stt, setsO, setsJ, List.foldl_cons, List.foldl_nil, List.set_cons_zero, List.set_cons_succ, demote]
      refine ⟨some (nat k), ?_⟩
      rw [List.range_succ (n := k), List.map_append]
      rfl
  · rintro _ ⟨x4, rfl⟩
    rw [List.length_map, List.length_range]
    refine wp_seq (wp_set (d := mxT M) (by
      simp only [eCall_1]
      rw [tup_of (ds := (List.range 8).map fun u => .tuple (rowM (wM cs) u)) rfl]
      simp only [o1_s]
      exact hw) (mxT_flat M) ?_)
    simp only [List.map_cons, List.map_nil, List.replicate_succ, List.replicate_zero, List.nil_append, List.cons_append, List.append_nil, Nat.reduceSub, Nat.reduceAdd, setsD, zeros, stt, setsO, setsJ, List.foldl_cons, List.foldl_nil, List.set_cons_zero, List.set_cons_succ, demote]
    refine wp_seq (wp_pass ?_ ?_)
    · have e1 : (tNotD (tTru (eIsi "tuple" (eVar 5)))) [some (nt cs), some (nat a), some (.list ((List.range (m + 1)).map fun w => osk (f w))), some (.list ((List.range 8).map fun u => .tuple (rowM (wM cs) u))), x4, some (mxT M), none, none, none] = some false := rfl
      unfold tOrD
      rw [e1]
      show (tCmp dNe (eCB (d1 dLen) (aCons (eVar 5) aNil)) (eC (.int 8))) _ = _
      simp only [tCmp_a, eCB_a, aCons_a, aNil_a, eVar_0, eVar_s, eC_a, o2_ss, o1_s, d1_1]
      have : dLen (mxT M) = some (.int 8) := by
        unfold mxT
        rw [dLen_t, List.length_map, List.length_range]
        rfl
      rw [this]
      rfl
    refine wp_seq (wp_setL (d := .list []) (L' := [0, 0, 0, 1, 0, 0, 1, 0, 0]) rfl rfl rfl ?_)
    simp only [List.map_cons, List.map_nil, List.replicate_succ, List.replicate_zero, List.nil_append, List.cons_append, List.append_nil, Nat.reduceSub, Nat.reduceAdd, setsD, zeros, stt, setsO, setsJ, List.foldl_cons, List.foldl_nil, List.set_cons_zero, List.set_cons_succ, demote]
    refine wp_seq ?_
    refine wp_for (ds := (List.range 8).map nat) (P := fun k s => ∃ x7 : Option D, s = ([some (nt cs), some (nat a), some (.list ((List.range (m + 1)).map fun w => osk (f w))), some (.list ((List.range 8).map fun u => .tuple (rowM (wM cs) u))), x4, some (mxT M), some (.list ((List.range k).map fun v => nat (M 0 v))), x7, none], [0, 0, 0, 1, 0, 0, 1, 0, 0])) (range1_nat rfl (by decide)) ⟨none, rfl⟩ ?_ ?_
    · rintro k d _ hdk ⟨x7, rfl⟩
      rw [List.getElem?_map] at hdk
      obtain ⟨k', hk, rfl⟩ := Option.map_eq_some_iff.mp hdk
      obtain ⟨hlt, e⟩ := List.getElem?_eq_some_iff.mp hk
      rw [List.getElem_range] at e
      subst e
      have hk8 : k < 8 := by simpa using hlt
      refine ⟨[(7, nat k)], rfl, ?_⟩
      simp only [List.map_cons, List.map_nil, List.replicate_succ, List.replicate_zero, List.nil_append, List.cons_append, List.append_nil, Nat.reduceSub, Nat.reduceAdd, setsD, zeros, stt, setsO, setsJ, List.foldl_cons, List.foldl_nil, List.set_cons_zero, List.set_cons_succ, demote]
      have hmk := hM k hk8
      have fk := (hf k (by omega)).fw
      rw [fk] at hmk
      have ixk := ixm k (by omega)
      have el : (List.range k).map (fun v => nat (M 0 v)) ++ [nat (M 0 k)] = (List.range (k + 1)).map fun v => nat (M 0 v) := by
        rw [List.range_succ, List.map_append]
        rfl
      have ixe : (eIx (eVar 2) (eVar 7)) [some (nt cs), some (nat a), some (.list ((List.range (m + 1)).map fun w => osk (f w))), some (.list ((List.range 8).map fun u => .tuple (rowM (wM cs) u))), x4, some (mxT M), some (.list ((List.range k).map fun v => nat (M 0 v))), some (nat k), none] = some (osk (f k)) := by
        simp only [eIx_a, eVar_0, eVar_s, o2_ss]
        exact ixk
      have hfk := hf k (by omega)
      cases e : f k with
      | none =>
        rw [e] at hmk ixe
        have hmk : M 0 k = 60 := hmk
        refine wp_ift (by unfold tIsND; rw [ixe]; rfl) (wp_app (d := nat (M 0 k)) (ds := (List.range k).map fun v => nat (M 0 v)) (by rw [hmk]; rfl) rfl rfl (by simp; omega) rfl ?_)
        simp only [List.map_cons, List.map_nil, List.replicate_succ, List.replicate_zero, List.nil_append, List.cons_append, List.append_nil, Nat.reduceSub, Nat.reduceAdd, setsD, zeros, stt, setsO, setsJ, List.foldl_cons, List.foldl_nil, List.set_cons_zero, List.set_cons_succ, demote]
        rw [el]
        exact ⟨some (nat k), rfl⟩
      | some r =>
        rw [e] at hmk ixe hfk
        have rk : r.length ≤ 7 := by
          have q := len_le_sum r fun x hx => hc0 x (hfk.rep.1 x hx)
          rw [hfk.rep.2] at q
          omega
        have hmk : M 0 k = min r.length 60 := hmk
        have hmk : M 0 k = r.length := by omega
        refine wp_iff (by unfold tIsND; rw [ixe]; rfl) (wp_app (d := nat (M 0 k)) (ds := (List.range k).map fun v => nat (M 0 v)) (by
          rw [eIx_a, ixe, hmk, eC_a, o2_ss]
          exact atI_0) rfl rfl (by simp; omega) rfl ?_)
        simp only [List.map_cons, List.map_nil, List.replicate_succ, List.replicate_zero, List.nil_append, List.cons_append, List.append_nil, Nat.reduceSub, Nat.reduceAdd, setsD, zeros, stt, setsO, setsJ, List.foldl_cons, List.foldl_nil, List.set_cons_zero, List.set_cons_succ, demote]
        rw [el]
        exact ⟨some (nat k), rfl⟩
    · rintro _ ⟨x7, rfl⟩
      rw [List.length_map, List.length_range]
      have li3 := like_ok 30 (.tuple (rowM M 0)) (pl_tup (by simp [rowM]) fun d hd => by
        unfold rowM at hd
        obtain ⟨i, _, rfl⟩ := List.mem_map.mp hd
        rfl)
      refine wp_ret (d := .bool true) ?_ rfl
      rw [eCall_2, tup_of (ds := rowM M 0) rfl]
      have i0 : (eIx (eVar 5) (eC (.int 0))) [some (nt cs), some (nat a), some (.list ((List.range (m + 1)).map fun w => osk (f w))), some (.list ((List.range 8).map fun u => .tuple (rowM (wM cs) u))), x4, some (mxT M), some (.list ((List.range 8).map fun v => nat (M 0 v))), x7, none] = some (.tuple (rowM M 0)) := by
        simp only [eIx_a, eVar_0, eVar_s, eC_a, o2_ss]
        exact atI_0
      rw [i0]
      simp only [o1_s, o2_ss]
      exact li3
end Lib
end

section
set_option Elab.async false
set_option linter.all false
set_option maxRecDepth 10000
/-! k25, part j: the law. -/
namespace Lib
open DS PySem
def den_law : Fn := dfun 8 1 (sSeq (sSet 1 0 (eCall 2 den__law_row (aCons (eVar 0) (aCons (eC (.int 20)) aNil))) ([(0, 0)] ++ ([] ++ [])))
  (sSeq (sSet 2 0 (eIx (eLst (aCons (eC (.int 6)) (aCons (eC (.int 12)) (aCons (eC (.int 12)) (aCons (eC (.int 40)) aNil))))) (eOp dMod (eCB (d1 dInt) (aCons (eIx (eVar 1) (eC (.int 0))) aNil)) (eC (.int 4)))) ([] ++ ([] ++ ([] ++ ([] ++ [])))))
  (sSeq (sSet 3 1 (eLst aNil) [])
  (sSeq (sFor (iRange1 (eOp dMod (eCB (d1 dInt) (aCons (eIx (eVar 1) (eC (.int 1))) aNil)) (eC (.int 6)))) [] (.nm 4)
  (sSeq (sSet 5 0 (eOp dAdd (eC (.int 1)) (eOp dMod (eCB (d1 dInt) (aCons (eIx (eVar 1) (eOp dAdd (eC (.int 2)) (eVar 4))) aNil)) (eVar 2))) ([] ++ ([] ++ [(2, 1)])))
  (sIf (tCmp dNotIn (eVar 5) (eVar 3))
  (sApp 3 (eVar 5) [(5, 0)])
  sNil)))
  (sSeq (sSet 6 0 (eOp dMod (eCB (d1 dInt) (aCons (eIx (eVar 1) (eC (.int 7))) aNil)) (eC (.int 41))) ([] ++ []))
  (sSeq (sIf (tOrD (tNotD (tTru (eCall 2 den__law_fewest_right (aCons (eCB (d1 dTuple) (aCons (eVar 3) aNil)) (aCons (eVar 6) aNil))))) (tNotD (tTru (eCall 2 den__law_fewest_right (aCons (eCB (d1 dTuple) (aCons (eVar 3) aNil)) (aCons (eOp dMod (eCB (d1 dInt) (aCons (eVar 6) aNil)) (eC (.int 8))) aNil))))))
  (sRet (eC (.bool false)))
  sNil)
  (sSeq (sSet 7 0 (eLc (iSeq (eVar 3)) (.nm 5) (tCmp dGt (eVar 5) (eC (.int 1))) (eVar 5) [5]) ([(3, 1)] ++ [(5, 0)]))
  (sSeq (sSet 7 0 (eOp dAdd (eTup (aCons (eC (.int 1)) aNil)) (eCB (d1 dTuple) (aCons (eCB (d1 dSorted) (aCons (eVar 7) aNil)) aNil))) (([] ++ []) ++ (([(7, 1)] ++ []) ++ [])))
  (sSeq (sIf (tNotD (tTru (eCall 2 (den__law_like 30) (aCons (eCall 1 den_is_greedy_best (aCons (eVar 7) aNil)) (aCons (eCall 1 den__law_greedy_best (aCons (eVar 7) aNil)) aNil)))))
  (sRet (eC (.bool false)))
  sNil)
  (sSeq (sSet 5 0 (eOp dAdd (eC (.int 3)) (eOp dMod (eCB (d1 dInt) (aCons (eIx (eVar 1) (eC (.int 8))) aNil)) (eC (.int 10)))) ([] ++ ([] ++ [])))
  (sSeq (sIf (tNotD (tTru (eCall 2 (den__law_like 30) (aCons (eCall 1 den_is_greedy_best (aCons (eTup (aCons (eC (.int 1)) (aCons (eVar 5) (aCons (eOp dAdd (eVar 5) (eC (.int 1))) aNil)))) aNil)) (aCons (eC (.bool false)) aNil)))))
  (sRet (eC (.bool false)))
  sNil)
  (sRet (eCall 2 (den__law_like 30) (aCons (eCall 1 den_is_greedy_best (aCons (eTup (aCons (eC (.int 1)) (aCons (eVar 5) (aCons (eOp dMul (eVar 5) (eOp dAdd (eC (.int 2)) (eOp dMod (eCB (d1 dInt) (aCons (eIx (eVar 1) (eC (.int 9))) aNil)) (eC (.int 4))))) aNil)))) aNil)) (aCons (eC (.bool true)) aNil)))))))))))))))
abbrev rowD (r : Nat → Int) (n : Nat) : D := .list ((List.range n).map fun k => .int (r k))
theorem ix_row {r : Nat → Int} {n k : Nat} (h : k < n) : dIx (rowD r n) (.int k) = some (.int (r k)) := map_ix (g := fun k => (.int (r k) : D)) h
def mdN (x : Int) (q : Nat) : Nat := (x % (q : Int)).toNat
theorem mdN_ok {x : Int} {q : Nat} (h : 0 < q) : x % (q : Int) = (mdN x q : Int) ∧ mdN x q < q := by
  have a1 := Int.emod_nonneg x (show (q : Int) ≠ 0 by omega)
  have a2 := Int.emod_lt_of_pos x (show (0 : Int) < q by omega)
  unfold mdN
  omega
theorem lst_shaped (o : List Nat) : SeqAt.shaped (.list (o.map nat)) = true := by
  have h1 := lay_nats o
  have h2 := depth_nats o
  unfold SeqAt.shaped
  rw [PyData.canLay0, h1, Bool.true_and]
  refine decide_eq_true ?_
  simp only [PyData.depth]
  omega
theorem lst_notin (i : Nat) (o : List Nat) : dNotIn (nat i) (.list (o.map nat)) = some (!decide (i ∈ o)) := by
  have e : dIn (nat i) (.list (o.map nat)) = some (decide (i ∈ o)) := by
    show (if (SeqAt.shaped (nat i) && SeqAt.shaped (.list (o.map nat))) = true then some ((o.map nat).any fun z => PyData.eqv z (nat i)) else none) = _
    rw [lst_shaped, if_pos (by rfl)]
    refine congrArg some ?_
    rw [Bool.eq_iff_iff, List.any_eq_true, decide_eq_true_iff]
    constructor
    · rintro ⟨z, hz, q⟩
      obtain ⟨k, hk, rfl⟩ := List.mem_map.mp hz
      have : k = i := by simpa [eqv_nat] using q
      rw [← this]; exact hk
    · exact fun h => ⟨nat i, List.mem_map.mpr ⟨i, h, rfl⟩, by simp [eqv_nat]⟩
  unfold dNotIn
  rw [e, o1_s]
def upN (l : List Nat) : List Nat := l.mergeSort fun a b => decide (a ≤ b)
theorem upN_perm (l : List Nat) : (upN l).Perm l := List.mergeSort_perm _ _
theorem upN_le (l : List Nat) : (upN l).Pairwise (· ≤ ·) := (List.pairwise_mergeSort (le := fun a b => decide (a ≤ b)) (fun a b c h h' => by
  have := of_decide_eq_true h; have := of_decide_eq_true h'; exact decide_eq_true (by omega)) (fun a b => by
  rw [Bool.or_eq_true]
  by_cases h : a ≤ b
  · exact .inl (decide_eq_true h)
  · exact .inr (decide_eq_true (by omega))) l).imp fun h => of_decide_eq_true h
theorem upN_up {l : List Nat} (h : l.Nodup) : (upN l).Pairwise (· < ·) := by
  have nd : (upN l).Pairwise (· ≠ ·) := (upN_perm l).nodup_iff.mpr h
  exact ((upN_le l).and nd).imp fun ⟨a, b⟩ => by omega
theorem dSorted_nats (l : List Nat) : dSorted (.list (l.map nat)) = some (.list ((upN l).map nat)) := by
  show (if allCmp (l.map nat) = true then some (PyData.list ((l.map nat).mergeSort leD)) else none) = _
  rw [if_pos (allCmp_nats l)]
  unfold upN
  refine congrArg (fun x => some (PyData.list x)) (List.map_mergeSort fun a _ b _ => ?_).symm
  unfold leD nat
  rw [PySem.W.dataLt_int, ← decide_not, decide_eq_decide]
  omega
theorem co_three {c d : Nat} (h1 : 1 < c) (h2 : c < d) (h3 : d ≤ 200) : Co [1, c, d] where
  up := by simp; omega
  b x hx := by
    simp only [List.mem_cons, List.not_mem_nil, or_false] at hx
    omega
  one := ⟨_, rfl⟩
  len := by simp
theorem law25 (ns : List Int) (hns : ns.length ≤ 63) : den_law [scr ns] = some (.bool true) := by
  obtain ⟨r, hr0, hrow⟩ := row_fn ns 20 (by omega)
  have ix : ∀ k : Nat, k < 20 → dIx (rowD r 20) (.int k) = some (.int (r k)) := fun k h => ix_row h
  have i0 : dIx (rowD r 20) (.int 0) = some (.int (r 0)) := ix 0 (by decide)
  have i1 : dIx (rowD r 20) (.int 1) = some (.int (r 1)) := ix 1 (by decide)
  have i7 : dIx (rowD r 20) (.int 7) = some (.int (r 7)) := ix 7 (by decide)
  have i8 : dIx (rowD r 20) (.int 8) = some (.int (r 8)) := ix 8 (by decide)
  have i9 : dIx (rowD r 20) (.int 9) = some (.int (r 9)) := ix 9 (by decide)
  refine dfun_wp rfl ?_
  simp only [List.map_cons, List.map_nil, List.replicate_succ, List.replicate_zero, List.nil_append, List.cons_append, List.append_nil, Nat.reduceSub, Nat.reduceAdd, setsD, zeros, stt, setsO, setsJ, List.foldl_cons, List.foldl_nil, List.set_cons_zero, List.set_cons_succ, demote]
  refine wp_seq (wp_setL (d := rowD r 20) (L' := [0, 0, 0, 0, 0, 0, 0, 0]) (by rw [eCall_2]; exact hrow) rfl rfl ?_)
  simp only [List.map_cons, List.map_nil, List.replicate_succ, List.replicate_zero, List.nil_append, List.cons_append, List.append_nil, Nat.reduceSub, Nat.reduceAdd, setsD, zeros, stt, setsO, setsJ, List.foldl_cons, List.foldl_nil, List.set_cons_zero, List.set_cons_succ, demote]
  obtain ⟨e0, b0⟩ := mdN_ok (x := r 0) (q := 4) (by decide)
  have e0 : r 0 % 4 = (mdN (r 0) 4 : Int) := e0
  obtain ⟨W, hW, hd⟩ : ∃ W : Nat, (1 ≤ W ∧ W ≤ 40) ∧ dIx (.list [.int 6, .int 12, .int 12, .int 40]) (.int (mdN (r 0) 4 : Int)) = some (nat W) := by
    generalize mdN (r 0) 4 = k at b0
    have : k = 0 ∨ k = 1 ∨ k = 2 ∨ k = 3 := by omega
    rcases this with rfl | rfl | rfl | rfl
    · exact ⟨6, by decide, rfl⟩
    · exact ⟨12, by decide, rfl⟩
    · exact ⟨12, by decide, rfl⟩
    · exact ⟨40, by decide, rfl⟩
  refine wp_seq (wp_set (d := nat W) (by
    have el : ∀ ρ : PEnv, (eLst (aCons (eC (.int 6)) (aCons (eC (.int 12)) (aCons (eC (.int 12)) (aCons (eC (.int 40)) aNil))))) ρ = some (.list [.int 6, .int 12, .int 12, .int 40]) := fun ρ => rfl
    rw [eIx_a, el]
    simp only [eOp_a, eCB_a, aCons_a, aNil_a, eIx_a, eC_a, eVar_0, eVar_s, o2_ss, o1_s, d1_1, i0, dInt_i, dMod_i (show (0 : Int) < 4 by decide), e0]
    exact hd) rfl ?_)
  simp only [List.map_cons, List.map_nil, List.replicate_succ, List.replicate_zero, List.nil_append, List.cons_append, List.append_nil, Nat.reduceSub, Nat.reduceAdd, setsD, zeros, stt, setsO, setsJ, List.foldl_cons, List.foldl_nil, List.set_cons_zero, List.set_cons_succ, demote]
  refine wp_seq (wp_setL (d := .list []) (L' := [0, 0, 0, 1, 0, 0, 0, 0]) rfl rfl rfl ?_)
  simp only [List.map_cons, List.map_nil, List.replicate_succ, List.replicate_zero, List.nil_append, List.cons_append, List.append_nil, Nat.reduceSub, Nat.reduceAdd, setsD, zeros, stt, setsO, setsJ, List.foldl_cons, List.foldl_nil, List.set_cons_zero, List.set_cons_succ, demote]
  obtain ⟨e1, b1⟩ := mdN_ok (x := r 1) (q := 6) (by decide)
  have e1 : r 1 % 6 = (mdN (r 1) 6 : Int) := e1
  generalize mdN (r 1) 6 = m at e1 b1
  refine wp_seq ?_
  refine wp_for (ds := (List.range m).map nat) (P := fun k s => ∃ (cs : List Nat) (x4 x5 : Option D), s = ([some (scr ns), some (rowD r 20), some (nat W), some (.list (cs.map nat)), x4, x5, none, none], [0, 0, 0, 1, 0, 0, 0, 0]) ∧ cs.length ≤ k ∧ cs.Nodup ∧ ∀ c ∈ cs, 0 < c ∧ c ≤ 40) (range1_nat (by
    simp only [eOp_a, eCB_a, aCons_a, aNil_a, eIx_a, eC_a, eVar_0, eVar_s, o2_ss, o1_s, d1_1, i1, dInt_i, dMod_i (show (0 : Int) < 6 by decide), e1]) (by omega)) ⟨[], none, none, rfl, Nat.le_refl _, .nil, fun c h => by cases h⟩ ?_ ?_
  · rintro k d _ hdk ⟨cs, x4, x5, rfl, hl, nd, hb⟩
    rw [List.getElem?_map] at hdk
    obtain ⟨k', hk, rfl⟩ := Option.map_eq_some_iff.mp hdk
    obtain ⟨hlt, e⟩ := List.getElem?_eq_some_iff.mp hk
    rw [List.getElem_range] at e
    subst e
    have hkm : k < m := by simpa using hlt
    refine ⟨[(4, nat k)], rfl, ?_⟩
    simp only [List.map_cons, List.map_nil, List.replicate_succ, List.replicate_zero, List.nil_append, List.cons_append, List.append_nil, Nat.reduceSub, Nat.reduceAdd, setsD, zeros, stt, setsO, setsJ, List.foldl_cons, List.foldl_nil, List.set_cons_zero, List.set_cons_succ, demote]
    obtain ⟨e2, b2⟩ := mdN_ok (x := r (2 + k)) (q := W) (by omega)
    generalize mdN (r (2 + k)) W = c at e2 b2
    have i2 : dIx (rowD r 20) (.int (2 + (k : Int))) = some (.int (r (2 + k))) := by
      have := ix (2 + k) (by omega)
      rw [Int.natCast_add] at this
      exact this
    refine wp_seq (wp_set (d := nat (1 + c)) (by
      simp only [nat, eOp_a, eCB_a, aCons_a, aNil_a, eIx_a, eC_a, eVar_0, eVar_s, o2_ss, o1_s, d1_1, dAdd_i, i2, dInt_i, dMod_i (show (0 : Int) < W by omega), e2]
      rfl) rfl ?_)
    simp only [List.map_cons, List.map_nil, List.replicate_succ, List.replicate_zero, List.nil_append, List.cons_append, List.append_nil, Nat.reduceSub, Nat.reduceAdd, setsD, zeros, stt, setsO, setsJ, List.foldl_cons, List.foldl_nil, List.set_cons_zero, List.set_cons_succ, demote]
    have t : (tCmp dNotIn (eVar 5) (eVar 3)) [some (scr ns), some (rowD r 20), some (nat W), some (.list (cs.map nat)), some (nat k), some (nat (1 + c)), none, none] = some (!decide (1 + c ∈ cs)) := by
      simp only [tCmp_a, eVar_0, eVar_s, o2_ss, lst_notin]
    refine wp_if t (fun h => ?_) fun h => ?_
    · have h : 1 + c ∉ cs := by simpa using h
      refine wp_app (d := nat (1 + c)) (ds := cs.map nat) rfl rfl rfl (by rw [List.length_map]; omega) rfl ?_
      simp only [List.map_cons, List.map_nil, List.replicate_succ, List.replicate_zero, List.nil_append, List.cons_append, List.append_nil, Nat.reduceSub, Nat.reduceAdd, setsD, zeros, stt, setsO, setsJ, List.foldl_cons, List.foldl_nil, List.set_cons_zero, List.set_cons_succ, demote]
      refine ⟨cs ++ [1 + c], some (nat k), some (nat (1 + c)), by rw [List.map_append]; rfl, by simp; omega, ?_, fun x hx => ?_⟩
      · refine List.nodup_append.mpr ⟨nd, by simp, fun a ha b hb' e => ?_⟩
        have : b = 1 + c := by simpa using hb'
        rw [e, this] at ha
        exact h ha
      · rcases List.mem_append.mp hx with q | q
        · exact hb x q
        · have : x = 1 + c := by simpa using q
          omega
    · exact wp_nil ⟨cs, some (nat k), some (nat (1 + c)), rfl, by omega, nd, hb⟩
  · rintro _ ⟨cs, x4, x5, rfl, hl, nd, hb⟩
    rw [List.length_map, List.length_range] at hl
    obtain ⟨e7, b7⟩ := mdN_ok (x := r 7) (q := 41) (by decide)
    have e7 : r 7 % 41 = (mdN (r 7) 41 : Int) := e7
    generalize mdN (r 7) 41 = a at e7 b7
    refine wp_seq (wp_set (d := nat a) (by
      simp only [eOp_a, eCB_a, aCons_a, aNil_a, eIx_a, eC_a, eVar_0, eVar_s, o2_ss, o1_s, d1_1, i7, dInt_i, dMod_i (show (0 : Int) < 41 by decide), e7]
      rfl) rfl ?_)
    simp only [List.map_cons, List.map_nil, List.replicate_succ, List.replicate_zero, List.nil_append, List.cons_append, List.append_nil, Nat.reduceSub, Nat.reduceAdd, setsD, zeros, stt, setsO, setsJ, List.foldl_cons, List.foldl_nil, List.set_cons_zero, List.set_cons_succ, demote]
    have hb2 : ∀ c ∈ cs, 0 < c ∧ c ≤ 1000 := fun c h => ⟨(hb c h).1, by have := (hb c h).2; omega⟩
    have f1 := right_ok (a := a) hb2 nd (by omega) (by omega)
    have f2 := right_ok (a := a % 8) hb2 nd (by omega) (by omega)
    refine wp_seq (wp_pass ?_ ?_)
    · have q1 : (tNotD (tTru (eCall 2 den__law_fewest_right (aCons (eCB (d1 dTuple) (aCons (eVar 3) aNil)) (aCons (eVar 6) aNil))))) [some (scr ns), some (rowD r 20), some (nat W), some (.list (cs.map nat)), x4, x5, some (nat a), none] = some false := by
        refine tNot_b (b := true) (tTru_b ?_)
        rw [eCall_2, tup_of (ds := cs.map nat) rfl]
        simp only [eVar_0, eVar_s, o1_s, o2_ss]
        exact f1
      unfold tOrD
      rw [q1]
      refine tNot_b (b := true) (tTru_b ?_)
      rw [eCall_2, tup_of (ds := cs.map nat) rfl]
      simp only [eOp_a, eCB_a, aCons_a, aNil_a, eVar_0, eVar_s, eC_a, o1_s, o2_ss, d1_1, nat, dInt_i, dMod_i (show (0 : Int) < 8 by decide)]
      have e : ((a : Int) % 8) = ((a % 8 : Nat) : Int) := by omega
      rw [e]
      exact f2
    refine wp_seq (wp_setL (d := .list ((cs.filter fun c => decide (1 < c)).map nat)) (L' := [0, 0, 0, 1, 0, 0, 0, 0]) (eLc_if nat nat (fun c => decide (1 < c)) (l := cs) (by (first | rfl | (simp only [eOp_a, eUn_a, eCB_a, aCons_a, aNil_a, eIx_a, eC_a, eVar_0, eVar_s, o2_ss, o1_s, d1_1, d2_2, eB_a, tCmp_a, tTru_a, tNotD_a, tIsND_a, tNotND_a, eIsN_a, eNotN_a, tTrue_a, iSeq_a, seqOf_l, seqOf_t, dAdd_i, dAddI_i, dSub_i, dNeg_i, dLt_i, dLe_i, dGt_i, dGe_i, dEq_i, dNe_i, dTru_b, dTru_i, dTru_l, dTru_t, dTru_n, isNon_n, isNon_b, isNon_i, isNon_s, isNon_l, isNon_t, dLen_l, dLen_t, dInt_i, dInt_b, dTuple_l, dTuple_t, dList_l, dList_t, eCall_1, eCall_2, eCall_3, eCall_4, eCall_5, eCall_6, eCall_7] <;> rfl))) (by omega) fun c hc => ⟨[(5, nat c)], rfl, by
      simp only [setsD, wipeD, List.foldl_cons, List.foldl_nil, List.set_cons_zero, List.set_cons_succ, tCmp_a, eVar_0, eVar_s, eC_a, o2_ss, nat, dGt_i]
      exact congrArg some (decide_eq_decide.mpr ⟨fun h => by omega, fun h => by omega⟩), fun _ => rfl⟩) rfl rfl ?_)
    simp only [List.map_cons, List.map_nil, List.replicate_succ, List.replicate_zero, List.nil_append, List.cons_append, List.append_nil, Nat.reduceSub, Nat.reduceAdd, setsD, zeros, stt, setsO, setsJ, List.foldl_cons, List.foldl_nil, List.set_cons_zero, List.set_cons_succ, demote]
    have so := dSorted_nats (cs.filter fun c => decide (1 < c))
    have su := upN_up (nd.filter fun c => decide (1 < c))
    have sp := upN_perm (cs.filter fun c => decide (1 < c))
    have sl : (upN (cs.filter fun c => decide (1 < c))).length ≤ 6 := by
      rw [sp.length_eq]
      have := List.length_filter_le (fun c => decide (1 < c)) cs
      omega
    have sm : ∀ c ∈ upN (cs.filter fun c => decide (1 < c)), 1 < c ∧ c ≤ 40 := fun c hc => by
      obtain ⟨h1, h2⟩ := List.mem_filter.mp (sp.mem_iff.mp hc)
      exact ⟨of_decide_eq_true h2, (hb c h1).2⟩
    generalize upN (cs.filter fun c => decide (1 < c)) = os at so su sp sl sm
    have co : Co (1 :: os) := ⟨List.pairwise_cons.mpr ⟨fun c hc => (sm c hc).1, su⟩, fun c hc => by
      rcases List.mem_cons.mp hc with e | e
      · rw [e]; omega
      · have := sm c e; omega, ⟨os, rfl⟩, by rw [List.length_cons]; omega⟩
    refine wp_seq (wp_set (d := nt (1 :: os)) (by
      rw [eOp_a, eTup_1 (x := nat 1) rfl, tup_of (ds := os.map nat) (by
        rw [eCB_a]
        simp only [aCons_a, aNil_a, eVar_0, eVar_s, o1_s, o2_ss, d1_1]
        exact so), o2_ss, dAdd_tt (by simp; omega)]
      rfl) (nt_flat _) ?_)
    simp only [List.map_cons, List.map_nil, List.replicate_succ, List.replicate_zero, List.nil_append, List.cons_append, List.append_nil, Nat.reduceSub, Nat.reduceAdd, setsD, zeros, stt, setsO, setsJ, List.foldl_cons, List.foldl_nil, List.set_cons_zero, List.set_cons_succ, demote]
    obtain ⟨_, g1, v1, rfl, h1⟩ := gb_ok co
    obtain ⟨_, g2, v2, rfl, h2⟩ := lgb_ok co
    have ev : v1 = v2 := Bool.eq_iff_iff.mpr (h1.trans h2.symm)
    subst ev
    have li := like_ok 30 (.bool v1) rfl
    refine wp_seq (wp_pass ?_ ?_)
    · refine tNot_b (b := true) (tTru_b ?_)
      simp only [eCall_1, eCall_2, eVar_0, eVar_s, o1_s, o2_ss]
      rw [g1, g2]
      simp only [o1_s, o2_ss]
      exact li
    obtain ⟨e8, b8⟩ := mdN_ok (x := r 8) (q := 10) (by decide)
    have e8 : r 8 % 10 = (mdN (r 8) 10 : Int) := e8
    generalize mdN (r 8) 10 = c at e8 b8
    refine wp_seq (wp_set (d := nat (3 + c)) (by
      simp only [eOp_a, eCB_a, aCons_a, aNil_a, eIx_a, eC_a, eVar_0, eVar_s, o2_ss, o1_s, d1_1, i8, dInt_i, dMod_i (show (0 : Int) < 10 by decide), e8, dAdd_i]
      rfl) rfl ?_)
    simp only [List.map_cons, List.map_nil, List.replicate_succ, List.replicate_zero, List.nil_append, List.cons_append, List.append_nil, Nat.reduceSub, Nat.reduceAdd, setsD, zeros, stt, setsO, setsJ, List.foldl_cons, List.foldl_nil, List.set_cons_zero, List.set_cons_succ, demote]
    obtain ⟨_, g3, v3, rfl, h3⟩ := gb_ok (co_three (c := 3 + c) (d := 3 + c + 1) (by omega) (by omega) (by omega))
    have ev3 : v3 = false := by
      cases v3 with
      | false => rfl
      | true => exact absurd (h3.mp rfl) (gb_false (by omega))
    subst ev3
    have li3 := like_ok 30 (.bool false) rfl
    have e3 : ∀ y : Option D, (eTup (aCons (eC (.int 1)) (aCons (eVar 5) (aCons (eOp dAdd (eVar 5) (eC (.int 1))) aNil)))) [some (scr ns), some (rowD r 20), some (nat W), some (.list (cs.map nat)), x4, some (nat (3 + c)), some (nat a), y] = some (nt [1, 3 + c, 3 + c + 1]) := fun y => eTup_3 rfl rfl (by (first | rfl | (simp only [eOp_a, eUn_a, eCB_a, aCons_a, aNil_a, eIx_a, eC_a, eVar_0, eVar_s, o2_ss, o1_s, d1_1, d2_2, eB_a, tCmp_a, tTru_a, tNotD_a, tIsND_a, tNotND_a, eIsN_a, eNotN_a, tTrue_a, iSeq_a, seqOf_l, seqOf_t, dAdd_i, dAddI_i, dSub_i, dNeg_i, dLt_i, dLe_i, dGt_i, dGe_i, dEq_i, dNe_i, dTru_b, dTru_i, dTru_l, dTru_t, dTru_n, isNon_n, isNon_b, isNon_i, isNon_s, isNon_l, isNon_t, dLen_l, dLen_t, dInt_i, dInt_b, dTuple_l, dTuple_t, dList_l, dList_t, eCall_1, eCall_2, eCall_3, eCall_4, eCall_5, eCall_6, eCall_7, nat] <;> rfl)))
    refine wp_seq (wp_pass ?_ ?_)
    · refine tNot_b (b := true) (tTru_b ?_)
      rw [eCall_2, eCall_1, e3, o1_s, g3]
      simp only [eC_a, o1_s, o2_ss]
      exact li3
    obtain ⟨e9, b9⟩ := mdN_ok (x := r 9) (q := 4) (by decide)
    have e9 : r 9 % 4 = (mdN (r 9) 4 : Int) := e9
    generalize mdN (r 9) 4 = k at e9 b9
    have kb : (3 + c) * (2 + k) ≤ 12 * 5 := Nat.mul_le_mul (by omega) (by omega)
    have kl : (3 + c) * 2 ≤ (3 + c) * (2 + k) := Nat.mul_le_mul_left _ (by omega)
    obtain ⟨_, g4, v4, rfl, h4⟩ := gb_ok (co_three (c := 3 + c) (d := (3 + c) * (2 + k)) (by omega) (by omega) (by omega))
    have ev4 : v4 = true := h4.mpr (gb_true (by omega) (by omega))
    subst ev4
    have li4 := like_ok 30 (.bool true) rfl
    have mo : mulOk ((3 + c : Nat) : Int) (2 + (k : Int)) = true := mulOk_r (by omega)
    have e4 : ∀ y : Option D, (eTup (aCons (eC (.int 1)) (aCons (eVar 5) (aCons (eOp dMul (eVar 5) (eOp dAdd (eC (.int 2)) (eOp dMod (eCB (d1 dInt) (aCons (eIx (eVar 1) (eC (.int 9))) aNil)) (eC (.int 4))))) aNil)))) [some (scr ns), some (rowD r 20), some (nat W), some (.list (cs.map nat)), x4, some (nat (3 + c)), some (nat a), y] = some (nt [1, 3 + c, (3 + c) * (2 + k)]) := fun y => eTup_3 rfl rfl (by
      simp only [nat, eOp_a, eCB_a, aCons_a, aNil_a, eIx_a, eC_a, eVar_0, eVar_s, o2_ss, o1_s, d1_1, i9, dInt_i, dMod_i (show (0 : Int) < 4 by decide), e9, dAdd_i, dMul_i mo]
      refine congrArg (fun x => some (PyData.int x)) ?_
      push_cast
      rfl)
    refine wp_ret (d := .bool true) ?_ rfl
    rw [eCall_2, eCall_1, e4, o1_s, g4]
    simp only [eC_a, o1_s, o2_ss]
    exact li4
end Lib
end

section
set_option Elab.async false
set_option linter.all false
set_option maxRecDepth 100000
set_option maxHeartbeats 4000000
namespace Law
open PySem PySem.Spec PyProof.Rows L2 DS
def topS (i : Nat) : Stmt := PySem.Challenge.pw_planskept_k25_whole_change.main.body.getD i (.Pass ⟨0, 0, 0, 0⟩)
/-- what the top has written -/
structure Tp (K : PySem.W.Frag) (mg : Str → Option Value) (ad : Nat → Addr) (fo : Nat → FuncData) : Prop where
  F_coin_tables : Fun K "coin_tables" "coin_tables" (topS 1) (ad 0) (fo 0)
  b_coin_tables : Binds K (fo 0) ["coins", "amount"] []
  g_coin_tables : mg "coin_tables" = some (.ref (ad 0))
  F_best_change : Fun K "best_change" "best_change" (topS 2) (ad 1) (fo 1)
  b_best_change : Binds K (fo 1) ["coins", "amount"] []
  g_best_change : mg "best_change" = some (.ref (ad 1))
  F_greedy_change : Fun K "greedy_change" "greedy_change" (topS 3) (ad 2) (fo 2)
  b_greedy_change : Binds K (fo 2) ["coins", "amount"] []
  g_greedy_change : mg "greedy_change" = some (.ref (ad 2))
  F_is_greedy_best : Fun K "is_greedy_best" "is_greedy_best" (topS 4) (ad 3) (fo 3)
  b_is_greedy_best : Binds K (fo 3) ["coins"] []
  g_is_greedy_best : mg "is_greedy_best" = some (.ref (ad 3))
  F_filled_ways : Fun K "filled_ways" "filled_ways" (topS 6) (ad 4) (fo 4)
  b_filled_ways : Binds K (fo 4) ["ways"] []
  g_filled_ways : mg "filled_ways" = some (.ref (ad 4))
  F__law_mixed : Fun K "_law_mixed" "_law_mixed" (topS 8) (ad 5) (fo 5)
  b__law_mixed : Binds K (fo 5) ["script", "k"] []
  g__law_mixed : mg "_law_mixed" = some (.ref (ad 5))
  F__law_row : Fun K "_law_row" "_law_row" (topS 9) (ad 6) (fo 6)
  b__law_row : Binds K (fo 6) ["script", "many"] []
  g__law_row : mg "_law_row" = some (.ref (ad 6))
  F__law_is_int : Fun K "_law_is_int" "_law_is_int" (topS 10) (ad 7) (fo 7)
  b__law_is_int : Binds K (fo 7) ["value"] []
  g__law_is_int : mg "_law_is_int" = some (.ref (ad 7))
  F__law_like : Fun K "_law_like" "_law_like" (topS 11) (ad 8) (fo 8)
  b__law_like : Binds K (fo 8) ["value", "due"] []
  g__law_like : mg "_law_like" = some (.ref (ad 8))
  F__law_tables : Fun K "_law_tables" "_law_tables" (topS 12) (ad 9) (fo 9)
  b__law_tables : Binds K (fo 9) ["coins", "most"] []
  g__law_tables : mg "_law_tables" = some (.ref (ad 9))
  F__law_greedy : Fun K "_law_greedy" "_law_greedy" (topS 13) (ad 10) (fo 10)
  b__law_greedy : Binds K (fo 10) ["coins", "amount"] []
  g__law_greedy : mg "_law_greedy" = some (.ref (ad 10))
  F__law_greedy_best : Fun K "_law_greedy_best" "_law_greedy_best" (topS 14) (ad 11) (fo 11)
  b__law_greedy_best : Binds K (fo 11) ["coins"] []
  g__law_greedy_best : mg "_law_greedy_best" = some (.ref (ad 11))
  F__law_fewest_right : Fun K "_law_fewest_right" "_law_fewest_right" (topS 15) (ad 12) (fo 12)
  b__law_fewest_right : Binds K (fo 12) ["coins", "amount"] []
  g__law_fewest_right : mg "_law_fewest_right" = some (.ref (ad 12))
  F_law : Fun K "law" "law" (topS 16) (ad 13) (fo 13)
  b_law : Binds K (fo 13) ["script"] []
  g_law : mg "law" = some (.ref (ad 13))
  z_all : mg "all" = none
  z_bool : mg "bool" = none
  z_int : mg "int" = none
  z_isinstance : mg "isinstance" = none
  z_len : mg "len" = none
  z_list : mg "list" = none
  z_max : mg "max" = none
  z_min : mg "min" = none
  z_range : mg "range" = none
  z_set : mg "set" = none
  z_sorted : mg "sorted" = none
  z_str : mg "str" = none
  z_sum : mg "sum" = none
  z_tuple : mg "tuple" = none
theorem sc_coin_tables : FnScope ["coins", "amount", "table", "tables", "coin", "whole", "before"] ["coins", "amount"] (defScope (topS 1)) := ⟨rfl, rfl, rfl, by decide +kernel, rfl, by decide +kernel, by decide +kernel⟩
def den_coin_tables : Fn := dfun 7 2 (sSeq (sSet 2 1 (eOp dAdd (eLst (aCons (eC (.int 0)) aNil)) (eOp dMul (eLst (aCons (eC .none) aNil)) (eVar 1))) (([] ++ []) ++ (([] ++ []) ++ [(1, 1)])))
  (sSeq (sSet 3 1 (eLst (aCons (eVar 2) aNil)) ([(2, 0)] ++ []))
  (sSeq (sFor (iSeq (eVar 0)) [(0, 0)] (.nm 4)
  (sSeq (sSet 2 1 (eCB (d1 dList) (aCons (eVar 2) aNil)) ([(2, 1)] ++ []))
  (sSeq (sFor (iRange2 (eVar 4) (eOp dAdd (eVar 1) (eC (.int 1)))) [] (.nm 5)
  (sSeq (sSet 6 0 (eIx (eVar 2) (eOp dSub (eVar 5) (eVar 4))) [(2, 1)])
  (sIf (tAndD (tNotND (eVar 6)) (tOrD (tIsND (eIx (eVar 2) (eVar 5))) (tCmp dLt (eOp dAdd (eVar 6) (eC (.int 1))) (eIx (eVar 2) (eVar 5)))))
  (sPut 2 (eVar 5) (eOp dAdd (eVar 6) (eC (.int 1))) ([(6, 1)] ++ []))
  sNil)))
  (sApp 3 (eVar 2) [(2, 0)]))))
  (sRet (eVar 3)))))
theorem ok_coin_tables {P : Program} {w : World} {K : PySem.W.Frag} {mg : Str → Option Value} {base : Heap} {ad : Nat → Addr} {fo : Nat → FuncData} (T : Tp K mg ad fo) : FnOk P w K mg base CX0 1 (ad 0) (fo 0) ["coins", "amount"] (spD K 2 den_coin_tables) :=
  fun_den (k := 0) T.F_coin_tables sc_coin_tables rfl rfl (by decide) fun cdv A outer s H E hr =>
  (ss_cons (ss_set 2 1 sc_coin_tables.nd (qe_add (qe_lst (qa_cons qint qa_nil)) (qe_mul (qe_lst (qa_cons qnon qa_nil)) (qv 1))))
  (ss_cons (ss_set 3 1 sc_coin_tables.nd (qe_lst (qa_cons (qv 2) qa_nil)))
  (ss_cons (ss_for PassesOwn.never rfl (qi_seq (qv 0)) (gg 4 sc_coin_tables.nd)
  (ss_cons (ss_set 2 1 sc_coin_tables.nd (qe_tD call_list_of cd_list (by rfl) T.z_list (by decide +kernel) (qa_cons (qv 2) qa_nil)))
  (ss_cons (ss_for PassesOwn.never rfl (qi_range2 (by rfl) T.z_range (qv 4) (qe_add (qv 1) qint)) (gg 5 sc_coin_tables.nd)
  (ss_cons (ss_set 6 0 sc_coin_tables.nd (qe_ix (qv 2) (qe_sub (qv 5) (qv 4)) (fun _ _ => rfl)))
  (ss_one (ss_if (PW.pt (qw_and (qt_notN (qv 6)) (qw_and1 (PW.pt (qw_or (qt_isN (qe_ix (qv 2) (qv 5) (fun _ _ => rfl))) (qw_or1 (qt_cmp (op_ltA (hu_of64 hr)) oc_lt (qe_add (qv 6) qint) (qe_ix (qv 2) (qv 5) (fun _ _ => rfl)) (nomark _))))))))
  (ss_one (ss_put 2 (ps_asg (qe_add (qv 6) qint) (pg_sub (pv 2) (qv 5) set_list))))
  ss_nil))))
  (ss_one (ss_app 3 (ps_expr (pe_bm PySem.F.plainAttrs_list PySem.F.slot_list_append PySem.F.type_list_append mt_append (pv 3) (pa_cons (qv 2) pa_nil))))))))
  (ss_one (ss_ret (qv 3))))))
theorem sc_best_change : FnScope ["coins", "amount", "ascending", "tables", "fewest", "chosen", "left", "place"] ["coins", "amount"] (defScope (topS 2)) := ⟨rfl, rfl, rfl, by decide +kernel, rfl, by decide +kernel, by decide +kernel⟩
def den_best_change : Fn := dfun 8 2 (sSeq (sSet 2 0 (eCB (d1 dSortSet) (aCons (eVar 0) aNil)) ([(0, 1)] ++ []))
  (sSeq (sSet 3 0 (eCall 2 den_coin_tables (aCons (eVar 2) (aCons (eVar 1) aNil))) ([(2, 0)] ++ ([(1, 0)] ++ [])))
  (sSeq (sSet 4 0 (eIx (eIx (eVar 3) (eUn dNeg (eC (.int 1)))) (eVar 1)) [(3, 2)])
  (sSeq (sIf (tIsND (eVar 4))
  (sRet (eC .none))
  sNil)
  (sSeq (sSet 5 1 (eLst aNil) [])
  (sSeq (sFor (iRange3 (eVar 4) (eC (.int 0)) (eUn dNeg (eC (.int 1)))) [] (.nm 6)
  (sSeq (sSet 7 0 (eC (.int 0)) [])
  (sSeq (sWhile 100000 (tCmp dNe (eIx (eIx (eVar 3) (eVar 7)) (eVar 1)) (eVar 6))
  (sAug 7 dAddI (eC (.int 1))))
  (sSeq (sApp 5 (eIx (eVar 2) (eOp dSub (eVar 7) (eC (.int 1)))) [(2, 1)])
  (sAug 1 dSub (eIx (eVar 2) (eOp dSub (eVar 7) (eC (.int 1)))))))))
  (sRet (eTup (aCons (eVar 4) (aCons (eCB (d1 dTuple) (aCons (eVar 5) aNil)) aNil))))))))))
theorem ok_best_change {P : Program} {w : World} {K : PySem.W.Frag} {mg : Str → Option Value} {base : Heap} {ad : Nat → Addr} {fo : Nat → FuncData} (T : Tp K mg ad fo) : FnOk P w K mg base CX0 2 (ad 1) (fo 1) ["coins", "amount"] (spD K 2 den_best_change) :=
  fun_den (k := 1) T.F_best_change sc_best_change rfl rfl (by decide) fun cdv A outer s H E hr =>
  (ss_cons (ss_set 2 0 sc_best_change.nd (qe_sortSet rfl (by rfl) T.z_sorted (by decide +kernel) (by rfl) T.z_set (by decide +kernel) (qa_cons (qv 0) qa_nil)))
  (ss_cons (ss_set 3 0 sc_best_change.nd (qe_call (ok_coin_tables T) (hr.mono (by decide)) (by rfl) T.g_coin_tables T.F_coin_tables.kp T.b_coin_tables (qa_cons (qv 2) (qa_cons (qv 1) qa_nil))))
  (ss_cons (ss_set 4 0 sc_best_change.nd (qe_ix (qe_ix (qv 3) (qe_neg qint) (fun _ _ => rfl)) (qv 1) (fun _ _ => rfl)))
  (ss_cons (ss_if (qt_isN (qv 4))
  (ss_one (ss_ret qnon))
  ss_nil)
  (ss_cons (ss_set 5 1 sc_best_change.nd (qe_lst qa_nil))
  (ss_cons (ss_for PassesOwn.never rfl (qi_range3 (by rfl) T.z_range (qv 4) qint (qe_neg qint)) (gg 6 sc_best_change.nd)
  (ss_cons (ss_set 7 0 sc_best_change.nd qint)
  (ss_cons (ss_while 100000 PassesOwn.never (qt_cmp (op_neD (hu_of64 hr)) oc_ne (qe_ix (qe_ix (qv 3) (qv 7) (fun _ _ => rfl)) (qv 1) (fun _ _ => rfl)) (qv 6) (nomark _))
  (ss_one (ss_augAdd 7 sc_best_change.nd qint)))
  (ss_cons (ss_app 5 (ps_expr (pe_bm PySem.F.plainAttrs_list PySem.F.slot_list_append PySem.F.type_list_append mt_append (pv 5) (pa_cons (qe_ix (qv 2) (qe_sub (qv 7) qint) (fun _ _ => rfl)) pa_nil))))
  (ss_one (ss_augSub 1 sc_best_change.nd (qe_ix (qv 2) (qe_sub (qv 7) qint) (fun _ _ => rfl))))))))
  (ss_one (ss_ret (qe_tup (qa_cons (qv 4) (qa_cons (qe_tD call_tuple_of cd_tuple (by rfl) T.z_tuple (by decide +kernel) (qa_cons (qv 5) qa_nil)) qa_nil)))))))))))
theorem sc_greedy_change : FnScope ["coins", "amount", "chosen", "coin"] ["coins", "amount"] (defScope (topS 3)) := ⟨rfl, rfl, rfl, by decide +kernel, rfl, by decide +kernel, by decide +kernel⟩
def den_greedy_change : Fn := dfun 4 2 (sSeq (sSet 2 0 (eTup aNil) [])
  (sSeq (sFor (iSeq (eRev (eCB (d1 dSortSet) (aCons (eVar 0) aNil)))) ([(0, 1)] ++ []) (.nm 3)
  (sSeq (sAug 2 dAddT (eOp dMulT (eTup (aCons (eVar 3) aNil)) (eOp dFdiv (eVar 1) (eVar 3))))
  (sSet 1 0 (eOp dMod (eVar 1) (eVar 3)) ([(1, 1)] ++ [(3, 1)]))))
  (sRet (eIfD (tCmp dEq (eVar 1) (eC (.int 0))) (eVar 2) (eC .none)))))
theorem ok_greedy_change {P : Program} {w : World} {K : PySem.W.Frag} {mg : Str → Option Value} {base : Heap} {ad : Nat → Addr} {fo : Nat → FuncData} (T : Tp K mg ad fo) : FnOk P w K mg base CX0 1 (ad 2) (fo 2) ["coins", "amount"] (spD K 2 den_greedy_change) :=
  fun_den (k := 0) T.F_greedy_change sc_greedy_change rfl rfl (by decide) fun cdv A outer s H E hr =>
  (ss_cons (ss_set 2 0 sc_greedy_change.nd (qe_tup qa_nil))
  (ss_cons (ss_for PassesOwn.never rfl (qi_seq (qe_rev (qe_sortSet rfl (by rfl) T.z_sorted (by decide +kernel) (by rfl) T.z_set (by decide +kernel) (qa_cons (qv 0) qa_nil)))) (gg 3 sc_greedy_change.nd)
  (ss_cons (ss_augT 2 sc_greedy_change.nd (qe_mulT (qe_tup (qa_cons (qv 3) qa_nil)) (qe_fdiv (qv 1) (qv 3))))
  (ss_one (ss_set 1 0 sc_greedy_change.nd (qe_mod (qv 1) (qv 3))))))
  (ss_one (ss_ret (qe_if (qt_cmp (op_eqD (hu_of64 hr)) oc_eq (qv 1) qint (nomark _)) (qv 2) qnon)))))
theorem sc_is_greedy_best : FnScope ["coins", "ends", "fewest", "numbers", "place", "amount"] ["coins"] (defScope (topS 4)) := ⟨rfl, rfl, rfl, by decide +kernel, rfl, by decide +kernel, by decide +kernel⟩
def den_is_greedy_best : Fn := dfun 6 1 (sSeq (sSet 1 0 (eCB (d1 dSum) (aCons (eSl (eVar 0) (oSome (eUn dNeg (eC (.int 2)))) oNone) aNil)) [])
  (sSeq (sSet 2 0 (eIx (eCall 2 den_coin_tables (aCons (eVar 0) (aCons (eVar 1) aNil))) (eUn dNeg (eC (.int 1)))) ([(0, 0)] ++ ([(1, 0)] ++ [])))
  (sSeq (sSet 3 1 (eLst (aCons (eC (.int 0)) aNil)) ([] ++ []))
  (sSeq (sSet 4 0 (eC (.int 0)) [])
  (sSeq (sFor (iRange2 (eC (.int 1)) (eVar 1)) [] (.nm 5)
  (sSeq (sWhile 100000 (tAndD (tCmp dLt (eOp dAdd (eVar 4) (eC (.int 1))) (eCB (d1 dLen) (aCons (eVar 0) aNil))) (tCmp dLe (eIx (eVar 0) (eOp dAdd (eVar 4) (eC (.int 1)))) (eVar 5)))
  (sAug 4 dAddI (eC (.int 1))))
  (sSeq (sApp 3 (eOp dAdd (eIx (eVar 3) (eOp dSub (eVar 5) (eIx (eVar 0) (eVar 4)))) (eC (.int 1))) ([(3, 2)] ++ []))
  (sIf (tCmp dNe (eIx (eVar 3) (eVar 5)) (eIx (eVar 2) (eVar 5)))
  (sRet (eC (.bool false)))
  sNil))))
  (sRet (eC (.bool true))))))))
theorem ok_is_greedy_best {P : Program} {w : World} {K : PySem.W.Frag} {mg : Str → Option Value} {base : Heap} {ad : Nat → Addr} {fo : Nat → FuncData} (T : Tp K mg ad fo) : FnOk P w K mg base CX0 2 (ad 3) (fo 3) ["coins"] (spD K 1 den_is_greedy_best) :=
  fun_den (k := 1) T.F_is_greedy_best sc_is_greedy_best rfl rfl (by decide) fun cdv A outer s H E hr =>
  (ss_cons (ss_set 1 0 sc_is_greedy_best.nd (qe_bF (cr_sumA rfl) cf_sum (by rfl) T.z_sum (by decide +kernel) (qa_cons (qe_sl (qv 0) (qo_some (qe_neg qint)) qo_none) qa_nil)))
  (ss_cons (ss_set 2 0 sc_is_greedy_best.nd (qe_ix (qe_call (ok_coin_tables T) (hr.mono (by decide)) (by rfl) T.g_coin_tables T.F_coin_tables.kp T.b_coin_tables (qa_cons (qv 0) (qa_cons (qv 1) qa_nil))) (qe_neg qint) (fun _ _ => rfl)))
  (ss_cons (ss_set 3 1 sc_is_greedy_best.nd (qe_lst (qa_cons qint qa_nil)))
  (ss_cons (ss_set 4 0 sc_is_greedy_best.nd qint)
  (ss_cons (ss_for PassesOwn.never rfl (qi_range2 (by rfl) T.z_range qint (qv 1)) (gg 5 sc_is_greedy_best.nd)
  (ss_cons (ss_while 100000 PassesOwn.never (PW.pt (qw_and (qt_cmp (op_ltA (hu_of64 hr)) oc_lt (qe_add (qv 4) qint) (qe_bF call_len_seq cf_len (by rfl) T.z_len (by decide +kernel) (qa_cons (qv 0) qa_nil)) (nomark _)) (qw_and1 (qt_cmp (op_leA (hu_of64 hr)) oc_le (qe_ix (qv 0) (qe_add (qv 4) qint) (fun _ _ => rfl)) (qv 5) (nomark _)))))
  (ss_one (ss_augAdd 4 sc_is_greedy_best.nd qint)))
  (ss_cons (ss_app 3 (ps_expr (pe_bm PySem.F.plainAttrs_list PySem.F.slot_list_append PySem.F.type_list_append mt_append (pv 3) (pa_cons (qe_add (qe_ix (qv 3) (qe_sub (qv 5) (qe_ix (qv 0) (qv 4) (fun _ _ => rfl))) (fun _ _ => rfl)) qint) pa_nil))))
  (ss_one (ss_if (qt_cmp (op_neD (hu_of64 hr)) oc_ne (qe_ix (qv 3) (qv 5) (fun _ _ => rfl)) (qe_ix (qv 2) (qv 5) (fun _ _ => rfl)) (nomark _))
  (ss_one (ss_ret qbl))
  ss_nil)))))
  (ss_one (ss_ret qbl)))))))
theorem sc_filled_ways : FnScope ["ways", "n", "rows", "k", "i", "j", "row"] ["ways"] (defScope (topS 6)) := ⟨rfl, rfl, rfl, by decide +kernel, rfl, by decide +kernel, by decide +kernel⟩
def den_filled_ways : Fn := dfun 7 1 (sSeq (sSet 1 0 (eCB (d1 dLen) (aCons (eVar 0) aNil)) [])
  (sSeq (sSet 2 2 (eLc (iSeq (eVar 0)) (.nm 6) tTrue (eCB (d1 dList) (aCons (eVar 6) aNil)) [6]) ([(0, 1)] ++ ([(6, 1)] ++ [])))
  (sSeq (sFor (iRange1 (eVar 1)) [] (.nm 3)
  (sFor (iRange1 (eVar 1)) [] (.nm 4)
  (sFor (iRange1 (eVar 1)) [] (.nm 5)
  (sPut22 2 (eVar 4) (eVar 5) (eCB (d2 dMin2) (aCons (eIx (eIx (eVar 2) (eVar 4)) (eVar 5)) (aCons (eOp dAdd (eIx (eIx (eVar 2) (eVar 4)) (eVar 3)) (eIx (eIx (eVar 2) (eVar 3)) (eVar 5))) aNil)))))))
  (sRet (eCB (d1 dTuple) (aCons (eLc (iSeq (eVar 2)) (.nm 6) tTrue (eCB (d1 dTuple) (aCons (eVar 6) aNil)) [6]) aNil))))))
theorem ok_filled_ways {P : Program} {w : World} {K : PySem.W.Frag} {mg : Str → Option Value} {base : Heap} {ad : Nat → Addr} {fo : Nat → FuncData} (T : Tp K mg ad fo) : FnOk P w K mg base CX0 1 (ad 4) (fo 4) ["ways"] (spD K 1 den_filled_ways) :=
  fun_den (k := 0) T.F_filled_ways sc_filled_ways rfl rfl (by decide) fun cdv A outer s H E hr =>
  (ss_cons (ss_set 1 0 sc_filled_ways.nd (qe_bF call_len_seq cf_len (by rfl) T.z_len (by decide +kernel) (qa_cons (qv 0) qa_nil)))
  (ss_cons (ss_setLcF 2 (own := [("row", 6)]) rfl sc_filled_ways.nd (qi_seq (qv 0)) (blkOk_by (own := [("row", 6)]) (N := ["ways", "n", "rows", "k", "i", "j", "row"]) (sc := (defScope (topS 6))) (by decide +kernel)) (fun _ _ _ _ _ => (gg 6 sc_filled_ways.nd)) (fun _ _ _ _ _ => qts_nil) (fun _ _ _ _ _ => (qe_tD call_list_of cd_list (by rfl) T.z_list (by decide +kernel) (qa_cons (qv 6) qa_nil))))
  (ss_cons (ss_for PassesOwn.never rfl (qi_range1 (by rfl) T.z_range (qv 1)) (gg 3 sc_filled_ways.nd)
  (ss_one (ss_for PassesOwn.never rfl (qi_range1 (by rfl) T.z_range (qv 1)) (gg 4 sc_filled_ways.nd)
  (ss_one (ss_for PassesOwn.never rfl (qi_range1 (by rfl) T.z_range (qv 1)) (gg 5 sc_filled_ways.nd)
  (ss_one (ss_put22 2 (ps_asg (qe_bF (call_min2 rfl) cf_min2 (by rfl) T.z_min (by decide +kernel) (qa_cons (qe_ix (qe_ix (qv 2) (qv 4) (fun _ _ => rfl)) (qv 5) (fun _ _ => rfl)) (qa_cons (qe_add (qe_ix (qe_ix (qv 2) (qv 4) (fun _ _ => rfl)) (qv 3) (fun _ _ => rfl)) (qe_ix (qe_ix (qv 2) (qv 3) (fun _ _ => rfl)) (qv 5) (fun _ _ => rfl))) qa_nil))) (pg_sub (pe_ix ix_list (pv 2) (qv 4) (fun _ _ => rfl)) (qv 5) set_list)))))))))
  (ss_one (ss_ret (qe_tD call_tuple_of cd_tuple (by rfl) T.z_tuple (by decide +kernel) (qa_cons (qe_lc (own := [("row", 6)]) rfl sc_filled_ways.nd (qi_seq (qv 2)) (blkOk_by (own := [("row", 6)]) (N := ["ways", "n", "rows", "k", "i", "j", "row"]) (sc := (defScope (topS 6))) (by decide +kernel)) (fun _ _ _ _ _ => (gg 6 sc_filled_ways.nd)) (fun _ _ _ _ _ => qts_nil) (fun _ _ _ _ _ => (qe_tD call_tuple_of cd_tuple (by rfl) T.z_tuple (by decide +kernel) (qa_cons (qv 6) qa_nil)))) qa_nil)))))))
theorem sc__law_mixed : FnScope ["script", "k", "cell", "first", "second", "third"] ["script", "k"] (defScope (topS 8)) := ⟨rfl, rfl, rfl, by decide +kernel, rfl, by decide +kernel, by decide +kernel⟩
def den__law_mixed : Fn := dfun 6 2 (sSeq (sSet 2 0 (eC (.int 0)) [])
  (sSeq (sIf (tCmp dGt (eCB (d1 dLen) (aCons (eVar 0) aNil)) (eC (.int 0)))
  (sSet 2 0 (eIx (eVar 0) (eOp dMod (eVar 1) (eCB (d1 dLen) (aCons (eVar 0) aNil)))) [(0, 1)])
  sNil)
  (sSeq (sSet 3 0 (eOp dMod (eCB (d1 dInt) (aCons (eOp dAdd (eOp dAdd (eOp dMul (eVar 2) (eC (.int 48271))) (eOp dMul (eVar 1) (eC (.int 69621)))) (eC (.int 8191))) aNil)) (eC (.int 2147483647))) ([] ++ []))
  (sSeq (sSet 4 0 (eOp dMod (eCB (d1 dInt) (aCons (eOp dAdd (eOp dAdd (eOp dMul (eVar 3) (eVar 3)) (eOp dFdiv (eVar 3) (eC (.int 7)))) (eOp dMul (eVar 1) (eC (.int 16807)))) aNil)) (eC (.int 2147483629))) ([] ++ []))
  (sSeq (sSet 5 0 (eOp dMod (eCB (d1 dInt) (aCons (eOp dAdd (eOp dAdd (eOp dMul (eVar 4) (eVar 4)) (eOp dFdiv (eVar 4) (eC (.int 11)))) (eC (.int 40692))) aNil)) (eC (.int 2147483563))) ([] ++ []))
  (sRet (eOp dMod (eOp dFdiv (eVar 5) (eC (.int 5))) (eC (.int 1000003)))))))))
theorem ok__law_mixed {P : Program} {w : World} {K : PySem.W.Frag} {mg : Str → Option Value} {base : Heap} {ad : Nat → Addr} {fo : Nat → FuncData} (T : Tp K mg ad fo) : FnOk P w K mg base CX0 1 (ad 5) (fo 5) ["script", "k"] (spD K 2 den__law_mixed) :=
  fun_den (k := 0) T.F__law_mixed sc__law_mixed rfl rfl (by decide) fun cdv A outer s H E hr =>
  (ss_cons (ss_set 2 0 sc__law_mixed.nd qint)
  (ss_cons (ss_if (qt_cmp (op_gtA (hu_of64 hr)) oc_gt (qe_bF call_len_seq cf_len (by rfl) T.z_len (by decide +kernel) (qa_cons (qv 0) qa_nil)) qint (nomark _))
  (ss_one (ss_set 2 0 sc__law_mixed.nd (qe_ix (qv 0) (qe_mod (qv 1) (qe_bF call_len_seq cf_len (by rfl) T.z_len (by decide +kernel) (qa_cons (qv 0) qa_nil))) (fun _ _ => rfl))))
  ss_nil)
  (ss_cons (ss_set 3 0 sc__law_mixed.nd (qe_mod (qe_tF call_int1 cf_int (by rfl) T.z_int (by decide +kernel) (qa_cons (qe_add (qe_add (qe_mul (qv 2) qint) (qe_mul (qv 1) qint)) qint) qa_nil)) qint))
  (ss_cons (ss_set 4 0 sc__law_mixed.nd (qe_mod (qe_tF call_int1 cf_int (by rfl) T.z_int (by decide +kernel) (qa_cons (qe_add (qe_add (qe_mul (qv 3) (qv 3)) (qe_fdiv (qv 3) qint)) (qe_mul (qv 1) qint)) qa_nil)) qint))
  (ss_cons (ss_set 5 0 sc__law_mixed.nd (qe_mod (qe_tF call_int1 cf_int (by rfl) T.z_int (by decide +kernel) (qa_cons (qe_add (qe_add (qe_mul (qv 4) (qv 4)) (qe_fdiv (qv 4) qint)) qint) qa_nil)) qint))
  (ss_one (ss_ret (qe_mod (qe_fdiv (qv 5) qint) qint))))))))
theorem sc__law_row : FnScope ["script", "many", "big", "row", "k"] ["script", "many"] (defScope (topS 9)) := ⟨rfl, rfl, rfl, by decide +kernel, rfl, by decide +kernel, by decide +kernel⟩
def den__law_row : Fn := dfun 5 2 (sSeq (sSet 2 0 (eC (.int 0)) [])
  (sSeq (sIf (tAndD (tCmp dGt (eCB (d1 dLen) (aCons (eVar 0) aNil)) (eC (.int 0))) (tCmp dGe (eIx (eVar 0) (eC (.int 0))) (eOp dPow (eC (.int 10)) (eC (.int 18)))))
  (sSet 2 0 (eIx (eVar 0) (eC (.int 0))) [(0, 1)])
  sNil)
  (sSeq (sSet 3 1 (eLst aNil) [])
  (sSeq (sFor (iRange1 (eVar 1)) [] (.nm 4)
  (sIf (tCmp dGt (eVar 2) (eC (.int 0)))
  (sSeq (sApp 3 (eOp dMod (eCB (d1 dInt) (aCons (eVar 2) aNil)) (eC (.int 1000))) ([] ++ []))
  (sSet 2 0 (eOp dFdiv (eVar 2) (eC (.int 1000))) ([(2, 1)] ++ [])))
  (sApp 3 (eCall 2 den__law_mixed (aCons (eVar 0) (aCons (eVar 4) aNil))) ([(0, 0)] ++ ([(4, 0)] ++ [])))))
  (sRet (eVar 3))))))
theorem ok__law_row {P : Program} {w : World} {K : PySem.W.Frag} {mg : Str → Option Value} {base : Heap} {ad : Nat → Addr} {fo : Nat → FuncData} (T : Tp K mg ad fo) : FnOk P w K mg base CX0 2 (ad 6) (fo 6) ["script", "many"] (spD K 2 den__law_row) :=
  fun_den (k := 1) T.F__law_row sc__law_row rfl rfl (by decide) fun cdv A outer s H E hr =>
  (ss_cons (ss_set 2 0 sc__law_row.nd qint)
  (ss_cons (ss_if (PW.pt (qw_and (qt_cmp (op_gtA (hu_of64 hr)) oc_gt (qe_bF call_len_seq cf_len (by rfl) T.z_len (by decide +kernel) (qa_cons (qv 0) qa_nil)) qint (nomark _)) (qw_and1 (qt_cmp (op_geA (hu_of64 hr)) oc_ge (qe_ix (qv 0) qint (fun _ _ => rfl)) (qe_pow qint qint) (nomark _)))))
  (ss_one (ss_set 2 0 sc__law_row.nd (qe_ix (qv 0) qint (fun _ _ => rfl))))
  ss_nil)
  (ss_cons (ss_set 3 1 sc__law_row.nd (qe_lst qa_nil))
  (ss_cons (ss_for PassesOwn.never rfl (qi_range1 (by rfl) T.z_range (qv 1)) (gg 4 sc__law_row.nd)
  (ss_one (ss_if (qt_cmp (op_gtA (hu_of64 hr)) oc_gt (qv 2) qint (nomark _))
  (ss_cons (ss_app 3 (ps_expr (pe_bm PySem.F.plainAttrs_list PySem.F.slot_list_append PySem.F.type_list_append mt_append (pv 3) (pa_cons (qe_mod (qe_tF call_int1 cf_int (by rfl) T.z_int (by decide +kernel) (qa_cons (qv 2) qa_nil)) qint) pa_nil))))
  (ss_one (ss_set 2 0 sc__law_row.nd (qe_fdiv (qv 2) qint))))
  (ss_one (ss_app 3 (ps_expr (pe_bm PySem.F.plainAttrs_list PySem.F.slot_list_append PySem.F.type_list_append mt_append (pv 3) (pa_cons (qe_call (ok__law_mixed T) (hr.mono (by decide)) (by rfl) T.g__law_mixed T.F__law_mixed.kp T.b__law_mixed (qa_cons (qv 0) (qa_cons (qv 4) qa_nil))) pa_nil))))))))
  (ss_one (ss_ret (qv 3)))))))
theorem sc__law_is_int : FnScope ["value"] ["value"] (defScope (topS 10)) := ⟨rfl, rfl, rfl, by decide +kernel, rfl, by decide +kernel, by decide +kernel⟩
def den__law_is_int : Fn := dfun 1 1 (sRet (eAndD (eIsi "int" (eVar 0)) (eB (tNotD (tTru (eIsi "bool" (eVar 0)))))))
theorem ok__law_is_int {P : Program} {w : World} {K : PySem.W.Frag} {mg : Str → Option Value} {base : Heap} {ad : Nat → Addr} {fo : Nat → FuncData} (T : Tp K mg ad fo) : FnOk P w K mg base CX0 1 (ad 7) (fo 7) ["value"] (spD K 1 den__law_is_int) :=
  fun_den (k := 0) T.F__law_is_int sc__law_is_int rfl rfl (by decide) fun cdv A outer s H E hr =>
  (ss_one (ss_ret (qe_and (qe_isi (by rfl) T.z_isinstance (qv 0) (by rfl) T.z_int (by decide +kernel)) (qe_one (qe_not (qe_isi (by rfl) T.z_isinstance (qv 0) (by rfl) T.z_bool (by decide +kernel)))))))
theorem sc__law_like : FnScope ["value", "due", "k"] ["value", "due"] (defScope (topS 11)) := ⟨rfl, rfl, rfl, by decide +kernel, rfl, by decide +kernel, by decide +kernel⟩
def den__law_like : Nat → Fn
  | 0 => fun _ => none
  | n + 1 => dfun 3 2 (sSeq (sIf (tIsND (eVar 1))
  (sRet (eIsN (eVar 0)))
  sNil)
  (sSeq (sIf (tTru (eIsi "bool" (eVar 1)))
  (sRet (eAndD (eIsi "bool" (eVar 0)) (eB (tCmp dEq (eVar 0) (eVar 1)))))
  sNil)
  (sSeq (sIf (tTru (eIsi "tuple" (eVar 1)))
  (sSeq (sIf (tOrD (tNotD (tTru (eIsi "tuple" (eVar 0)))) (tCmp dNe (eCB (d1 dLen) (aCons (eVar 0) aNil)) (eCB (d1 dLen) (aCons (eVar 1) aNil))))
  (sRet (eC (.bool false)))
  sNil)
  (sRet (eCB (d1 dAll) (aCons (eLc (iRange1 (eCB (d1 dLen) (aCons (eVar 1) aNil))) (.nm 2) tTrue (eCall 2 (den__law_like n) (aCons (eIx (eVar 0) (eVar 2)) (aCons (eIx (eVar 1) (eVar 2)) aNil))) [2]) aNil))))
  sNil)
  (sSeq (sIf (tTru (eIsi "str" (eVar 1)))
  (sRet (eAndD (eIsi "str" (eVar 0)) (eB (tCmp dEq (eVar 0) (eVar 1)))))
  sNil)
  (sRet (eAndD (eCall 1 den__law_is_int (aCons (eVar 0) aNil)) (eB (tCmp dEq (eVar 0) (eVar 1)))))))))
theorem ok__law_like {P : Program} {w : World} {K : PySem.W.Frag} {mg : Str → Option Value} {base : Heap} {ad : Nat → Addr} {fo : Nat → FuncData} (T : Tp K mg ad fo) : ∀ n : Nat, FnOk P w K mg base CX0 (2 + n) (ad 8) (fo 8) ["value", "due"] (spD K 2 (den__law_like n))
  | 0 => fun_none (k := 1) T.F__law_like sc__law_like rfl
  | n + 1 => have ih := ok__law_like (P := P) (w := w) (base := base) T n
    fun_den (k := 2 + n) T.F__law_like sc__law_like rfl rfl (by decide) fun cdv A outer s H E hr =>
  (ss_cons (ss_if (qt_isN (qv 1))
  (ss_one (ss_ret (qe_isN (qv 0))))
  ss_nil)
  (ss_cons (ss_if (qt_tru (qe_isi (by rfl) T.z_isinstance (qv 1) (by rfl) T.z_bool (by decide +kernel)) (by intro _; rfl))
  (ss_one (ss_ret (qe_and (qe_isi (by rfl) T.z_isinstance (qv 0) (by rfl) T.z_bool (by decide +kernel)) (qe_one (qe_cmp (op_eqD (hu_of64 hr)) oc_eq (qv 0) (qv 1) (nomark _))))))
  ss_nil)
  (ss_cons (ss_if (qt_tru (qe_isi (by rfl) T.z_isinstance (qv 1) (by rfl) T.z_tuple (by decide +kernel)) (by intro _; rfl))
  (ss_cons (ss_if (PW.pt (qw_or (qt_not (qt_tru (qe_isi (by rfl) T.z_isinstance (qv 0) (by rfl) T.z_tuple (by decide +kernel)) (by intro _; rfl))) (qw_or1 (qt_cmp (op_neD (hu_of64 hr)) oc_ne (qe_bF call_len_seq cf_len (by rfl) T.z_len (by decide +kernel) (qa_cons (qv 0) qa_nil)) (qe_bF call_len_seq cf_len (by rfl) T.z_len (by decide +kernel) (qa_cons (qv 1) qa_nil)) (nomark _)))))
  (ss_one (ss_ret qbl))
  ss_nil)
  (ss_one (ss_ret (qe_bF (cr_all rfl) cf_all (by rfl) T.z_all (by decide +kernel) (qa_cons (qe_lc (own := [("k", 2)]) rfl sc__law_like.nd (qi_range1 (by rfl) T.z_range (qe_bF call_len_seq cf_len (by rfl) T.z_len (by decide +kernel) (qa_cons (qv 1) qa_nil))) (blkOk_by (own := [("k", 2)]) (N := ["value", "due", "k"]) (sc := (defScope (topS 11))) (by decide +kernel)) (fun _ _ _ _ _ => (gg 2 sc__law_like.nd)) (fun _ _ _ _ _ => qts_nil) (fun _ _ _ _ _ => (qe_call ih (hr.mono (Nat.le_refl _)) (by rfl) T.g__law_like T.F__law_like.kp T.b__law_like (qa_cons (qe_ix (qv 0) (qv 2) (fun _ _ => rfl)) (qa_cons (qe_ix (qv 1) (qv 2) (fun _ _ => rfl)) qa_nil))))) qa_nil)))))
  ss_nil)
  (ss_cons (ss_if (qt_tru (qe_isi (by rfl) T.z_isinstance (qv 1) (by rfl) T.z_str (by decide +kernel)) (by intro _; rfl))
  (ss_one (ss_ret (qe_and (qe_isi (by rfl) T.z_isinstance (qv 0) (by rfl) T.z_str (by decide +kernel)) (qe_one (qe_cmp (op_eqD (hu_of64 hr)) oc_eq (qv 0) (qv 1) (nomark _))))))
  ss_nil)
  (ss_one (ss_ret (qe_and (qe_call (ok__law_is_int T) (hr.mono (Nat.le_trans (by decide) (Nat.le_add_right 2 n))) (by rfl) T.g__law_is_int T.F__law_is_int.kp T.b__law_is_int (qa_cons (qv 0) qa_nil)) (qe_one (qe_cmp (op_eqD (hu_of64 hr)) oc_eq (qv 0) (qv 1) (nomark _))))))))))
theorem sc__law_tables : FnScope ["coins", "most", "found", "amount", "best", "coin", "count", "before", "row"] ["coins", "most"] (defScope (topS 12)) := ⟨rfl, rfl, rfl, by decide +kernel, rfl, by decide +kernel, by decide +kernel⟩
def den__law_tables : Fn := dfun 9 2 (sSeq (sSet 2 1 (eLst (aCons (eTup (aCons (eC (.int 0)) (aCons (eTup aNil) aNil))) aNil)) (([] ++ ([] ++ [])) ++ []))
  (sSeq (sFor (iRange2 (eC (.int 1)) (eOp dAdd (eVar 1) (eC (.int 1)))) [] (.nm 3)
  (sSeq (sSet 4 0 (eC .none) [])
  (sSeq (sFor (iSeq (eVar 0)) [(0, 0)] (.nm 5)
  (sIf (tAndD (tCmp dLe (eVar 5) (eVar 3)) (tNotND (eIx (eVar 2) (eOp dSub (eVar 3) (eVar 5)))))
  (sSeq (sTup (.tp [(.nm 6), (.nm 7)]) (eIx (eVar 2) (eOp dSub (eVar 3) (eVar 5))) [(2, 1)])
  (sSeq (sSet 8 0 (eCB (d1 dTuple) (aCons (eOp dSortRvB (eOp dAdd (eVar 7) (eTup (aCons (eVar 5) aNil))) (eC (.bool true))) aNil)) ((([(7, 1)] ++ ([(5, 0)] ++ [])) ++ []) ++ []))
  (sIf (tOrD (tIsND (eVar 4)) (tCmp dLt (eTup (aCons (eOp dAdd (eVar 6) (eC (.int 1))) (aCons (eVar 8) aNil))) (eVar 4)))
  (sSet 4 0 (eTup (aCons (eOp dAdd (eVar 6) (eC (.int 1))) (aCons (eVar 8) aNil))) (([(6, 1)] ++ []) ++ ([(8, 0)] ++ [])))
  sNil)))
  sNil))
  (sApp 2 (eVar 4) [(4, 0)]))))
  (sRet (eVar 2))))
theorem ok__law_tables {P : Program} {w : World} {K : PySem.W.Frag} {mg : Str → Option Value} {base : Heap} {ad : Nat → Addr} {fo : Nat → FuncData} (T : Tp K mg ad fo) : FnOk P w K mg base CX0 1 (ad 9) (fo 9) ["coins", "most"] (spD K 2 den__law_tables) :=
  fun_den (k := 0) T.F__law_tables sc__law_tables rfl rfl (by decide) fun cdv A outer s H E hr =>
  (ss_cons (ss_set 2 1 sc__law_tables.nd (qe_lst (qa_cons (qe_tup (qa_cons qint (qa_cons (qe_tup qa_nil) qa_nil))) qa_nil)))
  (ss_cons (ss_for PassesOwn.never rfl (qi_range2 (by rfl) T.z_range qint (qe_add (qv 1) qint)) (gg 3 sc__law_tables.nd)
  (ss_cons (ss_set 4 0 sc__law_tables.nd qnon)
  (ss_cons (ss_for PassesOwn.never rfl (qi_seq (qv 0)) (gg 5 sc__law_tables.nd)
  (ss_one (ss_if (PW.pt (qw_and (qt_cmp (op_leA (hu_of64 hr)) oc_le (qv 5) (qv 3) (nomark _)) (qw_and1 (qt_notN (qe_ix (qv 2) (qe_sub (qv 3) (qv 5)) (fun _ _ => rfl))))))
  (ss_cons (ss_tup (qe_ix (qv 2) (qe_sub (qv 3) (qv 5)) (fun _ _ => rfl)) (gg_tup rfl (ggs_cons (gg 6 sc__law_tables.nd) (ggs_cons (gg 7 sc__law_tables.nd) ggs_nil))))
  (ss_cons (ss_set 8 0 sc__law_tables.nd (qe_tD call_tuple_of cd_tuple (by rfl) T.z_tuple (by decide +kernel) (qa_cons (qe_k1D (crk_sortedRvB (hu_of64 hr)) ckd_sortedRvB (by rfl) T.z_sorted (by decide +kernel) (qe_add (qv 7) (qe_tup (qa_cons (qv 5) qa_nil))) qbl) qa_nil)))
  (ss_one (ss_if (PW.pt (qw_or (qt_isN (qv 4)) (qw_or1 (qt_cmp (op_ltA (hu_of64 hr)) oc_lt (qe_tup (qa_cons (qe_add (qv 6) qint) (qa_cons (qv 8) qa_nil))) (qv 4) (nomark _)))))
  (ss_one (ss_set 4 0 sc__law_tables.nd (qe_tup (qa_cons (qe_add (qv 6) qint) (qa_cons (qv 8) qa_nil)))))
  ss_nil))))
  ss_nil)))
  (ss_one (ss_app 2 (ps_expr (pe_bm PySem.F.plainAttrs_list PySem.F.slot_list_append PySem.F.type_list_append mt_append (pv 2) (pa_cons (qv 4) pa_nil))))))))
  (ss_one (ss_ret (qv 2)))))
theorem sc__law_greedy : FnScope ["coins", "amount", "found", "coin", "turn"] ["coins", "amount"] (defScope (topS 13)) := ⟨rfl, rfl, rfl, by decide +kernel, rfl, by decide +kernel, by decide +kernel⟩
def den__law_greedy : Fn := dfun 5 2 (sSeq (sSet 2 1 (eLst aNil) [])
  (sSeq (sFor (iSeq (eOp dSortRvB (eVar 0) (eC (.bool true)))) ([(0, 1)] ++ []) (.nm 3)
  (sFor (iRange1 (eOp dFdiv (eVar 1) (eVar 3))) [] (.nm 4)
  (sSeq (sApp 2 (eVar 3) [(3, 0)])
  (sAug 1 dSub (eVar 3)))))
  (sSeq (sIf (tCmp dGt (eVar 1) (eC (.int 0)))
  (sRet (eC .none))
  sNil)
  (sRet (eCB (d1 dTuple) (aCons (eVar 2) aNil))))))
theorem ok__law_greedy {P : Program} {w : World} {K : PySem.W.Frag} {mg : Str → Option Value} {base : Heap} {ad : Nat → Addr} {fo : Nat → FuncData} (T : Tp K mg ad fo) : FnOk P w K mg base CX0 1 (ad 10) (fo 10) ["coins", "amount"] (spD K 2 den__law_greedy) :=
  fun_den (k := 0) T.F__law_greedy sc__law_greedy rfl rfl (by decide) fun cdv A outer s H E hr =>
  (ss_cons (ss_set 2 1 sc__law_greedy.nd (qe_lst qa_nil))
  (ss_cons (ss_for PassesOwn.never rfl (qi_seq (qe_k1D (crk_sortedRvB (hu_of64 hr)) ckd_sortedRvB (by rfl) T.z_sorted (by decide +kernel) (qv 0) qbl)) (gg 3 sc__law_greedy.nd)
  (ss_one (ss_for PassesOwn.never rfl (qi_range1 (by rfl) T.z_range (qe_fdiv (qv 1) (qv 3))) (gg 4 sc__law_greedy.nd)
  (ss_cons (ss_app 2 (ps_expr (pe_bm PySem.F.plainAttrs_list PySem.F.slot_list_append PySem.F.type_list_append mt_append (pv 2) (pa_cons (qv 3) pa_nil))))
  (ss_one (ss_augSub 1 sc__law_greedy.nd (qv 3)))))))
  (ss_cons (ss_if (qt_cmp (op_gtA (hu_of64 hr)) oc_gt (qv 1) qint (nomark _))
  (ss_one (ss_ret qnon))
  ss_nil)
  (ss_one (ss_ret (qe_tD call_tuple_of cd_tuple (by rfl) T.z_tuple (by decide +kernel) (qa_cons (qv 2) qa_nil)))))))
theorem sc__law_greedy_best : FnScope ["coins", "most", "tables", "amount"] ["coins"] (defScope (topS 14)) := ⟨rfl, rfl, rfl, by decide +kernel, rfl, by decide +kernel, by decide +kernel⟩
def den__law_greedy_best : Fn := dfun 4 1 (sSeq (sSet 1 0 (eCB (d1 dSum) (aCons (eSl (eVar 0) (oSome (eCB (d2 dMax2) (aCons (eC (.int 0)) (aCons (eOp dSub (eCB (d1 dLen) (aCons (eVar 0) aNil)) (eC (.int 2))) aNil)))) oNone) aNil)) [])
  (sSeq (sSet 2 0 (eCall 2 den__law_tables (aCons (eVar 0) (aCons (eVar 1) aNil))) ([(0, 0)] ++ ([(1, 0)] ++ [])))
  (sRet (eCB (d1 dAll) (aCons (eLc (iRange1 (eVar 1)) (.nm 3) tTrue (eB (tCmp dEq (eCB (d1 dLen) (aCons (eCall 2 den__law_greedy (aCons (eVar 0) (aCons (eVar 3) aNil))) aNil)) (eIx (eIx (eVar 2) (eVar 3)) (eC (.int 0))))) [3]) aNil)))))
theorem ok__law_greedy_best {P : Program} {w : World} {K : PySem.W.Frag} {mg : Str → Option Value} {base : Heap} {ad : Nat → Addr} {fo : Nat → FuncData} (T : Tp K mg ad fo) : FnOk P w K mg base CX0 2 (ad 11) (fo 11) ["coins"] (spD K 1 den__law_greedy_best) :=
  fun_den (k := 1) T.F__law_greedy_best sc__law_greedy_best rfl rfl (by decide) fun cdv A outer s H E hr =>
  (ss_cons (ss_set 1 0 sc__law_greedy_best.nd (qe_bF (cr_sumA rfl) cf_sum (by rfl) T.z_sum (by decide +kernel) (qa_cons (qe_sl (qv 0) (qo_some (qe_bF (call_max2 rfl) cf_max2 (by rfl) T.z_max (by decide +kernel) (qa_cons qint (qa_cons (qe_sub (qe_bF call_len_seq cf_len (by rfl) T.z_len (by decide +kernel) (qa_cons (qv 0) qa_nil)) qint) qa_nil)))) qo_none) qa_nil)))
  (ss_cons (ss_set 2 0 sc__law_greedy_best.nd (qe_call (ok__law_tables T) (hr.mono (by decide)) (by rfl) T.g__law_tables T.F__law_tables.kp T.b__law_tables (qa_cons (qv 0) (qa_cons (qv 1) qa_nil))))
  (ss_one (ss_ret (qe_bF (cr_all rfl) cf_all (by rfl) T.z_all (by decide +kernel) (qa_cons (qe_lc (own := [("amount", 3)]) rfl sc__law_greedy_best.nd (qi_range1 (by rfl) T.z_range (qv 1)) (blkOk_by (own := [("amount", 3)]) (N := ["coins", "most", "tables", "amount"]) (sc := (defScope (topS 14))) (by decide +kernel)) (fun _ _ _ _ _ => (gg 3 sc__law_greedy_best.nd)) (fun _ _ _ _ _ => qts_nil) (fun _ _ _ _ _ => (qe_cmp (op_eqD (hu_of64 hr)) oc_eq (qe_bF call_len_seq cf_len (by rfl) T.z_len (by decide +kernel) (qa_cons (qe_call (ok__law_greedy T) (hr.mono (by decide)) (by rfl) T.g__law_greedy T.F__law_greedy.kp T.b__law_greedy (qa_cons (qv 0) (qa_cons (qv 3) qa_nil))) qa_nil)) (qe_ix (qe_ix (qv 2) (qv 3) (fun _ _ => rfl)) qint (fun _ _ => rfl)) (nomark _)))) qa_nil))))))
theorem sc__law_fewest_right : FnScope ["coins", "amount", "tables", "table", "u", "ways", "due", "whole", "v"] ["coins", "amount"] (defScope (topS 15)) := ⟨rfl, rfl, rfl, by decide +kernel, rfl, by decide +kernel, by decide +kernel⟩
def den__law_fewest_right : Fn := dfun 9 2 (sSeq (sSet 2 0 (eCall 2 den__law_tables (aCons (eVar 0) (aCons (eCB (d2 dMax2) (aCons (eVar 1) (aCons (eC (.int 7)) aNil))) aNil))) ([(0, 0)] ++ ([] ++ [])))
  (sSeq (sIf (tNotD (tTru (eCall 2 (den__law_like 30) (aCons (eCall 2 den_best_change (aCons (eVar 0) (aCons (eVar 1) aNil))) (aCons (eIx (eVar 2) (eVar 1)) aNil)))))
  (sRet (eC (.bool false)))
  sNil)
  (sSeq (sIf (tNotD (tTru (eCall 2 (den__law_like 30) (aCons (eCall 2 den_greedy_change (aCons (eVar 0) (aCons (eVar 1) aNil))) (aCons (eCall 2 den__law_greedy (aCons (eVar 0) (aCons (eVar 1) aNil))) aNil)))))
  (sRet (eC (.bool false)))
  sNil)
  (sSeq (sSet 3 1 (eLst aNil) [])
  (sSeq (sFor (iRange1 (eC (.int 8))) [] (.nm 4)
  (sApp 3 (eCB (d1 dTuple) (aCons (eLc (iRange1 (eC (.int 8))) (.nm 8) tTrue (eIx (eLst (aCons (eC (.int 60)) (aCons (eCB (d1 dInt) (aCons (eB (tCmp dNe (eVar 4) (eVar 8))) aNil)) aNil))) (eCB (d1 dInt) (aCons (eOrD (eB (tCmp dEq (eVar 8) (eVar 4))) (eB (tCmp dIn (eOp dSub (eVar 8) (eVar 4)) (eVar 0)))) aNil))) [8]) aNil)) (([] ++ ([] ++ ([] ++ []))) ++ [])))
  (sSeq (sSet 5 0 (eCall 1 den_filled_ways (aCons (eCB (d1 dTuple) (aCons (eVar 3) aNil)) aNil)) (([(3, 1)] ++ []) ++ []))
  (sSeq (sIf (tOrD (tNotD (tTru (eIsi "tuple" (eVar 5)))) (tCmp dNe (eCB (d1 dLen) (aCons (eVar 5) aNil)) (eC (.int 8))))
  (sRet (eC (.bool false)))
  sNil)
  (sSeq (sSet 6 1 (eLst aNil) [])
  (sSeq (sFor (iRange1 (eC (.int 8))) [] (.nm 7)
  (sIf (tIsND (eIx (eVar 2) (eVar 7)))
  (sApp 6 (eC (.int 60)) [])
  (sApp 6 (eIx (eIx (eVar 2) (eVar 7)) (eC (.int 0))) [(2, 2)])))
  (sRet (eCall 2 (den__law_like 30) (aCons (eIx (eVar 5) (eC (.int 0))) (aCons (eCB (d1 dTuple) (aCons (eVar 6) aNil)) aNil)))))))))))))
theorem ok__law_fewest_right {P : Program} {w : World} {K : PySem.W.Frag} {mg : Str → Option Value} {base : Heap} {ad : Nat → Addr} {fo : Nat → FuncData} (T : Tp K mg ad fo) : FnOk P w K mg base CX0 33 (ad 12) (fo 12) ["coins", "amount"] (spD K 2 den__law_fewest_right) :=
  fun_den (k := 32) T.F__law_fewest_right sc__law_fewest_right rfl rfl (by decide) fun cdv A outer s H E hr =>
  (ss_cons (ss_set 2 0 sc__law_fewest_right.nd (qe_call (ok__law_tables T) (hr.mono (by decide)) (by rfl) T.g__law_tables T.F__law_tables.kp T.b__law_tables (qa_cons (qv 0) (qa_cons (qe_bF (call_max2 rfl) cf_max2 (by rfl) T.z_max (by decide +kernel) (qa_cons (qv 1) (qa_cons qint qa_nil))) qa_nil))))
  (ss_cons (ss_if (qt_not (qt_tru (qe_call (ok__law_like T 30) (hr.mono (by decide)) (by rfl) T.g__law_like T.F__law_like.kp T.b__law_like (qa_cons (qe_call (ok_best_change T) (hr.mono (by decide)) (by rfl) T.g_best_change T.F_best_change.kp T.b_best_change (qa_cons (qv 0) (qa_cons (qv 1) qa_nil))) (qa_cons (qe_ix (qv 2) (qv 1) (fun _ _ => rfl)) qa_nil))) (by intro _; rfl)))
  (ss_one (ss_ret qbl))
  ss_nil)
  (ss_cons (ss_if (qt_not (qt_tru (qe_call (ok__law_like T 30) (hr.mono (by decide)) (by rfl) T.g__law_like T.F__law_like.kp T.b__law_like (qa_cons (qe_call (ok_greedy_change T) (hr.mono (by decide)) (by rfl) T.g_greedy_change T.F_greedy_change.kp T.b_greedy_change (qa_cons (qv 0) (qa_cons (qv 1) qa_nil))) (qa_cons (qe_call (ok__law_greedy T) (hr.mono (by decide)) (by rfl) T.g__law_greedy T.F__law_greedy.kp T.b__law_greedy (qa_cons (qv 0) (qa_cons (qv 1) qa_nil))) qa_nil))) (by intro _; rfl)))
  (ss_one (ss_ret qbl))
  ss_nil)
  (ss_cons (ss_set 3 1 sc__law_fewest_right.nd (qe_lst qa_nil))
  (ss_cons (ss_for PassesOwn.never rfl (qi_range1 (by rfl) T.z_range qint) (gg 4 sc__law_fewest_right.nd)
  (ss_one (ss_app 3 (ps_expr (pe_bm PySem.F.plainAttrs_list PySem.F.slot_list_append PySem.F.type_list_append mt_append (pv 3) (pa_cons (qe_tD call_tuple_of cd_tuple (by rfl) T.z_tuple (by decide +kernel) (qa_cons (qe_lc (own := [("v", 8)]) rfl sc__law_fewest_right.nd (qi_range1 (by rfl) T.z_range qint) (blkOk_by (own := [("v", 8)]) (N := ["coins", "amount", "tables", "table", "u", "ways", "due", "whole", "v"]) (sc := (defScope (topS 15))) (by decide +kernel)) (fun _ _ _ _ _ => (gg 8 sc__law_fewest_right.nd)) (fun _ _ _ _ _ => qts_nil) (fun _ _ _ _ _ => (qe_ix (qe_lst (qa_cons qint (qa_cons (qe_tF call_int1 cf_int (by rfl) T.z_int (by decide +kernel) (qa_cons (qe_cmp (op_neD (hu_of64 hr)) oc_ne (qv 4) (qv 8) (nomark _)) qa_nil)) qa_nil))) (qe_tF call_int1 cf_int (by rfl) T.z_int (by decide +kernel) (qa_cons (qe_or (qe_cmp (op_eqD (hu_of64 hr)) oc_eq (qv 8) (qv 4) (nomark _)) (qe_one (qe_cmp ((op_inD (hu2_of hr)).or op_in_seq) oc_in (qe_sub (qv 8) (qv 4)) (qv 0) (by rfl)))) qa_nil)) (fun _ _ => rfl)))) qa_nil)) pa_nil))))))
  (ss_cons (ss_set 5 0 sc__law_fewest_right.nd (qe_call (ok_filled_ways T) (hr.mono (by decide)) (by rfl) T.g_filled_ways T.F_filled_ways.kp T.b_filled_ways (qa_cons (qe_tD call_tuple_of cd_tuple (by rfl) T.z_tuple (by decide +kernel) (qa_cons (qv 3) qa_nil)) qa_nil)))
  (ss_cons (ss_if (PW.pt (qw_or (qt_not (qt_tru (qe_isi (by rfl) T.z_isinstance (qv 5) (by rfl) T.z_tuple (by decide +kernel)) (by intro _; rfl))) (qw_or1 (qt_cmp (op_neD (hu_of64 hr)) oc_ne (qe_bF call_len_seq cf_len (by rfl) T.z_len (by decide +kernel) (qa_cons (qv 5) qa_nil)) qint (nomark _)))))
  (ss_one (ss_ret qbl))
  ss_nil)
  (ss_cons (ss_set 6 1 sc__law_fewest_right.nd (qe_lst qa_nil))
  (ss_cons (ss_for PassesOwn.never rfl (qi_range1 (by rfl) T.z_range qint) (gg 7 sc__law_fewest_right.nd)
  (ss_one (ss_if (qt_isN (qe_ix (qv 2) (qv 7) (fun _ _ => rfl)))
  (ss_one (ss_app 6 (ps_expr (pe_bm PySem.F.plainAttrs_list PySem.F.slot_list_append PySem.F.type_list_append mt_append (pv 6) (pa_cons qint pa_nil)))))
  (ss_one (ss_app 6 (ps_expr (pe_bm PySem.F.plainAttrs_list PySem.F.slot_list_append PySem.F.type_list_append mt_append (pv 6) (pa_cons (qe_ix (qe_ix (qv 2) (qv 7) (fun _ _ => rfl)) qint (fun _ _ => rfl)) pa_nil))))))))
  (ss_one (ss_ret (qe_call (ok__law_like T 30) (hr.mono (by decide)) (by rfl) T.g__law_like T.F__law_like.kp T.b__law_like (qa_cons (qe_ix (qv 5) qint (fun _ _ => rfl)) (qa_cons (qe_tD call_tuple_of cd_tuple (by rfl) T.z_tuple (by decide +kernel) (qa_cons (qv 6) qa_nil)) qa_nil))))))))))))))
theorem sc_law : FnScope ["script", "row", "wide", "coins", "k", "coin", "amount", "others"] ["script"] (defScope (topS 16)) := ⟨rfl, rfl, rfl, by decide +kernel, rfl, by decide +kernel, by decide +kernel⟩
def den_law : Fn := dfun 8 1 (sSeq (sSet 1 0 (eCall 2 den__law_row (aCons (eVar 0) (aCons (eC (.int 20)) aNil))) ([(0, 0)] ++ ([] ++ [])))
  (sSeq (sSet 2 0 (eIx (eLst (aCons (eC (.int 6)) (aCons (eC (.int 12)) (aCons (eC (.int 12)) (aCons (eC (.int 40)) aNil))))) (eOp dMod (eCB (d1 dInt) (aCons (eIx (eVar 1) (eC (.int 0))) aNil)) (eC (.int 4)))) ([] ++ ([] ++ ([] ++ ([] ++ [])))))
  (sSeq (sSet 3 1 (eLst aNil) [])
  (sSeq (sFor (iRange1 (eOp dMod (eCB (d1 dInt) (aCons (eIx (eVar 1) (eC (.int 1))) aNil)) (eC (.int 6)))) [] (.nm 4)
  (sSeq (sSet 5 0 (eOp dAdd (eC (.int 1)) (eOp dMod (eCB (d1 dInt) (aCons (eIx (eVar 1) (eOp dAdd (eC (.int 2)) (eVar 4))) aNil)) (eVar 2))) ([] ++ ([] ++ [(2, 1)])))
  (sIf (tCmp dNotIn (eVar 5) (eVar 3))
  (sApp 3 (eVar 5) [(5, 0)])
  sNil)))
  (sSeq (sSet 6 0 (eOp dMod (eCB (d1 dInt) (aCons (eIx (eVar 1) (eC (.int 7))) aNil)) (eC (.int 41))) ([] ++ []))
  (sSeq (sIf (tOrD (tNotD (tTru (eCall 2 den__law_fewest_right (aCons (eCB (d1 dTuple) (aCons (eVar 3) aNil)) (aCons (eVar 6) aNil))))) (tNotD (tTru (eCall 2 den__law_fewest_right (aCons (eCB (d1 dTuple) (aCons (eVar 3) aNil)) (aCons (eOp dMod (eCB (d1 dInt) (aCons (eVar 6) aNil)) (eC (.int 8))) aNil))))))
  (sRet (eC (.bool false)))
  sNil)
  (sSeq (sSet 7 0 (eLc (iSeq (eVar 3)) (.nm 5) (tCmp dGt (eVar 5) (eC (.int 1))) (eVar 5) [5]) ([(3, 1)] ++ [(5, 0)]))
  (sSeq (sSet 7 0 (eOp dAdd (eTup (aCons (eC (.int 1)) aNil)) (eCB (d1 dTuple) (aCons (eCB (d1 dSorted) (aCons (eVar 7) aNil)) aNil))) (([] ++ []) ++ (([(7, 1)] ++ []) ++ [])))
  (sSeq (sIf (tNotD (tTru (eCall 2 (den__law_like 30) (aCons (eCall 1 den_is_greedy_best (aCons (eVar 7) aNil)) (aCons (eCall 1 den__law_greedy_best (aCons (eVar 7) aNil)) aNil)))))
  (sRet (eC (.bool false)))
  sNil)
  (sSeq (sSet 5 0 (eOp dAdd (eC (.int 3)) (eOp dMod (eCB (d1 dInt) (aCons (eIx (eVar 1) (eC (.int 8))) aNil)) (eC (.int 10)))) ([] ++ ([] ++ [])))
  (sSeq (sIf (tNotD (tTru (eCall 2 (den__law_like 30) (aCons (eCall 1 den_is_greedy_best (aCons (eTup (aCons (eC (.int 1)) (aCons (eVar 5) (aCons (eOp dAdd (eVar 5) (eC (.int 1))) aNil)))) aNil)) (aCons (eC (.bool false)) aNil)))))
  (sRet (eC (.bool false)))
  sNil)
  (sRet (eCall 2 (den__law_like 30) (aCons (eCall 1 den_is_greedy_best (aCons (eTup (aCons (eC (.int 1)) (aCons (eVar 5) (aCons (eOp dMul (eVar 5) (eOp dAdd (eC (.int 2)) (eOp dMod (eCB (d1 dInt) (aCons (eIx (eVar 1) (eC (.int 9))) aNil)) (eC (.int 4))))) aNil)))) aNil)) (aCons (eC (.bool true)) aNil)))))))))))))))
theorem ok_law {P : Program} {w : World} {K : PySem.W.Frag} {mg : Str → Option Value} {base : Heap} {ad : Nat → Addr} {fo : Nat → FuncData} (T : Tp K mg ad fo) : FnOk P w K mg base CX0 34 (ad 13) (fo 13) ["script"] (spD K 1 den_law) :=
  fun_den (k := 33) T.F_law sc_law rfl rfl (by decide) fun cdv A outer s H E hr =>
  (ss_cons (ss_set 1 0 sc_law.nd (qe_call (ok__law_row T) (hr.mono (by decide)) (by rfl) T.g__law_row T.F__law_row.kp T.b__law_row (qa_cons (qv 0) (qa_cons qint qa_nil))))
  (ss_cons (ss_set 2 0 sc_law.nd (qe_ix (qe_lst (qa_cons qint (qa_cons qint (qa_cons qint (qa_cons qint qa_nil))))) (qe_mod (qe_tF call_int1 cf_int (by rfl) T.z_int (by decide +kernel) (qa_cons (qe_ix (qv 1) qint (fun _ _ => rfl)) qa_nil)) qint) (fun _ _ => rfl)))
  (ss_cons (ss_set 3 1 sc_law.nd (qe_lst qa_nil))
  (ss_cons (ss_for PassesOwn.never rfl (qi_range1 (by rfl) T.z_range (qe_mod (qe_tF call_int1 cf_int (by rfl) T.z_int (by decide +kernel) (qa_cons (qe_ix (qv 1) qint (fun _ _ => rfl)) qa_nil)) qint)) (gg 4 sc_law.nd)
  (ss_cons (ss_set 5 0 sc_law.nd (qe_add qint (qe_mod (qe_tF call_int1 cf_int (by rfl) T.z_int (by decide +kernel) (qa_cons (qe_ix (qv 1) (qe_add qint (qv 4)) (fun _ _ => rfl)) qa_nil)) (qv 2))))
  (ss_one (ss_if (qt_cmp ((op_notInD (hu2_of hr)).or op_notIn_seq) oc_notIn (qv 5) (qv 3) (by rfl))
  (ss_one (ss_app 3 (ps_expr (pe_bm PySem.F.plainAttrs_list PySem.F.slot_list_append PySem.F.type_list_append mt_append (pv 3) (pa_cons (qv 5) pa_nil)))))
  ss_nil))))
  (ss_cons (ss_set 6 0 sc_law.nd (qe_mod (qe_tF call_int1 cf_int (by rfl) T.z_int (by decide +kernel) (qa_cons (qe_ix (qv 1) qint (fun _ _ => rfl)) qa_nil)) qint))
  (ss_cons (ss_if (PW.pt (qw_or (qt_not (qt_tru (qe_call (ok__law_fewest_right T) (hr.mono (by decide)) (by rfl) T.g__law_fewest_right T.F__law_fewest_right.kp T.b__law_fewest_right (qa_cons (qe_tD call_tuple_of cd_tuple (by rfl) T.z_tuple (by decide +kernel) (qa_cons (qv 3) qa_nil)) (qa_cons (qv 6) qa_nil))) (by intro _; rfl))) (qw_or1 (qt_not (qt_tru (qe_call (ok__law_fewest_right T) (hr.mono (by decide)) (by rfl) T.g__law_fewest_right T.F__law_fewest_right.kp T.b__law_fewest_right (qa_cons (qe_tD call_tuple_of cd_tuple (by rfl) T.z_tuple (by decide +kernel) (qa_cons (qv 3) qa_nil)) (qa_cons (qe_mod (qe_tF call_int1 cf_int (by rfl) T.z_int (by decide +kernel) (qa_cons (qv 6) qa_nil)) qint) qa_nil))) (by intro _; rfl))))))
  (ss_one (ss_ret qbl))
  ss_nil)
  (ss_cons (ss_setLc 7 0 (own := [("coin", 5)]) rfl sc_law.nd (qi_seq (qv 3)) (blkOk_by (own := [("coin", 5)]) (N := ["script", "row", "wide", "coins", "k", "coin", "amount", "others"]) (sc := (defScope (topS 16))) (by decide +kernel)) (fun _ _ _ _ _ => (gg 5 sc_law.nd)) (fun _ _ _ _ _ => (qts_one (qt_cmp (op_gtA (hu_of64 hr)) oc_gt (qv 5) qint (nomark _)))) (fun _ _ _ _ _ => (qv 5)))
  (ss_cons (ss_set 7 0 sc_law.nd (qe_add (qe_tup (qa_cons qint qa_nil)) (qe_tD call_tuple_of cd_tuple (by rfl) T.z_tuple (by decide +kernel) (qa_cons (qe_bD (cr_sortedA (hu_of64 hr)) cd_sorted (by rfl) T.z_sorted (by decide +kernel) (qa_cons (qv 7) qa_nil)) qa_nil))))
  (ss_cons (ss_if (qt_not (qt_tru (qe_call (ok__law_like T 30) (hr.mono (by decide)) (by rfl) T.g__law_like T.F__law_like.kp T.b__law_like (qa_cons (qe_call (ok_is_greedy_best T) (hr.mono (by decide)) (by rfl) T.g_is_greedy_best T.F_is_greedy_best.kp T.b_is_greedy_best (qa_cons (qv 7) qa_nil)) (qa_cons (qe_call (ok__law_greedy_best T) (hr.mono (by decide)) (by rfl) T.g__law_greedy_best T.F__law_greedy_best.kp T.b__law_greedy_best (qa_cons (qv 7) qa_nil)) qa_nil))) (by intro _; rfl)))
  (ss_one (ss_ret qbl))
  ss_nil)
  (ss_cons (ss_set 5 0 sc_law.nd (qe_add qint (qe_mod (qe_tF call_int1 cf_int (by rfl) T.z_int (by decide +kernel) (qa_cons (qe_ix (qv 1) qint (fun _ _ => rfl)) qa_nil)) qint)))
  (ss_cons (ss_if (qt_not (qt_tru (qe_call (ok__law_like T 30) (hr.mono (by decide)) (by rfl) T.g__law_like T.F__law_like.kp T.b__law_like (qa_cons (qe_call (ok_is_greedy_best T) (hr.mono (by decide)) (by rfl) T.g_is_greedy_best T.F_is_greedy_best.kp T.b_is_greedy_best (qa_cons (qe_tup (qa_cons qint (qa_cons (qv 5) (qa_cons (qe_add (qv 5) qint) qa_nil)))) qa_nil)) (qa_cons qbl qa_nil))) (by intro _; rfl)))
  (ss_one (ss_ret qbl))
  ss_nil)
  (ss_one (ss_ret (qe_call (ok__law_like T 30) (hr.mono (by decide)) (by rfl) T.g__law_like T.F__law_like.kp T.b__law_like (qa_cons (qe_call (ok_is_greedy_best T) (hr.mono (by decide)) (by rfl) T.g_is_greedy_best T.F_is_greedy_best.kp T.b_is_greedy_best (qa_cons (qe_tup (qa_cons qint (qa_cons (qv 5) (qa_cons (qe_mul (qv 5) (qe_add qint (qe_mod (qe_tF call_int1 cf_int (by rfl) T.z_int (by decide +kernel) (qa_cons (qe_ix (qv 1) qint (fun _ _ => rfl)) qa_nil)) qint))) qa_nil)))) qa_nil)) (qa_cons qbl qa_nil))))))))))))))))
end Law
end

section
set_option Elab.async false
set_option linter.all false
set_option maxRecDepth 10000
namespace Law
open DS Lib PySem
theorem law_eq : den_law = Lib.den_law := rfl
theorem main (ns : List Int) (h : ns.length ≤ 63) : den_law [scr ns] = some (.bool true) := by
  rw [law_eq]
  exact law25 ns h
end Law
end

section
set_option Elab.async false
set_option linter.all false
set_option maxRecDepth 100000
set_option maxHeartbeats 4000000
namespace Law
open PySem PySem.Spec PyProof.Rows L2 DS
theorem all_mk {w : World} {K : PySem.W.Frag} {h : Heap} {mg : Str → Option Value} {fa : Addr} (X : K.In h) (G : h.Ns mainGlobals mg) (hfa : mg "law" = some (.ref fa))
  {f0 : Addr} {od0 an0 : Option Addr} {sl0 : Array (Option Value)} {oc0 kV0 dc0 pm0 cd0 ct0 : Value}
  {f1 : Addr} {od1 an1 : Option Addr} {sl1 : Array (Option Value)} {oc1 kV1 dc1 pm1 cd1 ct1 : Value}
  {f2 : Addr} {od2 an2 : Option Addr} {sl2 : Array (Option Value)} {oc2 kV2 dc2 pm2 cd2 ct2 : Value}
  {f3 : Addr} {od3 an3 : Option Addr} {sl3 : Array (Option Value)} {oc3 kV3 dc3 pm3 cd3 ct3 : Value}
  {f4 : Addr} {od4 an4 : Option Addr} {sl4 : Array (Option Value)} {oc4 kV4 dc4 pm4 cd4 ct4 : Value}
  {f5 : Addr} {od5 an5 : Option Addr} {sl5 : Array (Option Value)} {oc5 kV5 dc5 pm5 cd5 ct5 : Value}
  {f6 : Addr} {od6 an6 : Option Addr} {sl6 : Array (Option Value)} {oc6 kV6 dc6 pm6 cd6 ct6 : Value}
  {f7 : Addr} {od7 an7 : Option Addr} {sl7 : Array (Option Value)} {oc7 kV7 dc7 pm7 cd7 ct7 : Value}
  {f8 : Addr} {od8 an8 : Option Addr} {sl8 : Array (Option Value)} {oc8 kV8 dc8 pm8 cd8 ct8 : Value}
  {f9 : Addr} {od9 an9 : Option Addr} {sl9 : Array (Option Value)} {oc9 kV9 dc9 pm9 cd9 ct9 : Value}
  {f10 : Addr} {od10 an10 : Option Addr} {sl10 : Array (Option Value)} {oc10 kV10 dc10 pm10 cd10 ct10 : Value}
  {f11 : Addr} {od11 an11 : Option Addr} {sl11 : Array (Option Value)} {oc11 kV11 dc11 pm11 cd11 ct11 : Value}
  {f12 : Addr} {od12 an12 : Option Addr} {sl12 : Array (Option Value)} {oc12 kV12 dc12 pm12 cd12 ct12 : Value}
  {f13 : Addr} {od13 an13 : Option Addr} {sl13 : Array (Option Value)} {oc13 kV13 dc13 pm13 cd13 ct13 : Value}
  (a0 : PySem.W.nsIn K mainGlobals "coin_tables" = some (some (.ref f0))) (l0 : K.lookup f0 = some ⟨oc0, od0, .func (PySem.W.fnOf "coin_tables" "coin_tables" (defArgs (topS 1)) (defBody (topS 1)) (defScope (topS 1)) .none kV0 dc0 pm0 an0 cd0 ct0), sl0⟩) (c0 : PySem.W.codeIn K cd0 "coin_tables" = true) (k0 : PySem.W.keepIn K (.ref f0) = true)
  (a1 : PySem.W.nsIn K mainGlobals "best_change" = some (some (.ref f1))) (l1 : K.lookup f1 = some ⟨oc1, od1, .func (PySem.W.fnOf "best_change" "best_change" (defArgs (topS 2)) (defBody (topS 2)) (defScope (topS 2)) .none kV1 dc1 pm1 an1 cd1 ct1), sl1⟩) (c1 : PySem.W.codeIn K cd1 "best_change" = true) (k1 : PySem.W.keepIn K (.ref f1) = true)
  (a2 : PySem.W.nsIn K mainGlobals "greedy_change" = some (some (.ref f2))) (l2 : K.lookup f2 = some ⟨oc2, od2, .func (PySem.W.fnOf "greedy_change" "greedy_change" (defArgs (topS 3)) (defBody (topS 3)) (defScope (topS 3)) .none kV2 dc2 pm2 an2 cd2 ct2), sl2⟩) (c2 : PySem.W.codeIn K cd2 "greedy_change" = true) (k2 : PySem.W.keepIn K (.ref f2) = true)
  (a3 : PySem.W.nsIn K mainGlobals "is_greedy_best" = some (some (.ref f3))) (l3 : K.lookup f3 = some ⟨oc3, od3, .func (PySem.W.fnOf "is_greedy_best" "is_greedy_best" (defArgs (topS 4)) (defBody (topS 4)) (defScope (topS 4)) .none kV3 dc3 pm3 an3 cd3 ct3), sl3⟩) (c3 : PySem.W.codeIn K cd3 "is_greedy_best" = true) (k3 : PySem.W.keepIn K (.ref f3) = true)
  (a4 : PySem.W.nsIn K mainGlobals "filled_ways" = some (some (.ref f4))) (l4 : K.lookup f4 = some ⟨oc4, od4, .func (PySem.W.fnOf "filled_ways" "filled_ways" (defArgs (topS 6)) (defBody (topS 6)) (defScope (topS 6)) .none kV4 dc4 pm4 an4 cd4 ct4), sl4⟩) (c4 : PySem.W.codeIn K cd4 "filled_ways" = true) (k4 : PySem.W.keepIn K (.ref f4) = true)
  (a5 : PySem.W.nsIn K mainGlobals "_law_mixed" = some (some (.ref f5))) (l5 : K.lookup f5 = some ⟨oc5, od5, .func (PySem.W.fnOf "_law_mixed" "_law_mixed" (defArgs (topS 8)) (defBody (topS 8)) (defScope (topS 8)) .none kV5 dc5 pm5 an5 cd5 ct5), sl5⟩) (c5 : PySem.W.codeIn K cd5 "_law_mixed" = true) (k5 : PySem.W.keepIn K (.ref f5) = true)
  (a6 : PySem.W.nsIn K mainGlobals "_law_row" = some (some (.ref f6))) (l6 : K.lookup f6 = some ⟨oc6, od6, .func (PySem.W.fnOf "_law_row" "_law_row" (defArgs (topS 9)) (defBody (topS 9)) (defScope (topS 9)) .none kV6 dc6 pm6 an6 cd6 ct6), sl6⟩) (c6 : PySem.W.codeIn K cd6 "_law_row" = true) (k6 : PySem.W.keepIn K (.ref f6) = true)
  (a7 : PySem.W.nsIn K mainGlobals "_law_is_int" = some (some (.ref f7))) (l7 : K.lookup f7 = some ⟨oc7, od7, .func (PySem.W.fnOf "_law_is_int" "_law_is_int" (defArgs (topS 10)) (defBody (topS 10)) (defScope (topS 10)) .none kV7 dc7 pm7 an7 cd7 ct7), sl7⟩) (c7 : PySem.W.codeIn K cd7 "_law_is_int" = true) (k7 : PySem.W.keepIn K (.ref f7) = true)
  (a8 : PySem.W.nsIn K mainGlobals "_law_like" = some (some (.ref f8))) (l8 : K.lookup f8 = some ⟨oc8, od8, .func (PySem.W.fnOf "_law_like" "_law_like" (defArgs (topS 11)) (defBody (topS 11)) (defScope (topS 11)) .none kV8 dc8 pm8 an8 cd8 ct8), sl8⟩) (c8 : PySem.W.codeIn K cd8 "_law_like" = true) (k8 : PySem.W.keepIn K (.ref f8) = true)
  (a9 : PySem.W.nsIn K mainGlobals "_law_tables" = some (some (.ref f9))) (l9 : K.lookup f9 = some ⟨oc9, od9, .func (PySem.W.fnOf "_law_tables" "_law_tables" (defArgs (topS 12)) (defBody (topS 12)) (defScope (topS 12)) .none kV9 dc9 pm9 an9 cd9 ct9), sl9⟩) (c9 : PySem.W.codeIn K cd9 "_law_tables" = true) (k9 : PySem.W.keepIn K (.ref f9) = true)
  (a10 : PySem.W.nsIn K mainGlobals "_law_greedy" = some (some (.ref f10))) (l10 : K.lookup f10 = some ⟨oc10, od10, .func (PySem.W.fnOf "_law_greedy" "_law_greedy" (defArgs (topS 13)) (defBody (topS 13)) (defScope (topS 13)) .none kV10 dc10 pm10 an10 cd10 ct10), sl10⟩) (c10 : PySem.W.codeIn K cd10 "_law_greedy" = true) (k10 : PySem.W.keepIn K (.ref f10) = true)
  (a11 : PySem.W.nsIn K mainGlobals "_law_greedy_best" = some (some (.ref f11))) (l11 : K.lookup f11 = some ⟨oc11, od11, .func (PySem.W.fnOf "_law_greedy_best" "_law_greedy_best" (defArgs (topS 14)) (defBody (topS 14)) (defScope (topS 14)) .none kV11 dc11 pm11 an11 cd11 ct11), sl11⟩) (c11 : PySem.W.codeIn K cd11 "_law_greedy_best" = true) (k11 : PySem.W.keepIn K (.ref f11) = true)
  (a12 : PySem.W.nsIn K mainGlobals "_law_fewest_right" = some (some (.ref f12))) (l12 : K.lookup f12 = some ⟨oc12, od12, .func (PySem.W.fnOf "_law_fewest_right" "_law_fewest_right" (defArgs (topS 15)) (defBody (topS 15)) (defScope (topS 15)) .none kV12 dc12 pm12 an12 cd12 ct12), sl12⟩) (c12 : PySem.W.codeIn K cd12 "_law_fewest_right" = true) (k12 : PySem.W.keepIn K (.ref f12) = true)
  (a13 : PySem.W.nsIn K mainGlobals "law" = some (some (.ref f13))) (l13 : K.lookup f13 = some ⟨oc13, od13, .func (PySem.W.fnOf "law" "law" (defArgs (topS 16)) (defBody (topS 16)) (defScope (topS 16)) .none kV13 dc13 pm13 an13 cd13 ct13), sl13⟩) (c13 : PySem.W.codeIn K cd13 "law" = true) (k13 : PySem.W.keepIn K (.ref f13) = true)
  (z_all : PySem.W.nsIn K mainGlobals "all" = some none)
  (z_bool : PySem.W.nsIn K mainGlobals "bool" = some none)
  (z_int : PySem.W.nsIn K mainGlobals "int" = some none)
  (z_isinstance : PySem.W.nsIn K mainGlobals "isinstance" = some none)
  (z_len : PySem.W.nsIn K mainGlobals "len" = some none)
  (z_list : PySem.W.nsIn K mainGlobals "list" = some none)
  (z_max : PySem.W.nsIn K mainGlobals "max" = some none)
  (z_min : PySem.W.nsIn K mainGlobals "min" = some none)
  (z_range : PySem.W.nsIn K mainGlobals "range" = some none)
  (z_set : PySem.W.nsIn K mainGlobals "set" = some none)
  (z_sorted : PySem.W.nsIn K mainGlobals "sorted" = some none)
  (z_str : PySem.W.nsIn K mainGlobals "str" = some none)
  (z_sum : PySem.W.nsIn K mainGlobals "sum" = some none)
  (z_tuple : PySem.W.nsIn K mainGlobals "tuple" = some none) :
  ∃ fd : FuncData, (∀ (s : Shared) (v : Value), BindsTo s fd ⟨[v], []⟩ [("script", v)]) ∧ ∀ base : Heap, K.In base → base.Ns mainGlobals mg → FnOk PySem.Challenge.rw_planskept_k25_whole_change.prog w K mg base CX0 34 fa fd ["script"] (spD K 1 den_law) := by
  have e : f13 = fa := by
    have e := hfa.symm.trans (PySem.W.mg_of X G a13)
    cases e
    rfl
  subst e
  have T : Tp K mg (fun i => match i with | 0 => f0 | 1 => f1 | 2 => f2 | 3 => f3 | 4 => f4 | 5 => f5 | 6 => f6 | 7 => f7 | 8 => f8 | 9 => f9 | 10 => f10 | 11 => f11 | 12 => f12 | _ => f13) (fun i => match i with | 0 => PySem.W.fnOf "coin_tables" "coin_tables" (defArgs (topS 1)) (defBody (topS 1)) (defScope (topS 1)) .none kV0 dc0 pm0 an0 cd0 ct0 | 1 => PySem.W.fnOf "best_change" "best_change" (defArgs (topS 2)) (defBody (topS 2)) (defScope (topS 2)) .none kV1 dc1 pm1 an1 cd1 ct1 | 2 => PySem.W.fnOf "greedy_change" "greedy_change" (defArgs (topS 3)) (defBody (topS 3)) (defScope (topS 3)) .none kV2 dc2 pm2 an2 cd2 ct2 | 3 => PySem.W.fnOf "is_greedy_best" "is_greedy_best" (defArgs (topS 4)) (defBody (topS 4)) (defScope (topS 4)) .none kV3 dc3 pm3 an3 cd3 ct3 | 4 => PySem.W.fnOf "filled_ways" "filled_ways" (defArgs (topS 6)) (defBody (topS 6)) (defScope (topS 6)) .none kV4 dc4 pm4 an4 cd4 ct4 | 5 => PySem.W.fnOf "_law_mixed" "_law_mixed" (defArgs (topS 8)) (defBody (topS 8)) (defScope (topS 8)) .none kV5 dc5 pm5 an5 cd5 ct5 | 6 => PySem.W.fnOf "_law_row" "_law_row" (defArgs (topS 9)) (defBody (topS 9)) (defScope (topS 9)) .none kV6 dc6 pm6 an6 cd6 ct6 | 7 => PySem.W.fnOf "_law_is_int" "_law_is_int" (defArgs (topS 10)) (defBody (topS 10)) (defScope (topS 10)) .none kV7 dc7 pm7 an7 cd7 ct7 | 8 => PySem.W.fnOf "_law_like" "_law_like" (defArgs (topS 11)) (defBody (topS 11)) (defScope (topS 11)) .none kV8 dc8 pm8 an8 cd8 ct8 | 9 => PySem.W.fnOf "_law_tables" "_law_tables" (defArgs (topS 12)) (defBody (topS 12)) (defScope (topS 12)) .none kV9 dc9 pm9 an9 cd9 ct9 | 10 => PySem.W.fnOf "_law_greedy" "_law_greedy" (defArgs (topS 13)) (defBody (topS 13)) (defScope (topS 13)) .none kV10 dc10 pm10 an10 cd10 ct10 | 11 => PySem.W.fnOf "_law_greedy_best" "_law_greedy_best" (defArgs (topS 14)) (defBody (topS 14)) (defScope (topS 14)) .none kV11 dc11 pm11 an11 cd11 ct11 | 12 => PySem.W.fnOf "_law_fewest_right" "_law_fewest_right" (defArgs (topS 15)) (defBody (topS 15)) (defScope (topS 15)) .none kV12 dc12 pm12 an12 cd12 ct12 | _ => PySem.W.fnOf "law" "law" (defArgs (topS 16)) (defBody (topS 16)) (defScope (topS 16)) .none kV13 dc13 pm13 an13 cd13 ct13) := {
    F_coin_tables := fun_mk (st := (topS 1)) l0 c0 k0,
    b_coin_tables := (fun_mk (st := (topS 1)) l0 c0 k0).binds (ps := ["coins", "amount"]) fun _ _ _ _ _ _ us hl => match us, hl with | [_, _], _ => rfl,
    g_coin_tables := PySem.W.mg_of X G a0,
    F_best_change := fun_mk (st := (topS 2)) l1 c1 k1,
    b_best_change := (fun_mk (st := (topS 2)) l1 c1 k1).binds (ps := ["coins", "amount"]) fun _ _ _ _ _ _ us hl => match us, hl with | [_, _], _ => rfl,
    g_best_change := PySem.W.mg_of X G a1,
    F_greedy_change := fun_mk (st := (topS 3)) l2 c2 k2,
    b_greedy_change := (fun_mk (st := (topS 3)) l2 c2 k2).binds (ps := ["coins", "amount"]) fun _ _ _ _ _ _ us hl => match us, hl with | [_, _], _ => rfl,
    g_greedy_change := PySem.W.mg_of X G a2,
    F_is_greedy_best := fun_mk (st := (topS 4)) l3 c3 k3,
    b_is_greedy_best := (fun_mk (st := (topS 4)) l3 c3 k3).binds (ps := ["coins"]) fun _ _ _ _ _ _ us hl => match us, hl with | [_], _ => rfl,
    g_is_greedy_best := PySem.W.mg_of X G a3,
    F_filled_ways := fun_mk (st := (topS 6)) l4 c4 k4,
    b_filled_ways := (fun_mk (st := (topS 6)) l4 c4 k4).binds (ps := ["ways"]) fun _ _ _ _ _ _ us hl => match us, hl with | [_], _ => rfl,
    g_filled_ways := PySem.W.mg_of X G a4,
    F__law_mixed := fun_mk (st := (topS 8)) l5 c5 k5,
    b__law_mixed := (fun_mk (st := (topS 8)) l5 c5 k5).binds (ps := ["script", "k"]) fun _ _ _ _ _ _ us hl => match us, hl with | [_, _], _ => rfl,
    g__law_mixed := PySem.W.mg_of X G a5,
    F__law_row := fun_mk (st := (topS 9)) l6 c6 k6,
    b__law_row := (fun_mk (st := (topS 9)) l6 c6 k6).binds (ps := ["script", "many"]) fun _ _ _ _ _ _ us hl => match us, hl with | [_, _], _ => rfl,
    g__law_row := PySem.W.mg_of X G a6,
    F__law_is_int := fun_mk (st := (topS 10)) l7 c7 k7,
    b__law_is_int := (fun_mk (st := (topS 10)) l7 c7 k7).binds (ps := ["value"]) fun _ _ _ _ _ _ us hl => match us, hl with | [_], _ => rfl,
    g__law_is_int := PySem.W.mg_of X G a7,
    F__law_like := fun_mk (st := (topS 11)) l8 c8 k8,
    b__law_like := (fun_mk (st := (topS 11)) l8 c8 k8).binds (ps := ["value", "due"]) fun _ _ _ _ _ _ us hl => match us, hl with | [_, _], _ => rfl,
    g__law_like := PySem.W.mg_of X G a8,
    F__law_tables := fun_mk (st := (topS 12)) l9 c9 k9,
    b__law_tables := (fun_mk (st := (topS 12)) l9 c9 k9).binds (ps := ["coins", "most"]) fun _ _ _ _ _ _ us hl => match us, hl with | [_, _], _ => rfl,
    g__law_tables := PySem.W.mg_of X G a9,
    F__law_greedy := fun_mk (st := (topS 13)) l10 c10 k10,
    b__law_greedy := (fun_mk (st := (topS 13)) l10 c10 k10).binds (ps := ["coins", "amount"]) fun _ _ _ _ _ _ us hl => match us, hl with | [_, _], _ => rfl,
    g__law_greedy := PySem.W.mg_of X G a10,
    F__law_greedy_best := fun_mk (st := (topS 14)) l11 c11 k11,
    b__law_greedy_best := (fun_mk (st := (topS 14)) l11 c11 k11).binds (ps := ["coins"]) fun _ _ _ _ _ _ us hl => match us, hl with | [_], _ => rfl,
    g__law_greedy_best := PySem.W.mg_of X G a11,
    F__law_fewest_right := fun_mk (st := (topS 15)) l12 c12 k12,
    b__law_fewest_right := (fun_mk (st := (topS 15)) l12 c12 k12).binds (ps := ["coins", "amount"]) fun _ _ _ _ _ _ us hl => match us, hl with | [_, _], _ => rfl,
    g__law_fewest_right := PySem.W.mg_of X G a12,
    F_law := fun_mk (st := (topS 16)) l13 c13 k13,
    b_law := (fun_mk (st := (topS 16)) l13 c13 k13).binds (ps := ["script"]) fun _ _ _ _ _ _ us hl => match us, hl with | [_], _ => rfl,
    g_law := PySem.W.mg_of X G a13,
    z_all := PySem.W.mg_none_of X G z_all,
    z_bool := PySem.W.mg_none_of X G z_bool,
    z_int := PySem.W.mg_none_of X G z_int,
    z_isinstance := PySem.W.mg_none_of X G z_isinstance,
    z_len := PySem.W.mg_none_of X G z_len,
    z_list := PySem.W.mg_none_of X G z_list,
    z_max := PySem.W.mg_none_of X G z_max,
    z_min := PySem.W.mg_none_of X G z_min,
    z_range := PySem.W.mg_none_of X G z_range,
    z_set := PySem.W.mg_none_of X G z_set,
    z_sorted := PySem.W.mg_none_of X G z_sorted,
    z_str := PySem.W.mg_none_of X G z_str,
    z_sum := PySem.W.mg_none_of X G z_sum,
    z_tuple := PySem.W.mg_none_of X G z_tuple }
  exact ⟨_, fun s v => .of_eq rfl, fun base _ _ => ok_law T⟩
end Law
open PySem PySem.W PyProof.Rows
set_option maxHeartbeats 0 in
theorem PySem.Challenge.cw_planskept_k25_whole_change_holds : PySem.Challenge.rw_planskept_k25_whole_change.Holds := by
  w_on; o_law; k_head; (case hw => w_witness2)
  k_fill
  refine L2.walk_of (l := PySem.Challenge.rw_planskept_k25_whole_change) (n := 63) (k := 34) (x := "script") (CX := fun _ => L2.CX0) (sp := fun w => DS.spD _ 1 Law.den_law) rfl (by decide) rfl ⟨rfl, by decide, by decide⟩ (fun w h Y => PySem.W.kIn_of Y) ?F (fun w H a ns hl _ hS => DS.law_sp (Law.main ns hl) hS) (fun _ _ _ _ _ h => h)
  case F =>
    intro w mg fa h KX G hmg
    refine' Law.all_mk KX G hmg ?a0 ?l0 ?c0 ?k0 ?a1 ?l1 ?c1 ?k1 ?a2 ?l2 ?c2 ?k2 ?a3 ?l3 ?c3 ?k3 ?a4 ?l4 ?c4 ?k4 ?a5 ?l5 ?c5 ?k5 ?a6 ?l6 ?c6 ?k6 ?a7 ?l7 ?c7 ?k7 ?a8 ?l8 ?c8 ?k8 ?a9 ?l9 ?c9 ?k9 ?a10 ?l10 ?c10 ?k10 ?a11 ?l11 ?c11 ?k11 ?a12 ?l12 ?c12 ?k12 ?a13 ?l13 ?c13 ?k13 ?z_all ?z_bool ?z_int ?z_isinstance ?z_len ?z_list ?z_max ?z_min ?z_range ?z_set ?z_sorted ?z_str ?z_sum ?z_tuple
    (case a0 => k_is); (case l0 => k_is); (case c0 => k_is); (case k0 => k_is); (case a1 => k_is); (case l1 => k_is); (case c1 => k_is); (case k1 => k_is); (case a2 => k_is); (case l2 => k_is); (case c2 => k_is); (case k2 => k_is); (case a3 => k_is); (case l3 => k_is); (case c3 => k_is); (case k3 => k_is); (case a4 => k_is); (case l4 => k_is); (case c4 => k_is); (case k4 => k_is); (case a5 => k_is); (case l5 => k_is); (case c5 => k_is); (case k5 => k_is); (case a6 => k_is); (case l6 => k_is); (case c6 => k_is); (case k6 => k_is); (case a7 => k_is); (case l7 => k_is); (case c7 => k_is); (case k7 => k_is); (case a8 => k_is); (case l8 => k_is); (case c8 => k_is); (case k8 => k_is); (case a9 => k_is); (case l9 => k_is); (case c9 => k_is); (case k9 => k_is); (case a10 => k_is); (case l10 => k_is); (case c10 => k_is); (case k10 => k_is); (case a11 => k_is); (case l11 => k_is); (case c11 => k_is); (case k11 => k_is); (case a12 => k_is); (case l12 => k_is); (case c12 => k_is); (case k12 => k_is); (case a13 => k_is); (case l13 => k_is); (case c13 => k_is); (case k13 => k_is); (case z_all => k_is); (case z_bool => k_is); (case z_int => k_is); (case z_isinstance => k_is); (case z_len => k_is); (case z_list => k_is); (case z_max => k_is); (case z_min => k_is); (case z_range => k_is); (case z_set => k_is); (case z_sorted => k_is); (case z_str => k_is); (case z_sum => k_is); (case z_tuple => k_is)
end
