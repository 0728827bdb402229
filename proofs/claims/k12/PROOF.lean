import PyProof.Rows.All
import HandS.ForMost
import HandS.TupAny
import HandS.Walk
import HandS.Flow
import HandS.Deep
import HandS.IsInst
import HandS.Wide
import HandS.WideMore
import PyProof.FitsBits
import KE.DataCmp
import KE.KTupSum
import KE.GoesNew
import HandS.Rev
import HandS.Style
import HandS.Conv
import KE.DataMinMax
import KE.SortData
import HandS.Iter
import KE.KSortTup
import HandS.SortKw
import HandS.TupMul
import HandS.Sort
import HandS.Dict
import KE.KDictDisplayH
import HandS.Strs
import KE.SortKeyHeap
import HandS.SetFor
import HandS.NoneIn
import PySem.Challenge.RW_planskept_k12_whole_holding
section
set_option Elab.async false
set_option linter.all false
set_option maxRecDepth 100000
/-! A layer of my own over HandS: values as data trees, a def as a function on data. Part a: what stands for a tree. -/
namespace DS
open PySem PySem.Spec PyProof.Rows L2

abbrev D := PyData
def keyD : Key → D
  | .inl i => .int i
  | .inr x => .str x
mutual
/-- the value v stands for the tree d -/
inductive R (K : PySem.W.Frag) (H : Hp) : V → D → Prop
  | non : R K H .non .none
  | bl (b : Bool) : R K H (.bl b) (.bool b)
  | int (i : Int) : R K H (.int i) (.int i)
  | str (x : Str) : R K H (.str x) (.str x)
  | lst {a : Addr} {xs : List V} {ds : List D} : H a = some (.lst xs) → RA K H xs ds → R K H (.ref a) (.list ds)
  | frz {a : Addr} {xs : List V} {ds : List D} : SqL K H a xs → RA K H xs ds → R K H (.ref a) (.dict [(.none, .list ds)])
  | tup {a : Addr} {xs : List V} {ds : List D} : H a = some (.tup xs) → RA K H xs ds → R K H (.ref a) (.tuple ds)
  | rng {a : Addr} {lo hi : Int} : H a = some (.rng lo hi) → R K H (.ref a) (.dict [(.none, .tuple [.int lo, .int hi])])
  | dk {a : Addr} {kvs : List (Key × V)} {es : List (D × D)} : Rd H a (.dK kvs) → RK K H kvs es → R K H (.ref a) (.dict es)
  | dt {a : Addr} {kvs : List (List Key × V)} {es : List (D × D)} : Rd H a (.dT kvs) → RT K H kvs es → R K H (.ref a) (.dict es)
inductive RA (K : PySem.W.Frag) (H : Hp) : List V → List D → Prop
  | nil : RA K H [] []
  | cons {v : V} {d : D} {vs : List V} {ds : List D} : R K H v d → RA K H vs ds → RA K H (v :: vs) (d :: ds)
inductive RK (K : PySem.W.Frag) (H : Hp) : List (Key × V) → List (D × D) → Prop
  | nil : RK K H [] []
  | cons {k : Key} {v : V} {d : D} {vs : List (Key × V)} {ds : List (D × D)} : R K H v d → RK K H vs ds → RK K H ((k, v) :: vs) ((keyD k, d) :: ds)
inductive RT (K : PySem.W.Frag) (H : Hp) : List (List Key × V) → List (D × D) → Prop
  | nil : RT K H [] []
  | cons {k : List Key} {v : V} {d : D} {vs : List (List Key × V)} {ds : List (D × D)} : R K H v d → RT K H vs ds → RT K H ((k, v) :: vs) ((.tuple (k.map keyD), d) :: ds)
end

section
variable {K : PySem.W.Frag} {H H' : Hp}
theorem seqL_mono {a : Addr} {xs : List V} (e : Same H H') (h : SqL K H a xs) : SqL K H' a xs := e.seq h
theorem seqT_mono {a : Addr} {xs : List V} (e : Same H H') (h : SqT K H a xs) : SqT K H' a xs := by
  rcases h with (h | ⟨o, h⟩) | h
  · exact .inl (.inl (e _ _ h))
  · exact .inl (.inr ⟨o, e _ _ h⟩)
  · exact .inr h
theorem rd_mono {a : Addr} {u : HO} (e : Same H H') (h : Rd H a u) : Rd H' a u := by
  rcases h with h | ⟨o, h⟩
  · exact .inl (e _ _ h)
  · exact .inr ⟨o, e _ _ h⟩
mutual
theorem R.mono (e : Same H H') : ∀ {v : V} {d : D}, R K H v d → R K H' v d
  | _, _, .non => .non
  | _, _, .bl b => .bl b
  | _, _, .int i => .int i
  | _, _, .str x => .str x
  | _, _, .lst h a => .lst (e _ _ h) (RA.mono e a)
  | _, _, .frz h a => .frz (e.seq h) (RA.mono e a)
  | _, _, .tup h a => .tup (e _ _ h) (RA.mono e a)
  | _, _, .rng h => .rng (e _ _ h)
  | _, _, .dk h a => .dk (rd_mono e h) (RK.mono e a)
  | _, _, .dt h a => .dt (rd_mono e h) (RT.mono e a)
theorem RA.mono (e : Same H H') : ∀ {v : List V} {d : List D}, RA K H v d → RA K H' v d
  | _, _, .nil => .nil
  | _, _, .cons h t => .cons (R.mono e h) (RA.mono e t)
theorem RK.mono (e : Same H H') : ∀ {v : List (Key × V)} {d : List (D × D)}, RK K H v d → RK K H' v d
  | _, _, .nil => .nil
  | _, _, .cons h t => .cons (R.mono e h) (RK.mono e t)
theorem RT.mono (e : Same H H') : ∀ {v : List (List Key × V)} {d : List (D × D)}, RT K H v d → RT K H' v d
  | _, _, .nil => .nil
  | _, _, .cons h t => .cons (R.mono e h) (RT.mono e t)
end
theorem RA.length : ∀ {v : List V} {d : List D}, RA K H v d → v.length = d.length
  | _, _, .nil => rfl
  | _, _, .cons _ t => congrArg (· + 1) (RA.length t)
theorem RA.get : ∀ {v : List V} {d : List D} {i : Nat} {x : D}, RA K H v d → d[i]? = some x → ∃ y, v[i]? = some y ∧ R K H y x
  | _, _, _, _, .nil, h => by simp at h
  | _, _, 0, x, .cons h t, e => by simp at e; subst e; exact ⟨_, rfl, h⟩
  | _, _, i + 1, x, .cons h t, e => by
    obtain ⟨y, a, b⟩ := RA.get (i := i) (x := x) t (by simpa using e)
    exact ⟨y, by simpa using a, b⟩
theorem RA.getV : ∀ {v : List V} {d : List D} {i : Nat} {y : V}, RA K H v d → v[i]? = some y → ∃ x, d[i]? = some x ∧ R K H y x
  | _, _, _, _, .nil, h => by simp at h
  | _, _, 0, x, .cons h t, e => by simp at e; subst e; exact ⟨_, rfl, h⟩
  | _, _, i + 1, x, .cons h t, e => by
    obtain ⟨y, a, b⟩ := RA.getV (i := i) (y := x) t (by simpa using e)
    exact ⟨y, by simpa using a, b⟩
theorem RA.append : ∀ {v w : List V} {d e : List D}, RA K H v d → RA K H w e → RA K H (v ++ w) (d ++ e)
  | _, _, _, _, .nil, q => q
  | _, _, _, _, .cons h t, q => .cons h (RA.append t q)
theorem RA.set {y : V} {x : D} (r : R K H y x) : ∀ {v : List V} {d : List D} (i : Nat), RA K H v d → RA K H (v.set i y) (d.set i x)
  | _, _, _, .nil => .nil
  | _, _, 0, .cons h t => .cons r t
  | _, _, i + 1, .cons h t => .cons h (RA.set r i t)
theorem RA.drop : ∀ {v : List V} {d : List D} (n : Nat), RA K H v d → RA K H (v.drop n) (d.drop n)
  | _, _, 0, h => h
  | _, _, n + 1, .nil => .nil
  | _, _, n + 1, .cons _ t => RA.drop n t
theorem RA.take : ∀ {v : List V} {d : List D} (n : Nat), RA K H v d → RA K H (v.take n) (d.take n)
  | _, _, 0, h => .nil
  | _, _, n + 1, .nil => .nil
  | _, _, n + 1, .cons h t => .cons h (RA.take n t)
theorem RA.reverse : ∀ {v : List V} {d : List D}, RA K H v d → RA K H v.reverse d.reverse
  | _, _, .nil => .nil
  | _, _, .cons h t => by
    rw [List.reverse_cons, List.reverse_cons]
    exact (RA.reverse t).append (.cons h .nil)
theorem RA.rep {v : List V} {d : List D} (h : RA K H v d) : ∀ n : Nat, RA K H (List.replicate n v).flatten (List.replicate n d).flatten
  | 0 => .nil
  | n + 1 => by
    rw [List.replicate_succ, List.replicate_succ, List.flatten_cons, List.flatten_cons]
    exact h.append (h.rep n)
/-- the tree of an int, of a bool .. -/
theorem R.int' {v : V} {i : Int} (h : R K H v (.int i)) : v = .int i := by cases h; rfl
theorem R.bl' {v : V} {i : Bool} (h : R K H v (.bool i)) : v = .bl i := by cases h; rfl
theorem R.non' {v : V} (h : R K H v .none) : v = .non := by cases h; rfl
theorem R.str' {v : V} {i : Str} (h : R K H v (.str i)) : v = .str i := by cases h; rfl
theorem RA.ints : ∀ {ns : List Int} {v : List V}, RA K H v (ns.map PyData.int) → v = ns.map V.int
  | [], _, .nil => rfl
  | n :: r, _, .cons h t => by
    rw [h.int', RA.ints t]; rfl
theorem RA.bools : ∀ {ns : List Bool} {v : List V}, RA K H v (ns.map PyData.bool) → v = ns.map V.bl
  | [], _, .nil => rfl
  | n :: r, _, .cons h t => by
    rw [h.bl', RA.bools t]; rfl
theorem RA.ofInts : ∀ (ns : List Int), RA K H (ns.map V.int) (ns.map PyData.int)
  | [] => .nil
  | n :: r => .cons (.int n) (RA.ofInts r)
end

/-! ### no list, no dict within: nothing of it can change -/
mutual
def flat : D → Bool
  | .none => true
  | .bool _ => true
  | .int _ => true
  | .str _ => true
  | .tuple xs => flats xs
  | .list _ => false
  | .dict _ => false
def flats : List D → Bool
  | [] => true
  | x :: xs => flat x && flats xs
end

/-! ### the heap without some addresses -/
def hid (B : List Addr) (H : Hp) : Hp := fun a => if a ∈ B then none else H a
section
variable {B B' : List Addr} {H H' : Hp} {a : Addr} {o : HO}
theorem hid_in (h : a ∈ B) : hid B H a = none := by unfold hid; rw [if_pos h]
theorem hid_out (h : a ∉ B) : hid B H a = H a := by unfold hid; rw [if_neg h]
theorem hid_some (h : hid B H a = some o) : a ∉ B ∧ H a = some o := by
  unfold hid at h
  split at h
  · cases h
  · exact ⟨by assumption, h⟩
theorem hid_nil : hid [] H = H := by funext a; unfold hid; simp
theorem hid_congr (h : ∀ a, a ∈ B ↔ a ∈ B') : hid B H = hid B' H := by
  funext a; unfold hid
  by_cases h1 : a ∈ B
  · rw [if_pos h1, if_pos ((h a).mp h1)]
  · rw [if_neg h1, if_neg fun z => h1 ((h a).mpr z)]
theorem hid_hid : hid B (hid B' H) = hid (B ++ B') H := by
  funext a; unfold hid
  by_cases h1 : a ∈ B <;> by_cases h2 : a ∈ B' <;> simp [h1, h2]
/-- all that is not hidden behind B is not hidden behind B' -/
theorem same_hidW (e : Same H H') (h : ∀ a ∈ B', a ∈ B ∨ H a = none) : Same (hid B H) (hid B' H') := fun b o q => by
  obtain ⟨q1, q2⟩ := hid_some q
  rw [hid_out (fun z => (h b z).elim q1 fun n => by rw [n] at q2; cases q2)]
  exact e _ _ q2
theorem same_hid (e : Same H H') : Same (hid B H) (hid B H') := same_hidW e fun _ h => .inl h
theorem same_unhid : Same (hid B H) H := fun b o q => (hid_some q).2
theorem same_upd (h : H a = none) : Same H (upd H a o) := fun b x e => by
  rw [upd_ne (ne_of_none e h)]; exact e
def Trk (B : List Addr) (H : Hp) : Prop := ∀ a ∈ B, H a ≠ none
theorem Trk.mono (t : Trk B H) (e : Same H H') : Trk B H' := fun a h => by
  have := t a h
  cases q : H a with
  | none => exact absurd q this
  | some o => rw [e _ _ q]; simp
theorem Trk.new (t : Trk B H) (n : H a = none) : a ∉ B := fun h => t a h n
theorem Trk.nil : Trk [] H := fun _ h => by simp at h
end
theorem flat_all : ∀ {xs : List D}, flats xs = true → ∀ x ∈ xs, flat x = true
  | [], _, _, h => by simp at h
  | y :: ys, h, x, hx => by
    unfold flats at h
    rw [Bool.and_eq_true] at h
    rcases List.mem_cons.mp hx with e | hx
    · rw [e]; exact h.1
    · exact flat_all h.2 x hx
def mutO : HO → Bool
  | .lst _ => true
  | .dK _ => true
  | .dT _ => true
  | _ => false
/-- hidden addresses hold lists and dicts -/
def Ok (B : List Addr) (H : Hp) : Prop := ∀ a ∈ B, ∃ o, H a = some o ∧ mutO o = true
theorem Ok.nil {H : Hp} : Ok [] H := fun _ h => by simp at h
theorem Ok.mono {B : List Addr} {H H' : Hp} (k : Ok B H) (e : Same H H') : Ok B H' := fun a h => by
  obtain ⟨o, h1, h2⟩ := k a h
  exact ⟨o, e _ _ h1, h2⟩
theorem Ok.sub {B B' : List Addr} {H : Hp} (k : Ok B H) (h : ∀ a ∈ B', a ∈ B) : Ok B' H := fun a q => k a (h a q)
theorem Ok.cons {B : List Addr} {H : Hp} {a : Addr} {o : HO} (k : Ok B H) (h : H a = some o) (m : mutO o = true) : Ok (a :: B) H := fun b q => by
  rcases List.mem_cons.mp q with e | q
  · rw [e]; exact ⟨o, h, m⟩
  · exact k b q
theorem Ok.append {B B' : List Addr} {H : Hp} (k : Ok B H) (k' : Ok B' H) : Ok (B ++ B') H := fun b q => (List.mem_append.mp q).elim (k b) (k' b)
theorem Ok.trk {B : List Addr} {H : Hp} (k : Ok B H) : Trk B H := fun a h z => by
  obtain ⟨o, h1, _⟩ := k a h
  rw [z] at h1; cases h1
def NoTup (B : List Addr) (H : Hp) : Prop := ∀ a ∈ B, ∀ xs, ¬ Rd H a (.tup xs)
theorem Ok.noTup {B : List Addr} {H : Hp} (k : Ok B H) : NoTup B H := fun a h xs r => by
  obtain ⟨o, h1, h2⟩ := k a h
  rcases r with r | ⟨u, r⟩
  · rw [r] at h1; cases h1; cases h2
  · rw [r] at h1; cases h1; cases h2
theorem seqT_hid {K : PySem.W.Frag} {B : List Addr} {H : Hp} {a : Addr} {xs : List V} (n : NoTup B H) (h : SqT K H a xs) : SqT K (hid B H) a xs := by
  rcases h with h | h
  · have hn : a ∉ B := fun z => n a z xs h
    rcases h with h | ⟨o, h⟩
    · exact .inl (.inl (by rw [hid_out hn]; exact h))
    · exact .inl (.inr ⟨o, by rw [hid_out hn]; exact h⟩)
  · exact .inr h
mutual
theorem R.hidF {K : PySem.W.Frag} {B : List Addr} {H : Hp} (n : NoTup B H) : ∀ {v : V} {d : D}, R K H v d → flat d = true → R K (hid B H) v d
  | _, _, .non, _ => .non
  | _, _, .bl b, _ => .bl b
  | _, _, .int i, _ => .int i
  | _, _, .str x, _ => .str x
  | _, _, .lst h a, f => by simp [flat] at f
  | _, _, .frz h a, f => by simp [flat] at f
  | _, _, .rng h, f => by simp [flat] at f
  | _, _, .tup h a, f => .tup (by rw [hid_out fun z => n _ z _ (.inl h)]; exact h) (RA.hidF n a (by simpa [flat] using f))
  | _, _, .dk h a, f => by simp [flat] at f
  | _, _, .dt h a, f => by simp [flat] at f
theorem RA.hidF {K : PySem.W.Frag} {B : List Addr} {H : Hp} (n : NoTup B H) : ∀ {v : List V} {d : List D}, RA K H v d → flats d = true → RA K (hid B H) v d
  | _, _, .nil, _ => .nil
  | _, _, .cons h t, f => by
    unfold flats at f
    rw [Bool.and_eq_true] at f
    exact .cons (R.hidF n h f.1) (RA.hidF n t f.2)
end
end DS
end

section
set_option Elab.async false
set_option linter.all false
set_option maxRecDepth 100000
/-! Part b: what may be hidden (a list that a name owns), what an expression's reading is. -/
namespace DS
open PySem PySem.Spec PyProof.Rows L2

def isTop : D → Bool
  | .list _ => true
  | .dict ((.none, _) :: _) => false
  | .dict _ => true
  | _ => false

section
variable (K : PySem.W.Frag) (B : List Addr) (H : Hp)
/-- the tree d, of which the first m levels may be hidden -/
inductive RL : Nat → V → D → Prop
  | z {m : Nat} {v : V} {d : D} : R K (hid B H) v d → RL m v d
  | l {m : Nat} {a : Addr} {xs : List V} {ds : List D} : H a = some (.lst xs) → xs.length = ds.length → (∀ (i : Nat) (x : V) (d : D), xs[i]? = some x → ds[i]? = some d → RL m x d) → RL (m + 1) (.ref a) (.list ds)
  | dk {m : Nat} {a : Addr} {kvs : List (Key × V)} {es : List (D × D)} : H a = some (.dK kvs) → RK K (hid B H) kvs es → RL (m + 1) (.ref a) (.dict es)
  | dt {m : Nat} {a : Addr} {kvs : List (List Key × V)} {es : List (D × D)} : H a = some (.dT kvs) → RT K (hid B H) kvs es → RL (m + 1) (.ref a) (.dict es)
mutual
/-- the tree d, its first l levels at the addresses o alone -/
inductive RO : Nat → List Addr → V → D → Prop
  | z {l : Nat} {v : V} {d : D} : (l = 0 ∨ isTop d = false) → R K (hid B H) v d → RO l [] v d
  | l {l : Nat} {a : Addr} {os : List (List Addr)} {xs : List V} {ds : List D} : H a = some (.lst xs) → ROA l os xs ds → RO (l + 1) (a :: os.flatten) (.ref a) (.list ds)
  | dk {l : Nat} {a : Addr} {kvs : List (Key × V)} {es : List (D × D)} : isTop (.dict es) = true → H a = some (.dK kvs) → RK K (hid B H) kvs es → RO (l + 1) [a] (.ref a) (.dict es)
  | dt {l : Nat} {a : Addr} {kvs : List (List Key × V)} {es : List (D × D)} : isTop (.dict es) = true → H a = some (.dT kvs) → RT K (hid B H) kvs es → RO (l + 1) [a] (.ref a) (.dict es)
inductive ROA : Nat → List (List Addr) → List V → List D → Prop
  | nil {l : Nat} : ROA l [] [] []
  | cons {l : Nat} {o : List Addr} {os : List (List Addr)} {v : V} {d : D} {vs : List V} {ds : List D} : RO l o v d → ROA l os vs ds → ROA l (o :: os) (v :: vs) (d :: ds)
end
end
section
variable {K : PySem.W.Frag} {B B' : List Addr} {H H' : Hp}
theorem RL.r {v : V} {d : D} (h : RL K B H 0 v d) : R K (hid B H) v d := by
  cases h; assumption
theorem RL.up {m n : Nat} {v : V} {d : D} (h : RL K B H m v d) : m ≤ n → RL K B H n v d := by
  induction h generalizing n with
  | z r => intro _; exact .z r
  | l h1 h2 _ ih =>
    intro hn
    obtain ⟨k, rfl⟩ : ∃ k, n = k + 1 := ⟨n - 1, by omega⟩
    exact .l h1 h2 fun i x d e1 e2 => ih i x d e1 e2 (by omega)
  | dk h1 h2 =>
    intro hn
    obtain ⟨k, rfl⟩ : ∃ k, n = k + 1 := ⟨n - 1, by omega⟩
    exact .dk h1 h2
  | dt h1 h2 =>
    intro hn
    obtain ⟨k, rfl⟩ : ∃ k, n = k + 1 := ⟨n - 1, by omega⟩
    exact .dt h1 h2
theorem RL.mono (e : Same H H') (eh : Same (hid B H) (hid B' H')) {m : Nat} {v : V} {d : D} (h : RL K B H m v d) : RL K B' H' m v d := by
  induction h with
  | z r => exact .z (r.mono eh)
  | l h1 h2 _ ih => exact .l (e _ _ h1) h2 ih
  | dk h1 h2 => exact .dk (e _ _ h1) (h2.mono eh)
  | dt h1 h2 => exact .dt (e _ _ h1) (h2.mono eh)
theorem RA.of_get : ∀ {xs : List V} {ds : List D}, xs.length = ds.length → (∀ (i : Nat) (x : V) (d : D), xs[i]? = some x → ds[i]? = some d → R K H x d) → RA K H xs ds
  | [], [], _, _ => .nil
  | [], _ :: _, h, _ => by simp at h
  | _ :: _, [], h, _ => by simp at h
  | x :: xs, d :: ds, h, g => .cons (g 0 x d rfl rfl) (RA.of_get (by simpa using h) fun i y e h1 h2 => g (i + 1) y e (by simpa using h1) (by simpa using h2))
theorem RL.open {m : Nat} {v : V} {d : D} (h : RL K B H m v d) : R K H v d := by
  induction h with
  | z r => exact r.mono same_unhid
  | l h1 h2 _ ih => exact .lst h1 (RA.of_get h2 ih)
  | dk h1 h2 => exact .dk (.inl h1) (h2.mono same_unhid)
  | dt h1 h2 => exact .dt (.inl h1) (h2.mono same_unhid)
/-- a list with its items -/
theorem RL.list {m : Nat} {v : V} {ds : List D} (h : RL K B H (m + 1) v (.list ds)) : ∃ a xs, v = .ref a ∧ H a = some (.lst xs) ∧ xs.length = ds.length ∧ ∀ (i : Nat) (x : V) (d : D), xs[i]? = some x → ds[i]? = some d → RL K B H m x d := by
  cases h with
  | z r =>
    cases r with
    | lst h1 h2 =>
      refine ⟨_, _, rfl, (hid_some h1).2, h2.length, fun i x d e1 e2 => .z ?_⟩
      obtain ⟨y, e3, r⟩ := h2.get e2
      rw [e1] at e3; cases e3; exact r
  | l h1 h2 h3 => exact ⟨_, _, rfl, h1, h2, h3⟩
theorem RL.list1 {v : V} {ds : List D} (h : RL K B H 1 v (.list ds)) : ∃ a xs, v = .ref a ∧ H a = some (.lst xs) ∧ RA K (hid B H) xs ds := by
  obtain ⟨a, xs, e, h1, h2, h3⟩ := h.list
  exact ⟨a, xs, e, h1, RA.of_get h2 fun i x d e1 e2 => (h3 i x d e1 e2).r⟩
theorem RL.tup {m : Nat} {v : V} {ds : List D} (h : RL K B H m v (.tuple ds)) : ∃ a xs, v = .ref a ∧ SqT K H a xs ∧ hid B H a = some (.tup xs) ∧ RA K (hid B H) xs ds := by
  cases h with
  | z r =>
    cases r with
    | tup h1 h2 => exact ⟨_, _, rfl, .inl (.inl (hid_some h1).2), h1, h2⟩
theorem RL.int {m : Nat} {v : V} {i : Int} (h : RL K B H m v (.int i)) : v = .int i := by
  cases h with
  | z r => exact r.int'
theorem RL.bl {m : Nat} {v : V} {i : Bool} (h : RL K B H m v (.bool i)) : v = .bl i := by
  cases h with
  | z r => exact r.bl'
theorem RL.non {m : Nat} {v : V} (h : RL K B H m v .none) : v = .non := by
  cases h with
  | z r => exact r.non'
theorem RL.str {m : Nat} {v : V} {i : Str} (h : RL K B H m v (.str i)) : v = .str i := by
  cases h with
  | z r => exact r.str'
/-- an owned tree, where its own addresses are shown -/
theorem RO.toR_aux {l : Nat} {o : List Addr} {v : V} {d : D} (h : RO K B H l o v d) : (∀ a ∈ B', a ∈ B ∧ a ∉ o) → R K (hid B' H) v d := by
  refine RO.rec (K := K) (B := B) (H := H) (motive_1 := fun l o v d _ => (∀ a ∈ B', a ∈ B ∧ a ∉ o) → R K (hid B' H) v d)
    (motive_2 := fun l os vs ds _ => (∀ a ∈ B', a ∈ B ∧ a ∉ os.flatten) → RA K (hid B' H) vs ds) ?_ ?_ ?_ ?_ ?_ ?_ h
  · intro l v d _ r hb
    exact r.mono (same_hidW (Same.refl H) fun a h => .inl (hb a h).1)
  · intro l a os xs ds h1 _ ih hb
    refine .lst (a := a) (xs := xs) ?_ (ih fun b q => ⟨(hb b q).1, fun z => (hb b q).2 (List.mem_cons_of_mem _ z)⟩)
    rw [hid_out fun z => (hb _ z).2 List.mem_cons_self]; exact h1
  · intro l a kvs es _ h1 h2 hb
    refine .dk (a := a) (kvs := kvs) ?_ (h2.mono (same_hidW (Same.refl H) fun a h => .inl (hb a h).1))
    rw [Rd, hid_out fun z => (hb _ z).2 List.mem_cons_self]; exact .inl h1
  · intro l a kvs es _ h1 h2 hb
    refine .dt (a := a) (kvs := kvs) ?_ (h2.mono (same_hidW (Same.refl H) fun a h => .inl (hb a h).1))
    rw [Rd, hid_out fun z => (hb _ z).2 List.mem_cons_self]; exact .inl h1
  · intro l _
    exact .nil
  · intro l o os v d vs ds _ _ ih1 ih2 hb
    exact .cons (ih1 fun a q => ⟨(hb a q).1, fun z => (hb a q).2 (by rw [List.flatten_cons]; exact List.mem_append_left _ z)⟩) (ih2 fun a q => ⟨(hb a q).1, fun z => (hb a q).2 (by rw [List.flatten_cons]; exact List.mem_append_right _ z)⟩)
theorem RO.toRL_aux {l : Nat} {o : List Addr} {v : V} {d : D} (h : RO K B H l o v d) : RL K B H l v d := by
  refine RO.rec (K := K) (B := B) (H := H) (motive_1 := fun l o v d _ => RL K B H l v d)
    (motive_2 := fun l os vs ds _ => vs.length = ds.length ∧ ∀ (i : Nat) (x : V) (d : D), vs[i]? = some x → ds[i]? = some d → RL K B H l x d) ?_ ?_ ?_ ?_ ?_ ?_ h
  · intro l v d _ r
    exact .z r
  · intro l a os xs ds h1 _ ih
    exact .l h1 ih.1 ih.2
  · intro l a kvs es _ h1 h2
    exact .dk h1 h2
  · intro l a kvs es _ h1 h2
    exact .dt h1 h2
  · intro l
    exact ⟨rfl, fun i x d e1 _ => by simp at e1⟩
  · intro l o os v d vs ds _ _ ih1 ih2
    refine ⟨by simp [ih2.1], fun i x d e1 e2 => ?_⟩
    cases i with
    | zero => simp at e1 e2; subst e1; subst e2; exact ih1
    | succ i => exact ih2.2 i x d (by simpa using e1) (by simpa using e2)
theorem RO.mono_aux {l : Nat} {o : List Addr} {v : V} {d : D} (h : RO K B H l o v d) (eh : Same (hid B H) (hid B' H')) : (∀ a ∈ o, H' a = H a) → RO K B' H' l o v d := by
  refine RO.rec (K := K) (B := B) (H := H) (motive_1 := fun l o v d _ => (∀ a ∈ o, H' a = H a) → RO K B' H' l o v d)
    (motive_2 := fun l os vs ds _ => (∀ a ∈ os.flatten, H' a = H a) → ROA K B' H' l os vs ds) ?_ ?_ ?_ ?_ ?_ ?_ h
  · intro l v d hl r _
    exact .z hl (r.mono eh)
  · intro l a os xs ds h1 _ ih hb
    exact .l ((hb a List.mem_cons_self).trans h1) (ih fun b q => hb b (List.mem_cons_of_mem _ q))
  · intro l a kvs es ht h1 h2 hb
    exact .dk ht ((hb a List.mem_cons_self).trans h1) (h2.mono eh)
  · intro l a kvs es ht h1 h2 hb
    exact .dt ht ((hb a List.mem_cons_self).trans h1) (h2.mono eh)
  · intro l _
    exact .nil
  · intro l o os v d vs ds _ _ ih1 ih2 hb
    exact .cons (ih1 fun a q => hb a (by rw [List.flatten_cons]; exact List.mem_append_left _ q)) (ih2 fun a q => hb a (by rw [List.flatten_cons]; exact List.mem_append_right _ q))
/-- what an owned tree's addresses hold -/
theorem RO.mut_aux {l : Nat} {o : List Addr} {v : V} {d : D} (h : RO K B H l o v d) : Ok o H := by
  refine RO.rec (K := K) (B := B) (H := H) (motive_1 := fun l o v d _ => Ok o H)
    (motive_2 := fun l os vs ds _ => Ok os.flatten H) ?_ ?_ ?_ ?_ ?_ ?_ h
  · intro l v d hl r
    exact Ok.nil
  · intro l a os xs ds h1 _ ih
    exact ih.cons h1 rfl
  · intro l a kvs es ht h1 h2
    exact Ok.nil.cons h1 rfl
  · intro l a kvs es ht h1 h2
    exact Ok.nil.cons h1 rfl
  · intro l
    exact Ok.nil
  · intro l o os v d vs ds _ _ ih1 ih2
    rw [List.flatten_cons]; exact ih1.append ih2
theorem ROA.of_RA : ∀ {vs : List V} {ds : List D}, RA K (hid B H) vs ds → ROA K B H 0 (vs.map fun _ => []) vs ds
  | _, _, .nil => .nil
  | _, _, .cons h t => .cons (.z (.inl rfl) h) (ROA.of_RA t)
theorem flat_map_nil {α β : Type} : ∀ (l : List α), (l.map fun _ => ([] : List β)).flatten = []
  | [] => rfl
  | _ :: r => by rw [List.map_cons, List.flatten_cons, flat_map_nil r]; rfl
theorem RO.l1 {a : Addr} {xs : List V} {ds : List D} (h1 : H a = some (.lst xs)) (h2 : RA K (hid B H) xs ds) : RO K B H 1 [a] (.ref a) (.list ds) := by
  have := RO.l (l := 0) h1 (ROA.of_RA h2)
  rw [flat_map_nil] at this
  exact this
end

/-! ### modes -/
inductive Mo where
  /-- the first m levels may be hidden -/
  | br (m : Nat)
  /-- new: its first level (two levels) at new addresses -/
  | fr | fr2
def Mo.one : Mo → Bool
  | .fr2 => false
  | _ => true
def Post (K : PySem.W.Frag) (B : List Addr) (H0 H' : Hp) : Mo → V → D → Prop
  | .br m, v, d => RL K B H' m v d
  | .fr, v, d => ∃ o : List Addr, (∀ a ∈ o, H0 a = none) ∧ o.Nodup ∧ RO K (o ++ B) H' 1 o v d
  | .fr2, v, d => ∃ o : List Addr, (∀ a ∈ o, H0 a = none) ∧ o.Nodup ∧ RO K (o ++ B) H' 2 o v d
section
variable {K : PySem.W.Frag} {B B' : List Addr} {H H0 H' : Hp}
/-- a value that is nobody's own -/
theorem Post.of_flat {κ : Mo} {v : V} {d : D} (h : R K (hid B H') v d) (f : isTop d = false) : Post K B H0 H' κ v d := by
  cases κ with
  | br m => exact .z h
  | fr => exact ⟨[], by simp, List.nodup_nil, .z (.inr f) h⟩
  | fr2 => exact ⟨[], by simp, List.nodup_nil, .z (.inr f) h⟩
theorem Post.weak {m : Nat} {v : V} {d : D} (t : Trk B H0) (h : Post K B H0 H' .fr v d) : Post K B H0 H' (.br m) v d := by
  obtain ⟨o, h1, h2, h3⟩ := h
  exact .z (h3.toR_aux fun a q => ⟨List.mem_append_right _ q, fun z => t a q (h1 a z)⟩)
/-- a new list -/
theorem Post.new {κ : Mo} {p : Addr} {xs : List V} {ds : List D} (t : Trk B H0) (hn : H0 p = none) (h : H' p = some (.lst xs)) (r : RA K (hid (p :: B) H') xs ds) (hκ : κ.one = true) : Post K B H0 H' κ (.ref p) (.list ds) := by
  have f : Post K B H0 H' .fr (.ref p) (.list ds) := ⟨[p], by simpa using hn, by simp, RO.l1 h r⟩
  cases κ with
  | br m => exact f.weak t
  | fr => exact f
  | fr2 => cases hκ
end
end DS
end

section
set_option Elab.async false
set_option linter.all false
set_option maxRecDepth 100000
/-! Part c: an expression's reading as a function on trees. -/
namespace DS
open PySem PySem.Spec PyProof.Rows L2

abbrev St := List (Option V)
abbrev PEnv := List (Option D)
abbrev FE := PEnv → Option D
abbrev FA := PEnv → Option (List D)
abbrev FT := PEnv → Option Bool
abbrev Esc := List (Nat × Nat)
def EscOk (es : Esc) (L : Nat → Nat) : Prop := ∀ p ∈ es, L p.1 ≤ p.2
theorem EscOk.zero {es : Esc} : EscOk es fun _ => 0 := fun _ _ => Nat.zero_le _
theorem EscOk.left {es es' : Esc} {L : Nat → Nat} (h : EscOk (es ++ es') L) : EscOk es L := fun p q => h p (List.mem_append_left _ q)
theorem EscOk.right {es es' : Esc} {L : Nat → Nat} (h : EscOk (es ++ es') L) : EscOk es' L := fun p q => h p (List.mem_append_right _ q)
theorem EscOk.nil {L : Nat → Nat} : EscOk [] L := fun _ q => by simp at q

structure Good (K : PySem.W.Frag) (B : List Addr) (L : Nat → Nat) (σ : St) (H : Hp) (ρ : PEnv) : Prop where
  ok : Ok B H
  len : σ.length = ρ.length
  slot : ∀ (i : Nat) (d : D), ρ[i]? = some (some d) → ∃ v, σ[i]? = some (some v) ∧ RL K B H (L i) v d
section
variable {K : PySem.W.Frag} {B : List Addr} {L : Nat → Nat} {σ : St} {H H' : Hp} {ρ : PEnv}
theorem Good.mono (g : Good K B L σ H ρ) (e : Same H H') : Good K B L σ H' ρ :=
  ⟨g.ok.mono e, g.len, fun i d h => let ⟨v, h1, h2⟩ := g.slot i d h; ⟨v, h1, h2.mono e (same_hid e)⟩⟩
theorem Good.zero (g : Good K B L σ H ρ) : Good K [] (fun _ => 0) σ H ρ :=
  ⟨Ok.nil, g.len, fun i d h => let ⟨v, h1, h2⟩ := g.slot i d h; ⟨v, h1, .z (by rw [hid_nil]; exact h2.open)⟩⟩
end
/-- the reading of an expression: what it gives is the tree f ρ -/
def tD (K : PySem.W.Frag) (κ : Mo) (f : FE) (es : Esc) : TE := fun σ H Q => ∃ B L ρ d, Good K B L σ H ρ ∧ EscOk es L ∧ f ρ = some d ∧ ∀ v H', Same H H' → Post K B H H' κ v d → Q v H'
def tDA (K : PySem.W.Frag) (m : Nat) (f : FA) (es : Esc) : TA := fun σ H Q => ∃ B L ρ ds, Good K B L σ H ρ ∧ EscOk es L ∧ f ρ = some ds ∧ ∀ vs H', Same H H' → vs.length = ds.length → (∀ (i : Nat) (x : V) (d : D), vs[i]? = some x → ds[i]? = some d → RL K B H' m x d) → Q vs H'
def tT (K : PySem.W.Frag) (f : FT) : TT := fun σ H Q => ∃ B L ρ b, Good K B L σ H ρ ∧ f ρ = some b ∧ ∀ H', Same H H' → Q b H'

theorem _root_.L2.PE.imp {X : Cx} {e : Expr} {t t' : TE} (h : PE X e t) (w : ∀ σ H Q, t' σ H Q → t σ H Q) : PE X e t' := ⟨fun pins s σ H Q I q => h.run pins s σ H Q I (w σ H Q q)⟩
theorem _root_.L2.PT.imp {X : Cx} {e : Expr} {t t' : TT} (h : PT X e t) (w : ∀ σ H Q, t' σ H Q → t σ H Q) : PT X e t' := ⟨fun pins s σ H Q I q => h.run pins s σ H Q I (w σ H Q q)⟩
theorem _root_.L2.PA.imp {X : Cx} {e : List Expr} {t t' : TA} (h : PA X e t) (w : ∀ σ H Q, t' σ H Q → t σ H Q) : PA X e t' := ⟨fun pos pins s σ H Q I q => h.run pos pins s σ H Q I (w σ H Q q)⟩
theorem _root_.L2.PW.imp {X : Cx} {e : Expr} {t t' : TT} (h : PW X e t) (w : ∀ σ H Q, t' σ H Q → t σ H Q) : PW X e t' := ⟨fun wh pins s σ H Q I q => h.run wh pins s σ H Q I (w σ H Q q)⟩
theorem _root_.L2.PI.imp {X : Cx} {tg it : Expr} {t t' : TI} (h : PI X tg it t) (w : ∀ σ H Q, t' σ H Q → t σ H Q) : PI X tg it t' := ⟨fun pins s σ H Q I q => h.run pins s σ H Q I (w σ H Q q)⟩
theorem _root_.L2.PS.imp {X : Cx} {e : Stmt} {t t' : TS} (h : PS X e t) (w : ∀ D σ H, t' D σ H → t D σ H) : PS X e t' := ⟨fun pins s σ H D I q => h.run pins s σ H D I (w D σ H q)⟩
theorem _root_.L2.PSs.imp {X : Cx} {e : List Stmt} {t t' : TS} (h : PSs X e t) (w : ∀ D σ H, t' D σ H → t D σ H) : PSs X e t' := ⟨fun pins s σ H D I q => h.run pins s σ H D I (w D σ H q)⟩

/-- bind of two -/
def o2 {α β γ : Type} (x : Option α) (y : Option β) (g : α → β → Option γ) : Option γ := match x with
  | none => none
  | some a => match y with
    | none => none
    | some b => g a b
def o1 {α γ : Type} (x : Option α) (g : α → Option γ) : Option γ := match x with
  | none => none
  | some a => g a
theorem o2_some {α β γ : Type} {x : Option α} {y : Option β} {g : α → β → Option γ} {c : γ} (h : o2 x y g = some c) : ∃ a b, x = some a ∧ y = some b ∧ g a b = some c := by
  unfold o2 at h
  split at h
  · cases h
  · split at h
    · cases h
    · exact ⟨_, _, rfl, rfl, h⟩
theorem o1_some {α γ : Type} {x : Option α} {g : α → Option γ} {c : γ} (h : o1 x g = some c) : ∃ a, x = some a ∧ g a = some c := by
  unfold o1 at h
  split at h
  · cases h
  · exact ⟨_, rfl, h⟩

/-! ### names and constants -/
def eVar (i : Nat) : FE := fun ρ => match ρ[i]? with
  | some (some d) => some d
  | _ => none
def eC (d : D) : FE := fun _ => some d
theorem eVar_some {i : Nat} {ρ : PEnv} {d : D} (h : eVar i ρ = some d) : ρ[i]? = some (some d) := by
  unfold eVar at h
  split at h
  · rename_i e; rw [e, Option.some.inj h]
  · cases h
section
variable {X : Cx} {K : PySem.W.Frag} {κ : Mo} {pos : Pos}
theorem qe_of {e : Expr} {i m : Nat} (h : PE X e (tVar i)) : PE X e (tD K (.br m) (eVar i) [(i, m)]) := h.imp fun σ H Q ⟨B, L, ρ, d, g, es, hf, q⟩ => by
  obtain ⟨v, h1, h2⟩ := g.slot i d (eVar_some hf)
  exact ⟨v, h1, q v H (Same.refl H) (h2.up (es (i, m) (by simp)))⟩
theorem qv (i : Nat) {m : Nat} {x : Str} {pos : Pos} (hN : X.N[i]? = some x := by rfl) (hv : Vis X.env.scope x := by first | exact Or.inl rfl | exact Or.inr (Or.inl rfl) | exact Or.inr (Or.inr rfl)) (hd : (x == ("__debug__" : Str)) = false := by decide)
    (hcd : (x == ("__classdict__" : Str)) = false := by decide) : PE X (.Name x pos) (tD K (.br m) (eVar i) [(i, m)]) := qe_of (pe_var hN hv hd hcd)
theorem qc {e : Expr} {v : V} {d : D} (h : PE X e (tC v)) (r : ∀ H, R K H v d) (f : isTop d = false) : PE X e (tD K κ (eC d) []) := h.imp fun σ H Q ⟨B, L, ρ, d', g, es, hf, q⟩ => by
  cases (show d = d' from Option.some.inj hf)
  exact q v H (Same.refl H) (Post.of_flat (r _) f)
theorem qint {i j pos} : PE X (.Constant (.int i) j pos) (tD K κ (eC (.int i)) []) := qc pe_int (fun _ => .int i) rfl
theorem qbl {i j pos} : PE X (.Constant (.bool i) j pos) (tD K κ (eC (.bool i)) []) := qc pe_bl (fun _ => .bl i) rfl
theorem qnon {j pos} : PE X (.Constant .none j pos) (tD K κ (eC .none) []) := qc pe_non (fun _ => .non) rfl
theorem qstr {i j pos} : PE X (.Constant (.str i) j pos) (tD K κ (eC (.str i)) []) := qc pe_str (fun _ => .str i) rfl
/-- read at a lesser freedom -/
theorem qup {e : Expr} {f : FE} {es : Esc} {m n : Nat} (h : PE X e (tD K (.br m) f es)) (hm : m ≤ n := by decide) : PE X e (tD K (.br n) f es) := h.imp fun σ H Q ⟨B, L, ρ, d, g, es, hf, q⟩ =>
  ⟨B, L, ρ, d, g, es, hf, fun v H' e p => q v H' e (RL.up p hm)⟩

/-! ### lists of arguments -/
def aNil : FA := fun _ => some []
def aCons (f : FE) (r : FA) : FA := fun ρ => o2 (f ρ) (r ρ) fun d ds => some (d :: ds)
theorem qa_nil {m : Nat} : PA X [] (tDA K m aNil []) := pa_nil.imp fun σ H Q ⟨B, L, ρ, ds, g, es, hf, q⟩ => by
  cases (show [] = ds from Option.some.inj hf)
  exact q [] H (Same.refl H) rfl fun i x d h => by simp at h
theorem qa_cons {m : Nat} {e : Expr} {es : List Expr} {f : FE} {fs : FA} {c c' : Esc} (h : PE X e (tD K (.br m) f c)) (t : PA X es (tDA K m fs c')) (hs : starEach (e :: es) X.env = (false, eval e X.env) :: starEach es X.env := by rfl) :
    PA X (e :: es) (tDA K m (aCons f fs) (c ++ c')) := (pa_cons h t hs).imp fun σ H Q ⟨B, L, ρ, ds, g, es, hf, q⟩ => by
  obtain ⟨d, ds', h1, h2, h3⟩ := o2_some hf
  cases (show d :: ds' = ds from Option.some.inj h3)
  refine ⟨B, L, ρ, d, g, es.left, h1, fun v H1 s1 p1 => ⟨B, L, ρ, ds', g.mono s1, es.right, h2, fun vs H2 s2 hl p2 => ?_⟩⟩
  refine q _ H2 (s1.trans s2) (by simp [hl]) fun i x y e1 e2 => ?_
  cases i with
  | zero =>
    simp at e1 e2
    subst e1 e2
    exact RL.mono s2 (same_hid s2) p1
  | succ i => exact p2 i x y (by simpa using e1) (by simpa using e2)
/-- a display: a tuple, a list -/
def sz : Nat := 16777216
theorem sz_eq : sizeLine = sz := sizeLine_eq
def eTup (fs : FA) : FE := fun ρ => o1 (fs ρ) fun ds => if ds.length ≤ sz then some (.tuple ds) else none
def eLst (fs : FA) : FE := fun ρ => o1 (fs ρ) fun ds => if ds.length ≤ sz then some (.list ds) else none
theorem ite_some {α : Type} {c : Prop} [Decidable c] {x y : α} (h : (if c then some x else none) = some y) : c ∧ x = y := by
  split at h
  · exact ⟨by assumption, Option.some.inj h⟩
  · cases h
theorem qe_tup {x1} {es : List Expr} {fs : FA} {c : Esc} (h : PA X es (tDA K 0 fs c)) : PE X (.Tuple es x1 pos) (tD K κ (eTup fs) c) := (pe_tup h).imp fun σ H Q ⟨B, L, ρ, d, g, es, hf, q⟩ => by
  obtain ⟨ds, h1, h2⟩ := o1_some hf
  obtain ⟨hc, e⟩ := ite_some h2
  subst e
  refine ⟨B, L, ρ, ds, g, es, h1, fun vs H1 s1 hl p1 => ⟨by rw [hl, sz_eq]; exact hc, fun p np => ?_⟩⟩
  have s2 : Same H1 (upd H1 p (.tup vs)) := same_upd np
  refine q _ _ (s1.trans s2) (Post.of_flat (.tup (a := p) (xs := vs) ?_ (RA.of_get hl fun i x d e1 e2 => (p1 i x d e1 e2).r.mono (same_hid s2))) rfl)
  rw [hid_out ((g.ok.mono s1).trk.new np), upd_same]
theorem qe_lst {es : List Expr} {fs : FA} {c : Esc} (h : PA X es (tDA K 0 fs c)) (hκ : κ.one = true := by rfl) : PE X (.List es pos) (tD K κ (eLst fs) c) := (pe_lst h).imp fun σ H Q ⟨B, L, ρ, d, g, es, hf, q⟩ => by
  obtain ⟨ds, h1, h2⟩ := o1_some hf
  obtain ⟨hc, e⟩ := ite_some h2
  subst e
  refine ⟨B, L, ρ, ds, g, es, h1, fun vs H1 s1 hl p1 => ⟨by rw [hl, sz_eq]; exact hc, fun p np => ?_⟩⟩
  have s2 : Same H1 (upd H1 p (.lst vs)) := same_upd np
  refine q _ _ (s1.trans s2) (Post.new g.ok.trk (s1.free np) upd_same (RA.of_get hl fun i x d e1 e2 => (p1 i x d e1 e2).r.mono (same_hidW s2 fun a h => ?_)) hκ)
  rcases List.mem_cons.mp h with e | h
  · rw [e]; exact .inr np
  · exact .inl h

/-! ### operators -/
/-- an operator on values does what op does on trees -/
def OpD (K : PySem.W.Frag) (r : R2) (op : D → D → Option D) : Prop := ∀ (B : List Addr) (x y : V) (dx dy d : D) (H : Hp) (Q : VK), Ok B H → RL K B H 1 x dx → RL K B H 1 y dy → op dx dy = some d →
  (∀ v H', Same H H' → (∀ κ : Mo, κ.one = true → Post K B H H' κ v d) → Q v H') → r x y H Q
def eOp (op : D → D → Option D) (f g : FE) : FE := fun ρ => o2 (f ρ) (g ρ) op
theorem qe_op {o : Operator} {r : R2} {op : D → D → Option D} {a b : Expr} {fa fb : FE} {ca cb : Esc} (hr : OpR X (binaryOp o) r) (hd : OpD K r op) (ha : PE X a (tD K (.br 1) fa ca)) (hb : PE X b (tD K (.br 1) fb cb)) (hκ : κ.one = true := by rfl) :
    PE X (.BinOp a o b pos) (tD K κ (eOp op fa fb) (ca ++ cb)) := (pe_op hr ha hb).imp fun σ H Q ⟨B, L, ρ, d, g, es, hf, q⟩ => by
  obtain ⟨dx, dy, h1, h2, h3⟩ := o2_some hf
  refine ⟨B, L, ρ, dx, g, es.left, h1, fun x H1 s1 p1 => ⟨B, L, ρ, dy, g.mono s1, es.right, h2, fun y H2 s2 p2 => ?_⟩⟩
  refine hd B x y dx dy d H2 Q ((g.ok.mono s1).mono s2) (RL.mono s2 (same_hid s2) p1) p2 h3 fun v H3 s3 p3 => q v H3 ((s1.trans s2).trans s3) ?_
  have p := p3 κ hκ
  cases κ with
  | br m => exact p
  | fr =>
    obtain ⟨o, h1, h2, h3⟩ := p
    exact ⟨o, fun a z => (s1.trans s2).free (h1 a z), h2, h3⟩
  | fr2 => cases hκ
/-- ints to an int -/
theorem OpD.ii {C : Int → Int → Prop} {gV : Int → Int → Int} {op : D → D → Option D} (h : ∀ dx dy d, op dx dy = some d → ∃ i j, dx = .int i ∧ dy = .int j ∧ C i j ∧ d = .int (gV i j)) : OpD K (rI C fun i j => .int (gV i j)) op := by
  intro B x y dx dy d H Q hB rx ry ho q
  obtain ⟨i, j, rfl, rfl, c, rfl⟩ := h _ _ _ ho
  exact ⟨i, j, rx.int, ry.int, c, q _ H (Same.refl H) fun κ _ => Post.of_flat (.int _) rfl⟩
def dSub : D → D → Option D
  | .int i, .int j => some (.int (i - j))
  | _, _ => none
def mulOk (i j : Int) : Bool := decide (j.natAbs < 18446744073709551616) || decide (i.natAbs < 18446744073709551616) || decide (i.natAbs.log2 + j.natAbs.log2 < 1000000)
def fdivOk (j : Int) : Bool := decide (0 < j) && decide (j.natAbs.log2 < 9000)
def dFdiv : D → D → Option D
  | .int i, .int j => if fdivOk j = true then some (.int (i / j)) else none
  | _, _ => none
def dMod : D → D → Option D
  | .int i, .int j => if 0 < j then some (.int (i % j)) else none
  | _, _ => none
def powOk (i j : Int) : Bool := decide (0 ≤ j) && decide (j ≤ 1000000) && decide (i.natAbs < 18446744073709551616)
def dPow : D → D → Option D
  | .int i, .int j => if powOk i j = true then some (.int (i ^ j.toNat)) else none
  | _, _ => none
def dShl : D → D → Option D
  | .int i, .int j => if powOk i j = true then some (.int (i * 2 ^ j.toNat)) else none
  | _, _ => none
def dShr : D → D → Option D
  | .int i, .int j => if 0 ≤ j then some (.int (i / 2 ^ j.toNat)) else none
  | _, _ => none
end
theorem mulOk_ok {i j : Int} (h : mulOk i j = true) : IntMulOk i j := by
  unfold mulOk at h
  rw [Bool.or_eq_true, Bool.or_eq_true] at h
  rcases h with (h | h) | h
  · have h := of_decide_eq_true h
    exact .of_right (intBits_le_64 (by omega) (by omega))
  · have h := of_decide_eq_true h
    exact .of_left (intBits_le_64 (by omega) (by omega))
  · exact CMulW.ok (show i.natAbs.log2 + j.natAbs.log2 < 1000000 from of_decide_eq_true h)
theorem op_mulA {X : Cx} : OpR X (binaryOp .Mult) (rI (fun i j => mulOk i j = true) fun i j => .int (i * j)) := opI fun _ _ _ _ _ _ _ hc q => mul_int q (mulOk_ok hc)
theorem op_sub' {X : Cx} : OpR X (binaryOp .Sub) (rI (fun _ _ => True) fun i j => .int (i - j)) := opI fun _ _ _ _ _ _ _ _ q => sub_int q
theorem op_add' {X : Cx} : OpR X (binaryOp .Add) (rI (fun _ _ => True) fun i j => .int (i + j)) := opI fun _ _ _ _ _ _ _ _ q => add_int q
theorem op_fdivA {X : Cx} : OpR X (binaryOp .FloorDiv) (rI (fun _ j => fdivOk j = true) fun i j => .int (i / j)) := opI fun i j _ _ _ _ _ hc q => by
  unfold fdivOk at hc
  rw [Bool.and_eq_true] at hc
  have h1 := of_decide_eq_true hc.1
  exact floordiv_int (by omega) (by rw [Int.fdiv_eq_ediv_of_nonneg i (by omega)]; exact q) (.inl (PyProof.noPylong_of_log2 (of_decide_eq_true hc.2)))
section
variable {X : Cx} {K : PySem.W.Frag} {κ : Mo} {pos : Pos} {a b : Expr} {fa fb : FE} {ca cb : Esc}
theorem qe_sub (ha : PE X a (tD K (.br 1) fa ca)) (hb : PE X b (tD K (.br 1) fb cb)) (hκ : κ.one = true := by rfl) : PE X (.BinOp a .Sub b pos) (tD K κ (eOp dSub fa fb) (ca ++ cb)) :=
  qe_op op_sub' (OpD.ii fun dx dy d h => by
    unfold dSub at h
    split at h
    · exact ⟨_, _, rfl, rfl, trivial, (Option.some.inj h).symm⟩
    · cases h) ha hb hκ
theorem qe_fdiv (ha : PE X a (tD K (.br 1) fa ca)) (hb : PE X b (tD K (.br 1) fb cb)) (hκ : κ.one = true := by rfl) : PE X (.BinOp a .FloorDiv b pos) (tD K κ (eOp dFdiv fa fb) (ca ++ cb)) :=
  qe_op op_fdivA (OpD.ii fun dx dy d h => by
    unfold dFdiv at h
    split at h
    · obtain ⟨c, e⟩ := ite_some h
      exact ⟨_, _, rfl, rfl, c, e.symm⟩
    · cases h) ha hb hκ
theorem qe_mod (ha : PE X a (tD K (.br 1) fa ca)) (hb : PE X b (tD K (.br 1) fb cb)) (hκ : κ.one = true := by rfl) : PE X (.BinOp a .Mod b pos) (tD K κ (eOp dMod fa fb) (ca ++ cb)) :=
  qe_op op_mod (OpD.ii fun dx dy d h => by
    unfold dMod at h
    split at h
    · obtain ⟨c, e⟩ := ite_some h
      exact ⟨_, _, rfl, rfl, c, e.symm⟩
    · cases h) ha hb hκ
theorem powOk_ok {i j : Int} (h : powOk i j = true) : CPow i j := by
  unfold powOk at h
  rw [Bool.and_eq_true, Bool.and_eq_true] at h
  exact ⟨of_decide_eq_true h.1.1, of_decide_eq_true h.1.2, of_decide_eq_true h.2⟩
theorem qe_pow (ha : PE X a (tD K (.br 1) fa ca)) (hb : PE X b (tD K (.br 1) fb cb)) (hκ : κ.one = true := by rfl) : PE X (.BinOp a .Pow b pos) (tD K κ (eOp dPow fa fb) (ca ++ cb)) :=
  qe_op op_pow (OpD.ii fun dx dy d h => by
    unfold dPow at h
    split at h
    · obtain ⟨c, e⟩ := ite_some h
      exact ⟨_, _, rfl, rfl, powOk_ok c, e.symm⟩
    · cases h) ha hb hκ
theorem qe_shl (ha : PE X a (tD K (.br 1) fa ca)) (hb : PE X b (tD K (.br 1) fb cb)) (hκ : κ.one = true := by rfl) : PE X (.BinOp a .LShift b pos) (tD K κ (eOp dShl fa fb) (ca ++ cb)) :=
  qe_op op_shl (OpD.ii fun dx dy d h => by
    unfold dShl at h
    split at h
    · obtain ⟨c, e⟩ := ite_some h
      exact ⟨_, _, rfl, rfl, powOk_ok c, e.symm⟩
    · cases h) ha hb hκ
theorem qe_shr (ha : PE X a (tD K (.br 1) fa ca)) (hb : PE X b (tD K (.br 1) fb cb)) (hκ : κ.one = true := by rfl) : PE X (.BinOp a .RShift b pos) (tD K κ (eOp dShr fa fb) (ca ++ cb)) :=
  qe_op op_shr (OpD.ii fun dx dy d h => by
    unfold dShr at h
    split at h
    · obtain ⟨c, e⟩ := ite_some h
      exact ⟨_, _, rfl, rfl, c, e.symm⟩
    · cases h) ha hb hκ
/-! + : ints, tuples, lists -/
def dAdd : D → D → Option D
  | .int i, .int j => some (.int (i + j))
  | .tuple x, .tuple y => if x.length + y.length ≤ sz then some (.tuple (x ++ y)) else none
  | .list x, .list y => if x.length + y.length ≤ sz then some (.list (x ++ y)) else none
  | _, _ => none
theorem RL.list1' {B : List Addr} {H : Hp} {v : V} {ds : List D} (h : RL K B H 1 v (.list ds)) : ∃ a xs, v = .ref a ∧ H a = some (.lst xs) ∧ RA K (hid B H) xs ds := h.list1
theorem qe_add (ha : PE X a (tD K (.br 1) fa ca)) (hb : PE X b (tD K (.br 1) fb cb)) (hX : X.K = K := by rfl) (hκ : κ.one = true := by rfl) : PE X (.BinOp a .Add b pos) (tD K κ (eOp dAdd fa fb) (ca ++ cb)) := by
  subst hX
  refine qe_op (op_add'.or (op_catA.or op_cat)) ?_ ha hb hκ
  intro B x y dx dy d H Q hB rx ry ho q
  unfold dAdd at ho
  split at ho
  · exact .inl ⟨_, _, rx.int, ry.int, trivial, q _ H (Same.refl H) fun κ _ => by
      cases (Option.some.inj ho)
      exact Post.of_flat (.int _) rfl⟩
  · obtain ⟨c, rfl⟩ := ite_some ho
    obtain ⟨p, xs, rfl, h1, h1', h2⟩ := rx.tup
    obtain ⟨p', ys, rfl, h3, h3', h4⟩ := ry.tup
    refine .inr (.inl ⟨p, p', xs, ys, rfl, rfl, h1, h3, by rw [h2.length, h4.length, sz_eq]; exact c, fun e => ?_, fun _ e => ?_, fun _ _ t nt => ?_⟩)
    · subst e
      cases h2
      exact q _ H (Same.refl H) fun κ _ => Post.of_flat (.tup h3' h4) rfl
    · subst e
      cases h4
      rw [List.append_nil] at q
      exact q _ H (Same.refl H) fun κ _ => Post.of_flat (.tup h1' h2) rfl
    · have s := same_upd (o := HO.tup (xs ++ ys)) nt
      refine q _ _ s fun κ _ => Post.of_flat (.tup (a := t) (xs := xs ++ ys) ?_ ((h2.append h4).mono (same_hid s))) rfl
      rw [hid_out (hB.trk.new nt), upd_same]
  · obtain ⟨c, rfl⟩ := ite_some ho
    obtain ⟨p, xs, rfl, h1, h2⟩ := rx.list1
    obtain ⟨p', ys, rfl, h3, h4⟩ := ry.list1
    refine .inr (.inr ⟨p, p', xs, ys, rfl, rfl, h1, h3, by rw [h2.length, h4.length, sz_eq]; exact c, fun t nt => ?_⟩)
    have s := same_upd (o := HO.lst (xs ++ ys)) nt
    refine q _ _ s fun κ hκ => Post.new hB.trk nt upd_same ((h2.append h4).mono (same_hidW s fun b hb => ?_)) hκ
    rcases List.mem_cons.mp hb with e | hb
    · rw [e]; exact .inr nt
    · exact .inl hb
  · cases ho
/-! * : ints, a list times an int -/
def dMul : D → D → Option D
  | .int i, .int j => if mulOk i j = true then some (.int (i * j)) else none
  | .list x, .int j => if x.length * j.toNat ≤ sz ∧ -9223372036854775808 ≤ j ∧ j < 9223372036854775808 then some (.list (List.replicate j.toNat x).flatten) else none
  | _, _ => none
theorem qe_mul (ha : PE X a (tD K (.br 1) fa ca)) (hb : PE X b (tD K (.br 1) fb cb)) (hκ : κ.one = true := by rfl) : PE X (.BinOp a .Mult b pos) (tD K κ (eOp dMul fa fb) (ca ++ cb)) := by
  refine qe_op (op_mulA.or op_rep) ?_ ha hb hκ
  intro B x y dx dy d H Q hB rx ry ho q
  unfold dMul at ho
  split at ho
  · obtain ⟨c, rfl⟩ := ite_some ho
    exact .inl ⟨_, _, rx.int, ry.int, c, q _ H (Same.refl H) fun κ _ => Post.of_flat (.int _) rfl⟩
  · rename_i x' j'
    obtain ⟨⟨c, c1, c2⟩, rfl⟩ := ite_some ho
    obtain ⟨p, xs, rfl, h1, h2⟩ := rx.list1
    refine .inr ⟨p, _, xs, rfl, ry.int, h1, by omega, by omega, by rw [h2.length, sz_eq]; exact c, fun t nt => ?_⟩
    have s := same_upd (o := HO.lst (List.replicate j'.toNat xs).flatten) nt
    refine q _ _ s fun κ hκ => Post.new hB.trk nt upd_same ((h2.rep _).mono (same_hidW s fun b hb => ?_)) hκ
    rcases List.mem_cons.mp hb with e | hb
    · rw [e]; exact .inr nt
    · exact .inl hb
  · cases ho
/-! one operand -/
def dNeg : D → Option D
  | .int i => some (.int (-i))
  | _ => none
def eUn (op : D → Option D) (f : FE) : FE := fun ρ => o1 (f ρ) op
theorem qe_neg (ha : PE X a (tD K (.br 1) fa ca)) : PE X (.UnaryOp .USub a pos) (tD K κ (eUn dNeg fa) []) := (pe_un un_neg ha).imp fun σ H Q ⟨B, L, ρ, d, g, es, hf, q⟩ => by
  obtain ⟨dx, h1, h2⟩ := o1_some hf
  unfold dNeg at h2
  split at h2
  · cases (Option.some.inj h2)
    exact ⟨[], _, ρ, _, g.zero, .zero, h1, fun x H1 s1 p1 => ⟨_, RL.int p1, q _ H1 s1 (Post.of_flat (.int _) rfl)⟩⟩
  · cases h2
end
end DS
end

section
set_option Elab.async false
set_option linter.all false
set_option maxRecDepth 100000
/-! Part d: comparisons, tests, subscripts, calls. -/
namespace DS
open PySem PySem.Spec PyProof.Rows L2

/-! ### comparisons -/
def OpC (K : PySem.W.Frag) (r : R2) (op : D → D → Option Bool) : Prop := ∀ (x y : V) (dx dy : D) (b : Bool) (H : Hp) (Q : VK), R K H x dx → R K H y dy → op dx dy = some b → Q (.bl b) H → r x y H Q
def tCmp (op : D → D → Option Bool) (f g : FE) : FT := fun ρ => o2 (f ρ) (g ρ) op
def eB (f : FT) : FE := fun ρ => o1 (f ρ) fun b => some (.bool b)
section
variable {X : Cx} {K : PySem.W.Frag} {κ : Mo} {pos : Pos} {a b : Expr} {fa fb : FE} {ca cb : Esc}
theorem RL.r0 {H : Hp} {m : Nat} {v : V} {d : D} (h : RL K [] H m v d) : R K H v d := h.open
theorem qe_cmp {op : CmpOp} {r : R2} {o : D → D → Option Bool} (hr : OpR X (compareOp op) r) (hd : OpC K r o) (ha : PE X a (tD K (.br 1) fa ca)) (hb : PE X b (tD K (.br 1) fb cb)) (hm : behindInMarks op b = false) :
    PE X (.Compare a [op] [b] pos) (tD K κ (eB (tCmp o fa fb)) []) := (pe_cmpR hr ha hb hm).imp fun σ H Q ⟨B, L, ρ, d, g, es, hf, q⟩ => by
  obtain ⟨k, h1, h2⟩ := o1_some hf
  cases (Option.some.inj h2)
  obtain ⟨dx, dy, h3, h4, h5⟩ := o2_some h1
  exact ⟨[], _, ρ, dx, g.zero, .zero, h3, fun x H1 s1 p1 => ⟨[], _, ρ, dy, (g.mono s1).zero, .zero, h4, fun y H2 s2 p2 =>
    hd x y dx dy k H2 Q ((RL.r0 p1).mono s2) (RL.r0 p2) h5 (q _ H2 (s1.trans s2) (Post.of_flat (.bl k) rfl))⟩⟩
theorem qt_cmp {op : CmpOp} {r : R2} {o : D → D → Option Bool} (hr : OpR X (compareOp op) r) (hd : OpC K r o) (ha : PE X a (tD K (.br 1) fa ca)) (hb : PE X b (tD K (.br 1) fb cb)) (hm : behindInMarks op b = false) :
    PT X (.Compare a [op] [b] pos) (tT K (tCmp o fa fb)) := (pt_cmpR hr ha hb hm).imp fun σ H Q ⟨B, L, ρ, k, g, hf, q⟩ => by
  obtain ⟨dx, dy, h3, h4, h5⟩ := o2_some hf
  exact ⟨[], _, ρ, dx, g.zero, .zero, h3, fun x H1 s1 p1 => ⟨[], _, ρ, dy, (g.mono s1).zero, .zero, h4, fun y H2 s2 p2 =>
    hd x y dx dy k H2 _ ((RL.r0 p1).mono s2) (RL.r0 p2) h5 ⟨k, rfl, q H2 (s1.trans s2)⟩⟩⟩
/-- a < b < c -/
def tChn (op op' : D → D → Option Bool) (f g h : FE) : FT := fun ρ => match o2 (f ρ) (g ρ) op with
  | none => none
  | some false => some false
  | some true => o2 (g ρ) (h ρ) op'
theorem qt_chain {op op' : CmpOp} {r r' : R2} {o o' : D → D → Option Bool} {c : Expr} {fc : FE} {cc : Esc} (hr : OpR X (compareOp op) r) (hd : OpC K r o) (hr' : OpR X (compareOp op') r') (hd' : OpC K r' o')
    (ha : PE X a (tD K (.br 1) fa ca)) (hb : PE X b (tD K (.br 1) fb cb)) (hc : PE X c (tD K (.br 1) fc cc)) (pt : PT X (.Compare a [op, op'] [b, c] pos) (tTest (tChain r r' (tD K (.br 1) fa ca) (tD K (.br 1) fb cb) (tD K (.br 1) fc cc)))) :
    PT X (.Compare a [op, op'] [b, c] pos) (tT K (tChn o o' fa fb fc)) := pt.imp fun σ H Q ⟨B, L, ρ, k, g, hf, q⟩ => by
  unfold tChn at hf
  split at hf
  · cases hf
  · rename_i h1
    obtain ⟨dx, dy, h3, h4, h5⟩ := o2_some h1
    refine ⟨[], _, ρ, dx, g.zero, .zero, h3, fun x H1 s1 p1 => ⟨[], _, ρ, dy, (g.mono s1).zero, .zero, h4, fun y H2 s2 p2 =>
      hd x y dx dy false H2 _ ((RL.r0 p1).mono s2) (RL.r0 p2) h5 ⟨false, rfl, ?_⟩⟩⟩
    rw [if_neg (by decide)]
    cases (Option.some.inj hf)
    exact ⟨_, rfl, q H2 (s1.trans s2)⟩
  · rename_i h1
    obtain ⟨dx, dy, h3, h4, h5⟩ := o2_some h1
    obtain ⟨dy', dz, h6, h7, h8⟩ := o2_some hf
    rw [h4] at h6
    cases (Option.some.inj h6)
    refine ⟨[], _, ρ, dx, g.zero, .zero, h3, fun x H1 s1 p1 => ⟨[], _, ρ, dy, (g.mono s1).zero, .zero, h4, fun y H2 s2 p2 =>
      hd x y dx dy true H2 _ ((RL.r0 p1).mono s2) (RL.r0 p2) h5 ⟨true, rfl, ?_⟩⟩⟩
    rw [if_pos rfl]
    exact ⟨[], _, ρ, dz, ((g.mono s1).mono s2).zero, .zero, h7, fun z H3 s3 p3 => hd' y z dy dz k H3 _ ((RL.r0 p2).mono s3) (RL.r0 p3) h8 ⟨k, rfl, q H3 ((s1.trans s2).trans s3)⟩⟩
/-! == of any trees without dicts -/
mutual
theorem R.toDp {H : Hp} : ∀ {v : V} {d : D}, R K H v d → d.canLay0 = true → Dp K H v d
  | _, _, .non, _ => .non
  | _, _, .bl b, _ => .bl b
  | _, _, .int i, _ => .int i
  | _, _, .str x, _ => .str x
  | _, _, .lst h a, f => .lst (SqL.of h) (RA.toDp a (by simpa [PyData.canLay0] using f))
  | _, _, .frz h a, f => by simp [PyData.canLay0] at f
  | _, _, .rng h, f => by simp [PyData.canLay0] at f
  | _, _, .tup h a, f => .tup (.inl (.inl h)) (RA.toDp a (by simpa [PyData.canLay0] using f))
  | _, _, .dk h a, f => by simp [PyData.canLay0] at f
  | _, _, .dt h a, f => by simp [PyData.canLay0] at f
theorem RA.toDp {H : Hp} : ∀ {v : List V} {d : List D}, RA K H v d → PyData.canLayAll0 d = true → DpAll K H v d
  | _, _, .nil, _ => .nil
  | _, _, .cons h t, f => by
    have f' := f
    simp only [PyData.canLayAll0, Bool.and_eq_true] at f'
    exact .cons (R.toDp h f'.1) (RA.toDp t f'.2)
end
/-! the comparisons of ints, and of trees that are alike -/
def noneD : D → Bool
  | .none => true
  | _ => false
/-- both can be laid down, are alike, the first one isn't None, and not deep -/
def cmpOk (x y : D) : Bool := x.canLay0 && y.canLay0 && PySem.W.alike x y && !noneD x && decide (x.depth ≤ 60)
def rDat (K : PySem.W.Frag) (g : D → D → Bool) : R2 := fun x y H Q => ∃ d e, Dp K H x d ∧ Dp K H y e ∧ cmpOk d e = true ∧ Q (.bl (g d e)) H
theorem cmpOk_facts {x y : D} (h : cmpOk x y = true) : x.canLay0 = true ∧ y.canLay0 = true ∧ PySem.W.alike x y = true ∧ x ≠ .none ∧ x.depth ≤ 60 := by
  unfold cmpOk at h
  simp only [Bool.and_eq_true, decide_eq_true_eq] at h
  refine ⟨h.1.1.1.1, h.1.1.1.2, h.1.1.2, ?_, h.2⟩
  intro e
  rw [e] at h
  simp [noneD] at h
theorem cmp_room {A : Around} {x y : D} (hu : A.units + 64 < cLine) (h : x.depth ≤ 60) : A.units + min x.depth y.depth < cLine := by
  have := Nat.min_le_left x.depth y.depth
  omega
def dLt : D → D → Option Bool
  | .int i, .int j => some (decide (i < j))
  | x, y => if cmpOk x y = true then some (PySem.W.dataLt x y) else none
theorem op_ltA {X : Cx} (hu : X.A.units + 64 < cLine) : OpR X (compareOp .Lt) (fun x y H Q => rI0 (fun i j => .bl (decide (i < j))) x y H Q ∨ rDat X.K (fun d e => PySem.W.dataLt d e) x y H Q) := op_lt.or (by
  intro pins s σ H x y v u Q I rx ry h
  obtain ⟨d, e, hd, he, ok, q⟩ := h
  obtain ⟨as, r1⟩ := Dp.reads I d x v hd rx
  obtain ⟨bs, r2⟩ := Dp.reads I e y u he ry
  have f := cmpOk_facts ok
  exact PySem.W.lt_data r1 r2 f.2.2.1 f.2.2.2.1 (cmp_room hu f.2.2.2.2) ⟨.bl _, H, I, rfl, q⟩)
theorem oc_lt {K : PySem.W.Frag} : OpC K (fun x y H Q => rI0 (fun i j => .bl (decide (i < j))) x y H Q ∨ rDat K (fun d e => PySem.W.dataLt d e) x y H Q) dLt := by
  intro x y dx dy b H Q rx ry h q
  unfold dLt at h
  split at h
  · cases (Option.some.inj h); exact .inl ⟨_, _, rx.int', ry.int', q⟩
  · obtain ⟨hc, e⟩ := ite_some h
    subst e
    have f := cmpOk_facts hc
    exact .inr ⟨dx, dy, rx.toDp f.1, ry.toDp f.2.1, hc, q⟩
def dLe : D → D → Option Bool
  | .int i, .int j => some (decide (i ≤ j))
  | x, y => if cmpOk x y = true then some (!PySem.W.dataLt y x) else none
theorem op_leA {X : Cx} (hu : X.A.units + 64 < cLine) : OpR X (compareOp .LtE) (fun x y H Q => rI0 (fun i j => .bl (decide (i ≤ j))) x y H Q ∨ rDat X.K (fun d e => !PySem.W.dataLt e d) x y H Q) := op_le.or (by
  intro pins s σ H x y v u Q I rx ry h
  obtain ⟨d, e, hd, he, ok, q⟩ := h
  obtain ⟨as, r1⟩ := Dp.reads I d x v hd rx
  obtain ⟨bs, r2⟩ := Dp.reads I e y u he ry
  have f := cmpOk_facts ok
  exact PySem.W.le_data r1 r2 f.2.2.1 f.2.2.2.1 (cmp_room hu f.2.2.2.2) ⟨.bl _, H, I, rfl, q⟩)
theorem oc_le {K : PySem.W.Frag} : OpC K (fun x y H Q => rI0 (fun i j => .bl (decide (i ≤ j))) x y H Q ∨ rDat K (fun d e => !PySem.W.dataLt e d) x y H Q) dLe := by
  intro x y dx dy b H Q rx ry h q
  unfold dLe at h
  split at h
  · cases (Option.some.inj h); exact .inl ⟨_, _, rx.int', ry.int', q⟩
  · obtain ⟨hc, e⟩ := ite_some h
    subst e
    have f := cmpOk_facts hc
    exact .inr ⟨dx, dy, rx.toDp f.1, ry.toDp f.2.1, hc, q⟩
def dGt : D → D → Option Bool
  | .int i, .int j => some (decide (j < i))
  | x, y => if cmpOk x y = true then some (PySem.W.dataLt y x) else none
theorem op_gtA {X : Cx} (hu : X.A.units + 64 < cLine) : OpR X (compareOp .Gt) (fun x y H Q => rI0 (fun i j => .bl (decide (j < i))) x y H Q ∨ rDat X.K (fun d e => PySem.W.dataLt e d) x y H Q) := op_gt.or (by
  intro pins s σ H x y v u Q I rx ry h
  obtain ⟨d, e, hd, he, ok, q⟩ := h
  obtain ⟨as, r1⟩ := Dp.reads I d x v hd rx
  obtain ⟨bs, r2⟩ := Dp.reads I e y u he ry
  have f := cmpOk_facts ok
  exact PySem.W.gt_data r1 r2 f.2.2.1 f.2.2.2.1 (cmp_room hu f.2.2.2.2) ⟨.bl _, H, I, rfl, q⟩)
theorem oc_gt {K : PySem.W.Frag} : OpC K (fun x y H Q => rI0 (fun i j => .bl (decide (j < i))) x y H Q ∨ rDat K (fun d e => PySem.W.dataLt e d) x y H Q) dGt := by
  intro x y dx dy b H Q rx ry h q
  unfold dGt at h
  split at h
  · cases (Option.some.inj h); exact .inl ⟨_, _, rx.int', ry.int', q⟩
  · obtain ⟨hc, e⟩ := ite_some h
    subst e
    have f := cmpOk_facts hc
    exact .inr ⟨dx, dy, rx.toDp f.1, ry.toDp f.2.1, hc, q⟩
def dGe : D → D → Option Bool
  | .int i, .int j => some (decide (j ≤ i))
  | x, y => if cmpOk x y = true then some (!PySem.W.dataLt x y) else none
theorem op_geA {X : Cx} (hu : X.A.units + 64 < cLine) : OpR X (compareOp .GtE) (fun x y H Q => rI0 (fun i j => .bl (decide (j ≤ i))) x y H Q ∨ rDat X.K (fun d e => !PySem.W.dataLt d e) x y H Q) := op_ge.or (by
  intro pins s σ H x y v u Q I rx ry h
  obtain ⟨d, e, hd, he, ok, q⟩ := h
  obtain ⟨as, r1⟩ := Dp.reads I d x v hd rx
  obtain ⟨bs, r2⟩ := Dp.reads I e y u he ry
  have f := cmpOk_facts ok
  exact PySem.W.ge_data r1 r2 f.2.2.1 f.2.2.2.1 (cmp_room hu f.2.2.2.2) ⟨.bl _, H, I, rfl, q⟩)
theorem oc_ge {K : PySem.W.Frag} : OpC K (fun x y H Q => rI0 (fun i j => .bl (decide (j ≤ i))) x y H Q ∨ rDat K (fun d e => !PySem.W.dataLt d e) x y H Q) dGe := by
  intro x y dx dy b H Q rx ry h q
  unfold dGe at h
  split at h
  · cases (Option.some.inj h); exact .inl ⟨_, _, rx.int', ry.int', q⟩
  · obtain ⟨hc, e⟩ := ite_some h
    subst e
    have f := cmpOk_facts hc
    exact .inr ⟨dx, dy, rx.toDp f.1, ry.toDp f.2.1, hc, q⟩
def dEq (x y : D) : Option Bool := if (SeqAt.shaped x && SeqAt.shaped y) = true then some (PyData.eqv x y) else none
def dNe (x y : D) : Option Bool := if (SeqAt.shaped x && SeqAt.shaped y) = true then some (!PyData.eqv x y) else none
theorem oc_eq : OpC K (rEqD K) dEq := by
  intro x y dx dy b H Q rx ry h q
  obtain ⟨hc, e⟩ := ite_some h
  subst e
  rw [Bool.and_eq_true] at hc
  exact ⟨dx, dy, rx.toDp (SeqAt.canLay_of_shaped hc.1), ry.toDp (SeqAt.canLay_of_shaped hc.2), hc.1, hc.2, q⟩
theorem oc_ne : OpC K (rNeD K) dNe := by
  intro x y dx dy b H Q rx ry h q
  obtain ⟨hc, e⟩ := ite_some h
  subst e
  rw [Bool.and_eq_true] at hc
  exact ⟨dx, dy, rx.toDp (SeqAt.canLay_of_shaped hc.1), ry.toDp (SeqAt.canLay_of_shaped hc.2), hc.1, hc.2, q⟩
/-! is None -/
def isNon : D → Bool
  | .none => true
  | _ => false
def eIsN (f : FE) : FE := fun ρ => o1 (f ρ) fun d => some (.bool (isNon d))
def eNotN (f : FE) : FE := fun ρ => o1 (f ρ) fun d => some (.bool (!isNon d))
theorem R.isNon {H : Hp} {v : V} {d : D} (h : R K H v d) : decide (v = V.non) = DS.isNon d := by
  cases h <;> rfl
theorem qe_isN {j pos'} (ha : PE X a (tD K (.br 1) fa ca)) : PE X (.Compare a [.Is] [.Constant .none j pos'] pos) (tD K κ (eIsN fa) []) := (pe_cmp (pc_isN ha) rfl).imp fun σ H Q ⟨B, L, ρ, d, g, es, hf, q⟩ => by
  obtain ⟨k, h1, h2⟩ := o1_some hf
  cases (Option.some.inj h2)
  exact ⟨[], _, ρ, k, g.zero, .zero, h1, fun x H1 s1 p1 => show Q _ H1 from (RL.r0 p1).isNon ▸ q _ H1 s1 (Post.of_flat (.bl _) rfl)⟩
theorem qe_notN {j pos'} (ha : PE X a (tD K (.br 1) fa ca)) : PE X (.Compare a [.IsNot] [.Constant .none j pos'] pos) (tD K κ (eNotN fa) []) := (pe_cmp (pc_notN ha) rfl).imp fun σ H Q ⟨B, L, ρ, d, g, es, hf, q⟩ => by
  obtain ⟨k, h1, h2⟩ := o1_some hf
  cases (Option.some.inj h2)
  exact ⟨[], _, ρ, k, g.zero, .zero, h1, fun x H1 s1 p1 => show Q _ H1 from (RL.r0 p1).isNon ▸ q _ H1 s1 (Post.of_flat (.bl _) rfl)⟩
/-! is True, is False -/
/-! in: a list of any trees; a tuple of flat ones -/
def scal1 : D → Bool
  | .none => true
  | .bool _ => true
  | .int _ => true
  | .str _ => true
  | _ => false
def dIn : D → D → Option Bool
  | x, .list ds => if (SeqAt.shaped x && SeqAt.shaped (.list ds)) = true then some (ds.any fun z => PyData.eqv z x) else none
  | x, .tuple ds => if (scal1 x && ds.all scal1) = true then some (ds.any fun z => PyData.eqv z x) else none
  | _, _ => none
def dNotIn (x y : D) : Option Bool := o1 (dIn x y) fun b => some (!b)
theorem R.flatV {H : Hp} {v : V} {d : D} (h : R K H v d) (f : scal1 d = true) : L2.flatV v = true := by
  cases h <;> first | rfl | cases f
theorem RA.flatV {H : Hp} : ∀ {v : List V} {d : List D}, RA K H v d → d.all scal1 = true → v.all L2.flatV = true
  | _, _, .nil, _ => rfl
  | _, _, .cons h t, f => by
    rw [List.all_cons, Bool.and_eq_true] at f ⊢
    exact ⟨h.flatV f.1, RA.flatV t f.2⟩
theorem eqV_eqv {H : Hp} {v w : V} {d e : D} (h : R K H v d) (h' : R K H w e) (f : scal1 d = true) (f' : scal1 e = true) : eqV v w = PyData.eqv d e := by
  cases h <;> first | (cases f; done) | (cases h' <;> first | (cases f'; done) | rfl | simp [eqV, PyData.eqv])
theorem any_eqv {H : Hp} {w : V} {e : D} (h' : R K H w e) (f' : scal1 e = true) : ∀ {v : List V} {d : List D}, RA K H v d → d.all scal1 = true → (v.any fun y => eqV y w) = d.any fun z => PyData.eqv z e
  | _, _, .nil, _ => rfl
  | _, _, .cons h t, f => by
    rw [List.all_cons, Bool.and_eq_true] at f
    rw [List.any_cons, List.any_cons, any_eqv h' f' t f.2, eqV_eqv h h' f.1 f']
theorem oc_in : OpC K (fun x y H Q => rInD K x y H Q ∨ rIn K false x y H Q) dIn := by
  intro x y dx dy b H Q rx ry h q
  unfold dIn at h
  split at h
  · obtain ⟨hc, e⟩ := ite_some h
    subst e
    have hc := (Bool.and_eq_true _ _).mp hc
    exact .inl ⟨dx, _, rx.toDp (SeqAt.canLay_of_shaped hc.1), ry.toDp (SeqAt.canLay_of_shaped hc.2), hc.1, hc.2, q⟩
  · obtain ⟨hc, e⟩ := ite_some h
    subst e
    have hc := (Bool.and_eq_true _ _).mp hc
    cases ry with
    | tup h1 h2 =>
      refine .inr ⟨_, _, rfl, .inr (.inl (.inl h1)), rx.flatV hc.1, h2.flatV hc.2, ?_⟩
      rw [if_neg (by decide)]
      unfold inV
      rw [any_eqv rx hc.1 h2 hc.2]
      exact q
  · cases h
theorem oc_notIn : OpC K (fun x y H Q => rNotInD K x y H Q ∨ rIn K true x y H Q) dNotIn := by
  intro x y dx dy b H Q rx ry h q
  obtain ⟨c, h', e⟩ := o1_some h
  clear h
  cases (Option.some.inj e)
  have h := h'
  unfold dIn at h
  split at h
  · obtain ⟨hc, e⟩ := ite_some h
    subst e
    have hc := (Bool.and_eq_true _ _).mp hc
    exact .inl ⟨dx, _, rx.toDp (SeqAt.canLay_of_shaped hc.1), ry.toDp (SeqAt.canLay_of_shaped hc.2), hc.1, hc.2, q⟩
  · obtain ⟨hc, e⟩ := ite_some h
    subst e
    have hc := (Bool.and_eq_true _ _).mp hc
    cases ry with
    | tup h1 h2 =>
      refine .inr ⟨_, _, rfl, .inr (.inl (.inl h1)), rx.flatV hc.1, h2.flatV hc.2, ?_⟩
      rw [if_pos rfl]
      unfold inV
      rw [any_eqv rx hc.1 h2 hc.2]
      exact q
  · cases h
end

/-! ### truth, and, or, not -/
def dTru : D → Option Bool
  | .none => some false
  | .bool b => some b
  | .int i => some (i != 0)
  | .str y => if y.length ≤ sz then some ((y.length : Int) != 0) else none
  | .list ds => some !ds.isEmpty
  | .tuple ds => some !ds.isEmpty
  | .dict _ => none
def tTru (f : FE) : FT := fun ρ => o1 (f ρ) dTru
def tAndD (f g : FT) : FT := fun ρ => match f ρ with
  | none => none
  | some true => g ρ
  | some false => some false
def tOrD (f g : FT) : FT := fun ρ => match f ρ with
  | none => none
  | some true => some true
  | some false => g ρ
def tNotD (f : FT) : FT := fun ρ => o1 (f ρ) fun b => some !b
def eAndD (f g : FE) : FE := fun ρ => match f ρ with
  | none => none
  | some d => match dTru d with
    | none => none
    | some true => g ρ
    | some false => some d
def eOrD (f g : FE) : FE := fun ρ => match f ρ with
  | none => none
  | some d => match dTru d with
    | none => none
    | some true => some d
    | some false => g ρ
def eIfD (c : FT) (f g : FE) : FE := fun ρ => match c ρ with
  | none => none
  | some true => f ρ
  | some false => g ρ
section
variable {X : Cx} {K : PySem.W.Frag} {κ : Mo} {pos : Pos} {a b : Expr} {fa fb : FE} {ca cb : Esc} {f g : FT} {rest : List Expr}
theorem RA.isEmpty {H : Hp} {v : List V} {d : List D} (h : RA K H v d) : (!v.isEmpty) = !d.isEmpty := by
  cases h <;> rfl
theorem tru_of {H : Hp} {v : V} {d : D} {k : Bool} (h : R K H v d) (e : dTru d = some k) : TruV K v H k := by
  cases h with
  | non => exact (Option.some.inj e).symm
  | bl b => exact (Option.some.inj e).symm
  | int i => exact (Option.some.inj e).symm
  | str x =>
    obtain ⟨h1, h2⟩ := ite_some e
    exact ⟨by rw [sz_eq]; exact h1, h2.symm⟩
  | lst h1 h2 => exact .inl ⟨_, SqL.of h1, by rw [h2.isEmpty]; exact (Option.some.inj e).symm⟩
  | tup h1 h2 => exact .inr (.inl ⟨_, .inl (.inl h1), by rw [h2.isEmpty]; exact (Option.some.inj e).symm⟩)
  | frz _ _ => cases e
  | rng _ => cases e
  | dk _ _ => cases e
  | dt _ _ => cases e
theorem qt_tru (ha : PE X a (tD K (.br 1) fa ca)) (he : ∀ whole, isTrue a X.env whole = (do let v ← whole; standAt a.pos; holding [v] (truthy v))) (hX : X.K = K := by rfl) : PT X a (tT K (tTru fa)) := (pt_truth ha he).imp fun σ H Q ⟨B, L, ρ, k, g, hf, q⟩ => by
  subst hX
  obtain ⟨d, h1, h2⟩ := o1_some hf
  exact ⟨[], _, ρ, d, g.zero, .zero, h1, fun x H1 s1 p1 => ⟨k, tru_of (RL.r0 p1) h2, q H1 s1⟩⟩
/-- a bool's own test -/
def dBl : D → Option Bool
  | .bool b => some b
  | _ => none
theorem qt_not (h : PT X a (tT K f)) : PT X (.UnaryOp .Not a pos) (tT K (tNotD f)) := (pt_not h).imp fun σ H Q ⟨B, L, ρ, k, g, hf, q⟩ => by
  obtain ⟨c, h1, h2⟩ := o1_some hf
  cases (Option.some.inj h2)
  exact ⟨B, L, ρ, c, g, h1, fun H1 s1 => q H1 s1⟩
theorem qw_and1 (ha : PT X a (tT K f)) : PW X (.BoolOp .And [a] pos) (tT K f) := pw_and1 ha
theorem qw_or1 (ha : PT X a (tT K f)) : PW X (.BoolOp .Or [a] pos) (tT K f) := pw_or1 ha
theorem qw_and (ha : PT X a (tT K f)) (hb : PW X (.BoolOp .And (b :: rest) pos) (tT K g)) : PW X (.BoolOp .And (a :: b :: rest) pos) (tT K (tAndD f g)) := (pw_and ha hb).imp fun σ H Q ⟨B, L, ρ, k, gd, hf, q⟩ => by
  unfold tAndD at hf
  split at hf
  · cases hf
  · exact ⟨B, L, ρ, true, gd, by assumption, fun H1 s1 => iteT <| ⟨B, L, ρ, k, gd.mono s1, hf, fun H2 s2 => q H2 (s1.trans s2)⟩⟩
  · cases (Option.some.inj hf)
    exact ⟨B, L, ρ, false, gd, by assumption, fun H1 s1 => iteF <| q H1 s1⟩
theorem qw_or (ha : PT X a (tT K f)) (hb : PW X (.BoolOp .Or (b :: rest) pos) (tT K g)) : PW X (.BoolOp .Or (a :: b :: rest) pos) (tT K (tOrD f g)) := (pw_or ha hb).imp fun σ H Q ⟨B, L, ρ, k, gd, hf, q⟩ => by
  unfold tOrD at hf
  split at hf
  · cases hf
  · cases (Option.some.inj hf)
    exact ⟨B, L, ρ, true, gd, by assumption, fun H1 s1 => iteT <| q H1 s1⟩
  · exact ⟨B, L, ρ, false, gd, by assumption, fun H1 s1 => iteF <| ⟨B, L, ρ, k, gd.mono s1, hf, fun H2 s2 => q H2 (s1.trans s2)⟩⟩
theorem qe_if {c : Expr} (hc : PT X c (tT K f)) (ha : PE X a (tD K κ fa ca)) (hb : PE X b (tD K κ fb cb)) : PE X (.IfExp c a b pos) (tD K κ (eIfD f fa fb) (ca ++ cb)) := (pe_ifExp hc ha hb).imp fun σ H Q ⟨B, L, ρ, d, g, es, hf, q⟩ => by
  have fr : ∀ {H1 H' : Hp} {v : V}, Same H H1 → Post K B H1 H' κ v d → Post K B H H' κ v d := fun {H1 H' v} s p => by
    cases κ with
    | br m => exact p
    | fr =>
      obtain ⟨o, h1, h2, h3⟩ := p
      exact ⟨o, fun a z => s.free (h1 a z), h2, h3⟩
    | fr2 =>
      obtain ⟨o, h1, h2, h3⟩ := p
      exact ⟨o, fun a z => s.free (h1 a z), h2, h3⟩
  unfold eIfD at hf
  split at hf
  · cases hf
  · exact ⟨B, L, ρ, true, g, by assumption, fun H1 s1 => iteT <| ⟨B, L, ρ, d, g.mono s1, es.left, hf, fun v H2 s2 p => q v H2 (s1.trans s2) (fr s1 p)⟩⟩
  · exact ⟨B, L, ρ, false, g, by assumption, fun H1 s1 => iteF <| ⟨B, L, ρ, d, g.mono s1, es.right, hf, fun v H2 s2 p => q v H2 (s1.trans s2) (fr s1 p)⟩⟩
/-- as values: read at any freedom -/
theorem qe_one {op} {m : Nat} (h : PE X a (tD K (.br m) fa ca)) : PE X (.BoolOp op [a] pos) (tD K (.br m) fa ca) := pe_one h
theorem qe_and {m : Nat} (ha : PE X a (tD K (.br m) fa ca)) (hb : PE X (.BoolOp .And (b :: rest) pos) (tD K (.br m) fb cb)) (hX : X.K = K := by rfl) : PE X (.BoolOp .And (a :: b :: rest) pos) (tD K (.br m) (eAndD fa fb) (ca ++ cb)) :=
  (pe_andT ha hb).imp fun σ H Q ⟨B, L, ρ, d, g, es, hf, q⟩ => by
  subst hX
  unfold eAndD at hf
  split at hf
  · cases hf
  · rename_i d' h1
    split at hf
    · cases hf
    · rename_i h2
      exact ⟨B, L, ρ, _, g, es.left, h1, fun x H1 s1 p1 => ⟨true, tru_of (RL.open p1) h2, iteT <| ⟨B, L, ρ, d, g.mono s1, es.right, hf, fun v H2 s2 p => q v H2 (s1.trans s2) p⟩⟩⟩
    · rename_i h2
      cases (Option.some.inj hf)
      exact ⟨B, L, ρ, _, g, es.left, h1, fun x H1 s1 p1 => ⟨false, tru_of (RL.open p1) h2, iteF <| q x H1 s1 p1⟩⟩
theorem qe_or {m : Nat} (ha : PE X a (tD K (.br m) fa ca)) (hb : PE X (.BoolOp .Or (b :: rest) pos) (tD K (.br m) fb cb)) (hX : X.K = K := by rfl) : PE X (.BoolOp .Or (a :: b :: rest) pos) (tD K (.br m) (eOrD fa fb) (ca ++ cb)) :=
  (pe_orT ha hb).imp fun σ H Q ⟨B, L, ρ, d, g, es, hf, q⟩ => by
  subst hX
  unfold eOrD at hf
  split at hf
  · cases hf
  · rename_i d' h1
    split at hf
    · cases hf
    · rename_i h2
      cases (Option.some.inj hf)
      exact ⟨B, L, ρ, _, g, es.left, h1, fun x H1 s1 p1 => ⟨true, tru_of (RL.open p1) h2, iteT <| q x H1 s1 p1⟩⟩
    · rename_i h2
      exact ⟨B, L, ρ, _, g, es.left, h1, fun x H1 s1 p1 => ⟨false, tru_of (RL.open p1) h2, iteF <| ⟨B, L, ρ, d, g.mono s1, es.right, hf, fun v H2 s2 p => q v H2 (s1.trans s2) p⟩⟩⟩
theorem qe_not (ha : PE X a (tD K (.br 1) fa ca)) (hX : X.K = K := by rfl) : PE X (.UnaryOp .Not a pos) (tD K κ (eB (tNotD (tTru fa))) []) := (pe_notT ha).imp fun σ H Q ⟨B, L, ρ, d, g, es, hf, q⟩ => by
  subst hX
  obtain ⟨k, h1, h2⟩ := o1_some hf
  cases (Option.some.inj h2)
  obtain ⟨c, h3, h4⟩ := o1_some h1
  cases (Option.some.inj h4)
  obtain ⟨e, h5, h6⟩ := o1_some h3
  exact ⟨[], _, ρ, e, g.zero, .zero, h5, fun x H1 s1 p1 => ⟨c, tru_of (RL.r0 p1) h6, q _ H1 s1 (Post.of_flat (.bl _) rfl)⟩⟩
end

/-! ### subscripts -/
def dIx : D → D → Option D
  | .list ds, .int i => atI ds i
  | .tuple ds, .int i => atI ds i
  | .dict ((.none, .list ds) :: _), .int i => atI ds i
  | _, _ => none
def eIx (f g : FE) : FE := fun ρ => o2 (f ρ) (g ρ) dIx
section
variable {X : Cx} {K : PySem.W.Frag} {κ : Mo} {pos : Pos} {a b : Expr} {fa fb : FE} {ca cb : Esc}
theorem at_len {xs : List V} {ds : List D} {i : Int} {d : D} (hl : xs.length = ds.length) (h : atI ds i = some d) : ∃ (j : Nat) (x : V), atI xs i = some x ∧ xs[j]? = some x ∧ ds[j]? = some d := by
  unfold atI at h
  obtain ⟨j, h1, h2⟩ := Option.bind_eq_some_iff.mp h
  obtain ⟨hj, _⟩ := List.getElem?_eq_some_iff.mp h2
  have hj' : j < xs.length := by omega
  refine ⟨j, xs[j], ?_, List.getElem?_eq_getElem hj', h2⟩
  unfold atI
  rw [hl, h1]
  exact List.getElem?_eq_getElem hj'
theorem RK.key {H : Hp} {kvs : List (Key × V)} {k e : D} {r : List (D × D)} (h : RK K H kvs ((k, e) :: r)) : k ≠ .none := by
  cases h with
  | cons _ _ =>
    rename_i k _ _ _ _
    cases k <;> simp [keyD]
theorem RT.key {H : Hp} {kvs : List (List Key × V)} {k e : D} {r : List (D × D)} (h : RT K H kvs ((k, e) :: r)) : k ≠ .none := by
  cases h with
  | cons _ _ => simp
theorem RL.frz {B : List Addr} {H : Hp} {m : Nat} {v : V} {e : List D} {r : List (D × D)} (h : RL K B H m v (.dict ((.none, .list e) :: r))) : ∃ a xs ds, v = .ref a ∧ (.list e : D) = .list ds ∧ SqL K H a xs ∧ RA K (hid B H) xs ds := by
  generalize hd : PyData.dict ((PyData.none, PyData.list e) :: r) = d at h
  cases h with
  | z h =>
    cases h with
    | frz h1 h2 =>
      simp at hd
      exact ⟨_, _, _, rfl, congrArg PyData.list hd.1, (same_unhid (B := B)).seq h1, h2⟩
    | dk _ h2 =>
      cases hd
      exact absurd rfl h2.key
    | dt _ h2 =>
      cases hd
      exact absurd rfl h2.key
    | _ => cases hd
  | l => cases hd
  | dk _ h2 =>
    cases hd
    exact absurd rfl h2.key
  | dt _ h2 =>
    cases hd
    exact absurd rfl h2.key
theorem qe_ix {m : Nat} (ha : PE X a (tD K (.br (m + 1)) fa ca)) (hb : PE X b (tD K (.br 1) fb cb)) (hs : PlainIx b) (hX : X.K = K := by rfl) : PE X (.Subscript a b pos) (tD K (.br m) (eIx fa fb) ca) := (pe_ix ix_seq ha hb hs).imp fun σ H Q ⟨B, L, ρ, d, g, es, hf, q⟩ => by
  subst hX
  obtain ⟨dx, dy, h1, h2, h3⟩ := o2_some hf
  refine ⟨B, L, ρ, dx, g, es, h1, fun x H1 s1 p1 => ⟨[], _, ρ, dy, (g.mono s1).zero, .zero, h2, fun y H2 s2 p2 => ?_⟩⟩
  have p1 : RL X.K B H2 (m + 1) x dx := RL.mono s2 (same_hid s2) p1
  unfold dIx at h3
  split at h3
  · obtain ⟨p, xs, rfl, e1, e2, e3⟩ := p1.list
    obtain ⟨j, z, f1, f2, f3⟩ := at_len e2 h3
    exact .inl ⟨p, xs, _, z, rfl, RL.int p2, SqL.of e1, f1, q z H2 (s1.trans s2) (e3 j z d f2 f3)⟩
  · obtain ⟨p, xs, rfl, e1, _, e3⟩ := p1.tup
    obtain ⟨j, z, f1, f2, f3⟩ := at_len e3.length h3
    obtain ⟨z', f4, f5⟩ := e3.get f3
    rw [f2] at f4; cases f4
    exact .inr (.inl ⟨p, xs, _, z, rfl, RL.int p2, e1, f1, q z H2 (s1.trans s2) (.z f5)⟩)
  · rename_i ds r i
    obtain ⟨p, xs, ds', rfl, e0, e1, e3⟩ := p1.frz
    cases e0
    obtain ⟨j, z, f1, f2, f3⟩ := at_len e3.length h3
    obtain ⟨z', f4, f5⟩ := e3.get f3
    rw [f2] at f4; cases f4
    exact .inl ⟨_, _, _, z, rfl, RL.int p2, e1, f1, q z H2 (s1.trans s2) (.z f5)⟩
  · cases h3
end
end DS
end

section
set_option Elab.async false
set_option linter.all false
set_option maxRecDepth 100000
/-! Part e: calls. -/
namespace DS
open PySem PySem.Spec PyProof.Rows L2

/-! ### a def of the program as a function on trees -/
abbrev Fn := List D → Option D
def spD (K : PySem.W.Frag) (n : Nat) (F : Fn) : Sp := fun vs H Q _ => ∃ B ds d, Ok B H ∧ RA K (hid B H) vs ds ∧ ds.length = n ∧ F ds = some d ∧ ∀ v H', Same H H' → R K (hid B H') v d → Q v H'
theorem spD_len {K : PySem.W.Frag} {n : Nat} {F : Fn} : ∀ vs H Q E, spD K n F vs H Q E → vs.length = n := fun vs H Q E ⟨B, ds, d, _, h2, h3, _⟩ => by
  rw [h2.length, h3]
def eCall (n : Nat) (F : Fn) (fs : FA) : FE := fun ρ => o1 (fs ρ) fun ds => if ds.length = n then F ds else none
section
variable {X : Cx} {K : PySem.W.Frag} {κ : Mo} {p pos : Pos} {e : Expr} {es : List Expr} {fs : FA} {c : Esc} {k n m : Nat} {f : Addr} {fd : FuncData} {ps : List Str} {F : Fn} {x : Str}
theorem qe_call (G : FnOk X.prog X.w X.K X.mg X.base CX0 k f fd ps (spD K n F)) (hr : Room k X.A) (hg : Gl X x) (hm : X.mg x = some (.ref f)) (hk : PySem.W.keepIn X.K (.ref f) = true) (hb : Binds X.K fd ps [])
    (ha : PA X (e :: es) (tDA K 0 fs c)) (hdb : (x == ("__debug__" : Str)) = false := by decide) (he : starEach (e :: es) X.env = (false, eval e X.env) :: starEach es X.env := by rfl) (hpl : (backTo pos (starEach es X.env)).any (·.1) = false := by rfl) :
    PE X (.Call (.Name x p) (e :: es) [] pos) (tD K (.br m) (eCall n F fs) c) := (pe_call (E := E0) G hr hg hm hk hb .nil pass0 ha hdb he hpl).imp fun σ H Q ⟨B, L, ρ, d, g, es, hf, q⟩ => by
  obtain ⟨ds, h1, h2⟩ := o1_some hf
  have hn : ds.length = n := by
    split at h2
    · assumption
    · cases h2
  rw [if_pos hn] at h2
  refine ⟨B, L, ρ, ds, g, es, h1, fun vs H1 s1 hl p1 => ?_⟩
  show spD K n F (vs ++ []) H1 Q E0
  rw [List.append_nil]
  exact ⟨B, ds, d, g.ok.mono s1, RA.of_get hl fun i x y e1 e2 => (p1 i x y e1 e2).r, hn, h2, fun v H' s2 r => q v H' (s1.trans s2) (.z r)⟩
end

/-! ### built-ins -/
/-- a built-in on values does what op does on trees; the answer is flat -/
def CallF (K : PySem.W.Frag) (r : List V → Hp → VK → Prop) (op : List D → Option D) : Prop := ∀ (vs : List V) (ds : List D) (d : D) (H : Hp) (Q : VK), RA K H vs ds → op ds = some d → (∀ v, R K H v d → flat d = true → Q v H) → r vs H Q
/-- .. makes something new -/
def CallD (K : PySem.W.Frag) (r : List V → Hp → VK → Prop) (op : List D → Option D) : Prop := ∀ (B : List Addr) (vs : List V) (ds : List D) (d : D) (H : Hp) (Q : VK), Ok B H → vs.length = ds.length → (∀ (i : Nat) (x : V) (y : D), vs[i]? = some x → ds[i]? = some y → RL K B H 1 x y) → op ds = some d →
  (∀ v H', Same H H' → (∀ κ : Mo, κ.one = true → Post K B H H' κ v d) → Q v H') → r vs H Q
def eCB (op : List D → Option D) (fs : FA) : FE := fun ρ => o1 (fs ρ) op
section
variable {X : Cx} {K : PySem.W.Frag} {κ : Mo} {p pos : Pos} {e : Expr} {es : List Expr} {fs : FA} {c : Esc} {x : Str} {id T : String} {r : List V → Hp → VK → Prop} {op : List D → Option D}
theorem flat_top {d : D} (h : flat d = true) : isTop d = false := by
  cases d <;> first | rfl | cases h
theorem cbF (hd : CallF K r op) {t : TE} (ht : t = tCB r (tDA K 1 fs c)) : ∀ σ H Q, tD K κ (eCB op fs) [] σ H Q → t σ H Q := by
  subst ht
  intro σ H Q ⟨B, L, ρ, d, g, es, hf, q⟩
  obtain ⟨ds, h1, h2⟩ := o1_some hf
  exact ⟨[], _, ρ, ds, g.zero, .zero, h1, fun vs H1 s1 hl p1 => hd vs ds d H1 Q (RA.of_get hl fun i x y e1 e2 => RL.r0 (p1 i x y e1 e2)) h2 fun v rv fl => q v H1 s1 (Post.of_flat (rv.hidF (g.ok.mono s1).noTup fl) (flat_top fl))⟩
theorem cbD (hd : CallD K r op) (hκ : κ.one = true) {t : TE} (ht : t = tCB r (tDA K 1 fs c)) : ∀ σ H Q, tD K κ (eCB op fs) c σ H Q → t σ H Q := by
  subst ht
  intro σ H Q ⟨B, L, ρ, d, g, es, hf, q⟩
  obtain ⟨ds, h1, h2⟩ := o1_some hf
  refine ⟨B, L, ρ, ds, g, es, h1, fun vs H1 s1 hl p1 => hd B vs ds d H1 Q (g.ok.mono s1) hl p1 h2 fun v H' s2 p2 => q v H' (s1.trans s2) ?_⟩
  have p := p2 κ hκ
  cases κ with
  | br m => exact p
  | fr =>
    obtain ⟨o, h1, h2, h3⟩ := p
    exact ⟨o, fun a z => s1.free (h1 a z), h2, h3⟩
  | fr2 => cases hκ
theorem qe_bF (hc : CallR X (.builtin id) r) (hd : CallF K r op) (hg : Gl X x) (hm : X.mg x = none) (hv : bootBuiltins x = some (.builtin id)) (ha : PA X (e :: es) (tDA K 1 fs c)) (hn : x ≠ "__name__" := by decide) (hdb : (x == ("__debug__" : Str)) = false := by decide)
    (he : starEach (e :: es) X.env = (false, eval e X.env) :: starEach es X.env := by rfl) (hpl : (backTo pos (starEach es X.env)).any (·.1) = false := by rfl) : PE X (.Call (.Name x p) (e :: es) [] pos) (tD K κ (eCB op fs) []) :=
  (pe_callB hc hg hm hv ha hn hdb he hpl).imp (cbF hd rfl)
theorem qe_bD (hc : CallR X (.builtin id) r) (hd : CallD K r op) (hg : Gl X x) (hm : X.mg x = none) (hv : bootBuiltins x = some (.builtin id)) (ha : PA X (e :: es) (tDA K 1 fs c)) (hκ : κ.one = true := by rfl) (hn : x ≠ "__name__" := by decide) (hdb : (x == ("__debug__" : Str)) = false := by decide)
    (he : starEach (e :: es) X.env = (false, eval e X.env) :: starEach es X.env := by rfl) (hpl : (backTo pos (starEach es X.env)).any (·.1) = false := by rfl) : PE X (.Call (.Name x p) (e :: es) [] pos) (tD K κ (eCB op fs) c) :=
  (pe_callB hc hg hm hv ha hn hdb he hpl).imp (cbD hd hκ rfl)
theorem qe_tF (hc : CallR X (.type T) r) (hd : CallF K r op) (hg : Gl X x) (hm : X.mg x = none) (hv : bootBuiltins x = some (.type T)) (ha : PA X (e :: es) (tDA K 1 fs c)) (hn : x ≠ "__name__" := by decide) (hdb : (x == ("__debug__" : Str)) = false := by decide)
    (he : starEach (e :: es) X.env = (false, eval e X.env) :: starEach es X.env := by rfl) (hpl : (backTo pos (starEach es X.env)).any (·.1) = false := by rfl) : PE X (.Call (.Name x p) (e :: es) [] pos) (tD K κ (eCB op fs) []) :=
  (pe_callTy hc hg hm hv ha hn hdb he hpl).imp (cbF hd rfl)
theorem qe_tD (hc : CallR X (.type T) r) (hd : CallD K r op) (hg : Gl X x) (hm : X.mg x = none) (hv : bootBuiltins x = some (.type T)) (ha : PA X (e :: es) (tDA K 1 fs c)) (hκ : κ.one = true := by rfl) (hn : x ≠ "__name__" := by decide) (hdb : (x == ("__debug__" : Str)) = false := by decide)
    (he : starEach (e :: es) X.env = (false, eval e X.env) :: starEach es X.env := by rfl) (hpl : (backTo pos (starEach es X.env)).any (·.1) = false := by rfl) : PE X (.Call (.Name x p) (e :: es) [] pos) (tD K κ (eCB op fs) c) :=
  (pe_callTy hc hg hm hv ha hn hdb he hpl).imp (cbD hd hκ rfl)
end
/-! one argument -/
def d1 (op : D → Option D) : List D → Option D
  | [x] => op x
  | _ => none
def d2 (op : D → D → Option D) : List D → Option D
  | [x, y] => op x y
  | _ => none
theorem d1_some {op : D → Option D} {ds : List D} {d : D} (h : d1 op ds = some d) : ∃ x, ds = [x] ∧ op x = some d := by
  unfold d1 at h
  split at h
  · exact ⟨_, rfl, h⟩
  · cases h
theorem d2_some {op : D → D → Option D} {ds : List D} {d : D} (h : d2 op ds = some d) : ∃ x y, ds = [x, y] ∧ op x y = some d := by
  unfold d2 at h
  split at h
  · exact ⟨_, _, rfl, h⟩
  · cases h
section
variable {K : PySem.W.Frag} {H : Hp} {B : List Addr}
theorem RA.one {vs : List V} {x : D} (h : RA K H vs [x]) : ∃ v, vs = [v] ∧ R K H v x := by
  cases h with
  | cons h t => cases t; exact ⟨_, rfl, h⟩
theorem RA.two {vs : List V} {x y : D} (h : RA K H vs [x, y]) : ∃ v w, vs = [v, w] ∧ R K H v x ∧ R K H w y := by
  cases h with
  | cons h t =>
    cases t with
    | cons h' t => cases t; exact ⟨_, _, rfl, h, h'⟩
theorem one_of {vs : List V} {x : D} (hl : vs.length = [x].length) (h : ∀ (i : Nat) (v : V) (y : D), vs[i]? = some v → [x][i]? = some y → RL K B H 1 v y) : ∃ v, vs = [v] ∧ RL K B H 1 v x := by
  match vs, hl with
  | [v], _ => exact ⟨v, rfl, h 0 v x rfl rfl⟩
/-! len, int, abs, min, max, sum, all, any -/
def dLen : D → Option D
  | .list ds => some (.int ds.length)
  | .tuple ds => some (.int ds.length)
  | .dict ((.none, .list ds) :: _) => some (.int ds.length)
  | _ => none
theorem cf_len : CallF K (fun xs H Q => ∃ p ys, xs = [.ref p] ∧ (SqL K H p ys ∨ SqT K H p ys) ∧ Q (.int ys.length) H) (d1 dLen) := by
  intro vs ds d H Q r h q
  obtain ⟨x, rfl, h'⟩ := d1_some h
  clear h
  have h := h'
  clear h'
  obtain ⟨v, rfl, rv⟩ := r.one
  unfold dLen at h
  split at h
  · cases rv with
    | lst h1 h2 =>
      cases (Option.some.inj h)
      exact ⟨_, _, rfl, .inl (SqL.of h1), by rw [h2.length]; exact q _ (.int _) rfl⟩
  · cases rv with
    | tup h1 h2 =>
      cases (Option.some.inj h)
      exact ⟨_, _, rfl, .inr (.inl (.inl h1)), by rw [h2.length]; exact q _ (.int _) rfl⟩
  · obtain ⟨a, xs, ds, rfl, e, h1, h2⟩ := RL.frz (B := []) (m := 0) (.z (by rw [hid_nil]; exact rv))
    cases e
    cases (Option.some.inj h)
    exact ⟨_, _, rfl, .inl h1, by rw [h2.length]; exact q _ (.int _) rfl⟩
  · cases h
def dInt : D → Option D
  | .int i => some (.int i)
  | .bool b => some (.int (if b then 1 else 0))
  | _ => none
theorem cf_int : CallF K (fun xs H Q => (∃ i, xs = [.int i] ∧ Q (.int i) H) ∨ ∃ k, xs = [.bl k] ∧ Q (.int (if k then 1 else 0)) H) (d1 dInt) := by
  intro vs ds d H Q r h q
  obtain ⟨x, rfl, h'⟩ := d1_some h
  clear h
  have h := h'
  clear h'
  obtain ⟨v, rfl, rv⟩ := r.one
  unfold dInt at h
  split at h
  · cases (Option.some.inj h)
    exact .inl ⟨_, by rw [rv.int'], q _ (.int _) rfl⟩
  · cases (Option.some.inj h)
    exact .inr ⟨_, by rw [rv.bl'], q _ (.int _) rfl⟩
  · cases h
def dAbs : D → Option D
  | .int i => some (.int (if i < 0 then -i else i))
  | _ => none
theorem cf_abs : CallF K (fun xs H Q => ∃ i, xs = [.int i] ∧ Q (.int (if i < 0 then -i else i)) H) (d1 dAbs) := by
  intro vs ds d H Q r h q
  obtain ⟨x, rfl, h'⟩ := d1_some h
  clear h
  have h := h'
  clear h'
  obtain ⟨v, rfl, rv⟩ := r.one
  unfold dAbs at h
  split at h
  · cases (Option.some.inj h)
    exact ⟨_, by rw [rv.int'], q _ (.int _) rfl⟩
  · cases h
def dMax2 : D → D → Option D
  | .int i, .int j => some (.int (if j > i then j else i))
  | _, _ => none
def dMin2 : D → D → Option D
  | .int i, .int j => some (.int (if j < i then j else i))
  | _, _ => none
theorem cf_max2 : CallF K (fun xs H Q => ∃ i j, xs = [.int i, .int j] ∧ Q (.int (if j > i then j else i)) H) (d2 dMax2) := by
  intro vs ds d H Q r h q
  obtain ⟨x, y, rfl, h'⟩ := d2_some h
  clear h
  have h := h'
  clear h'
  obtain ⟨v, w, rfl, rv, rw'⟩ := r.two
  unfold dMax2 at h
  split at h
  · cases (Option.some.inj h)
    exact ⟨_, _, by rw [rv.int', rw'.int'], q _ (.int _) rfl⟩
  · cases h
theorem cf_min2 : CallF K (fun xs H Q => ∃ i j, xs = [.int i, .int j] ∧ Q (.int (if j < i then j else i)) H) (d2 dMin2) := by
  intro vs ds d H Q r h q
  obtain ⟨x, y, rfl, h'⟩ := d2_some h
  clear h
  have h := h'
  clear h'
  obtain ⟨v, w, rfl, rv, rw'⟩ := r.two
  unfold dMin2 at h
  split at h
  · cases (Option.some.inj h)
    exact ⟨_, _, by rw [rv.int', rw'.int'], q _ (.int _) rfl⟩
  · cases h
/-- the ints of a list -/
def intsD : List D → Option (List Int)
  | [] => some []
  | .int i :: r => o1 (intsD r) fun is => some (i :: is)
  | _ => none
theorem intsD_some : ∀ {ds : List D} {is : List Int}, intsD ds = some is → ds = is.map PyData.int
  | [], is, h => by cases (Option.some.inj h); rfl
  | .int i :: r, is, h => by
    obtain ⟨js, h1, h2⟩ := o1_some (show o1 (intsD r) (fun is => some (i :: is)) = some is from h)
    cases (Option.some.inj h2)
    rw [intsD_some h1]; rfl
  | .none :: _, _, h => by cases h
  | .bool _ :: _, _, h => by cases h
  | .str _ :: _, _, h => by cases h
  | .list _ :: _, _, h => by cases h
  | .tuple _ :: _, _, h => by cases h
  | .dict _ :: _, _, h => by cases h
def bools : List D → Option (List Bool)
  | [] => some []
  | .bool i :: r => o1 (bools r) fun is => some (i :: is)
  | _ => none
theorem bools_some : ∀ {ds : List D} {is : List Bool}, bools ds = some is → ds = is.map PyData.bool
  | [], is, h => by cases (Option.some.inj h); rfl
  | .bool i :: r, is, h => by
    obtain ⟨js, h1, h2⟩ := o1_some (show o1 (bools r) (fun is => some (i :: is)) = some is from h)
    cases (Option.some.inj h2)
    rw [bools_some h1]; rfl
  | .none :: _, _, h => by cases h
  | .int _ :: _, _, h => by cases h
  | .str _ :: _, _, h => by cases h
  | .list _ :: _, _, h => by cases h
  | .tuple _ :: _, _, h => by cases h
  | .dict _ :: _, _, h => by cases h
def dSum : D → Option D
  | .list ds => o1 (intsD ds) fun is => some (.int is.sum)
  | .tuple ds => o1 (intsD ds) fun is => some (.int is.sum)
  | _ => none
/-- sum(xs) of a list or a tuple of ints -/
def rSumA (K : PySem.W.Frag) : List V → Hp → VK → Prop := fun vs H Q => ∃ (a : Addr) (ns : List Int), vs = [V.ref a] ∧ (SqL K H a (ns.map V.int) ∨ SqT K H a (ns.map V.int)) ∧ Q (.int ns.sum) H
theorem sum_rawT {prog : Program} {w : World} {A : Around} {E : Value → Shared → Prop} {s : Shared} {l : Addr} {its : List Value} {ns : List Int} {Q : Value → Shared → Prop} (hh : A.handled = none) (hl : s.heap.IsTuple l its.toArray) (hi : IntsAre its ns)
    (h : ∀ h' tk t', (∀ b o, s.heap.get? b = some o → h'.get? b = some o) → Q (.int ns.sum t') { s with heap := h', toks := tk }) : wpAny (model prog w) A (call (.builtin "sum") [.ref l]) Q E s := by
  obtain ⟨xs, e⟩ := hi.allInts.items
  have hn : numsOf (intItems xs).toList = ns := by rw [← e]; exact hi.numsOf
  rw [nums_intItems] at hn
  rw [e] at hl
  refine PySem.W.ktm_sumG hh hl fun h' tk t' hk => ?_
  have := h h' tk t' hk
  rw [preSum_eq, List.take_of_length_le (by simp), hn]; exact this
theorem cr_sumA {X : Cx} (hc : X.calm = true) : CallR X (.builtin "sum") (rSumA X.K) := by
  intro pins s σ H vs us Q I r h
  obtain ⟨a, ns, rfl, hs, q⟩ := h
  rw [Vals.ref1 r]
  rcases hs with hs | hs
  · obtain ⟨its, rv, hl, _⟩ := I.list hs
    exact sum_raw (I.ok.hd hc) hl.isList rv.ints fun h' tk t' hk => ⟨.int _, H, I.kept hk, ⟨_, rfl⟩, q⟩
  · obtain ⟨its, rv, hl, _⟩ := I.tuple hs
    exact sum_rawT (I.ok.hd hc) hl rv.ints fun h' tk t' hk => ⟨.int _, H, I.kept hk, ⟨_, rfl⟩, q⟩
theorem cf_sum : CallF K (rSumA K) (d1 dSum) := by
  intro vs ds d H Q r h q
  obtain ⟨x, rfl, h'⟩ := d1_some h
  clear h
  have h := h'
  clear h'
  obtain ⟨v, rfl, rv⟩ := r.one
  unfold dSum at h
  split at h
  · obtain ⟨is, h1, h2⟩ := o1_some h
    cases (Option.some.inj h2)
    cases rv with
    | lst e1 e2 =>
      rw [intsD_some h1] at e2
      have e3 := e2.ints
      subst e3
      exact ⟨_, _, rfl, .inl (SqL.of e1), q _ (.int _) rfl⟩
  · obtain ⟨is, h1, h2⟩ := o1_some h
    cases (Option.some.inj h2)
    cases rv with
    | tup e1 e2 =>
      rw [intsD_some h1] at e2
      have e3 := e2.ints
      subst e3
      exact ⟨_, _, rfl, .inr (.inl (.inl e1)), q _ (.int _) rfl⟩
  · cases h
def dAll : D → Option D
  | .list ds => o1 (bools ds) fun is => some (.bool (is.all id))
  | _ => none
def dAny : D → Option D
  | .list ds => o1 (bools ds) fun is => some (.bool (is.any id))
  | _ => none
theorem cf_all : CallF K (rAll K) (d1 dAll) := by
  intro vs ds d H Q r h q
  obtain ⟨x, rfl, h'⟩ := d1_some h
  clear h
  have h := h'
  clear h'
  obtain ⟨v, rfl, rv⟩ := r.one
  unfold dAll at h
  split at h
  · obtain ⟨is, h1, h2⟩ := o1_some h
    cases (Option.some.inj h2)
    cases rv with
    | lst e1 e2 =>
      rw [bools_some h1] at e2
      have e3 := e2.bools
      subst e3
      exact ⟨_, _, rfl, SqL.of e1, q _ (.bl _) rfl⟩
  · cases h
theorem cf_any : CallF K (rAny K) (d1 dAny) := by
  intro vs ds d H Q r h q
  obtain ⟨x, rfl, h'⟩ := d1_some h
  clear h
  have h := h'
  clear h'
  obtain ⟨v, rfl, rv⟩ := r.one
  unfold dAny at h
  split at h
  · obtain ⟨is, h1, h2⟩ := o1_some h
    cases (Option.some.inj h2)
    cases rv with
    | lst e1 e2 =>
      rw [bools_some h1] at e2
      have e3 := e2.bools
      subst e3
      exact ⟨_, _, rfl, SqL.of e1, q _ (.bl _) rfl⟩
  · cases h
/-! tuple(xs), list(xs) -/
def dTuple : D → Option D
  | .list ds => some (.tuple ds)
  | .tuple ds => some (.tuple ds)
  | _ => none
theorem cd_tuple : CallD K (fun xs H Q => ∃ p ys, xs = [.ref p] ∧ ((SqL K H p ys ∧ ∀ l, H l = none → Q (.ref l) (upd H l (.tup ys))) ∨ (SqT K H p ys ∧ Q (.ref p) H))) (d1 dTuple) := by
  intro B vs ds d H Q ok hl r h q
  obtain ⟨x, rfl, h'⟩ := d1_some h
  clear h
  have h := h'
  clear h'
  obtain ⟨v, rfl, rv⟩ := one_of hl r
  unfold dTuple at h
  split at h
  · cases (Option.some.inj h)
    obtain ⟨p, ys, rfl, h1, h2⟩ := rv.list1
    refine ⟨p, ys, rfl, .inl ⟨SqL.of h1, fun l hn => ?_⟩⟩
    have s := same_upd (o := HO.tup ys) hn
    refine q _ _ s fun κ _ => Post.of_flat (.tup (a := l) (xs := ys) ?_ (h2.mono (same_hid s))) rfl
    rw [hid_out (ok.trk.new hn), upd_same]
  · cases (Option.some.inj h)
    obtain ⟨p, ys, rfl, h1, h1', h2⟩ := rv.tup
    exact ⟨p, ys, rfl, .inr ⟨h1, q _ _ (Same.refl H) fun κ _ => Post.of_flat (.tup h1' h2) rfl⟩⟩
  · cases h
def dList : D → Option D
  | .list ds => some (.list ds)
  | .tuple ds => some (.list ds)
  | _ => none
theorem same_hidC {p : Addr} {o : HO} (hn : H p = none) : Same (hid B H) (hid (p :: B) (upd H p o)) := same_hidW (same_upd hn) fun b hb => by
  rcases List.mem_cons.mp hb with e | hb
  · rw [e]; exact .inr hn
  · exact .inl hb
theorem cd_list : CallD K (fun xs H Q => ∃ p ys, xs = [.ref p] ∧ (SqL K H p ys ∨ SqT K H p ys) ∧ ∀ l, H l = none → Q (.ref l) (upd H l (.lst ys))) (d1 dList) := by
  intro B vs ds d H Q ok hl r h q
  obtain ⟨x, rfl, h'⟩ := d1_some h
  clear h
  have h := h'
  clear h'
  obtain ⟨v, rfl, rv⟩ := one_of hl r
  unfold dList at h
  split at h
  · cases (Option.some.inj h)
    obtain ⟨p, ys, rfl, h1, h2⟩ := rv.list1
    exact ⟨p, ys, rfl, .inl (SqL.of h1), fun l hn => q _ _ (same_upd hn) fun κ hκ => Post.new ok.trk hn upd_same (h2.mono (same_hidC hn)) hκ⟩
  · cases (Option.some.inj h)
    obtain ⟨p, ys, rfl, h1, h1', h2⟩ := rv.tup
    exact ⟨p, ys, rfl, .inr h1, fun l hn => q _ _ (same_upd hn) fun κ hκ => Post.new ok.trk hn upd_same (h2.mono (same_hidC hn)) hκ⟩
  · cases h
end
/-! isinstance(x, T) -/
def isTy : D → String → Option Bool
  | .none, n => kitB "NoneType" n
  | .bool _, n => kitB "bool" n
  | .int _, n => kitB "int" n
  | .str _, n => kitB "str" n
  | .list _, n => kitB "list" n
  | .tuple _, n => kitB "tuple" n
  | .dict _, _ => none
def eIsi (n : String) (f : FE) : FE := fun ρ => o1 (f ρ) fun d => o1 (isTy d n) fun b => some (.bool b)
section
variable {X : Cx} {K : PySem.W.Frag} {κ : Mo} {p pos p2 : Pos} {a : Expr} {fa : FE} {c : Esc} {n : String} {y : Str}
theorem seqT_ty {H : Hp} {q : Addr} {xs : List V} (h : SqT K H q xs) : TyX K H (.ref q) (.type "tuple") := by
  rcases h with (h | ⟨o, h⟩) | ⟨o, its, n, h1, h2, _⟩
  · exact .base (.tup h)
  · exact .fTuple h
  · exact .kTuple h1 h2
theorem isTy_ok {H : Hp} {v : V} {d : D} {b : Bool} (r : R K H v d) (h : isTy d n = some b) : ∃ t, TyX K H v t ∧ PySem.W.kitOne K t (.type n) = some b := by
  cases r with
  | non => exact ⟨_, .base .non, kit_ty h⟩
  | bl x => exact ⟨_, .base (.bl x), kit_ty h⟩
  | int x => exact ⟨_, .base (.int x), kit_ty h⟩
  | str x => exact ⟨_, .base (.str x), kit_ty h⟩
  | lst h1 _ => exact ⟨_, .base (.lst h1), kit_ty h⟩
  | tup h1 _ => exact ⟨_, seqT_ty (.inl (.inl h1)), kit_ty h⟩
  | frz _ _ => cases h
  | rng _ => cases h
  | dk _ _ => cases h
  | dt _ _ => cases h
theorem qe_isi (hg : Gl X "isinstance") (hm : X.mg "isinstance" = none) (ha : PE X a (tD K (.br 1) fa c)) (hg2 : Gl X y) (hm2 : X.mg y = none) (hv2 : bootBuiltins y = some (.type n)) (hX : X.K = K := by rfl) (hn : y ≠ "__name__" := by decide) (hd : (y == ("__debug__" : Str)) = false := by decide)
    (he : starEach [a, .Name y p2] X.env = (false, eval a X.env) :: starEach [.Name y p2] X.env := by rfl) (he2 : starEach [.Name y p2] X.env = (false, eval (.Name y p2) X.env) :: starEach [] X.env := by rfl) (hpl : (backTo pos (starEach [.Name y p2] X.env)).any (·.1) = false := by rfl) :
    PE X (.Call (.Name "isinstance" p) [a, .Name y p2] [] pos) (tD K κ (eIsi n fa) []) := by
  subst hX
  refine (pe_callB call_isi hg hm (by decide +kernel) (pa_cons ha (pa_cons (pe_bltn (v := .ty n) hg2 hm2 hv2 rfl hn hd) pa_nil he2) he) (by decide) (by decide) he hpl).imp fun σ H Q ⟨B, L, ρ, d, g, es, hf, q⟩ => ?_
  obtain ⟨dx, h1, h2⟩ := o1_some hf
  obtain ⟨b, h3, h4⟩ := o1_some h2
  cases (Option.some.inj h4)
  refine ⟨[], _, ρ, dx, g.zero, .zero, h1, fun x H1 s1 p1 => ?_⟩
  obtain ⟨t, h5, h6⟩ := isTy_ok (RL.r0 p1) h3
  exact ⟨x, .ty n, t, .type n, b, rfl, .ty n, h5, h6, q _ H1 s1 (Post.of_flat (.bl b) rfl)⟩
end

/-! ### slices -/
def cutD (ds : List D) (lo hi : Option Int) : List D := (ds.drop (HT.sIx ds.length 0 lo)).take (HT.sIx ds.length ds.length hi - HT.sIx ds.length 0 lo)
abbrev FO := PEnv → Option (Option Int)
def oNone : FO := fun _ => some none
def oSome (f : FE) : FO := fun ρ => o1 (f ρ) fun d => match d with
  | .int i => some (some i)
  | _ => none
def dSlice (lo hi : Option Int) : D → Option D
  | .list ds => some (.list (cutD ds lo hi))
  | .tuple ds => some (.tuple (cutD ds lo hi))
  | _ => none
def eSl (f : FE) (lo hi : FO) : FE := fun ρ => match f ρ, lo ρ, hi ρ with
  | some d, some l, some h => dSlice l h d
  | _, _, _ => none
def tO (K : PySem.W.Frag) (f : FO) : TO := fun σ H Q => ∃ B L ρ o, Good K B L σ H ρ ∧ f ρ = some o ∧ ∀ H', Same H H' → Q o H'
section
variable {X : Cx} {K : PySem.W.Frag} {κ : Mo} {pos p2 : Pos} {a e : Expr} {lo hi : Option Expr} {fa : FE} {fl fh : FO} {c : Esc}
theorem _root_.L2.PO.imp {e : Option Expr} {t t' : TO} (h : PO X e t) (w : ∀ σ H Q, t' σ H Q → t σ H Q) : PO X e t' := ⟨fun pins s σ H Q I q => h.run pins s σ H Q I (w σ H Q q)⟩
theorem qo_none : PO X none (tO K oNone) := po_none.imp fun σ H Q ⟨B, L, ρ, o, g, h, q⟩ => by
  cases (Option.some.inj h)
  exact q H (Same.refl H)
theorem qo_some (h : PE X e (tD K (.br 1) fa c)) : PO X (some e) (tO K (oSome fa)) := (po_some h).imp fun σ H Q ⟨B, L, ρ, o, g, h, q⟩ => by
  obtain ⟨d, h1, h2⟩ := o1_some h
  refine ⟨[], _, ρ, d, g.zero, .zero, h1, fun v H1 s1 p1 => ?_⟩
  split at h2
  · cases (Option.some.inj h2)
    exact ⟨_, RL.int p1, q H1 s1⟩
  · cases h2
theorem cutV_R {H : Hp} {xs : List V} {ds : List D} (h : RA K H xs ds) (lo hi : Option Int) : RA K H (cutV xs lo hi) (cutD ds lo hi) := by
  unfold cutV cutD
  rw [h.length]
  exact (h.drop _).take _
theorem qe_sl (ha : PE X a (tD K (.br 1) fa c)) (hl : PO X lo (tO K fl)) (hh : PO X hi (tO K fh)) (hX : X.K = K := by rfl) (hκ : κ.one = true := by rfl) : PE X (.Subscript a (.Slice lo hi none p2) pos) (tD K κ (eSl fa fl fh) c) := by
  subst hX
  refine (pe_slice (sl_list.or sl_tupA) ha hl hh).imp fun σ H Q ⟨B, L, ρ, d, g, es, hf, q⟩ => ?_
  unfold eSl at hf
  split at hf
  · rename_i dx l h e1 e2 e3
    refine ⟨B, L, ρ, dx, g, es, e1, fun x H1 s1 p1 => ⟨B, L, ρ, l, g.mono s1, e2, fun H2 s2 => ⟨B, L, ρ, h, (g.mono s1).mono s2, e3, fun H3 s3 => ?_⟩⟩⟩
    have s13 := s2.trans s3
    have ok := ((g.ok.mono s1).mono s13)
    have p1 : RL X.K B H3 1 x dx := RL.mono s13 (same_hid s13) p1
    unfold dSlice at hf
    split at hf
    · cases (Option.some.inj hf)
      obtain ⟨p, ys, rfl, h1, h2⟩ := p1.list1
      refine .inl ⟨p, ys, rfl, SqL.of h1, fun t nt => q _ _ ((s1.trans s13).trans (same_upd nt)) ?_⟩
      have := Post.new (κ := κ) (H' := upd H3 t (.lst (cutV ys l h))) g.ok.trk ((s1.trans s13).free nt) upd_same ((cutV_R h2 l h).mono (same_hidC nt)) hκ
      exact this
    · cases (Option.some.inj hf)
      obtain ⟨p, ys, rfl, h1, h1', h2⟩ := p1.tup
      refine .inr ⟨p, ys, rfl, h1, fun hw => ?_, fun _ t nt => ?_⟩
      · have e : ∀ {ds : List D}, ds.length = ys.length → cutD ds l h = ds := fun {ds} e => by
          unfold cutD
          rw [e, hw.1, hw.2, List.drop_zero, Nat.sub_zero, ← e, List.take_length]
        rw [e h2.length.symm] at q
        exact q _ _ (s1.trans s13) (Post.of_flat (.tup h1' h2) rfl)
      · have s := same_upd (o := HO.tup (cutV ys l h)) nt
        refine q _ _ ((s1.trans s13).trans s) (Post.of_flat (.tup (a := t) (xs := cutV ys l h) ?_ ((cutV_R h2 l h).mono (same_hid s))) rfl)
        rw [hid_out (ok.trk.new nt), upd_same]
    · cases hf
  · cases hf
end
end DS
end

section
set_option Elab.async false
set_option linter.all false
set_option maxRecDepth 100000
/-! Part f: targets, what is walked, comprehensions. -/
namespace DS
open PySem PySem.Spec PyProof.Rows L2

/-! ### targets: names and tuples of them -/
inductive Tg where
  | nm (i : Nat)
  | tp (ts : List Tg)
mutual
def Tg.go : Tg → D → Option (List (Nat × D))
  | .nm i, d => some [(i, d)]
  | .tp ts, .tuple ds => Tg.gos ts ds
  | .tp _, _ => none
def Tg.gos : List Tg → List D → Option (List (Nat × D))
  | [], [] => some []
  | t :: ts, d :: ds => match Tg.go t d, Tg.gos ts ds with
    | some l, some m => some (l ++ m)
    | _, _ => none
  | _, _ => none
end
mutual
def Tg.ix : Tg → List Nat
  | .nm i => [i]
  | .tp ts => Tg.ixs ts
def Tg.ixs : List Tg → List Nat
  | [] => []
  | t :: ts => Tg.ix t ++ Tg.ixs ts
end
mutual
theorem Tg.go_ix : ∀ {t : Tg} {d : D} {l : List (Nat × D)}, t.go d = some l → l.map (·.1) = t.ix
  | .nm i, d, l, h => by
    unfold Tg.go at h
    cases (Option.some.inj h); rfl
  | .tp ts, .tuple ds, l, h => by
    unfold Tg.go at h
    unfold Tg.ix
    exact Tg.gos_ix h
  | .tp ts, .none, l, h => by unfold Tg.go at h; cases h
  | .tp ts, .bool _, l, h => by unfold Tg.go at h; cases h
  | .tp ts, .int _, l, h => by unfold Tg.go at h; cases h
  | .tp ts, .str _, l, h => by unfold Tg.go at h; cases h
  | .tp ts, .list _, l, h => by unfold Tg.go at h; cases h
  | .tp ts, .dict _, l, h => by unfold Tg.go at h; cases h
theorem Tg.gos_ix : ∀ {t : List Tg} {d : List D} {l : List (Nat × D)}, Tg.gos t d = some l → l.map (·.1) = Tg.ixs t
  | [], [], l, h => by
    unfold Tg.gos at h
    cases (Option.some.inj h); rfl
  | t :: ts, d :: ds, l, h => by
    unfold Tg.gos at h
    split at h
    · rename_i l1 l2 h1 h2
      cases (Option.some.inj h)
      unfold Tg.ixs
      rw [List.map_append, Tg.go_ix h1, Tg.gos_ix h2]
    · cases h
  | [], _ :: _, l, h => by unfold Tg.gos at h; cases h
  | _ :: _, [], l, h => by unfold Tg.gos at h; cases h
end
def setsV (σ : St) (l : List (Nat × V)) : St := l.foldl (fun s p => s.set p.1 (some p.2)) σ
def setsD (ρ : PEnv) (l : List (Nat × D)) : PEnv := l.foldl (fun s p => s.set p.1 (some p.2)) ρ
inductive RS (K : PySem.W.Frag) (H : Hp) : List (Nat × V) → List (Nat × D) → Prop
  | nil : RS K H [] []
  | cons {i : Nat} {v : V} {d : D} {l : List (Nat × V)} {m : List (Nat × D)} : R K H v d → RS K H l m → RS K H ((i, v) :: l) ((i, d) :: m)
theorem RS.append {K : PySem.W.Frag} {H : Hp} : ∀ {l l' : List (Nat × V)} {m m' : List (Nat × D)}, RS K H l m → RS K H l' m' → RS K H (l ++ l') (m ++ m')
  | _, _, _, _, .nil, q => q
  | _, _, _, _, .cons h t, q => .cons h (RS.append t q)
theorem RS.ix {K : PySem.W.Frag} {H : Hp} : ∀ {l : List (Nat × V)} {m : List (Nat × D)}, RS K H l m → l.map (·.1) = m.map (·.1)
  | _, _, .nil => rfl
  | _, _, .cons _ t => by rw [List.map_cons, List.map_cons, RS.ix t]
theorem setsV_append (σ : St) (l m : List (Nat × V)) : setsV σ (l ++ m) = setsV (setsV σ l) m := by
  unfold setsV; rw [List.foldl_append]
/-- the reading of a target -/
def tG (K : PySem.W.Frag) (t : Tg) : TG := fun v σ H Q => ∃ B d l, R K (hid B H) v d ∧ t.go d = some l ∧ ∀ m, RS K (hid B H) m l → Q (setsV σ m) H
def tGs (K : PySem.W.Frag) (ts : List Tg) : TGs := fun vs σ H Q => ∃ B ds l, RA K (hid B H) vs ds ∧ Tg.gos ts ds = some l ∧ ∀ m, RS K (hid B H) m l → Q (setsV σ m) H
theorem _root_.L2.PG.imp {X : Cx} {e : Expr} {t t' : TG} (h : PG X e t) (w : ∀ v σ H Q, t' v σ H Q → t v σ H Q) : PG X e t' := ⟨fun pins s σ H v u Q I r q => h.run pins s σ H v u Q I r (w v σ H Q q)⟩
theorem _root_.L2.PGs.imp {X : Cx} {e : List Expr} {t t' : TGs} (h : PGs X e t) (w : ∀ v σ H Q, t' v σ H Q → t v σ H Q) : PGs X e t' := ⟨fun pins s σ H v u Q I r q => h.run pins s σ H v u Q I r (w v σ H Q q)⟩
section
variable {X : Cx} {K : PySem.W.Frag} {pos : Pos}
theorem gg_of {e : Expr} {i : Nat} (h : PG X e (gName i)) : PG X e (tG K (.nm i)) := h.imp fun v σ H Q ⟨B, d, l, h1, h2, q⟩ => by
  unfold Tg.go at h2
  cases (Option.some.inj h2)
  exact q [(i, v)] (.cons h1 .nil)
theorem gg (i : Nat) {x : Str} (hN : X.N.Nodup) (hi : X.N[i]? = some x := by rfl) (hx : Loc X.env.scope x := by first | exact Or.inl rfl | exact Or.inr rfl) (hf : X.fn x = true ∨ X.env.scope.names.lookup x = some .local := by first | exact .inl rfl | exact .inr rfl) : PG X (.Name x pos) (tG K (.nm i)) := gg_of (pg_name hN hi hx hf)
theorem ggs_nil : PGs X [] (tGs K []) := pgs_nil.imp fun v σ H Q ⟨B, ds, l, h1, h2, q⟩ => by
  cases ds with
  | nil =>
    cases h1
    unfold Tg.gos at h2
    cases (Option.some.inj h2)
    exact ⟨rfl, q [] .nil⟩
  | cons _ _ => unfold Tg.gos at h2; cases h2
theorem ggs_cons {e : Expr} {es : List Expr} {t : Tg} {ts : List Tg} (h : PG X e (tG K t)) (hs : PGs X es (tGs K ts)) (he : (assignEach (e :: es) X.env).map (·.2) = assign e X.env :: (assignEach es X.env).map (·.2) := by rfl) : PGs X (e :: es) (tGs K (t :: ts)) :=
  (pgs_cons h hs he).imp fun v σ H Q ⟨B, ds, l, h1, h2, q⟩ => by
  cases ds with
  | nil => unfold Tg.gos at h2; cases h2
  | cons d ds =>
    cases h1 with
    | cons r rs =>
      unfold Tg.gos at h2
      split at h2
      · rename_i l1 l2 e1 e2
        cases (Option.some.inj h2)
        exact ⟨_, _, rfl, B, d, l1, r, e1, fun m hm => ⟨B, ds, l2, rs, e2, fun m2 hm2 => by
          rw [← setsV_append]
          exact q _ (hm.append hm2)⟩⟩
      · cases h2
theorem Tg.gos_len : ∀ {ts : List Tg} {ds : List D} {l : List (Nat × D)}, Tg.gos ts ds = some l → ts.length = ds.length
  | [], [], _, _ => rfl
  | t :: ts, d :: ds, l, h => by
    unfold Tg.gos at h
    split at h
    · rename_i h2
      rw [List.length_cons, List.length_cons, Tg.gos_len h2]
    · cases h
  | [], _ :: _, l, h => by unfold Tg.gos at h; cases h
  | _ :: _, [], l, h => by unfold Tg.gos at h; cases h
theorem gg_tup {es : List Expr} {k : Nat} {ts : List Tg} (hc : X.calm = true) (h : PGs X es (tGs K ts)) (hX : X.K = K := by rfl)
    (hn : (assignEach es X.env).length = ts.length := by rfl) (hst : (assignEach es X.env).findIdx? (·.1) = none := by rfl) : PG X (.Tuple es k pos) (tG K (.tp ts)) := by
  subst hX
  refine (pg_tup hc h hn hst).imp fun v σ H Q ⟨B, d, l, h1, h2, q⟩ => ?_
  cases d with
  | tuple ds =>
    unfold Tg.go at h2
    cases h1 with
    | tup e1 e2 => exact ⟨_, _, rfl, seqT_mono same_unhid (.inl (.inl e1)), by rw [e2.length, Tg.gos_len h2], B, ds, l, e2, h2, q⟩
  | _ => unfold Tg.go at h2; cases h2
end

/-! ### what is walked -/
/-- while G stands, J gives the trees ds one by one, none of which leans on what B hides -/
structure Walks (K : PySem.W.Frag) (G : Hp) (B : List Addr) (J : It) (ds : List D) : Prop where
  go : ∀ i H, i < ds.length → Same G H → J.go i H
  stop : ∀ H, Same G H → J.stop ds.length H
  yld : ∀ i H x H' d, ds[i]? = some d → Same G H → J.yld i H x H' → Same H H' ∧ ∀ B', Ok B' H → (∀ a ∈ B', (a ∈ B ∨ G a = none) ∧ H a ≠ none) → R K (hid B' H') x d
/-- m = 0: what is walked leans on nothing hidden; m = 1: a list that is walked may itself be hidden -/
def gOf (m : Nat) (B : List Addr) (H : Hp) : Hp := match m with
  | 0 => hid B H
  | _ => H
def tI (K : PySem.W.Frag) (m : Nat) (f : FA) (c : Esc) : TI := fun σ H Rr => ∃ B L ρ ds, Good K B L σ H ρ ∧ EscOk c L ∧ f ρ = some ds ∧ ∀ J H1, Same H H1 → Walks K (gOf m B H1) B J ds → Rr J H1
theorem gOf_unhid {m : Nat} {B : List Addr} {H : Hp} : Same (gOf m B H) H := by
  cases m with
  | zero => exact same_unhid
  | succ m => exact Same.refl H
theorem same_gOf {m : Nat} {B : List Addr} {H : Hp} : Same (hid B H) (gOf m B H) := by
  cases m with
  | zero => exact Same.refl _
  | succ m => exact same_unhid
theorem gOf_none {m : Nat} {B : List Addr} {H : Hp} {a : Addr} (h : gOf m B H a = none) : a ∈ B ∨ H a = none := by
  cases m with
  | zero =>
    by_cases hb : a ∈ B
    · exact .inl hb
    · exact .inr (by
        have h' : hid B H a = none := h
        rw [hid_out hb] at h'; exact h')
  | succ m => exact .inr h
/-- a tree of what is below B, later -/
theorem keepR {m : Nat} {B B' : List Addr} {H1 H H' : Hp} (s : Same (gOf m B H1) H) (s' : Same H H') (h : ∀ a ∈ B', (a ∈ B ∨ gOf m B H1 a = none) ∧ H a ≠ none) : Same (hid B H1) (hid B' H') := fun b o q => by
  obtain ⟨q1, q2⟩ := hid_some q
  have q3 : gOf m B H1 b = some o := same_gOf b o q
  rw [hid_out fun z => ?_]
  · exact s' _ _ (s _ _ q3)
  · rcases (h b z).1 with z | z
    · exact q1 z
    · rw [q3] at z; cases z
section
variable {X : Cx} {K : PySem.W.Frag} {pos p tpos : Pos} {tg e : Expr} {f : FE} {c : Esc} {m : Nat}
def seqOf : D → Option (List D)
  | .list ds => some ds
  | .tuple ds => some ds
  | _ => none
def iSeq (f : FE) : FA := fun ρ => o1 (f ρ) seqOf
theorem RL.listG {B : List Addr} {H : Hp} {v : V} {ds : List D} (hm : m ≤ 1) (h : RL K B H m v (.list ds)) : ∃ a xs, v = .ref a ∧ gOf m B H a = some (.lst xs) ∧ RA K (hid B H) xs ds := by
  match m, hm with
  | 0, _ =>
    have := h.r
    cases this with
    | lst h1 h2 => exact ⟨_, _, rfl, h1, h2⟩
  | 1, _ => exact h.list1
theorem walks_list {B : List Addr} {H1 : Hp} {a : Addr} {xs : List V} {ds : List D} (h1 : gOf m B H1 a = some (.lst xs)) (h2 : RA K (hid B H1) xs ds) : Walks K (gOf m B H1) B (Itl K a) ds where
  go := fun i H hi s => ⟨xs, xs[i]'(by rw [h2.length]; exact hi), SqL.of (s _ _ h1), by simp⟩
  stop := fun H s => ⟨xs, SqL.of (s _ _ h1), by rw [h2.length]; exact Nat.le_refl _⟩
  yld := fun i H x H' d hd s y => by
    obtain ⟨e, y⟩ := y
    subst e
    obtain ⟨z, e1, r⟩ := h2.get hd
    have e2 := y xs (SqL.of (s _ _ h1))
    rw [e1] at e2
    cases (Option.some.inj e2)
    exact ⟨Same.refl _, fun B' _ hb => r.mono (keepR s (Same.refl _) hb)⟩
theorem walks_tup {B : List Addr} {H1 : Hp} {a : Addr} {xs : List V} {ds : List D} (h1 : SqT K (hid B H1) a xs) (h2 : RA K (hid B H1) xs ds) : Walks K (gOf m B H1) B (Itt K a) ds where
  go := fun i H hi s => ⟨xs, xs[i]'(by rw [h2.length]; exact hi), seqT_mono s (seqT_mono same_gOf h1), by simp⟩
  stop := fun H s => ⟨xs, seqT_mono s (seqT_mono same_gOf h1), by rw [h2.length]; exact Nat.le_refl _⟩
  yld := fun i H x H' d hd s y => by
    obtain ⟨e, y⟩ := y
    subst e
    obtain ⟨z, e1, r⟩ := h2.get hd
    have e2 := y xs (seqT_mono s (seqT_mono same_gOf h1))
    rw [e1] at e2
    cases (Option.some.inj e2)
    exact ⟨Same.refl _, fun B' _ hb => r.mono (keepR s (Same.refl _) hb)⟩
/-- a list or a tuple walked -/
def iLT (K : PySem.W.Frag) (tl : TE) : TI := fun σ H R => tl σ H fun x H1 => ∃ a, x = .ref a ∧ ((∃ xs, SqL K H1 a xs ∧ R (Itl K a) H1) ∨ (∃ xs, SqT K H1 a xs ∧ R (Itt K a) H1))
theorem pi_lt {l : Expr} {tl : TE} (hl : PE X l tl) : PI X tg l (iLT X.K tl) := by
  refine ⟨fun pins s σ H R I h => ?_⟩
  refine thn (hl.run pins s σ H _ I h) fun v s1 ⟨x, H1, I1, r1, q1⟩ => ?_
  obtain ⟨a, e, q⟩ := q1
  subst e
  cases r1
  rcases q with ⟨xs, hq, q⟩ | ⟨xs, hq, q⟩
  · obtain ⟨its, rv, p, hz⟩ := I1.list hq
    refine wpAny_pyIter_list p.isList ?_
    refine ⟨s1.heap.objs.size, [s1.heap.objs.size], _, _, H1, rfl, I1.kept (t' := s1.toks) fun b o e => Heap.get?_push_of_some _ e, turn_list a _, ⟨_, Heap.get?_push_size _ rfl, rfl, rfl⟩, fun b hb => ?_, q⟩
    have e : b = s1.heap.objs.size := by simpa using hb
    subst e
    exact I1.fpOk (Nat.le_refl _) (I1.hok.fresh (Nat.le_refl _))
  · obtain ⟨its, rv, p, hz⟩ := I1.tuple hq
    refine wpAny_pyIter_tuple (show s1.heap.IsTuple a its.toArray from p) ?_
    refine ⟨s1.heap.objs.size, [s1.heap.objs.size], _, _, H1, rfl, I1.kept (t' := s1.toks) fun b o e => Heap.get?_push_of_some _ e, turn_tuple a _, ⟨_, Heap.get?_push_size _ rfl, rfl, rfl⟩, fun b hb => ?_, q⟩
    have e : b = s1.heap.objs.size := by simpa using hb
    subst e
    exact I1.fpOk (Nat.le_refl _) (I1.hok.fresh (Nat.le_refl _))
theorem qi_seq (h : PE X e (tD K (.br m) f c)) (hm : m ≤ 1 := by decide) (hX : X.K = K := by rfl) : PI X tg e (tI K m (iSeq f) c) := by
  subst hX
  refine (pi_lt h).imp fun σ H Rr ⟨B, L, ρ, ds, g, es, hf, q⟩ => ?_
  obtain ⟨d, h1, h2⟩ := o1_some hf
  refine ⟨B, L, ρ, d, g, es, h1, fun v H1 s1 p1 => ?_⟩
  unfold seqOf at h2
  split at h2
  · cases (Option.some.inj h2)
    obtain ⟨a, xs, rfl, e1, e2⟩ := RL.listG hm p1
    exact ⟨a, rfl, .inl ⟨xs, SqL.of (gOf_unhid _ _ e1), q _ H1 s1 (walks_list e1 e2)⟩⟩
  · cases (Option.some.inj h2)
    obtain ⟨a, xs, rfl, e1, e1', e2⟩ := RL.tup p1
    exact ⟨a, rfl, .inr ⟨xs, e1, q _ H1 s1 (walks_tup (.inl (.inl e1')) e2)⟩⟩
  · cases h2
/-! ranges -/
def rngD (lo : Int) (n : Nat) : List D := (List.range n).map fun (i : Nat) => .int (lo + (i : Int))
theorem walks_rng {G : Hp} {B : List Addr} {lo : Int} {n : Nat} : Walks K G B (Itr lo n) (rngD lo n) where
  go := fun i H hi s => show i < n from by simpa [rngD] using hi
  stop := fun H s => by
    show n ≤ (rngD lo n).length
    simp [rngD]
  yld := fun i H x H' d hd s y => by
    obtain ⟨e, y⟩ := y
    subst e y
    refine ⟨Same.refl _, fun B' _ hb => ?_⟩
    have hi : i < n := by
      have := (List.getElem?_eq_some_iff.mp hd).1
      simpa [rngD] using this
    have : d = .int (lo + i) := by
      unfold rngD at hd
      rw [List.getElem?_map, List.getElem?_range hi] at hd
      exact (Option.some.inj hd).symm
    rw [this]
    exact .int _
def rngOk (lo hi : Int) : Bool := decide (-4611686018427387904 ≤ lo) && decide (lo < 4611686018427387904) && decide (-4611686018427387904 ≤ hi) && decide (hi < 4611686018427387904)
def iRange1 (f : FE) : FA := fun ρ => o1 (f ρ) fun d => match d with
  | .int j => if rngOk 0 j = true then some (rngD 0 j.toNat) else none
  | _ => none
def iRange2 (f g : FE) : FA := fun ρ => o2 (f ρ) (g ρ) fun d e => match d, e with
  | .int i, .int j => if rngOk i j = true then some (rngD i (j - i).toNat) else none
  | _, _ => none
theorem rngOk_ok {lo hi : Int} (h : rngOk lo hi = true) : -(2 ^ 62) ≤ lo ∧ lo < 2 ^ 62 ∧ -(2 ^ 62) ≤ hi ∧ hi < 2 ^ 62 := by
  unfold rngOk at h
  simp only [Bool.and_eq_true, decide_eq_true_eq] at h
  omega
theorem qi_range1 {a : Expr} (hg : Gl X "range") (hm : X.mg "range" = none) (ha : PE X a (tD K (.br 1) f c)) (hs : starEach [a] X.env = (false, eval a X.env) :: starEach [] X.env := by rfl) : PI X tg (.Call (.Name "range" p) [a] [] pos) (tI K m (iRange1 f) []) := by
  refine (pi_range1 hg hm (pa_cons ha pa_nil hs) hs).imp fun σ H Rr ⟨B, L, ρ, ds, g, es, hf, q⟩ => ?_
  obtain ⟨d, h1, h2⟩ := o1_some hf
  split at h2
  · obtain ⟨k, rfl⟩ := ite_some h2
    have k := rngOk_ok k
    refine ⟨[], _, ρ, _, g.zero, .zero, h1, fun v H1 s1 p1 => ?_⟩
    exact ⟨_, by rw [RL.int p1], k.2.2.1, k.2.2.2, q _ H1 s1 walks_rng⟩
  · cases h2
theorem qi_range2 {a b : Expr} {f2 : FE} {c2 : Esc} (hg : Gl X "range") (hm : X.mg "range" = none) (ha : PE X a (tD K (.br 1) f c)) (hb : PE X b (tD K (.br 1) f2 c2)) (hs : starEach [a, b] X.env = [(false, eval a X.env), (false, eval b X.env)] := by rfl) (hs2 : starEach [b] X.env = [(false, eval b X.env)] := by rfl) :
    PI X tg (.Call (.Name "range" p) [a, b] [] pos) (tI K m (iRange2 f f2) []) := by
  refine (pi_range2 hg hm (pa_cons ha (pa_cons hb pa_nil hs2) (by rw [hs, hs2])) hs hs2).imp fun σ H Rr ⟨B, L, ρ, ds, g, es, hf, q⟩ => ?_
  obtain ⟨d, d', h1, h1', h2⟩ := o2_some hf
  split at h2
  · obtain ⟨k, rfl⟩ := ite_some h2
    have k := rngOk_ok k
    refine ⟨[], _, ρ, _, g.zero, .zero, h1, fun v H1 s1 p1 => ⟨[], _, ρ, _, (g.mono s1).zero, .zero, h1', fun w H2 s2 p2 => ?_⟩⟩
    exact ⟨_, _, by rw [RL.int p1, RL.int p2], ⟨k.1, k.2.1, k.2.2.1, k.2.2.2⟩, q _ H2 (s1.trans s2) walks_rng⟩
  · cases h2
end

/-! ### comprehensions of one clause -/
def wipeD (ρ : PEnv) : List Nat → PEnv
  | [] => ρ
  | v :: vs => (wipeD ρ vs).set v none
/-- the list that a comprehension makes -/
def lcGo (t : Tg) (ft : FT) (fe : FE) (ρ : PEnv) : List D → Option (List D)
  | [] => some []
  | d :: ds => match t.go d with
    | none => none
    | some l => match ft (setsD ρ l) with
      | none => none
      | some false => lcGo t ft fe ρ ds
      | some true => match fe (setsD ρ l) with
        | none => none
        | some y => match lcGo t ft fe ρ ds with
          | none => none
          | some ys => some (y :: ys)
def eLc (fi : FA) (t : Tg) (ft : FT) (fe : FE) (vs : List Nat) : FE := fun ρ => o1 (fi ρ) fun ds => if ds.length ≤ sz then o1 (lcGo t ft fe (wipeD ρ vs) ds) fun ys => some (.list ys) else none
section
variable {X : Cx} {K : PySem.W.Frag} {κ : Mo}
theorem wipeD_length (ρ : PEnv) : ∀ vs : List Nat, (wipeD ρ vs).length = ρ.length
  | [] => rfl
  | v :: vs => by unfold wipeD; rw [List.length_set, wipeD_length ρ vs]
theorem wipe_get {σ : St} {ρ : PEnv} (hl : σ.length = ρ.length) : ∀ {vs : List Nat} {i : Nat} {d : D}, (wipeD ρ vs)[i]? = some (some d) → ρ[i]? = some (some d) ∧ ∀ v : V, σ[i]? = some (some v) → (wipe σ vs)[i]? = some (some v)
  | [], i, d, h => ⟨h, fun v e => e⟩
  | w :: vs, i, d, h => by
    unfold wipeD at h
    by_cases hi : w = i
    · subst hi
      by_cases hv : w < (wipeD ρ vs).length
      · rw [List.getElem?_set_self hv] at h; cases h
      · rw [List.getElem?_eq_none (by simpa using hv)] at h; cases h
    · rw [List.getElem?_set_ne hi] at h
      obtain ⟨h1, h2⟩ := wipe_get hl h
      refine ⟨h1, fun v e => ?_⟩
      unfold wipe
      rw [List.getElem?_set_ne hi]
      exact h2 v e
theorem Good.wipe {B : List Addr} {L : Nat → Nat} {σ : St} {H : Hp} {ρ : PEnv} (g : Good K B L σ H ρ) (vs : List Nat) : Good K B L (wipe σ vs) H (wipeD ρ vs) :=
  ⟨g.ok, by rw [wipe_length, wipeD_length, g.len], fun i d h => by
    obtain ⟨h1, h2⟩ := wipe_get g.len h
    obtain ⟨v, e, r⟩ := g.slot i d h1
    exact ⟨v, h2 v e, r⟩⟩
theorem Good.set {B : List Addr} {L : Nat → Nat} {σ : St} {H : Hp} {ρ : PEnv} {i : Nat} {v : V} {d : D} (g : Good K B L σ H ρ) (r : R K (hid B H) v d) : Good K B L (σ.set i (some v)) H (ρ.set i (some d)) :=
  ⟨g.ok, by rw [List.length_set, List.length_set, g.len], fun j e h => by
    by_cases hj : i = j
    · subst hj
      have hi : i < ρ.length := by
        have := (List.getElem?_eq_some_iff.mp h).1
        simpa using this
      rw [List.getElem?_set_self hi] at h
      cases h
      exact ⟨v, List.getElem?_set_self (by rw [g.len]; exact hi), .z r⟩
    · rw [List.getElem?_set_ne hj] at h ⊢
      exact g.slot j e h⟩
theorem Good.sets {B : List Addr} {L : Nat → Nat} {H : Hp} : ∀ {m : List (Nat × V)} {l : List (Nat × D)} {σ : St} {ρ : PEnv}, Good K B L σ H ρ → RS K (hid B H) m l → Good K B L (setsV σ m) H (setsD ρ l)
  | [], [], σ, ρ, g, .nil => g
  | (i, v) :: m, (_, d) :: l, σ, ρ, g, .cons r t => Good.sets (m := m) (l := l) (σ := σ.set i (some v)) (ρ := ρ.set i (some d)) (Good.set g r) t
theorem wipe_set {σ : St} {i : Nat} {x : Option V} : ∀ {vs : List Nat}, i ∈ vs → wipe (σ.set i x) vs = wipe σ vs
  | [], h => by simp at h
  | v :: vs, h => by
    unfold wipe
    by_cases hv : i ∈ vs
    · rw [wipe_set hv]
    · have e : i = v := by
        rcases List.mem_cons.mp h with e | h
        · exact e
        · exact absurd h hv
      subst e
      have : ∀ ws : List Nat, i ∉ ws → wipe (σ.set i x) ws = (wipe σ ws).set i x := by
        intro ws
        induction ws with
        | nil => intro _; rfl
        | cons w ws ih =>
          intro hn
          unfold wipe
          rw [ih (fun z => hn (List.mem_cons_of_mem _ z)), List.set_comm _ _ (fun z => hn (by rw [z]; exact List.mem_cons_self))]
      rw [this vs hv, List.set_set]
theorem wipe_sets : ∀ {m : List (Nat × V)} {σ : St} {vs : List Nat}, (∀ i ∈ m.map (·.1), i ∈ vs) → wipe (setsV σ m) vs = wipe σ vs
  | [], σ, vs, _ => rfl
  | (i, v) :: m, σ, vs, h => by
    show wipe (setsV (σ.set i (some v)) m) vs = _
    rw [wipe_sets fun j hj => h j (List.mem_cons_of_mem _ hj), wipe_set (h i List.mem_cons_self)]
theorem wipe_wipe (σ : St) : ∀ vs : List Nat, (∀ i ∈ vs, (wipe σ vs)[i]? = some none ∨ (wipe σ vs)[i]? = none) := fun vs i hi => by
  cases h : (wipe σ vs)[i]? with
  | none => exact .inr rfl
  | some x =>
    cases x with
    | none => exact .inl rfl
    | some v => exact absurd hi (wipe_some h).2
theorem wipe_idem {σ : St} {vs : List Nat} : ∀ ws : List Nat, (∀ i ∈ ws, i ∈ vs) → wipe (wipe σ vs) ws = wipe σ vs
  | [], _ => rfl
  | w :: ws, h => by
    show (L2.wipe (L2.wipe σ vs) ws).set w none = L2.wipe σ vs
    rw [wipe_idem ws fun i hi => h i (List.mem_cons_of_mem _ hi)]
    have hw := wipe_wipe σ vs w (h w List.mem_cons_self)
    apply List.ext_getElem?
    intro j
    by_cases hj : w = j
    · subst hj
      by_cases hl : w < (L2.wipe σ vs).length
      · rw [List.getElem?_set_self hl]
        rcases hw with e | e
        · exact e.symm
        · rw [List.getElem?_eq_getElem hl] at e; cases e
      · rw [List.getElem?_eq_none (by simpa using hl), List.getElem?_eq_none (by simpa using hl)]
    · rw [List.getElem?_set_ne hj]
/-- the reading of a comprehension -/
theorem lc_core {m : Nat} {fi : FA} {ci : Esc} {t : Tg} {ft : FT} {fe : FE} {ce : Esc} {vs : List Nat} {ti : TI} (hm : m = 1) (hv : t.ix.all (vs.contains ·) = true) (hκ : κ.one = true) :
    ∀ σ H Q B L ρ d, Good K B L σ H ρ → EscOk (ci ++ ce) L → eLc fi t ft fe vs ρ = some d → (∀ v H', Same H H' → Post K B H H' κ v d → Q v H') →
      (∀ ds Rr, fi ρ = some ds → (∀ J H1, Same H H1 → Walks K (gOf m B H1) B J ds → Rr J H1) → ti σ H Rr) → tLc ti (tG K t) (tT K ft) (tD K (.br 0) fe ce) vs σ H Q := by
  intro σ H Q B L ρ d g es hf q hti
  obtain ⟨ds, h1, h2⟩ := o1_some hf
  have hz : ds.length ≤ sz := by
    split at h2
    · assumption
    · cases h2
  rw [if_pos hz] at h2
  obtain ⟨ys, h3, h4⟩ := o1_some h2
  cases (Option.some.inj h4)
  refine hti ds _ h1 fun J H1 s1 wk D hD => ?_
  subst hm
  have hixs : ∀ {l : List (Nat × PyData)} {mm : List (Nat × V)} {d : PyData} {B' : List Addr} {Hh : Hp}, t.go d = some l → RS K (hid B' Hh) mm l → ∀ i ∈ mm.map (·.1), i ∈ vs := fun {l mm d B' Hh} e rs i hi => by
    rw [rs.ix, Tg.go_ix e] at hi
    have := List.all_eq_true.mp hv i hi
    simpa using this
  -- what holds behind i turns
  let W : Nat → Nat → Hp → Prop := fun i n H' => n = ds.length - i ∧ i ≤ ds.length ∧ Same H1 H' ∧ ∃ acc done rest, H' D = some (.lst acc) ∧ RA K (hid (D :: B) H') acc done ∧ acc.length ≤ i ∧ lcGo t ft fe (wipeD ρ vs) (ds.drop i) = some rest ∧ done ++ rest = ys
  refine ⟨W, ⟨ds.length, by simp, Nat.zero_le _, same_upd hD, [], [], ys, upd_same, .nil, Nat.le_refl _, by simpa using h3, rfl⟩, ?_⟩
  rintro i n H' ⟨rfl, hi, s', acc, done, rest, hacc, racc, hlen, hgo, hys⟩
  have okB : Ok (D :: B) H' := ((g.ok.mono s1).mono s').cons hacc rfl
  have gd : Good K (D :: B) L σ H' ρ := by
    refine ⟨okB, g.len, fun j e h => ?_⟩
    obtain ⟨v, e1, r⟩ := g.slot j e h
    refine ⟨v, e1, ((r.mono s1 (same_hid s1)).mono s' (same_hidW s' fun a ha => ?_))⟩
    rcases List.mem_cons.mp ha with z | z
    · rw [z]; exact .inr hD
    · exact .inl z
  by_cases hlt : i < ds.length
  · refine .inr ⟨wk.go i H' hlt s', fun H'' => W (i + 1) (ds.length - (i + 1)) H'', fun H'' w => ⟨_, by omega, w⟩, fun x H2 y => ?_⟩
    have hd : ds[i]? = some ds[i] := List.getElem?_eq_getElem hlt
    obtain ⟨s2, rx⟩ := wk.yld i H' x H2 _ hd s' y
    have rx := rx (D :: B) okB fun a ha => by
      refine ⟨?_, okB.trk a ha⟩
      rcases List.mem_cons.mp ha with z | z
      · rw [z]; exact .inr hD
      · exact .inl z
    rw [List.drop_eq_getElem_cons hlt] at hgo
    unfold lcGo at hgo
    have hacc2 := s2 _ _ hacc
    have racc2 := racc.mono (same_hid (B := D :: B) s2)
    split at hgo
    · cases hgo
    · rename_i l hl
      refine ⟨D :: B, _, l, rx, hl, fun mm rs => ⟨?_, ?_⟩⟩
      · rw [wipe_sets (hixs hl rs)]
        exact wipe_idem vs fun _ h => h
      · have gs : Good K (D :: B) L (setsV (wipe σ vs) mm) H2 (setsD (wipeD ρ vs) l) := ((gd.mono s2).wipe vs).sets rs
        split at hgo
        · cases hgo
        · rename_i hft
          refine ⟨D :: B, L, _, false, gs, hft, fun H3 s3 => ?_⟩
          refine iteF ?_
          exact ⟨rfl, hlt, (s'.trans s2).trans s3, acc, done, rest, s3 _ _ hacc2, racc2.mono (same_hid s3), by omega, hgo, hys⟩
        · rename_i hft
          split at hgo
          · cases hgo
          · rename_i yv hfe
            split at hgo
            · cases hgo
            · rename_i ys' hrest
              cases (Option.some.inj hgo)
              refine ⟨D :: B, L, _, true, gs, hft, fun H3 s3 => ?_⟩
              refine iteT ?_
              refine ⟨D :: B, L, _, yv, gs.mono s3, es.right, hfe, fun v H4 s4 p4 => ?_⟩
              have s34 := s3.trans s4
              have hacc4 := s34 _ _ hacc2
              have su : Same (hid (D :: B) H4) (hid (D :: B) (upd H4 D (.lst (acc ++ [v])))) := fun b o e => by
                obtain ⟨e1, e2⟩ := hid_some e
                rw [hid_out e1, upd_ne fun z => e1 (by rw [z]; exact List.mem_cons_self)]
                exact e2
              refine ⟨acc, hacc4, by rw [sz_eq]; omega, rfl, hlt, fun b o e => ?_, acc ++ [v], done ++ [yv], ys', upd_same, ((racc2.mono (same_hid s34)).append (.cons (RL.r p4) .nil)).mono su, by simp; omega, hrest, by rw [List.append_assoc]; exact hys⟩
              have hb : b ≠ D := ne_of_none e hD
              rw [upd_ne hb]
              exact ((s'.trans s2).trans s34) _ _ e
  · have e : i = ds.length := by omega
    subst e
    refine .inl ⟨wk.stop H' s', ?_⟩
    rw [List.drop_length] at hgo
    unfold lcGo at hgo
    cases (Option.some.inj hgo)
    rw [List.append_nil] at hys
    subst hys
    refine q _ H' (s1.trans s') (Post.new g.ok.trk (s1.free hD) hacc racc hκ)
theorem lc_ok {m : Nat} {fi : FA} {ci : Esc} {t : Tg} {ft : FT} {fe : FE} {ce : Esc} {vs : List Nat} (hm : m = 1) (hv : t.ix.all (vs.contains ·) = true) (hκ : κ.one = true) :
    ∀ σ H Q, tD K κ (eLc fi t ft fe vs) (ci ++ ce) σ H Q → tLc (tI K m fi ci) (tG K t) (tT K ft) (tD K (.br 0) fe ce) vs σ H Q := by
  intro σ H Q ⟨B, L, ρ, d, g, es, hf, q⟩
  exact lc_core hm hv hκ σ H Q B L ρ d g es hf q fun ds Rr h1 hR => ⟨B, L, ρ, ds, g, es.left, h1, hR⟩
theorem qe_lc {elt tg iter : Expr} {ifs : List Expr} {scope : Scope} {own : List (Str × Nat)} {pos : Pos} {fi : FA} {ci ce : Esc} {t : Tg} {ft : FT} {fe : FE} (hc : X.calm = true) (hN : X.N.Nodup) (hi : PI X tg iter (tI K 1 fi ci)) (ok : BlkOk X.N X.env.scope scope own)
    (hg : ∀ (s : Shared) (H : Hp) (C : Addr) (cl : List (Str × Addr)) (fp : List Addr), PG (X.blk s H scope (compEnvC scope cl C X.env) fp) tg (tG K t)) (ht : ∀ (s : Shared) (H : Hp) (C : Addr) (cl : List (Str × Addr)) (fp : List Addr), PTs (X.blk s H scope (compEnvC scope cl C X.env) fp) ifs (tT K ft))
    (he : ∀ (s : Shared) (H : Hp) (C : Addr) (cl : List (Str × Addr)) (fp : List Addr), PE (X.blk s H scope (compEnvC scope cl C X.env) fp) elt (tD K (.br 0) fe ce)) (hv : t.ix.all ((own.map (·.2)).contains ·) = true := by rfl) (hκ : κ.one = true := by rfl) (hs : ∀ x, foldedSetIterable iter X.env x = pure x := by intro _; rfl) :
    PE X (.ListComp elt [⟨tg, iter, ifs, 0⟩] scope pos) (tD K κ (eLc fi t ft fe (own.map (·.2))) (ci ++ ce)) := (pe_lc hc hN hi ok hg ht he hs).imp (lc_ok rfl hv hκ)
def tTrue : FT := fun _ => some true
theorem qts_nil : PTs X [] (tT K tTrue) := ⟨fun pins s σ H Q I ⟨B, L, ρ, b, g, h, q⟩ => pts_nil.run pins s σ H Q I (by cases (Option.some.inj h); exact q H (Same.refl H))⟩
theorem qts_one {c : Expr} {f : FT} (h : PT X c (tT K f)) : PTs X [c] (tT K f) := pts_one h
end
end DS
end

section
set_option Elab.async false
set_option linter.all false
set_option maxRecDepth 100000
/-! Part g: statements. -/
namespace DS
open PySem PySem.Spec PyProof.Rows L2

abbrev S := PEnv × List Nat
inductive Out where
  | stuck
  | next (s : S)
  | ret (d : D)
  | brk (s : S)
  | cont (s : S)
abbrev FS := S → Out
def lv (L : List Nat) (i : Nat) : Nat := L.getD i 0
def demote : Esc → List Nat → List Nat
  | [], L => L
  | (i, m) :: es, L => demote es (if lv L i ≤ m then L else L.set i 0)

structure GoodS (K : PySem.W.Frag) (B0 : List Addr) (G : Hp) (O : Nat → List Addr) (B : List Addr) (σ : St) (H : Hp) (ρ : PEnv) (L : List Nat) : Prop where
  memB : ∀ a, a ∈ B ↔ a ∈ B0 ∨ ∃ i, a ∈ O i
  ok : Ok B H
  same : Same G H
  g0 : ∀ a ∈ B0, G a ≠ none
  gO : ∀ i, ∀ a ∈ O i, G a = none
  nd : ∀ i, (O i).Nodup
  dj : ∀ i j, i ≠ j → ∀ a ∈ O i, a ∉ O j
  len : σ.length = ρ.length
  lenL : L.length = ρ.length
  slot : ∀ (i : Nat) (d : D), ρ[i]? = some (some d) → ∃ v, σ[i]? = some (some v) ∧ RO K B H (lv L i) (O i) v d
def GS (K : PySem.W.Frag) (B0 : List Addr) (G : Hp) (σ : St) (H : Hp) (s : S) : Prop := ∃ O B, GoodS K B0 G O B σ H s.1 s.2
section
variable {K : PySem.W.Frag} {B0 B : List Addr} {G H H' : Hp} {O : Nat → List Addr} {σ : St} {ρ : PEnv} {L : List Nat}
theorem GoodS.good (g : GoodS K B0 G O B σ H ρ L) : Good K B (lv L) σ H ρ := ⟨g.ok, g.len, fun i d h => let ⟨v, h1, h2⟩ := g.slot i d h; ⟨v, h1, h2.toRL_aux⟩⟩
theorem GoodS.mono (g : GoodS K B0 G O B σ H ρ L) (e : Same H H') : GoodS K B0 G O B σ H' ρ L :=
  ⟨g.memB, g.ok.mono e, g.same.trans e, g.g0, g.gO, g.nd, g.dj, g.len, g.lenL, fun i d h => let ⟨v, h1, h2⟩ := g.slot i d h; ⟨v, h1, h2.mono_aux (same_hid e) fun a ha => by
    obtain ⟨o, h3, _⟩ := g.ok a ((g.memB a).mpr (.inr ⟨i, ha⟩))
    rw [h3, e _ _ h3]⟩⟩
theorem lv_set {L : List Nat} {i j x : Nat} : lv (L.set i x) j = if i = j ∧ i < L.length then x else lv L j := by
  unfold lv
  rw [List.getD_eq_getElem?_getD, List.getD_eq_getElem?_getD]
  by_cases h : i = j
  · subst h
    by_cases hi : i < L.length
    · rw [List.getElem?_set_self hi, if_pos ⟨rfl, hi⟩]; rfl
    · rw [List.getElem?_eq_none (by simpa using hi), List.getElem?_eq_none (by omega), if_neg fun z => hi z.2]
  · rw [List.getElem?_set_ne h, if_neg fun z => h z.1]
/-- a name lets its own go -/
theorem GoodS.drop (g : GoodS K B0 G O B σ H ρ L) (i : Nat) : ∃ O' B', GoodS K B0 G O' B' σ H ρ (L.set i 0) ∧ (∀ a ∈ B', a ∈ B) := by
  refine ⟨fun j => if j = i then [] else O j, B.filter fun a => decide (a ∉ O i), ⟨fun a => ?_, g.ok.sub fun a h => (List.mem_filter.mp h).1, g.same, g.g0, fun j a h => ?_, fun j => ?_, fun j k hjk a h => ?_, g.len, by rw [List.length_set, g.lenL], fun j d h => ?_⟩, fun a h => (List.mem_filter.mp h).1⟩
  · rw [List.mem_filter, g.memB]
    constructor
    · rintro ⟨h | ⟨j, h⟩, h2⟩
      · exact .inl h
      · refine .inr ⟨j, ?_⟩
        have h2 := of_decide_eq_true h2
        by_cases hj : j = i
        · rw [hj] at h; exact absurd h h2
        · rw [if_neg hj]; exact h
    · rintro (h | ⟨j, h⟩)
      · exact ⟨.inl h, decide_eq_true fun z => g.g0 a h (g.gO i a z)⟩
      · by_cases hj : j = i
        · rw [if_pos hj] at h; simp at h
        · rw [if_neg hj] at h
          exact ⟨.inr ⟨j, h⟩, decide_eq_true (g.dj j i hj a h)⟩
  · by_cases hj : j = i
    · simp only [if_pos hj] at h; simp at h
    · simp only [if_neg hj] at h; exact g.gO j a h
  · by_cases hj : j = i
    · simp only [if_pos hj]; exact List.nodup_nil
    · simp only [if_neg hj]; exact g.nd j
  · by_cases hj : j = i
    · simp only [if_pos hj] at h; simp at h
    · simp only [if_neg hj] at h
      by_cases hk : k = i
      · simp only [if_pos hk]; simp
      · simp only [if_neg hk]; exact g.dj j k hjk a h
  · obtain ⟨v, h1, h2⟩ := g.slot j d h
    refine ⟨v, h1, ?_⟩
    by_cases hj : j = i
    · subst hj
      simp only [if_pos rfl]
      have hl : j < L.length := by
        have := (List.getElem?_eq_some_iff.mp h).1
        rw [g.lenL]; exact this
      rw [lv_set, if_pos ⟨rfl, hl⟩]
      exact .z (.inl rfl) (h2.toR_aux fun a q => ⟨(List.mem_filter.mp q).1, of_decide_eq_true (List.mem_filter.mp q).2⟩)
    · simp only [if_neg hj]
      rw [lv_set, if_neg fun z => hj z.1.symm]
      exact h2.mono_aux (same_hidW (Same.refl H) fun a q => .inl (List.mem_filter.mp q).1) fun _ _ => rfl
theorem demote_le : ∀ (es : Esc) (L : List Nat) (j : Nat), lv (demote es L) j ≤ lv L j
  | [], L, j => Nat.le_refl _
  | (i, m) :: es, L, j => by
    unfold demote
    refine Nat.le_trans (demote_le es _ j) ?_
    split
    · exact Nat.le_refl _
    · rw [lv_set]
      split
      · exact Nat.zero_le _
      · exact Nat.le_refl _
theorem demote_ok : ∀ (es : Esc) (L : List Nat), EscOk es (lv (demote es L))
  | [], L => EscOk.nil
  | (i, m) :: es, L => fun p hp => by
    unfold demote
    rcases List.mem_cons.mp hp with e | hp
    · rw [e]
      refine Nat.le_trans (demote_le es _ i) ?_
      split
      · assumption
      · rename_i h
        rw [lv_set]
        split
        · exact Nat.zero_le _
        · rename_i h2
          have : ¬ i < L.length := fun z => h2 ⟨rfl, z⟩
          unfold lv at h ⊢
          rw [List.getD_eq_getElem?_getD, List.getElem?_eq_none (by omega)] at h ⊢
          exact absurd (Nat.zero_le m) h
    · exact demote_ok es _ p hp
theorem demote_len : ∀ (es : Esc) (L : List Nat), (demote es L).length = L.length
  | [], L => rfl
  | (i, m) :: es, L => by
    unfold demote
    rw [demote_len es]
    split
    · rfl
    · rw [List.length_set]
theorem GoodS.demote (es : Esc) : ∀ {O : Nat → List Addr} {B : List Addr} {L : List Nat}, GoodS K B0 G O B σ H ρ L → ∃ O' B', GoodS K B0 G O' B' σ H ρ (DS.demote es L) ∧ ∀ a ∈ B', a ∈ B := by
  induction es with
  | nil => intro O B L g; exact ⟨O, B, g, fun _ h => h⟩
  | cons p es ih =>
    obtain ⟨i, m⟩ := p
    intro O B L g
    unfold DS.demote
    split
    · exact ih g
    · obtain ⟨O1, B1, g1, h1⟩ := g.drop i
      obtain ⟨O2, B2, g2, h2⟩ := ih g1
      exact ⟨O2, B2, g2, fun a h => h1 a (h2 a h)⟩
/-- a name is set -/
theorem GoodS.assign {i l : Nat} {v : V} {d : D} {o : List Addr} (g : GoodS K B0 G O B σ H ρ L) (e : Same H H') (hn : ∀ a ∈ o, H a = none) (ho : o.Nodup) (r : RO K (o ++ B) H' l o v d) : ∃ O' B', GoodS K B0 G O' B' (σ.set i (some v)) H' (ρ.set i (some d)) (L.set i l) ∧ ∀ a ∈ B', a ∈ o ++ B := by
  have hB' : ∀ a, a ∈ o ++ B.filter (fun a => decide (a ∉ O i)) → a ∈ o ++ B := fun a h => by
    rcases List.mem_append.mp h with h | h
    · exact List.mem_append_left _ h
    · exact List.mem_append_right _ (List.mem_filter.mp h).1
  have oB : ∀ a ∈ o, a ∉ B := fun a h z => g.ok.trk a z (hn a h)
  refine ⟨fun j => if j = i then o else O j, o ++ B.filter fun a => decide (a ∉ O i), ⟨fun a => ?_, ?_, g.same.trans e, g.g0, fun j a h => ?_, fun j => ?_, fun j k hjk a h => ?_, by rw [List.length_set, List.length_set, g.len], by rw [List.length_set, List.length_set, g.lenL], fun j d' h => ?_⟩, hB'⟩
  · rw [List.mem_append, List.mem_filter, g.memB]
    constructor
    · rintro (h | ⟨h | ⟨j, h⟩, h2⟩)
      · exact .inr ⟨i, by rw [if_pos rfl]; exact h⟩
      · exact .inl h
      · refine .inr ⟨j, ?_⟩
        have h2 := of_decide_eq_true h2
        by_cases hj : j = i
        · rw [hj] at h; exact absurd h h2
        · rw [if_neg hj]; exact h
    · rintro (h | ⟨j, h⟩)
      · exact .inr ⟨.inl h, decide_eq_true fun z => g.g0 a h (g.gO i a z)⟩
      · by_cases hj : j = i
        · rw [if_pos hj] at h; exact .inl h
        · rw [if_neg hj] at h
          exact .inr ⟨.inr ⟨j, h⟩, decide_eq_true (g.dj j i hj a h)⟩
  · have h1 : Ok o H' := r.mut_aux
    exact h1.append ((g.ok.mono e).sub fun a h => (List.mem_filter.mp h).1)
  · by_cases hj : j = i
    · simp only [if_pos hj] at h
      exact g.same.free (hn a h)
    · simp only [if_neg hj] at h; exact g.gO j a h
  · by_cases hj : j = i
    · simp only [if_pos hj]; exact ho
    · simp only [if_neg hj]; exact g.nd j
  · by_cases hj : j = i
    · simp only [if_pos hj] at h
      have hk : ¬ k = i := fun z => hjk (hj.trans z.symm)
      simp only [if_neg hk]
      exact fun z => oB a h ((g.memB a).mpr (.inr ⟨k, z⟩))
    · simp only [if_neg hj] at h
      by_cases hk : k = i
      · simp only [if_pos hk]
        exact fun z => oB a z ((g.memB a).mpr (.inr ⟨j, h⟩))
      · simp only [if_neg hk]; exact g.dj j k hjk a h
  · by_cases hj : j = i
    · subst hj
      have hi : j < ρ.length := by
        have := (List.getElem?_eq_some_iff.mp h).1
        simpa using this
      rw [List.getElem?_set_self hi] at h
      cases h
      refine ⟨v, List.getElem?_set_self (by rw [g.len]; exact hi), ?_⟩
      simp only [if_pos rfl]
      rw [lv_set, if_pos ⟨rfl, by rw [g.lenL]; exact hi⟩]
      exact r.mono_aux (same_hidW (Same.refl H') fun a q => .inl (hB' a q)) fun _ _ => rfl
    · rw [List.getElem?_set_ne (Ne.symm hj)] at h
      obtain ⟨w, h1, h2⟩ := g.slot j d' h
      refine ⟨w, by rw [List.getElem?_set_ne (Ne.symm hj)]; exact h1, ?_⟩
      simp only [if_neg hj]
      rw [lv_set, if_neg fun z => hj z.1.symm]
      refine h2.mono_aux (same_hidW e fun a q => ?_) fun a ha => ?_
      · rcases List.mem_append.mp q with q | q
        · exact .inr (hn a q)
        · exact .inl (List.mem_filter.mp q).1
      · obtain ⟨u, h3, _⟩ := g.ok a ((g.memB a).mpr (.inr ⟨j, ha⟩))
        rw [h3, e _ _ h3]
theorem GoodS.assign0 {i : Nat} {v : V} {d : D} (g : GoodS K B0 G O B σ H ρ L) (r : R K (hid B H) v d) : ∃ O' B', GoodS K B0 G O' B' (σ.set i (some v)) H (ρ.set i (some d)) (L.set i 0) ∧ ∀ a ∈ B', a ∈ B :=
  g.assign (o := []) (Same.refl H) (by simp) List.nodup_nil (.z (.inl rfl) r)
end

/-! ### the reading of a statement -/
def Fin (K : PySem.W.Frag) (B0 : List Addr) (G : Hp) (E : Ends) : Out → Prop
  | .stuck => False
  | .next s => ∀ σ' H', GS K B0 G σ' H' s → E.nx σ' H'
  | .brk s => ∀ σ' H', GS K B0 G σ' H' s → E.bk σ' H'
  | .cont s => ∀ σ' H', GS K B0 G σ' H' s → E.ct σ' H'
  | .ret d => ∀ v H', Same G H' → R K (hid B0 H') v d → E.rt v H'
def tS (K : PySem.W.Frag) (g : FS) : TS := fun E σ H => ∃ B0 G s, GS K B0 G σ H s ∧ Fin K B0 G E (g s)
def sNil : FS := fun s => .next s
def sSeq (f g : FS) : FS := fun s => match f s with
  | .next s' => g s'
  | o => o
section
variable {X : Cx} {K : PySem.W.Frag} {st : Stmt} {sts : List Stmt} {f g : FS}
theorem ss_nil : PSs X [] (tS K sNil) := pss_nil.imp fun E σ H ⟨B0, G, s, hs, q⟩ => q σ H hs
theorem ss_one (h : PS X st (tS K f)) : PSs X [st] (tS K f) := pss_one h
theorem ss_cons (h : PS X st (tS K f)) (t : PSs X sts (tS K g)) : PSs X (st :: sts) (tS K (sSeq f g)) := (pss_cons h t).imp fun E σ H ⟨B0, G, s, hs, q⟩ => by
  refine ⟨B0, G, s, hs, ?_⟩
  unfold sSeq at q
  cases hf : f s with
  | next s' => rw [hf] at q; exact fun σ' H' hs' => ⟨B0, G, s', hs', q⟩
  | stuck => rw [hf] at q; exact q
  | ret d => rw [hf] at q; exact q
  | brk s' => rw [hf] at q; exact q
  | cont s' => rw [hf] at q; exact q
theorem ss_pass {pos : Pos} : PS X (.Pass pos) (tS K sNil) := ps_pass.imp fun E σ H ⟨B0, G, s, hs, q⟩ => q σ H hs
def sBreak : FS := fun s => .brk s
def sCont : FS := fun s => .cont s
theorem ss_break {pos : Pos} : PS X (.Break pos) (tS K sBreak) := ps_break.imp fun E σ H ⟨B0, G, s, hs, q⟩ => q σ H hs
theorem ss_continue {pos : Pos} : PS X (.Continue pos) (tS K sCont) := ps_continue.imp fun E σ H ⟨B0, G, s, hs, q⟩ => q σ H hs
theorem ss_doc {x j pos pos'} : PS X (.Expr (.Constant (.str x) j pos) pos') (tS K sNil) := ps_doc.imp fun E σ H ⟨B0, G, s, hs, q⟩ => q σ H hs
/-! return -/
def sRet (f : FE) : FS := fun s => match f s.1 with
  | none => .stuck
  | some d => .ret d
theorem GS.value {κ : Mo} {B0 : List Addr} {G H : Hp} {σ : St} {s : S} {f : FE} {es : Esc} {d : D} {Q : VK} (h : GS K B0 G σ H s) (hf : f s.1 = some d)
    (q : ∀ O B v H', GoodS K B0 G O B σ H s.1 (demote es s.2) → Same H H' → Post K B H H' κ v d → Q v H') : tD K κ f es σ H Q := by
  obtain ⟨O, B, g⟩ := h
  obtain ⟨O', B', g', _⟩ := g.demote es
  exact ⟨B', lv (demote es s.2), s.1, d, g'.good, demote_ok es s.2, hf, fun v H' e p => q O' B' v H' g' e p⟩
theorem ss_ret {e : Expr} {pos : Pos} {f : FE} {c : Esc} (h : PE X e (tD K (.br 0) f c)) : PS X (.Return (some e) pos) (tS K (sRet f)) := (ps_ret h).imp fun E σ H ⟨B0, G, s, hs, q⟩ => by
  unfold sRet at q
  split at q
  · exact q.elim
  · rename_i d hd
    refine GS.value hs hd fun O B v H' g e p => q v H' (g.same.trans e) ((RL.r p).mono (same_hidW (Same.refl H') fun a ha => .inl ((g.memB a).mpr (.inl ha))))
theorem ss_retN {pos : Pos} : PS X (.Return none pos) (tS K fun _ => .ret .none) := ps_retN.imp fun E σ H ⟨B0, G, s, hs, q⟩ => by
  obtain ⟨O, B, g⟩ := hs
  exact q .non H g.same .non
/-! if -/
def sIf (c : FT) (f g : FS) : FS := fun s => match c s.1 with
  | none => .stuck
  | some true => f s
  | some false => g s
theorem GS.mono {B0 : List Addr} {G H H' : Hp} {σ : St} {s : S} (h : GS K B0 G σ H s) (e : Same H H') : GS K B0 G σ H' s := let ⟨O, B, g⟩ := h; ⟨O, B, g.mono e⟩
theorem GS.good {B0 : List Addr} {G H : Hp} {σ : St} {s : S} (h : GS K B0 G σ H s) : ∃ B L, Good K B L σ H s.1 := let ⟨_, _, g⟩ := h; ⟨_, _, g.good⟩
theorem ss_if {c : Expr} {a b : List Stmt} {pos : Pos} {t : FT} (hc : PT X c (tT K t)) (ha : PSs X a (tS K f)) (hb : PSs X b (tS K g)) : PS X (.If c a b pos) (tS K (sIf t f g)) := (ps_if hc ha hb).imp fun E σ H ⟨B0, G, s, hs, q⟩ => by
  obtain ⟨B, L, gd⟩ := hs.good
  unfold sIf at q
  split at q
  · exact q.elim
  · exact ⟨B, L, s.1, true, gd, by assumption, fun H1 s1 => iteT ⟨B0, G, s, hs.mono s1, q⟩⟩
  · exact ⟨B, L, s.1, false, gd, by assumption, fun H1 s1 => iteF ⟨B0, G, s, hs.mono s1, q⟩⟩
/-! name = value -/
def sSet (i l : Nat) (f : FE) (c : Esc) : FS := fun s => match f s.1 with
  | none => .stuck
  | some d => if flat d = true then .next (s.1.set i (some d), s.2.set i 0) else .next (s.1.set i (some d), (demote c s.2).set i l)
def moOf : Nat → Mo
  | 0 => .br 0
  | 1 => .fr
  | _ => .fr2
theorem Post.open {B : List Addr} {H0 H' : Hp} {κ : Mo} {v : V} {d : D} (h : Post K B H0 H' κ v d) : R K H' v d := by
  cases κ with
  | br m => exact RL.open h
  | fr => obtain ⟨o, _, _, h⟩ := h; exact h.toRL_aux.open
  | fr2 => obtain ⟨o, _, _, h⟩ := h; exact h.toRL_aux.open
theorem set_ok {i l : Nat} {f : FE} {c : Esc} (hl : l ≤ 2) : ∀ E σ H, tS K (sSet i l f c) E σ H → tAsg (tD K (moOf l) f c) (gName i) E σ H := fun E σ H ⟨B0, G, s, hs, q⟩ => by
  unfold sSet at q
  split at q
  · exact q.elim
  · rename_i d hd
    split at q
    · rename_i hfl
      obtain ⟨O, B, g⟩ := hs
      refine ⟨[], _, s.1, d, g.good.zero, .zero, hd, fun v H' e p => q _ H' ?_⟩
      obtain ⟨O', B', g', _⟩ := (g.mono e).assign0 (i := i) (p.open.hidF ((g.ok.mono e).noTup) hfl)
      exact ⟨O', B', g'⟩
    · refine GS.value hs hd fun O B v H' g e p => q _ H' ?_
      match l, hl with
      | 0, _ =>
        obtain ⟨O', B', g', _⟩ := (g.mono e).assign0 (i := i) (RL.r p)
        exact ⟨O', B', g'⟩
      | 1, _ =>
        obtain ⟨o, h1, h2, h3⟩ := p
        obtain ⟨O', B', g', _⟩ := g.assign (i := i) e h1 h2 h3
        exact ⟨O', B', g'⟩
      | 2, _ =>
        obtain ⟨o, h1, h2, h3⟩ := p
        obtain ⟨O', B', g', _⟩ := g.assign (i := i) e h1 h2 h3
        exact ⟨O', B', g'⟩
theorem ss_set (i l : Nat) {x : Str} {e : Expr} {f : FE} {c : Esc} {pos pos' : Pos} (hN : X.N.Nodup) (he : PE X e (tD K (moOf l) f c)) (hl : l ≤ 2 := by decide) (hi : X.N[i]? = some x := by rfl) (hx : Loc X.env.scope x := by first | exact Or.inl rfl | exact Or.inr rfl) (hs : swapsWith e (some (.Name x pos')) pos.line X.env = pure false := by rfl) (hf : X.fn x = true ∨ X.env.scope.names.lookup x = some .local := by first | exact .inl rfl | exact .inr rfl) :
    PS X (.Assign [.Name x pos'] e pos) (tS K (sSet i l f c)) := (ps_set hN hi hx he hs hf).imp (set_ok hl)
/-- name = [..] -/
theorem ss_setLc (i l : Nat) {y : Str} {py : Pos} {elt tg iter : Expr} {ifs : List Expr} {scope : Scope} {own : List (Str × Nat)} {pos spos : Pos} {fi : FA} {ci ce : Esc} {t : Tg} {ft : FT} {fe : FE} (hc : X.calm = true) (hN : X.N.Nodup) (hi : PI X tg iter (tI K 1 fi ci)) (ok : BlkOk X.N X.env.scope scope own)
    (hg : ∀ (s : Shared) (H : Hp) (C : Addr) (cl : List (Str × Addr)) (fp : List Addr), PG (X.blk s H scope (compEnvC scope cl C X.env) fp) tg (tG K t)) (ht : ∀ (s : Shared) (H : Hp) (C : Addr) (cl : List (Str × Addr)) (fp : List Addr), PTs (X.blk s H scope (compEnvC scope cl C X.env) fp) ifs (tT K ft))
    (he : ∀ (s : Shared) (H : Hp) (C : Addr) (cl : List (Str × Addr)) (fp : List Addr), PE (X.blk s H scope (compEnvC scope cl C X.env) fp) elt (tD K (.br 0) fe ce)) (hl : l ≤ 1 := by decide) (hy : X.N[i]? = some y := by rfl) (hyl : X.env.scope.names.lookup y = some .local := by rfl)
    (hsw : swapsWith (.ListComp elt [⟨tg, iter, ifs, 0⟩] scope pos) (some (.Name y py)) spos.line X.env = pure true := by exact sw_true rfl rfl rfl (by decide +kernel)) (hv : t.ix.all ((own.map (·.2)).contains ·) = true := by rfl) (hs : ∀ x, foldedSetIterable iter X.env x = pure x := by intro _; rfl) :
    PS X (.Assign [.Name y py] (.ListComp elt [⟨tg, iter, ifs, 0⟩] scope pos) spos) (tS K (sSet i l (eLc fi t ft fe (own.map (·.2))) (ci ++ ce))) := (ps_setLc hc hN hy hyl hsw hi ok hg ht he hs).imp fun E σ H h =>
  lc_ok (κ := moOf l) rfl hv (by match l, hl with | 0, _ => rfl | 1, _ => rfl) σ H _ (set_ok (by omega) E σ H h)
/-! (a, b) = value: names -/
def zeros (L : List Nat) (l : List (Nat × D)) : List Nat := l.foldl (fun L p => L.set p.1 0) L
def sTup (t : Tg) (f : FE) (c : Esc) : FS := fun s => match f s.1 with
  | none => .stuck
  | some d => match t.go d with
    | none => .stuck
    | some l => if flat d = true then .next (setsD s.1 l, zeros s.2 l) else .next (setsD s.1 l, zeros (demote c s.2) l)
theorem GS.sets {B0 : List Addr} {G H : Hp} : ∀ {m : List (Nat × V)} {l : List (Nat × D)} {σ : St} {ρ : PEnv} {L : List Nat} {O : Nat → List Addr} {B B1 : List Addr}, GoodS K B0 G O B σ H ρ L → (∀ a ∈ B, a ∈ B1) → RS K (hid B1 H) m l → GS K B0 G (setsV σ m) H (setsD ρ l, zeros L l)
  | [], [], σ, ρ, L, O, B, B1, g, hB, .nil => ⟨O, B, g⟩
  | (i, v) :: m, (_, d) :: l, σ, ρ, L, O, B, B1, g, hB, .cons r t => by
    obtain ⟨O', B', g', hB'⟩ := g.assign0 (i := i) (v := v) (d := d) (r.mono (same_hidW (Same.refl H) fun a h => .inl (hB a h)))
    exact GS.sets (m := m) (l := l) g' (fun a h => hB a (hB' a h)) t
theorem ss_tup {tg e : Expr} {t : Tg} {f : FE} {c : Esc} {pos : Pos} (he : PE X e (tD K (.br 0) f c)) (hg : PG X tg (tG K t)) (hs : swapsWithSole [tg] e pos.line X.env = pure false := by rfl) (hw : swappedStores [tg] e X.env = pure none := by rfl)
    (h1 : (assignEach [tg] X.env).map (·.2) = [assign tg X.env] := by rfl) : PS X (.Assign [tg] e pos) (tS K (sTup t f c)) := (ps_asg he hg hs hw h1).imp fun E σ H ⟨B0, G, s, hs, q⟩ => by
  unfold sTup at q
  split at q
  · exact q.elim
  · rename_i d hd
    split at q
    · exact q.elim
    · rename_i l hl
      split at q
      · rename_i hfl
        obtain ⟨O, B, g⟩ := hs
        refine ⟨[], _, s.1, d, g.good.zero, .zero, hd, fun v H' e p => ?_⟩
        exact ⟨B, d, l, p.open.hidF ((g.ok.mono e).noTup) hfl, hl, fun m rs => q _ H' (GS.sets (g.mono e) (fun _ h => h) rs)⟩
      · refine GS.value (κ := .br 0) hs hd fun O B v H' g e p => ?_
        exact ⟨B, d, l, RL.r p, hl, fun m rs => q _ H' (GS.sets (g.mono e) (fun _ h => h) rs)⟩
/-! a, b = x, y with names -/
def sPar (i j : Nat) (f g : FE) (c : Esc) : FS := fun s => match f s.1, g s.1 with
  | some d, some e => if (flat d && flat e) = true then .next ((s.1.set i (some d)).set j (some e), (s.2.set i 0).set j 0) else .next ((s.1.set i (some d)).set j (some e), ((demote c s.2).set i 0).set j 0)
  | _, _ => .stuck
theorem ss_par (i j : Nat) {x y : Str} {a b : Expr} {f g : FE} {c c' : Esc} {px py pt pos : Pos} {kt k2 pt2} (hc : X.calm = true) (hN : X.N.Nodup) (ha : PE X a (tD K (.br 0) f c)) (hb : PE X b (tD K (.br 0) g c'))
    (hw : swappedStores [.Tuple [.Name x px, .Name y py] kt pt] (.Tuple [a, b] k2 pt2) X.env = pure (some [x, y])) (hi : X.N[i]? = some x := by rfl) (hj : X.N[j]? = some y := by rfl) (hij : i ≠ j := by decide)
    (hx : X.env.scope.names.lookup x = some .local := by rfl) (hy : X.env.scope.names.lookup y = some .local := by rfl)
    (hs : swapsWithSole [.Tuple [.Name x px, .Name y py] kt pt] (.Tuple [a, b] k2 pt2) pos.line X.env = pure false := by rfl) (hs1 : starEach [a, b] X.env = (false, eval a X.env) :: starEach [b] X.env := by rfl) (hs2 : starEach [b] X.env = (false, eval b X.env) :: starEach [] X.env := by rfl) :
    PS X (.Assign [.Tuple [.Name x px, .Name y py] kt pt] (.Tuple [a, b] k2 pt2) pos) (tS K (sPar i j f g (c ++ c'))) := (ps_par hc hN hi hj hij hx hy (qa_cons ha (qa_cons hb qa_nil hs2) hs1) hw hs).imp fun E σ H ⟨B0, G, s, hs, q⟩ => by
  unfold sPar at q
  split at q
  · rename_i d e hd he
    have hf : aCons f (aCons g aNil) s.1 = some [d, e] := by
      unfold aCons aNil
      simp [hd, he, o2]
    split at q
    · rename_i hfl
      rw [Bool.and_eq_true] at hfl
      obtain ⟨O, B, gd⟩ := hs
      refine ⟨[], _, s.1, _, gd.good.zero, .zero, hf, fun vs H' e1 hl p => ?_⟩
      match vs, hl with
      | [v, w], _ =>
        refine ⟨v, w, rfl, q _ H' ?_⟩
        have hB := (gd.ok.mono e1).noTup
        exact GS.sets (m := [(i, v), (j, w)]) (l := [(i, d), (j, e)]) (gd.mono e1) (fun _ h => h) (.cons ((RL.r0 (p 0 v d rfl rfl)).hidF hB hfl.1) (.cons ((RL.r0 (p 1 w e rfl rfl)).hidF hB hfl.2) .nil))
    · obtain ⟨O, B, gd⟩ := hs
      obtain ⟨O', B', g', _⟩ := gd.demote (c ++ (c' ++ []))
      rw [List.append_nil] at g'
      refine ⟨B', lv (demote (c ++ c') s.2), s.1, _, g'.good, by rw [List.append_nil]; exact demote_ok _ s.2, hf, fun vs H' e1 hl p => ?_⟩
      match vs, hl with
      | [v, w], _ =>
        refine ⟨v, w, rfl, q _ H' ?_⟩
        exact GS.sets (m := [(i, v), (j, w)]) (l := [(i, d), (j, e)]) (g'.mono e1) (fun _ h => h) (.cons (RL.r (p 0 v d rfl rfl)) (.cons (RL.r (p 1 w e rfl rfl)) .nil))
  · exact q.elim
/-! name op= value -/
def sAug (i : Nat) (op : D → D → Option D) (f : FE) : FS := fun s => match o2 (eVar i s.1) (f s.1) op with
  | none => .stuck
  | some d => .next (s.1.set i (some d), s.2.set i 0)
theorem ss_aug (i : Nat) {x : Str} {e : Expr} {f : FE} {c : Esc} {o : Operator} {ti : TIp} {op : D → D → Option D} {pos pos' : Pos} (hp : PIp X o ti) (hop : ∀ (B : List Addr) (x y : V) (dx dy d : D) (H : Hp) (Q : VK), Ok B H → R K H x dx → R K H y dy → op dx dy = some d → (∀ v H', Same H H' → R K (hid B H') v d → Q v H') → ti x y H Q)
    (hN : X.N.Nodup) (he : PE X e (tD K (.br 1) f c)) (hi : X.N[i]? = some x := by rfl) (hx : Loc X.env.scope x := by first | exact Or.inl rfl | exact Or.inr rfl) (hf : X.fn x = true ∨ X.env.scope.names.lookup x = some .local := by first | exact .inl rfl | exact .inr rfl) :
    PS X (.AugAssign (.Name x pos') o e pos) (tS K (sAug i op f)) := (ps_aug hN hi hx he hp hf).imp fun E σ H ⟨B0, G, s, hs, q⟩ => by
  unfold sAug at q
  split at q
  · exact q.elim
  · rename_i d hd
    obtain ⟨dx, dy, h1, h2, h3⟩ := o2_some hd
    obtain ⟨O, B, g⟩ := hs
    obtain ⟨v, e1, r⟩ := g.good.slot i dx (eVar_some h1)
    refine ⟨v, e1, [], _, s.1, dy, g.good.zero, .zero, h2, fun w H1 s1 p1 => ?_⟩
    refine hop B v w dx dy d H1 _ (g.ok.mono s1) (r.open.mono s1) (RL.r0 p1) h3 fun z H2 s2 rz => q _ H2 ?_
    obtain ⟨O', B', g', _⟩ := ((g.mono s1).mono s2).assign0 (i := i) rz
    exact ⟨O', B', g'⟩
def dAddI : D → D → Option D
  | .int i, .int j => some (.int (i + j))
  | _, _ => none
theorem ss_augAdd (i : Nat) {x : Str} {e : Expr} {f : FE} {c : Esc} {pos pos' : Pos} (hN : X.N.Nodup) (he : PE X e (tD K (.br 1) f c)) (hi : X.N[i]? = some x := by rfl) (hx : Loc X.env.scope x := by first | exact Or.inl rfl | exact Or.inr rfl) (hf : X.fn x = true ∨ X.env.scope.names.lookup x = some .local := by first | exact .inl rfl | exact .inr rfl) :
    PS X (.AugAssign (.Name x pos') .Add e pos) (tS K (sAug i dAddI f)) := ss_aug i ip_add (fun B x y dx dy d H Q ok rx ry h q => by
      unfold dAddI at h
      split at h
      · cases (Option.some.inj h)
        exact ⟨_, _, rx.int', ry.int', q _ H (Same.refl H) (.int _)⟩
      · cases h) hN he hi hx hf
theorem ss_augSub (i : Nat) {x : Str} {e : Expr} {f : FE} {c : Esc} {pos pos' : Pos} (hN : X.N.Nodup) (he : PE X e (tD K (.br 1) f c)) (hi : X.N[i]? = some x := by rfl) (hx : Loc X.env.scope x := by first | exact Or.inl rfl | exact Or.inr rfl) (hf : X.fn x = true ∨ X.env.scope.names.lookup x = some .local := by first | exact .inl rfl | exact .inr rfl) :
    PS X (.AugAssign (.Name x pos') .Sub e pos) (tS K (sAug i dSub f)) := ss_aug i ip_sub (fun B x y dx dy d H Q ok rx ry h q => by
      unfold dSub at h
      split at h
      · cases (Option.some.inj h)
        exact ⟨_, _, rx.int', ry.int', q _ H (Same.refl H) (.int _)⟩
      · cases h) hN he hi hx hf
/-! x.append(e), x[i] = e: x owned -/
def sApp (i : Nat) (f : FE) (c : Esc) : FS := fun s => match f s.1, eVar i s.1 with
  | some d, some (.list ds) => if ds.length < sz then
      (if flat d = true then (if lv s.2 i = 1 then .next (s.1.set i (some (.list (ds ++ [d]))), s.2) else .stuck)
        else (if lv (demote c s.2) i = 1 then .next (s.1.set i (some (.list (ds ++ [d]))), demote c s.2) else .stuck)) else .stuck
  | _, _ => .stuck
/-- the owned list at a name, changed -/
theorem GoodS.write {B0 B : List Addr} {G H : Hp} {O : Nat → List Addr} {σ : St} {ρ : PEnv} {L : List Nat} {i : Nat} {ds : List D} (g : GoodS K B0 G O B σ H ρ L) (hd : ρ[i]? = some (some (.list ds))) (hl : lv L i = 1) :
    ∃ a xs, σ[i]? = some (some (.ref a)) ∧ H a = some (.lst xs) ∧ RA K (hid B H) xs ds ∧ ∀ xs' ds', RA K (hid B H) xs' ds' → GS K B0 G σ (upd H a (.lst xs')) (ρ.set i (some (.list ds')), L) := by
  obtain ⟨v, h1, h2⟩ := g.slot i _ hd
  rw [hl] at h2
  generalize hoi : O i = oi at h2
  cases h2 with
  | z h _ => rcases h with h | h <;> cases h
  | @l _ a os xs _ e ra =>
    have hra : RA K (hid B H) xs ds := by
      have : ∀ {os : List (List Addr)} {vs : List V} {ds : List D}, ROA K B H 0 os vs ds → RA K (hid B H) vs ds := fun {os vs ds} h => by
        refine ROA.rec (K := K) (B := B) (H := H) (motive_1 := fun l o v d _ => l = 0 → R K (hid B H) v d) (motive_2 := fun l os vs ds _ => l = 0 → RA K (hid B H) vs ds) ?_ ?_ ?_ ?_ ?_ ?_ h rfl
        · intro l v d _ r _; exact r
        · intro l a os xs ds _ _ _ z; cases z
        · intro l a kvs es _ _ _ z; cases z
        · intro l a kvs es _ _ _ z; cases z
        · intro l _; exact .nil
        · intro l o os v d vs ds _ _ i1 i2 z; exact .cons (i1 z) (i2 z)
      exact this ra
    have aB : a ∈ B := (g.memB a).mpr (.inr ⟨i, by rw [hoi]; exact List.mem_cons_self⟩)
    refine ⟨a, xs, h1, e, hra, fun xs' ds' r => ?_⟩
    have hsame : Same (hid B H) (hid B (upd H a (.lst xs'))) := fun b o q => by
      obtain ⟨q1, q2⟩ := hid_some q
      rw [hid_out q1, upd_ne fun z => q1 (by rw [z]; exact aB)]
      exact q2
    have hos : os.flatten = [] := by
      have : ∀ {os : List (List Addr)} {vs : List V} {ds : List D}, ROA K B H 0 os vs ds → os.flatten = [] := fun {os vs ds} h => by
        refine ROA.rec (K := K) (B := B) (H := H) (motive_1 := fun l o v d _ => l = 0 → o = []) (motive_2 := fun l os vs ds _ => l = 0 → os.flatten = []) ?_ ?_ ?_ ?_ ?_ ?_ h rfl
        · intro l v d _ r _; rfl
        · intro l a os xs ds _ _ _ z; cases z
        · intro l a kvs es _ _ _ z; cases z
        · intro l a kvs es _ _ _ z; cases z
        · intro l _; rfl
        · intro l o os v d vs ds _ _ i1 i2 z; rw [List.flatten_cons, i1 z, i2 z]; rfl
      exact this ra
    rw [hos] at hoi
    refine ⟨O, B, g.memB, fun b hb => ?_, fun b o q => ?_, g.g0, g.gO, g.nd, g.dj, by rw [List.length_set, g.len], by rw [List.length_set, g.lenL], fun j d h => ?_⟩
    · by_cases hba : b = a
      · rw [hba]; exact ⟨_, upd_same, rfl⟩
      · rw [upd_ne hba]; exact g.ok b hb
    · rw [upd_ne fun z => ?_]
      · exact g.same _ _ q
      · rw [z] at q
        have := g.gO i a (by rw [hoi]; exact List.mem_cons_self)
        rw [this] at q; cases q
    · by_cases hj : j = i
      · subst hj
        have hi : j < ρ.length := (List.getElem?_eq_some_iff.mp hd).1
        simp only [List.getElem?_set_self hi] at h
        cases h
        refine ⟨.ref a, h1, ?_⟩
        rw [hoi]
        show RO K B _ (lv L j) _ _ _
        rw [hl]
        exact RO.l1 upd_same (r.mono hsame)
      · simp only [List.getElem?_set_ne (Ne.symm hj)] at h
        obtain ⟨w, h3, h4⟩ := g.slot j d h
        refine ⟨w, h3, h4.mono_aux hsame fun b hb => upd_ne fun z => ?_⟩
        exact g.dj j i hj b hb (by rw [hoi, z]; exact List.mem_cons_self)
theorem app_ok {i : Nat} {f : FE} {c : Esc} : ∀ E σ H, tS K (sApp i f c) E σ H → tDrop (tBM K "list" rAppend (tVar i) (tCons (tD K (.br 0) f c) tNil)) E σ H := fun E σ H ⟨B0, G, s, hs, q⟩ => by
  unfold sApp at q
  split at q
  · rename_i d ds hd hi
    have hi := eVar_some hi
    split at q
    · rename_i hz
      split at q
      · rename_i hfl
        split at q
        · rename_i hl
          obtain ⟨O, B, g⟩ := hs
          obtain ⟨a, xs, h1, h2, h3, h4⟩ := g.write hi hl
          refine ⟨.ref a, h1, .inl ⟨rfl, _, SqL.of h2⟩, [], _, s.1, d, g.good.zero, .zero, hd, fun v H1 s1 p1 => ?_⟩
          obtain ⟨a', xs', h1', h2', h3', h4'⟩ := (g.mono s1).write hi hl
          rw [h1] at h1'
          cases h1'
          have h5 := s1 _ _ h2
          rw [h5] at h2'
          cases h2'
          refine ⟨a, xs, v, rfl, rfl, h5, by rw [h3.length, sz_eq]; exact hz, ?_⟩
          exact q _ _ (h4' _ _ (h3'.append (.cons ((RL.r0 p1).hidF ((g.ok.mono s1).noTup) hfl) .nil)))
        · exact q.elim
      · split at q
        · rename_i hl
          obtain ⟨O, B, g0⟩ := hs
          obtain ⟨O', B', g, _⟩ := g0.demote c
          obtain ⟨a, xs, h1, h2, h3, h4⟩ := g.write hi hl
          refine ⟨.ref a, h1, .inl ⟨rfl, _, SqL.of h2⟩, B', _, s.1, d, g.good, demote_ok c s.2, hd, fun v H1 s1 p1 => ?_⟩
          obtain ⟨a', xs', h1', h2', h3', h4'⟩ := (g.mono s1).write hi hl
          rw [h1] at h1'
          cases h1'
          have h5 := s1 _ _ h2
          rw [h5] at h2'
          cases h2'
          refine ⟨a, xs, v, rfl, rfl, h5, by rw [h3.length, sz_eq]; exact hz, ?_⟩
          exact q _ _ (h4' _ _ (h3'.append (.cons (RL.r p1) .nil)))
        · exact q.elim
    · exact q.elim
  · exact q.elim
theorem ss_app (i : Nat) {x : Str} {e : Expr} {f : FE} {c : Esc} {pos p p2 p3 : Pos} (ps : PS X (.Expr (.Call (.Attribute (.Name x p) "append" p2) [e] [] p3) pos) (tDrop (tBM K "list" rAppend (tVar i) (tCons (tD K (.br 0) f c) tNil)))) :
    PS X (.Expr (.Call (.Attribute (.Name x p) "append" p2) [e] [] p3) pos) (tS K (sApp i f c)) := ps.imp app_ok
/-! x[j] = e -/
def sPut (i : Nat) (j f : FE) (c : Esc) : FS := fun s => match f s.1, eVar i s.1, j s.1 with
  | some d, some (.list ds), some (.int k) => match ixN ds.length k with
    | none => .stuck
    | some n => if flat d = true then (if lv s.2 i = 1 then .next (s.1.set i (some (.list (ds.set n d))), s.2) else .stuck)
        else (if lv (demote c s.2) i = 1 then .next (s.1.set i (some (.list (ds.set n d))), demote c s.2) else .stuck)
  | _, _, _ => .stuck
theorem put_ok {i : Nat} {j f : FE} {c cj : Esc} : ∀ E σ H, tS K (sPut i j f c) E σ H → tAsg (tD K (.br 0) f c) (gSub (tVar i) (tD K (.br 1) j cj) rSetL) E σ H := fun E σ H ⟨B0, G, s, hs, q⟩ => by
  unfold sPut at q
  split at q
  · rename_i d ds k hd hi hk
    have hi := eVar_some hi
    split at q
    · exact q.elim
    · rename_i n hn
      split at q
      · rename_i hfl
        split at q
        · rename_i hl
          obtain ⟨O, B, g⟩ := hs
          refine ⟨[], _, s.1, d, g.good.zero, .zero, hd, fun v H1 s1 p1 => ?_⟩
          obtain ⟨a, xs, h1, h2, h3, _⟩ := (g.mono s1).write hi hl
          refine ⟨.ref a, h1, [], _, s.1, _, (g.mono s1).good.zero, .zero, hk, fun w H2 s2 p2 => ?_⟩
          obtain ⟨a', xs', h1', h2', h3', h4'⟩ := ((g.mono s1).mono s2).write hi hl
          rw [h1] at h1'
          cases h1'
          have h5 := s2 _ _ h2
          rw [h5] at h2'
          cases h2'
          refine ⟨a, xs, _, n, rfl, RL.int p2, h5, by rw [h3.length]; exact hn, ?_⟩
          exact q _ _ (h4' _ _ (h3'.set (((RL.r0 p1).mono s2).hidF (((g.ok.mono s1).mono s2).noTup) hfl) n))
        · exact q.elim
      · split at q
        · rename_i hl
          obtain ⟨O, B, g0⟩ := hs
          obtain ⟨O', B', g, _⟩ := g0.demote c
          refine ⟨B', _, s.1, d, g.good, demote_ok c s.2, hd, fun v H1 s1 p1 => ?_⟩
          obtain ⟨a, xs, h1, h2, h3, _⟩ := (g.mono s1).write hi hl
          refine ⟨.ref a, h1, [], _, s.1, _, (g.mono s1).good.zero, .zero, hk, fun w H2 s2 p2 => ?_⟩
          obtain ⟨a', xs', h1', h2', h3', h4'⟩ := ((g.mono s1).mono s2).write hi hl
          rw [h1] at h1'
          cases h1'
          have h5 := s2 _ _ h2
          rw [h5] at h2'
          cases h2'
          refine ⟨a, xs, _, n, rfl, RL.int p2, h5, by rw [h3.length]; exact hn, ?_⟩
          exact q _ _ (h4' _ _ (h3'.set ((RL.r p1).mono (same_hid s2)) n))
        · exact q.elim
  · exact q.elim
theorem ss_put (i : Nat) {x : Str} {e ix : Expr} {j f : FE} {c cj : Esc} {pos p p2 : Pos} (ps : PS X (.Assign [.Subscript (.Name x p) ix p2] e pos) (tAsg (tD K (.br 0) f c) (gSub (tVar i) (tD K (.br 1) j cj) rSetL))) :
    PS X (.Assign [.Subscript (.Name x p) ix p2] e pos) (tS K (sPut i j f c)) := ps.imp put_ok
/-! for -/
def forGo (t : Tg) (body : FS) : List D → S → Out
  | [], s => .next s
  | d :: ds, s => match t.go d with
    | none => .stuck
    | some l => match body (setsD s.1 l, zeros s.2 l) with
      | .next s' => forGo t body ds s'
      | .cont s' => forGo t body ds s'
      | .brk s' => .next s'
      | .ret d => .ret d
      | .stuck => .stuck
def sFor (fi : FA) (c : Esc) (t : Tg) (body : FS) : FS := fun s => match fi s.1 with
  | none => .stuck
  | some ds => forGo t body ds (s.1, demote c s.2)
theorem Fin.mono {B0 : List Addr} {G G' : Hp} {E : Ends} {o : Out} (hG : Same G G') (g0 : ∀ a ∈ B0, G a ≠ none) (h : Fin K B0 G E o) : Fin K B0 G' E o := by
  have gs : ∀ {σ : St} {H : Hp} {s : S}, GS K B0 G' σ H s → GS K B0 G σ H s := fun {σ H s} ⟨O, B, g⟩ => ⟨O, B, g.memB, g.ok, hG.trans g.same, g0, fun i a h => hG.free (g.gO i a h), g.nd, g.dj, g.len, g.lenL, g.slot⟩
  cases o with
  | stuck => exact h
  | next s => exact fun σ' H' z => h σ' H' (gs z)
  | brk s => exact fun σ' H' z => h σ' H' (gs z)
  | cont s => exact fun σ' H' z => h σ' H' (gs z)
  | ret d => exact fun v H' e r => h v H' (hG.trans e) r
theorem for_core {fi : FA} {c : Esc} {t : Tg} {fb : FS} {ti : TI} {E : Ends} {σ : St} {H : Hp} {B0 : List Addr} {G : Hp} {s : S} (hs : GS K B0 G σ H s) (q : Fin K B0 G E (sFor fi c t fb s))
    (hti : ∀ B L ds, Good K B L σ H s.1 → EscOk c L → fi s.1 = some ds → ∀ Rr, (∀ J H1, Same H H1 → Walks K (gOf 0 B H1) B J ds → Rr J H1) → ti σ H Rr) : tFor ti (tG K t) (tS K fb) E σ H := by
  unfold sFor at q
  split at q
  · exact q.elim
  · rename_i ds hds
    obtain ⟨O, B, g0⟩ := hs
    obtain ⟨O', B', g, _⟩ := g0.demote c
    refine hti B' _ ds g.good (demote_ok c s.2) hds _ fun J H1 s1 wk => ?_
    -- what stands through the loop: all that no name owns
    have g1 := g.mono s1
    let G1 : Hp := fun a => if a ∈ B' ∧ a ∉ B0 then none else H1 a
    have hG1 : Same G1 H1 := fun b o e => by
      simp only [G1] at e
      split at e
      · cases e
      · exact e
    have hGG : Same G G1 := fun b o e => by
      simp only [G1]
      rw [if_neg fun z => ?_]
      · exact g1.same _ _ e
      · rcases (g1.memB b).mp z.1 with h | ⟨i, h⟩
        · exact z.2 h
        · rw [g1.gO i b h] at e; cases e
    have hhG : Same (gOf 0 B' H1) G1 := fun b o e => by
      obtain ⟨e1, e2⟩ := hid_some (show hid B' H1 b = some o from e)
      simp only [G1]
      rw [if_neg fun z => e1 z.1]
      exact e2
    have gs1 : GS K B0 G1 σ H1 (s.1, demote c s.2) := ⟨O', B', g1.memB, g1.ok, hG1, fun a h z => g1.g0 a h (hGG.free z), fun i a h => by
      simp only [G1]
      rw [if_pos ⟨(g1.memB a).mpr (.inr ⟨i, h⟩), fun z => g1.g0 a z (g1.gO i a h)⟩], g1.nd, g1.dj, g1.len, g1.lenL, g1.slot⟩
    have q1 : Fin K B0 G1 E (forGo t fb ds (s.1, demote c s.2)) := q.mono hGG g0.g0
    refine ⟨fun i n σ' H' => n = ds.length - i ∧ i ≤ ds.length ∧ ∃ s', GS K B0 G1 σ' H' s' ∧ Fin K B0 G1 E (forGo t fb (ds.drop i) s'), ⟨ds.length, by simp, Nat.zero_le _, _, gs1, by simpa using q1⟩, ?_⟩
    rintro i n σ' H' ⟨rfl, hi, s', gs', q'⟩
    have sG : Same G1 H' := let ⟨_, _, g⟩ := gs'; g.same
    by_cases hlt : i < ds.length
    · refine .inr ⟨wk.go i H' hlt (hhG.trans sG), fun σ2 H2 => (ds.length - (i + 1) = ds.length - (i + 1) ∧ i + 1 ≤ ds.length ∧ ∃ s', GS K B0 G1 σ2 H2 s' ∧ Fin K B0 G1 E (forGo t fb (ds.drop (i + 1)) s')), fun σ2 H2 w => ⟨_, by omega, w⟩, fun x H2 y => ?_⟩
      rw [List.drop_eq_getElem_cons hlt] at q'
      obtain ⟨s2, rx⟩ := wk.yld i H' x H2 _ (List.getElem?_eq_getElem hlt) (hhG.trans sG) y
      obtain ⟨O2, B2, g2⟩ := gs'
      have rx := rx B2 g2.ok fun a ha => by
        refine ⟨?_, g2.ok.trk a ha⟩
        rcases (g2.memB a).mp ha with h | ⟨j, h⟩
        · exact .inl ((g1.memB a).mpr (.inl h))
        · exact .inr (hhG.free (g2.gO j a h))
      unfold forGo at q'
      split at q'
      · exact q'.elim
      · rename_i l hl
        refine ⟨B2, _, l, rx, hl, fun m rs => ⟨B0, G1, _, GS.sets (g2.mono s2) (fun _ h => h) rs, ?_⟩⟩
        cases hbd : fb (setsD s'.1 l, zeros s'.2 l) with
        | stuck => rw [hbd] at q'; exact q'.elim
        | next s3 => rw [hbd] at q'; exact fun σ3 H3 g3 => ⟨rfl, hlt, s3, g3, q'⟩
        | cont s3 => rw [hbd] at q'; exact fun σ3 H3 g3 => ⟨rfl, hlt, s3, g3, q'⟩
        | brk s3 => rw [hbd] at q'; exact q'
        | ret d => rw [hbd] at q'; exact q'
    · have e : i = ds.length := by omega
      subst e
      refine .inl ⟨wk.stop H' (hhG.trans sG), ?_⟩
      rw [List.drop_length] at q'
      exact q' σ' H' gs'
theorem ss_for {iter tg : Expr} {body : List Stmt} {pos : Pos} {fi : FA} {c : Esc} {t : Tg} {fb : FS} (hp : PassesOwn (model X.prog X.w) X.A X.env X.xe) (hc : X.calm = true) (hi : PI X tg iter (tI K 0 fi c)) (hg : PG X tg (tG K t)) (hb : PSs X body (tS K fb))
    (hs : ∀ x, foldedSetIterable iter X.env x = pure x := by intro _; rfl) : PS X (.For tg iter body [] pos) (tS K (sFor fi c t fb)) := (ps_for hp hc hi hg hb hs).imp fun E σ H ⟨B0, G, s, hs, q⟩ =>
  for_core hs q fun B L ds g es hd Rr h => ⟨B, L, s.1, ds, g, es, hd, h⟩
/-! while -/
def whGo (c : FT) (body : FS) : Nat → S → Out
  | 0, _ => .stuck
  | n + 1, s => match c s.1 with
    | none => .stuck
    | some false => .next s
    | some true => match body s with
      | .next s' => whGo c body n s'
      | .cont s' => whGo c body n s'
      | .brk s' => .next s'
      | .ret d => .ret d
      | .stuck => .stuck
def sWhile (fuel : Nat) (c : FT) (body : FS) : FS := whGo c body fuel
theorem ss_while (fuel : Nat) {test : Expr} {body : List Stmt} {pos : Pos} {c : FT} {fb : FS} (hp : PassesOwn (model X.prog X.w) X.A X.env X.xe) (hc : PT X test (tT K c)) (hb : PSs X body (tS K fb)) : PS X (.While test body [] pos) (tS K (sWhile fuel c fb)) := (ps_while hp hc hb).imp fun E σ H ⟨B0, G, s, hs, q⟩ => by
  refine ⟨fun m σ' H' => ∃ s', GS K B0 G σ' H' s' ∧ Fin K B0 G E (whGo c fb m s'), ⟨fuel, s, hs, q⟩, ?_⟩
  rintro m σ' H' ⟨s', gs', q'⟩
  cases m with
  | zero => exact q'.elim
  | succ m =>
    obtain ⟨B, L, gd⟩ := gs'.good
    unfold whGo at q'
    split at q'
    · exact q'.elim
    · exact ⟨B, L, s'.1, false, gd, by assumption, fun H1 s1 => iteF (q' σ' H1 (gs'.mono s1))⟩
    · refine ⟨B, L, s'.1, true, gd, by assumption, fun H1 s1 => iteT ⟨fun σ2 H2 => ∃ s2, GS K B0 G σ2 H2 s2 ∧ Fin K B0 G E (whGo c fb m s2), fun σ2 H2 w => ⟨m, Nat.lt_succ_self m, w⟩, B0, G, s', gs'.mono s1, ?_⟩⟩
      cases hbd : fb s' with
      | stuck => rw [hbd] at q'; exact q'.elim
      | next s3 => rw [hbd] at q'; exact fun σ3 H3 g3 => ⟨s3, g3, q'⟩
      | cont s3 => rw [hbd] at q'; exact fun σ3 H3 g3 => ⟨s3, g3, q'⟩
      | brk s3 => rw [hbd] at q'; exact q'
      | ret d => rw [hbd] at q'; exact q'
end

/-! ### a def -/
def dfun (N n : Nat) (body : FS) : Fn := fun ds => if ds.length = n then (match body (ds.map some ++ List.replicate (N - n) none, List.replicate N 0) with
  | .ret d => some d
  | .next _ => some .none
  | _ => none) else none
theorem getD_rep {i N : Nat} : lv (List.replicate N 0) i = 0 := by
  unfold lv
  rw [List.getD_eq_getElem?_getD, List.getElem?_replicate]
  split <;> rfl
theorem start_ok {K : PySem.W.Frag} {B : List Addr} {H : Hp} {vs : List V} {ds : List D} {N : List Str} (ok : Ok B H) (r : RA K (hid B H) vs ds) (hn : ds.length ≤ N.length) :
    GS K B H (L2.start N vs) H (ds.map some ++ List.replicate (N.length - ds.length) none, List.replicate N.length 0) := by
  refine ⟨fun _ => [], B, fun a => by simp, ok, Same.refl H, ok.trk, fun i a h => by simp at h, fun i => List.nodup_nil, fun i j _ a h => by simp at h, ?_, ?_, fun i d h => ?_⟩
  · unfold L2.start
    simp [r.length]
  · simp; omega
  · have hi : i < ds.length := by
      by_cases hi : i < ds.length
      · exact hi
      · simp only [List.getElem?_append_right (show (ds.map some).length ≤ i by simpa using hi), List.getElem?_replicate] at h
        split at h <;> cases h
    simp only [List.getElem?_append_left (show i < (ds.map some).length by simpa using hi), List.getElem?_map] at h
    obtain ⟨x, h1, h2⟩ := Option.map_eq_some_iff.mp h
    cases h2
    obtain ⟨v, h3, h4⟩ := r.get h1
    refine ⟨v, ?_, ?_⟩
    · unfold L2.start
      rw [List.getElem?_append_left (by have := r.length; simp; omega), List.getElem?_map, h3]
      rfl
    · show RO K B H (lv (List.replicate N.length 0) i) [] v d
      rw [getD_rep]
      exact .z (.inl rfl) h4
section
variable {P : Program} {w : World} {K : PySem.W.Frag} {mg : Str → Option Value} {base : Heap}
theorem fun_den {x qual : Str} {st : Stmt} {f : Addr} {fd : FuncData} {N ps : List Str} {k : Nat} {g : FS} {NN n : Nat} (F : Fun K x qual st f fd) (hS : FnScope N ps (defScope st)) (hNN : NN = N.length) (hn : n = ps.length) (hle : ps.length ≤ N.length)
    (hbody : ∀ (cdv : Value) (A : Around) (outer : List Env) (s : Shared) (H : Hp) (E : XK), Room k (A.deeper (envOfC qual (defScope st) s.heap.objs.size f cdv)) → PSs (cxOf CX0 P w K mg base N qual (defScope st) f cdv A outer s H E).nox (defBody st) (tS K g)) :
    FnOk P w K mg base CX0 (k + 1) f fd ps (spD K n (dfun NN n g)) := by
  subst hNN hn
  refine F.ok hS spD_len (fun cdv A outer s H vs Q E hr h => ?_)
  obtain ⟨B, ds, d, ok, r, hl, hd, q⟩ := h
  refine ⟨_, hbody cdv A outer s H E hr, B, H, _, start_ok ok r (by rw [hl]; exact hle), ?_⟩
  unfold dfun at hd
  rw [if_pos hl] at hd
  rw [hl]
  split at hd
  · rename_i e
    rw [e]
    cases (Option.some.inj hd)
    exact q
  · rename_i e
    rw [e]
    cases (Option.some.inj hd)
    intro σ' H' ⟨O, B', g⟩
    exact q .non H' g.same .non
  · cases hd
end
end DS
end

section
set_option Elab.async false
set_option linter.all false
set_option maxRecDepth 100000
/-! Part h: more statements and tests. -/
namespace DS
open PySem PySem.Spec PyProof.Rows L2

theorem hu_of64 {A : Around} {k : Nat} (hr : Room k A) : A.units + 64 < cLine := hr.units
theorem hu2_of {A : Around} {k : Nat} (hr : Room k A) : A.units + 65 < cLine := by have := hr.un; omega
section
variable {X : Cx} {K : PySem.W.Frag} {κ : Mo} {pos : Pos} {a b : Expr} {fa fb : FE} {ca cb : Esc}
def tIsND (f : FE) : FT := fun ρ => o1 (f ρ) fun d => some (isNon d)
def tNotND (f : FE) : FT := fun ρ => o1 (f ρ) fun d => some (!isNon d)
theorem qt_isN {j pos'} (ha : PE X a (tD K (.br 1) fa ca)) : PT X (.Compare a [.Is] [.Constant .none j pos'] pos) (tT K (tIsND fa)) := (pt_cmp (pc_isN ha) rfl).imp fun σ H Q ⟨B, L, ρ, k, g, hf, q⟩ => by
  obtain ⟨d, h1, h2⟩ := o1_some hf
  cases (Option.some.inj h2)
  exact ⟨[], _, ρ, d, g.zero, .zero, h1, fun x H1 s1 p1 => ⟨_, by rw [(RL.r0 p1).isNon], q H1 s1⟩⟩
theorem qt_notN {j pos'} (ha : PE X a (tD K (.br 1) fa ca)) : PT X (.Compare a [.IsNot] [.Constant .none j pos'] pos) (tT K (tNotND fa)) := (pt_cmp (pc_notN ha) rfl).imp fun σ H Q ⟨B, L, ρ, k, g, hf, q⟩ => by
  obtain ⟨d, h1, h2⟩ := o1_some hf
  cases (Option.some.inj h2)
  exact ⟨[], _, ρ, d, g.zero, .zero, h1, fun x H1 s1 p1 => ⟨_, by rw [(RL.r0 p1).isNon], q H1 s1⟩⟩
/-! x[j] op= e on an owned list of ints -/
def sPutOp (i : Nat) (op : D → D → Option D) (j f : FE) : FS := fun s => match f s.1, eVar i s.1, j s.1 with
  | some d, some (.list ds), some (.int k) => match ixN ds.length k with
    | none => .stuck
    | some n => match o1 ds[n]? (fun x => op x d) with
      | some (.int y) => if lv s.2 i = 1 then .next (s.1.set i (some (.list (ds.set n (.int y)))), s.2) else .stuck
      | _ => .stuck
  | _, _, _ => .stuck
/-- reading an item by values -/
def rGetL : V → V → Hp → VK → Prop := fun o i H Q => ∃ p xs k x, o = .ref p ∧ i = .int k ∧ H p = some (.lst xs) ∧ atI xs k = some x ∧ Q x H
theorem get_list : PGet X rGetL := by
  intro pins s σ H o i ov iv Q I ro ri h
  obtain ⟨p, xs, k, z, rfl, rfl, hq, he, q⟩ := h
  cases ro
  obtain ⟨t, rfl⟩ := ri
  obtain ⟨its, r, pl, hz⟩ := I.list (SqL.of hq)
  obtain ⟨j, h1, h2, h3, h4, h5⟩ := atI_get he
  obtain ⟨w, ew, rw'⟩ := r.get h2
  have hl := r.length
  have hn := line63
  have fin : EP X pins σ Q w s := ⟨z, H, I, rw', q⟩
  by_cases h0 : 0 ≤ k
  · have hj : k.toNat = j := by
      rw [seqIndex_of h0 h5] at h1
      exact Option.some.inj h1
    exact wpAny_getItem_list pl.isList h0 (by omega) (by rw [hj]; simpa using ew) fin
  · have hj : (k + (its.toArray.size : Int)).toNat = j := by
      rw [seqIndex_neg (by omega) h4] at h1
      rw [List.size_toArray, ← hl]
      exact Option.some.inj h1
    exact wpAny_getItem_list_neg pl.isList (by omega) (by rw [List.size_toArray] <;> omega) (by omega) (by rw [hj]; simpa using ew) fin
/-- what an operator in place does to ints -/
def PIO (ti : TIp) (op : D → D → Option D) : Prop := ∀ (x y : V) (dx dy : D) (z : Int) (H : Hp) (Q : VK) (K : PySem.W.Frag), R K H x dx → R K H y dy → op dx dy = some (.int z) → Q (.int z) H → ti x y H Q
theorem pio_add : PIO (ipI fun i j => i + j) dAddI := by
  intro x y dx dy z H Q K rx ry h q
  unfold dAddI at h
  split at h
  · cases (Option.some.inj h)
    exact ⟨_, _, rx.int', ry.int', q⟩
  · cases h
theorem pio_sub : PIO (ipI fun i j => i - j) dSub := by
  intro x y dx dy z H Q K rx ry h q
  unfold dSub at h
  split at h
  · cases (Option.some.inj h)
    exact ⟨_, _, rx.int', ry.int', q⟩
  · cases h
theorem atI_of {α : Type} {xs : List α} {k : Int} {n : Nat} (h : ixN xs.length k = some n) : atI xs k = xs[n]? := by
  unfold atI; rw [h]; rfl
theorem putOp_ok {i : Nat} {j f : FE} {c cj : Esc} {op : D → D → Option D} {ti : TIp} (hio : PIO ti op) : ∀ E σ H, tS K (sPutOp i op j f) E σ H → tAugS (tVar i) (tD K (.br 1) j cj) (tD K (.br 1) f c) rGetL ti rSetL E σ H := fun E σ H ⟨B0, G, s, hs, q⟩ => by
  unfold sPutOp at q
  split at q
  · rename_i d ds k hd hi hk
    have hi := eVar_some hi
    split at q
    · exact q.elim
    · rename_i n hn
      split at q
      · rename_i y hy
        split at q
        · rename_i hl
          obtain ⟨e, he, hop⟩ := o1_some hy
          obtain ⟨O, B, g⟩ := hs
          obtain ⟨a, xs, h1, h2, h3, _⟩ := g.write hi hl
          refine ⟨.ref a, h1, [], _, s.1, _, g.good.zero, .zero, hk, fun w H1 s1 p1 => ?_⟩
          obtain ⟨v, hv, rv⟩ := h3.get he
          refine ⟨a, xs, k, v, rfl, RL.int p1, s1 _ _ h2, by rw [atI_of (by rw [h3.length]; exact hn)]; exact hv, [], _, s.1, d, (g.mono s1).good.zero, .zero, hd, fun u H2 s2 p2 => ?_⟩
          have s12 := s1.trans s2
          refine hio v u e d y H2 _ K ((rv.mono same_unhid).mono s12) (RL.r0 p2) hop ?_
          obtain ⟨a', xs', h1', h2', h3', h4'⟩ := (g.mono s12).write hi hl
          rw [h1] at h1'
          cases h1'
          have h5 := s12 _ _ h2
          rw [h5] at h2'
          cases h2'
          refine ⟨a, xs, k, n, rfl, RL.int p1, h5, by rw [h3.length]; exact hn, ?_⟩
          exact q _ _ (h4' _ _ (h3'.set (.int y) n))
        · exact q.elim
      · exact q.elim
  · exact q.elim
theorem ss_putOp (i : Nat) {x : Str} {e ix : Expr} {j f : FE} {c cj : Esc} {pos p p2 : Pos} {o : Operator} {op : D → D → Option D} {ti : TIp} (hio : PIO ti op) (ps : PS X (.AugAssign (.Subscript (.Name x p) ix p2) o e pos) (tAugS (tVar i) (tD K (.br 1) j cj) (tD K (.br 1) f c) rGetL ti rSetL)) :
    PS X (.AugAssign (.Subscript (.Name x p) ix p2) o e pos) (tS K (sPutOp i op j f)) := ps.imp (putOp_ok hio)
/-! x.extend(e) -/
def sExt (i : Nat) (f : FE) (c : Esc) : FS := fun s => match f s.1, eVar i s.1 with
  | some (.list es), some (.list ds) => if ds.length + es.length ≤ sz ∧ lv (demote c s.2) i = 1 then .next (s.1.set i (some (.list (ds ++ es))), demote c s.2) else .stuck
  | _, _ => .stuck
theorem ext_ok {i : Nat} {f : FE} {c : Esc} : ∀ E σ H, tS K (sExt i f c) E σ H → tDrop (tBM K "list" rExtend (tVar i) (tCons (tD K (.br 1) f c) tNil)) E σ H := fun E σ H ⟨B0, G, s, hs, q⟩ => by
  unfold sExt at q
  split at q
  · rename_i es ds hd hi
    have hi := eVar_some hi
    split at q
    · rename_i hz
      obtain ⟨hz, hl⟩ := hz
      obtain ⟨O, B, g0⟩ := hs
      obtain ⟨O', B', g, _⟩ := g0.demote c
      obtain ⟨a, xs, h1, h2, h3, h4⟩ := g.write hi hl
      refine ⟨.ref a, h1, .inl ⟨rfl, _, SqL.of h2⟩, B', _, s.1, _, g.good, demote_ok c s.2, hd, fun v H1 s1 p1 => ?_⟩
      obtain ⟨a', xs', h1', h2', h3', h4'⟩ := (g.mono s1).write hi hl
      rw [h1] at h1'
      cases h1'
      have h5 := s1 _ _ h2
      rw [h5] at h2'
      cases h2'
      obtain ⟨b, ys, rfl, e1, e2⟩ := RL.list1 p1
      refine ⟨a, b, xs, ys, rfl, rfl, h5, e1, by rw [h3.length, e2.length, sz_eq]; exact hz, ?_⟩
      exact q _ _ (h4' _ _ (h3'.append e2))
    · exact q.elim
  · exact q.elim
theorem ss_ext (i : Nat) {x : Str} {e : Expr} {f : FE} {c : Esc} {pos p p2 p3 : Pos} (ps : PS X (.Expr (.Call (.Attribute (.Name x p) "extend" p2) [e] [] p3) pos) (tDrop (tBM K "list" rExtend (tVar i) (tCons (tD K (.br 1) f c) tNil)))) :
    PS X (.Expr (.Call (.Attribute (.Name x p) "extend" p2) [e] [] p3) pos) (tS K (sExt i f c)) := ps.imp ext_ok
end
section
variable {P : Program} {w : World} {K : PySem.W.Frag} {mg : Str → Option Value} {base : Heap}
/-- a def that is never called -/
theorem fun_none {x qual : Str} {st : Stmt} {f : Addr} {fd : FuncData} {N ps : List Str} {k n : Nat} (F : Fun K x qual st f fd) (hS : FnScope N ps (defScope st)) (hn : n = ps.length) : FnOk P w K mg base CX0 (k + 1) f fd ps (spD K n fun _ => none) := by
  subst hn
  refine F.ok hS spD_len (fun cdv A outer s H vs Q E hr h => ?_)
  obtain ⟨B, ds, d, ok, r, hl, hd, q⟩ := h
  cases hd
end
end DS
end

section
set_option Elab.async false
set_option linter.all false
set_option maxRecDepth 100000
set_option maxHeartbeats 1000000
/-! Part i: zip and enumerate of lists and tuples, mixed. -/
namespace DS
open PySem PySem.Spec PyProof.Rows L2

/-- b: a tuple; else a list -/
def SqB (b : Bool) (K : PySem.W.Frag) (H : Hp) (a : Addr) (xs : List V) : Prop := if b = true then SqT K H a xs else SqL K H a xs
def ItB (b : Bool) (h : Heap) (it l : Addr) (i : Nat) : Prop := if b = true then h.IsTupleIter it l i else h.IsListIter it l i
def IsB (b : Bool) (h : Heap) (l : Addr) (items : Array Value) : Prop := if b = true then h.IsTuple l items else h.IsList l items
def beginB (b : Bool) (l : Addr) : Obj := if b = true then { cls := .type "tuple_iterator", data := .fields #[.ref l, .int 0 0] } else { cls := .type "list_iterator", data := .fields #[.ref l, .int 0 0] }
section
variable {b : Bool} {K : PySem.W.Frag}
theorem SqB.mono {H H' : Hp} {a : Addr} {xs : List V} (e : Same H H') (h : SqB b K H a xs) : SqB b K H' a xs := by
  cases b with
  | true => exact seqT_mono e h
  | false => exact e.seq h
theorem beginsB (l : Addr) (items : Array Value) : Begins (.ref l) (beginB b l) fun h => IsB b h l items := by
  cases b with
  | true => exact begins_tuple l items
  | false => exact begins_list l items
theorem beginB_it {h : Heap} {it l : Addr} (e : h.get? it = some (beginB b l)) : ItB b h it l 0 := by
  cases b with
  | true => exact ⟨_, e, rfl, rfl⟩
  | false => exact ⟨_, e, rfl, rfl⟩
theorem ItB.at {h h' : Heap} {it l : Addr} {i : Nat} (x : ItB b h it l i) (e : ∀ o, h.get? it = some o → h'.get? it = some o) : ItB b h' it l i := by
  cases b with
  | true => exact Heap.IsTupleIter.at x e
  | false => exact Heap.IsListIter.at x e
theorem ItB.obj {h : Heap} {it l : Addr} {i : Nat} (x : ItB b h it l i) : ∃ o, h.get? it = some o ∧ ∀ v, o.data ≠ .cell v := by
  cases b with
  | true => obtain ⟨o, e, _, d⟩ := x; exact ⟨o, e, fun v z => by rw [d] at z; cases z⟩
  | false => obtain ⟨o, e, _, d⟩ := x; exact ⟨o, e, fun v z => by rw [d] at z; cases z⟩
theorem drawsB {prog : Program} {w : World} {A : Around} (hh : A.handled = none) (it l : Addr) (hne : l ≠ it) (items : Array Value) :
    Draws prog w A it [it, l] items.size (fun i v => items[i]? = some v) (fun i h => ItB b h it l i ∧ IsB b h l items) := by
  cases b with
  | true => exact Draws.tuple hh it l hne items
  | false => exact Draws.list hh it l hne items
theorem _root_.L2.Inv.seqB {X : Cx} {pins : List (Addr × Obj)} {σ : L2.St} {H : Hp} {s : Shared} {a : Addr} {xs : List V} (I : Inv X pins σ H s) (h : SqB b X.K H a xs) : ∃ its : List Value, Vals xs its ∧ IsB b s.heap a its.toArray := by
  cases b with
  | true =>
    obtain ⟨its, rv, p, _⟩ := I.tuple h
    exact ⟨its, rv, p⟩
  | false =>
    obtain ⟨its, rv, p, _⟩ := I.list h
    exact ⟨its, rv, p.isList⟩
theorem _root_.L2.Inv.seqB_inj {X : Cx} {pins : List (Addr × Obj)} {σ : L2.St} {H : Hp} {s : Shared} {a : Addr} {xs ys : List V} (I : Inv X pins σ H s) (h : SqB b X.K H a xs) (h' : SqB b X.K H a ys) : xs = ys := by
  cases b with
  | true => exact I.tuple_inj h h'
  | false => exact I.list_inj h h'
theorem IsB.lt {h : Heap} {l : Addr} {items : Array Value} (x : IsB b h l items) : l < h.objs.size := by
  cases b with
  | true => obtain ⟨o, e, _⟩ := x; exact Heap.lt_size e
  | false => obtain ⟨o, e, _⟩ := x; exact Heap.lt_size e
theorem IsB.keeps {h h' : Heap} {l : Addr} {items : Array Value} (x : IsB b h l items) (k : ∀ c o, h.get? c = some o → h'.get? c = some o) : IsB b h' l items := by
  cases b with
  | true => obtain ⟨o, e, r⟩ := x; exact ⟨o, k _ _ e, r⟩
  | false => obtain ⟨o, e, r⟩ := x; exact ⟨o, k _ _ e, r⟩
end
theorem nin2 {α : Type} {z a b : α} (h1 : z ≠ a) (h2 : z ≠ b) : z ∉ [a, b] := by simp [h1, h2]
theorem in2 {α : Type} {a b : α} : a ∈ [a, b] := by simp
theorem sep_facts {N a1 a2 : Nat} (l1 : a1 < N) (l2 : a2 < N) : (N + 2 ≠ N + 4 ∧ N + 3 ≠ N + 4 ∧ N + 2 ≠ N + 3 ∧ N + 2 ≠ N ∧ N + 4 ≠ N ∧ N + 4 ≠ a1 ∧ N + 3 ≠ N ∧ N + 3 ≠ a1) ∧ N + 2 ≠ N + 1 ∧ N + 4 ≠ N + 1 ∧ N + 4 ≠ a2 ∧ N + 3 ≠ N + 1 ∧ N + 3 ≠ a2 ∧ N ≠ N + 1 ∧ N ≠ a2 ∧ N + 1 ≠ N ∧ N + 1 ≠ a1 := by omega
theorem sep_of {N a1 a2 : Nat} (l1 : a1 < N) (l2 : a2 < N) : ZipSep2 (N + 4) (N + 2) (N + 3) N (N + 1) [N, a1] [N + 1, a2] :=
  let ⟨⟨f1, f2, f3, f4, f5, f6, f7, f8⟩, f9, f10, f11, f12, f13, f14, f15, f16, f17⟩ := sep_facts l1 l2
  ⟨f1, f2, f3, f4, in2, nin2 f5 f6, nin2 f7 f8, f9, in2, nin2 f10 f11, nin2 f12 f13, nin2 f14 f15, nin2 f16 f17⟩
theorem ne_of_ltN {N a : Nat} (l : a < N) : a ≠ N ∧ a ≠ N + 1 ∧ N + 1 ≠ a ∧ N + 1 ≠ N := by omega
theorem le5 {N c : Nat} (h : c ∈ [N + 4, N + 2, N + 3, N, N + 1]) : N ≤ c := by
  simp only [List.mem_cons, List.not_mem_nil, or_false] at h
  omega
theorem le2 {N c : Nat} (h : c ∈ [N + 1, N]) : N ≤ c := by
  simp only [List.mem_cons, List.not_mem_nil, or_false] at h
  omega
/-- a new pair at each turn: what f and g say -/
def ItP (Sx Sy : Hp → List V → Prop) : It :=
  ⟨fun i H => ∃ (xs ys : List V) (x y : V), Sx H xs ∧ Sy H ys ∧ xs[i]? = some x ∧ ys[i]? = some y,
    fun i H v H' => ∃ T x y, v = .ref T ∧ H T = none ∧ H' = upd H T (.tup [x, y]) ∧ (∀ xs, Sx H xs → xs[i]? = some x) ∧ ∀ ys, Sy H ys → ys[i]? = some y,
    fun i H => ∃ xs ys : List V, Sx H xs ∧ Sy H ys ∧ i = min xs.length ys.length⟩
abbrev ItZ (b1 b2 : Bool) (K : PySem.W.Frag) (a1 a2 : Addr) : It := ItP (fun H xs => SqB b1 K H a1 xs) (fun H xs => SqB b2 K H a2 xs)
theorem turn_zipB {P : Program} {w : World} {K : PySem.W.Frag} {elts : List Expr} {kk : Nat} {tpos : Pos} {b1 b2 : Bool} {a1 a2 z TI TO i1 i2 : Addr} (S : ZipSep2 z TI TO i1 i2 [i1, a1] [i2, a2]) (n1 : a1 ≠ i1) (n2 : a2 ≠ i2) :
    Turn P w K (.Tuple elts kk tpos) (ItZ b1 b2 K a1 a2) [z, TI, TO, i1, i2] z (fun i h => IsZip h z TI TO .none ∧ IsTupOf2 h TI (.ref i1) (.ref i2) ∧ (∃ x y, IsTupOf2 h TO x y) ∧ ItB b1 h i1 a1 i ∧ ItB b2 h i2 a2 i) where
  mem := List.mem_cons_self
  obj := fun i h ⟨hz, hTI, ⟨x, y, hTO⟩, h1, h2⟩ c hc => by
    simp only [List.mem_cons, List.not_mem_nil, or_false] at hc
    rcases hc with rfl | rfl | rfl | rfl | rfl
    · exact ⟨_, hz, fun v q => nomatch q⟩
    · exact ⟨_, hTI, fun v q => nomatch q⟩
    · exact ⟨_, hTO, fun v q => nomatch q⟩
    · exact h1.obj
    · exact h2.obj
  keep := fun i h h' ⟨hz, hTI, ⟨x, y, hTO⟩, h1, h2⟩ k => ⟨k z (by simp) _ hz, k TI (by simp) _ hTI, ⟨x, y, k TO (by simp) _ hTO⟩, h1.at fun o e => k i1 (by simp) o e, h2.at fun o e => k i2 (by simp) o e⟩
  item := by
    intro X hP hw hK hc i pins s σ H E I hf ⟨hz, hTI, hTO, h1, h2⟩ hg
    subst hP hw hK
    obtain ⟨xs, ys, x, y, hqx, hqy, hx, hy⟩ := hg
    obtain ⟨its, rv, p⟩ := I.seqB hqx
    obtain ⟨its2, rv2, p2⟩ := I.seqB hqy
    have W := GoesN.zip2 (prog := X.prog) (w := X.w) (A := X.A) (elts := elts) (x1 := kk) (pos := tpos) S (drawsB (b := b1) (show X.A.in1.handled = none from I.ok.hd hc) i1 a1 n1 its.toArray) (drawsB (b := b2) (show X.A.in1.handled = none from I.ok.hd hc) i2 a2 n2 its2.toArray)
    have hlx : i < xs.length := (List.getElem?_eq_some_iff.mp hx).1
    have hly : i < ys.length := (List.getElem?_eq_some_iff.mp hy).1
    have l1 := rv.length
    have l2 := rv2.length
    refine thn (W.goes i s _ E (by simp only [List.size_toArray]; omega) ⟨hz, hTI, hTO, ⟨h1, p⟩, ⟨h2, p2⟩⟩ fun v h' tk ⟨T, u, u2, hv, hT, hu, hu2, hTup⟩ st' hk _ => ?_) fun r s1 q => q
    subst hv
    obtain ⟨w1, e1, ru⟩ := rv.get hx
    obtain ⟨w2, e2, ru2⟩ := rv2.get hy
    have f1 : u = w1 := by
      have : its[i]? = some u := by simpa using hu
      rw [e1] at this; exact (Option.some.inj this).symm
    have f2 : u2 = w2 := by
      have : its2[i]? = some u2 := by simpa using hu2
      rw [e2] at this; exact (Option.some.inj this).symm
    subst f1 f2
    have new : ObjOk X.prog X.w (upd H T (.tup [x, y])) h' T (.tup [x, y]) := ⟨by show 2 ≤ sizeLine; decide, [u, u2], .cons ru (.cons ru2 .nil), hTup⟩
    have I1 := I.turnedNew (t' := tk) (ch := [z, TI, TO, i1, i2]) (fun c o hb q => hk c o (fun hm => hb (by
      simp only [List.mem_cons, List.not_mem_nil, or_false] at hm ⊢
      rcases hm with h | h | h | h <;> simp [h])) q) hf hT new
    refine ⟨.ref T, _, I1, rfl, ⟨T, x, y, rfl, I.hok.fresh hT, rfl, fun l hl => by rw [Inv.seqB_inj I hl hqx]; exact hx, fun l hl => by rw [Inv.seqB_inj I hl hqy]; exact hy⟩, ⟨st'.1, st'.2.1, st'.2.2.1, st'.2.2.2.1.1, st'.2.2.2.2.1⟩, fun c hcm => ?_⟩
    have hlt : c < s.heap.objs.size := by
      simp only [List.mem_cons, List.not_mem_nil, or_false] at hcm
      obtain ⟨_, _, hTO'⟩ := hTO
      rcases hcm with rfl | rfl | rfl | rfl | rfl
      · exact Heap.lt_size hz
      · exact Heap.lt_size hTI
      · exact Heap.lt_size hTO'
      · obtain ⟨_, e, _⟩ := h1.obj; exact Heap.lt_size e
      · obtain ⟨_, e, _⟩ := h2.obj; exact Heap.lt_size e
    rw [upd_ne (Nat.ne_of_lt (Nat.lt_of_lt_of_le hlt hT))]
    exact (hf c hcm).1
  done := by
    intro X hP hw hK hc i pins s σ H E I hf ⟨hz, hTI, hTO, h1, h2⟩ hg
    subst hP hw hK
    obtain ⟨xs, ys, hqx, hqy, hi⟩ := hg
    obtain ⟨its, rv, p⟩ := I.seqB hqx
    obtain ⟨its2, rv2, p2⟩ := I.seqB hqy
    have W := GoesN.zip2 (prog := X.prog) (w := X.w) (A := X.A) (elts := elts) (x1 := kk) (pos := tpos) S (drawsB (b := b1) (show X.A.in1.handled = none from I.ok.hd hc) i1 a1 n1 its.toArray) (drawsB (b := b2) (show X.A.in1.handled = none from I.ok.hd hc) i2 a2 n2 its2.toArray)
    have hi' : i = min its.toArray.size its2.toArray.size := by simp only [List.size_toArray]; rw [hi, rv.length, rv2.length]
    subst hi'
    exact W.stops s (fun s1 => Inv X pins σ H s1) E ⟨hz, hTI, hTO, ⟨h1, p⟩, ⟨h2, p2⟩⟩ fun h' tk hk _ => I.turnedL (t' := tk) (ch := [z, TI, TO, i1, i2]) (fun c o hb q => hk c o (fun hm => hb (by
      simp only [List.mem_cons, List.not_mem_nil, or_false] at hm ⊢
      rcases hm with h | h | h | h <;> simp [h])) q) hf
  self := fun A i s Q E st h => wpAny_pyIter_zip st.1 h
def iZipB (K : PySem.W.Frag) (ta : TA) : TI := fun σ H R => ta σ H fun vs H1 => ∃ a1 a2 xs ys b1 b2, vs = [.ref a1, .ref a2] ∧ SqB b1 K H1 a1 xs ∧ SqB b2 K H1 a2 ys ∧ R (ItZ b1 b2 K a1 a2) H1
theorem pi_zipB {X : Cx} {e e2 : Expr} {ta : TA} {p pos tpos : Pos} {elts : List Expr} {kk : Nat} (hg : Gl X "zip") (hm : X.mg "zip" = none) (ha : PA X [e, e2] ta)
    (hs : starEach [e, e2] X.env = (false, eval e X.env) :: starEach [e2] X.env := by rfl) (hpl : (backTo pos (starEach [e2] X.env)).any (·.1) = false := by rfl) :
    PI X (.Tuple elts kk tpos) (.Call (.Name "zip" p) [e, e2] [] pos) (iZipB X.K ta) := by
  refine ⟨fun pins s σ H R I h => ?_⟩
  refine Call_ (ld_blt I hg hm PyProof.Rows.boot_zip (PyProof.Rows.callWith_type1 (thn (ha.run pos pins s σ H _ I h) fun us s1 ⟨vs, H1, I1, r1, q1⟩ => ?_) hs hpl))
  obtain ⟨a1, a2, xs, ys, b1, b2, ex, hx, hy, q⟩ := q1
  subst ex
  obtain ⟨u, u2, rfl, r, r'⟩ := vals2 r1
  cases r
  cases r'
  obtain ⟨its, rv, p1⟩ := Inv.seqB I1 hx
  obtain ⟨its2, rv2, p2⟩ := Inv.seqB I1 hy
  have l1 := p1.lt
  have l2 := p2.lt
  refine zip_begins2 (beginsB (b := b1) a1 its.toArray) (beginsB (b := b2) a2 its2.toArray) p1 p2 fun h' hz hTI hTO h1 h2 hsz hk => wpAny_pyIter_zip hz ?_
  have I2 : Inv X pins σ H1 { s1 with heap := h' } := I1.kept (t' := s1.toks) hk
  have hD := sep_of l1 l2
  refine ⟨s1.heap.objs.size + 4, [s1.heap.objs.size + 4, s1.heap.objs.size + 2, s1.heap.objs.size + 3, s1.heap.objs.size, s1.heap.objs.size + 1], _, _, H1, rfl, I2, turn_zipB hD (ne_of_ltN l1).1 (ne_of_ltN l2).2.1, ⟨hz, hTI, ⟨_, _, hTO⟩, beginB_it h1, beginB_it h2⟩, fun c hcm => ?_, q⟩
  exact I1.fpOk (le5 hcm) (I1.hok.fresh (le5 hcm))

/-! enumerate -/
abbrev ItE (b : Bool) (K : PySem.W.Frag) (a : Addr) : It :=
  ⟨fun i H => ∃ (xs : List V) (x : V), SqB b K H a xs ∧ xs[i]? = some x,
    fun i H v H' => ∃ T x, v = .ref T ∧ H T = none ∧ H' = upd H T (.tup [.int (i : Nat), x]) ∧ ∀ xs, SqB b K H a xs → xs[i]? = some x,
    fun i H => ∃ xs : List V, SqB b K H a xs ∧ i = xs.length⟩
theorem turn_enumB {P : Program} {w : World} {K : PySem.W.Frag} {elts : List Expr} {kk : Nat} {tpos : Pos} {b : Bool} {a e it : Addr} (hei : e ≠ it) (hea : e ≠ a) (hai : a ≠ it) :
    Turn P w K (.Tuple elts kk tpos) (ItE b K a) [e, it] e (fun i h => (∃ old, IsEnum h e it (0 + (i : Int)) old) ∧ ItB b h it a i) where
  mem := List.mem_cons_self
  obj := fun i h ⟨⟨old, he⟩, h1⟩ c hc => by
    simp only [List.mem_cons, List.not_mem_nil, or_false] at hc
    rcases hc with rfl | rfl
    · exact ⟨_, he, fun v q => nomatch q⟩
    · exact h1.obj
  keep := fun i h h' ⟨⟨old, he⟩, h1⟩ k => ⟨⟨old, k e (by simp) _ he⟩, h1.at fun o q => k it (by simp) o q⟩
  item := by
    intro X hP hw hK hc i pins s σ H E I hf ⟨he, h1⟩ hg
    subst hP hw hK
    obtain ⟨xs, x, hqx, hx⟩ := hg
    obtain ⟨its, rv, p⟩ := I.seqB hqx
    have W := GoesN.enumFrom (prog := X.prog) (w := X.w) (A := X.A) (elts := elts) (x1 := kk) (pos := tpos) 0 (drawsB (b := b) (show X.A.in1.handled = none from I.ok.hd hc) it a hai its.toArray) e hei (fun z => by rcases List.mem_cons.mp z with z | z; exact hei z; exact hea (List.mem_singleton.mp z)) List.mem_cons_self
    have hlx : i < xs.length := (List.getElem?_eq_some_iff.mp hx).1
    have l1 := rv.length
    refine thn (W.goes i s _ E (by simp only [List.size_toArray]; omega) ⟨he, h1, p⟩ fun v h' tk ⟨T, t, u, hv, hT, hu, hTup⟩ st' hk _ => ?_) fun r s1 q => q
    subst hv
    obtain ⟨w1, e1, ru⟩ := rv.get hx
    have f1 : u = w1 := by
      have : its[i]? = some u := by simpa using hu
      rw [e1] at this; exact (Option.some.inj this).symm
    subst f1
    have e0 : (0 : Int) + (i : Int) = (i : Nat) := by omega
    rw [e0] at hTup
    have new : ObjOk X.prog X.w (upd H T (.tup [.int (i : Nat), x])) h' T (.tup [.int (i : Nat), x]) := ⟨by show 2 ≤ sizeLine; decide, [.int (i : Nat) t, u], .cons ⟨_, rfl⟩ (.cons ru .nil), hTup⟩
    have I1 := I.turnedNew (t' := tk) (ch := [e, it]) (fun c o hb q => hk c o hb q) hf hT new
    refine ⟨.ref T, _, I1, rfl, ⟨T, x, rfl, I.hok.fresh hT, rfl, fun l hl => by rw [Inv.seqB_inj I hl hqx]; exact hx⟩, ⟨st'.1, st'.2.1⟩, fun c hcm => ?_⟩
    have hlt : c < s.heap.objs.size := by
      simp only [List.mem_cons, List.not_mem_nil, or_false] at hcm
      obtain ⟨_, he'⟩ := he
      rcases hcm with rfl | rfl
      · exact Heap.lt_size he'
      · obtain ⟨_, e, _⟩ := h1.obj; exact Heap.lt_size e
    rw [upd_ne (Nat.ne_of_lt (Nat.lt_of_lt_of_le hlt hT))]
    exact (hf c hcm).1
  done := by
    intro X hP hw hK hc i pins s σ H E I hf ⟨he, h1⟩ hg
    subst hP hw hK
    obtain ⟨xs, hqx, hi⟩ := hg
    obtain ⟨its, rv, p⟩ := I.seqB hqx
    have W := GoesN.enumFrom (prog := X.prog) (w := X.w) (A := X.A) (elts := elts) (x1 := kk) (pos := tpos) 0 (drawsB (b := b) (show X.A.in1.handled = none from I.ok.hd hc) it a hai its.toArray) e hei (fun z => by rcases List.mem_cons.mp z with z | z; exact hei z; exact hea (List.mem_singleton.mp z)) List.mem_cons_self
    have hi' : i = its.toArray.size := by simp only [List.size_toArray]; rw [hi, rv.length]
    subst hi'
    exact W.stops s (fun s1 => Inv X pins σ H s1) E ⟨he, h1, p⟩ fun h' tk hk _ => I.turnedL (t' := tk) (ch := [e, it]) (fun c o hb q => hk c o hb q) hf
  self := fun A i s Q E st h => let ⟨⟨_, he⟩, _⟩ := st; wpAny_pyIter_enum he h
theorem meets_enum1 {v : Value} {o : Obj} {H : Heap → Prop} (B : Begins v o H) :
    Meets (Builtin.«enumerate.__new__» ⟨[.type "enumerate", v], []⟩) (fun _ R s => H s.heap ∧
      R (.ok (.ret (.ref (s.heap.push o).objs.size))) { s with heap := (s.heap.push o).push { cls := .type "enumerate", data := .fields #[.none, .bool false, .ref s.heap.objs.size, rawInt 0, .none, .none] } }) :=
  .of_wp fun prog w A R s h => by
    obtain ⟨hp, g, d, tk, os⟩ := s
    obtain ⟨h1, h⟩ := h
    have hsub := sub_enumerate
    have q1 : ∀ {A' : Around} {E : Value → Shared → Prop} {Q : Value → Shared → Prop}, Q (.ref hp.objs.size) ⟨hp.push o, g, d, tk, os⟩ → wpAny (model prog w) A' (pyIter v) Q E ⟨hp, g, d, tk, os⟩ := fun q => B.iter prog w _ _ ⟨hp, g, d, tk, os⟩ _ h1 q
    wp_walk using q1
    refine wpAny_stack_any fun st => wpAny_pure ?_
    split
    · rename_i c _ _ _ _ _
      cases (c == Value.type "enumerate") <;> (wp_walk using q1; exact ⟨_, rfl, h⟩)
    · wp_walk using q1
      exact ⟨_, rfl, h⟩
theorem enum_begins1 {prog : Program} {w : World} {A : Around} {E : Value → Shared → Prop} {s : Shared} {v : Value} {o : Obj} {H : Heap → Prop} {Q : Value → Shared → Prop} (B : Begins v o H) (h1 : H s.heap)
    (h : ∀ h', IsEnum h' (s.heap.objs.size + 1) s.heap.objs.size 0 .none → h'.get? s.heap.objs.size = some o → (∀ b o, s.heap.get? b = some o → h'.get? b = some o) → Q (.ref (s.heap.objs.size + 1)) { s with heap := h' }) :
    wpAny (model prog w) A (call (.type "enumerate") [v]) Q E s := by
  refine callType_new F.called_enumerate (by decide) (F.typeCall_enumerate_1 _) (F.newCall_enumerate_1 _) (fun obj => F.args_object_init_2 obj _) F.entry_enumerate_new (meets_enum1 B) ⟨h1, ?_⟩
  have hz : (s.heap.push o).objs.size = s.heap.objs.size + 1 := Heap.size_push ..
  show _ ∧ _
  rw [hz]
  have he : IsEnum ((s.heap.push o).push { cls := .type "enumerate", data := .fields #[.none, .bool false, .ref s.heap.objs.size, rawInt 0, .none, .none] }) (s.heap.objs.size + 1) s.heap.objs.size 0 .none := by
    have e := Heap.get?_push_size (s.heap.push o) (o := { cls := .type "enumerate", data := .fields #[.none, .bool false, .ref s.heap.objs.size, rawInt 0, .none, .none] }) rfl
    rw [hz] at e; exact e
  exact ⟨⟨_, he, rfl⟩, h _ he (Heap.get?_push_of_some _ (Heap.get?_push_size _ B.free)) fun b o x => Heap.get?_push_of_some _ (Heap.get?_push_of_some _ x)⟩
def iEnumB (K : PySem.W.Frag) (ta : TA) : TI := fun σ H R => ta σ H fun vs H1 => ∃ a xs b, vs = [.ref a] ∧ SqB b K H1 a xs ∧ R (ItE b K a) H1
theorem pi_enumB {X : Cx} {e : Expr} {ta : TA} {p pos tpos : Pos} {elts : List Expr} {kk : Nat} (hg : Gl X "enumerate") (hm : X.mg "enumerate" = none) (ha : PA X [e] ta)
    (hs : starEach [e] X.env = [(false, eval e X.env)] := by rfl) : PI X (.Tuple elts kk tpos) (.Call (.Name "enumerate" p) [e] [] pos) (iEnumB X.K ta) := by
  refine ⟨fun pins s σ H R I h => ?_⟩
  refine Call_ (ld_blt I hg hm boot_enumerate (PyProof.Rows.callWith_type1 (thn (ha.run pos pins s σ H _ I h) fun us s1 ⟨vs, H1, I1, r1, q1⟩ => ?_) hs rfl))
  obtain ⟨a, xs, b, ex, hx, q⟩ := q1
  subst ex
  obtain ⟨u, rfl, r⟩ := vals1 r1
  cases r
  obtain ⟨its, rv, p1⟩ := Inv.seqB I1 hx
  have l1 := p1.lt
  refine enum_begins1 (beginsB (b := b) a its.toArray) p1 fun h' he h1 hk => wpAny_pyIter_enum he ?_
  have I2 : Inv X pins σ H1 { s1 with heap := h' } := I1.kept (t' := s1.toks) hk
  refine ⟨s1.heap.objs.size + 1, [s1.heap.objs.size + 1, s1.heap.objs.size], _, _, H1, rfl, I2, turn_enumB (b := b) (a := a) (ne_of_ltN l1).2.2.2 (ne_of_ltN l1).2.2.1 (ne_of_ltN l1).1, ⟨⟨_, he⟩, beginB_it h1⟩, fun c hcm => ?_, q⟩
  exact I1.fpOk (le2 hcm) (I1.hok.fresh (le2 hcm))

/-! ### the same on trees -/
section
variable {X : Cx} {K : PySem.W.Frag} {m : Nat}
theorem sq_of {B : List Addr} {H : Hp} {v : V} {d : D} {ds : List D} (hm : m ≤ 1) (h : RL K B H m v d) (hd : seqOf d = some ds) : ∃ a xs b, v = .ref a ∧ SqB b K (gOf m B H) a xs ∧ RA K (hid B H) xs ds := by
  unfold seqOf at hd
  split at hd
  · cases (Option.some.inj hd)
    obtain ⟨a, xs, rfl, e1, e2⟩ := RL.listG hm h
    exact ⟨a, xs, false, rfl, SqL.of e1, e2⟩
  · cases (Option.some.inj hd)
    obtain ⟨a, xs, rfl, e1, e1', e2⟩ := RL.tup h
    exact ⟨a, xs, true, rfl, seqT_mono same_gOf (.inl (.inl e1')), e2⟩
  · cases hd
theorem walks_pair {B : List Addr} {H1 : Hp} {Sx Sy : Hp → List V → Prop} {xs ys : List V} {ds es : List D} (hx : ∀ H, Same (gOf m B H1) H → Sx H xs) (hy : ∀ H, Same (gOf m B H1) H → Sy H ys) (rx : RA K (hid B H1) xs ds) (ry : RA K (hid B H1) ys es) :
    Walks K (gOf m B H1) B (ItP Sx Sy) ((ds.zip es).map fun p => .tuple [p.1, p.2]) where
  go := fun i H hi s => by
    simp only [List.length_map, List.length_zip] at hi
    have e1 := rx.length
    have e2 := ry.length
    exact ⟨xs, ys, xs[i]'(by omega), ys[i]'(by omega), hx H s, hy H s, by simp, by simp⟩
  stop := fun H s => ⟨xs, ys, hx H s, hy H s, by simp [rx.length, ry.length]⟩
  yld := fun i H v H' d hd s ⟨T, x, y, hv, hT, hH, h1, h2⟩ => by
    subst hv hH
    rw [List.getElem?_map] at hd
    obtain ⟨p, hp, e⟩ := Option.map_eq_some_iff.mp hd
    subst e
    rw [List.getElem?_zip_eq_some] at hp
    obtain ⟨x', f1, r1⟩ := rx.get hp.1
    obtain ⟨y', f2, r2⟩ := ry.get hp.2
    have g1 := h1 xs (hx H s)
    have g2 := h2 ys (hy H s)
    rw [f1] at g1
    rw [f2] at g2
    cases g1
    cases g2
    refine ⟨same_upd hT, fun B' _ hb => .tup (a := T) (xs := [x, y]) ?_ (.cons (r1.mono (keepR s (same_upd hT) hb)) (.cons (r2.mono (keepR s (same_upd hT) hb)) .nil))⟩
    rw [hid_out fun z => (hb T z).2 hT, upd_same]
def iZip2 (f g : FE) : FA := fun ρ => o2 (f ρ) (g ρ) fun d e => o2 (seqOf d) (seqOf e) fun ds es => some ((ds.zip es).map fun p => .tuple [p.1, p.2])
theorem qi_zip {e e2 : Expr} {f g : FE} {c c2 : Esc} {p pos tpos : Pos} {elts : List Expr} {kk : Nat} (hg : Gl X "zip") (hm : X.mg "zip" = none) (ha : PE X e (tD K (.br m) f c)) (hb : PE X e2 (tD K (.br m) g c2)) (hm1 : m ≤ 1 := by decide) (hX : X.K = K := by rfl)
    (hs : starEach [e, e2] X.env = (false, eval e X.env) :: starEach [e2] X.env := by rfl) (hs2 : starEach [e2] X.env = (false, eval e2 X.env) :: starEach [] X.env := by rfl) (hpl : (backTo pos (starEach [e2] X.env)).any (·.1) = false := by rfl) :
    PI X (.Tuple elts kk tpos) (.Call (.Name "zip" p) [e, e2] [] pos) (tI K m (iZip2 f g) (c ++ c2)) := by
  subst hX
  refine (pi_zipB hg hm (pa_cons ha (pa_cons hb pa_nil hs2) hs) hs hpl).imp fun σ H Rr ⟨B, L, ρ, ds, g, es, hf, q⟩ => ?_
  obtain ⟨d, d', h1, h2, h3⟩ := o2_some hf
  obtain ⟨xs, ys, h4, h5, h6⟩ := o2_some h3
  cases (Option.some.inj h6)
  refine ⟨B, L, ρ, d, g, es.left, h1, fun v H1 s1 p1 => ⟨B, L, ρ, d', g.mono s1, es.right, h2, fun w H2 s2 p2 => ?_⟩⟩
  obtain ⟨a1, vs1, b1, rfl, k1, r1⟩ := sq_of hm1 (RL.mono s2 (same_hid s2) p1) h4
  obtain ⟨a2, vs2, b2, rfl, k2, r2⟩ := sq_of hm1 p2 h5
  exact ⟨a1, a2, vs1, vs2, b1, b2, rfl, k1.mono gOf_unhid, k2.mono gOf_unhid, q _ H2 (s1.trans s2) (walks_pair (fun H s => k1.mono s) (fun H s => k2.mono s) r1 r2)⟩
def enumD (ds : List D) : List D := (ds.zipIdx).map fun p => .tuple [.int (p.2 : Nat), p.1]
def iEnumD (f : FE) : FA := fun ρ => o1 (f ρ) fun d => o1 (seqOf d) fun ds => some (enumD ds)
theorem walks_enum {B : List Addr} {H1 : Hp} {b : Bool} {a : Addr} {xs : List V} {ds : List D} (hx : SqB b K (gOf m B H1) a xs) (rx : RA K (hid B H1) xs ds) : Walks K (gOf m B H1) B (ItE b K a) (enumD ds) where
  go := fun i H hi s => by
    simp only [enumD, List.length_map, List.length_zipIdx] at hi
    have e1 := rx.length
    exact ⟨xs, xs[i]'(by omega), hx.mono s, by simp⟩
  stop := fun H s => ⟨xs, hx.mono s, by simp [enumD, rx.length]⟩
  yld := fun i H v H' d hd s ⟨T, x, hv, hT, hH, h1⟩ => by
    subst hv hH
    unfold enumD at hd
    rw [List.getElem?_map, List.getElem?_zipIdx] at hd
    obtain ⟨p, hp, e⟩ := Option.map_eq_some_iff.mp hd
    subst e
    obtain ⟨y, hy, e⟩ := Option.map_eq_some_iff.mp hp
    subst e
    obtain ⟨x', f1, r1⟩ := rx.get hy
    have g1 := h1 xs (hx.mono s)
    rw [f1] at g1
    cases g1
    refine ⟨same_upd hT, fun B' _ hb => .tup (a := T) (xs := [.int (i : Nat), x]) ?_ (.cons ?_ (.cons (r1.mono (keepR s (same_upd hT) hb)) .nil))⟩
    · rw [hid_out fun z => (hb T z).2 hT, upd_same]
    · have e0 : (((0 + i : Nat) : Int)) = ((i : Nat) : Int) := by omega
      show R K _ (.int (i : Nat)) (.int ((0 + i : Nat) : Int))
      rw [e0]
      exact .int _
theorem qi_enum {e : Expr} {f : FE} {c : Esc} {p pos tpos : Pos} {elts : List Expr} {kk : Nat} (hg : Gl X "enumerate") (hm : X.mg "enumerate" = none) (ha : PE X e (tD K (.br m) f c)) (hm1 : m ≤ 1 := by decide) (hX : X.K = K := by rfl)
    (hs : starEach [e] X.env = (false, eval e X.env) :: starEach [] X.env := by rfl) : PI X (.Tuple elts kk tpos) (.Call (.Name "enumerate" p) [e] [] pos) (tI K m (iEnumD f) c) := by
  subst hX
  refine (pi_enumB hg hm (pa_cons ha pa_nil hs) hs).imp fun σ H Rr ⟨B, L, ρ, ds, g, es, hf, q⟩ => ?_
  obtain ⟨d, h1, h3⟩ := o1_some hf
  obtain ⟨xs, h4, h6⟩ := o1_some h3
  cases (Option.some.inj h6)
  refine ⟨B, L, ρ, d, g, es, h1, fun v H1 s1 p1 => ?_⟩
  obtain ⟨a1, vs1, b1, rfl, k1, r1⟩ := sq_of hm1 p1 h4
  exact ⟨a1, vs1, b1, rfl, k1.mono gOf_unhid, q _ H1 s1 (walks_enum k1 r1)⟩
end
end DS
end

section
set_option Elab.async false
set_option linter.all false
set_option maxRecDepth 100000
set_option maxHeartbeats 1000000
/-! Part j: list.index, list(range(..)), a, b, c = x, y, z. -/
namespace DS
open PySem PySem.Spec PyProof.Rows L2

section
variable {X : Cx} {K : PySem.W.Frag} {κ : Mo} {o e : Expr} {fo fe : FE} {co ce : Esc} {T id : String} {r : V → List V → Hp → VK → Prop} {dop : D → D → Option D}
/-- a method of a built-in type with one argument and a flat answer -/
structure MethF (K : PySem.W.Frag) (T : String) (r : V → List V → Hp → VK → Prop) (dop : D → D → Option D) : Prop where
  ty : ∀ (x : V) (dx dy d : D) (H : Hp), R K H x dx → dop dx dy = some d → tyV K T x H
  run : ∀ (x y : V) (dx dy d : D) (H : Hp) (Q : VK), R K H x dx → R K H y dy → dop dx dy = some d → (∀ v, R K H v d → flat d = true → Q v H) → r x [y] H Q
theorem qe_m1F (hd : MethF K T r dop) (h : PE X e (tBM K T r (tD K (.br 1) fo co) (tCons (tD K (.br 1) fe ce) tNil))) : PE X e (tD K κ (eOp dop fo fe) []) := h.imp fun σ H Q ⟨B, L, ρ, d, g, es, hf, q⟩ => by
  obtain ⟨dx, dy, h1, h2, h3⟩ := o2_some hf
  refine ⟨[], _, ρ, dx, g.zero, .zero, h1, fun x H1 s1 p1 => ⟨hd.ty x dx dy d H1 (RL.r0 p1) h3, [], _, ρ, dy, (g.mono s1).zero, .zero, h2, fun y H2 s2 p2 => ?_⟩⟩
  exact hd.run x y dx dy d H2 Q ((RL.r0 p1).mono s2) (RL.r0 p2) h3 fun v rv fl => q v H2 (s1.trans s2) (Post.of_flat (rv.hidF ((g.ok.mono s1).mono s2).noTup fl) (flat_top fl))
def dIndex : D → D → Option D
  | .list ds, d => if (SeqAt.shaped (.list ds) && SeqAt.shaped d) = true then (match ds.findIdx? fun z => PyData.eqv z d with
    | some j => some (.int (j : Nat))
    | none => none) else none
  | _, _ => none
theorem mf_index : MethF K "list" (rIndexD K) dIndex where
  ty := fun x dx dy d H rx h => by
    unfold dIndex at h
    split at h
    · cases rx with
      | lst h1 h2 => exact .inl ⟨rfl, _, SqL.of h1⟩
    · cases h
  run := fun x y dx dy d H Q rx ry h q => by
    unfold dIndex at h
    split at h
    · split at h
      · rename_i hs
        split at h
        · rename_i j hj
          cases (Option.some.inj h)
          have hs := (Bool.and_eq_true _ _).mp hs
          cases rx with
          | lst h1 h2 =>
            have hj := List.findIdx?_eq_some_iff_getElem.mp hj
            obtain ⟨hlt, he, hno⟩ := hj
            refine ⟨_, y, dy, _, j, _, rfl, rfl, (R.lst h1 h2).toDp (SeqAt.canLay_of_shaped hs.1), ry.toDp (SeqAt.canLay_of_shaped hs.2), hs.1, hs.2, List.getElem?_eq_getElem hlt, he, fun m z' hm hz => ?_, q _ (.int _) rfl⟩
            obtain ⟨hml, hz'⟩ := List.getElem?_eq_some_iff.mp hz
            have hh := hno m hm
            rw [hz'] at hh
            simpa using hh
        · cases h
      · cases h
    · cases h
end
section
variable {X : Cx} {K : PySem.W.Frag} {κ : Mo} {pos : Pos} {a b c : Expr} {f g h : FE} {ca cb cc : Esc}
/-! a, b, c = x, y, z with names -/
def sPar3 (i j k : Nat) (f g h : FE) (c : Esc) : FS := fun s => match f s.1, g s.1, h s.1 with
  | some d, some e, some u => .next (((s.1.set i (some d)).set j (some e)).set k (some u), (((demote c s.2).set i 0).set j 0).set k 0)
  | _, _, _ => .stuck
theorem ss_par3 (i j k : Nat) {x y z : Str} {px py pz pt pos : Pos} {kt k2 pt2} (hc : X.calm = true) (hN : X.N.Nodup) (ha : PE X a (tD K (.br 0) f ca)) (hb : PE X b (tD K (.br 0) g cb)) (hcc : PE X c (tD K (.br 0) h cc))
    (hw : swappedStores [.Tuple [.Name x px, .Name y py, .Name z pz] kt pt] (.Tuple [a, b, c] k2 pt2) X.env = pure (some [x, y, z])) (hi : X.N[i]? = some x := by rfl) (hj : X.N[j]? = some y := by rfl) (hk : X.N[k]? = some z := by rfl) (hij : i ≠ j := by decide) (hik : i ≠ k := by decide) (hjk : j ≠ k := by decide)
    (hx : X.env.scope.names.lookup x = some .local := by rfl) (hy : X.env.scope.names.lookup y = some .local := by rfl) (hz : X.env.scope.names.lookup z = some .local := by rfl)
    (hs : swapsWithSole [.Tuple [.Name x px, .Name y py, .Name z pz] kt pt] (.Tuple [a, b, c] k2 pt2) pos.line X.env = pure false := by rfl) (hs1 : starEach [a, b, c] X.env = (false, eval a X.env) :: starEach [b, c] X.env := by rfl) (hs2 : starEach [b, c] X.env = (false, eval b X.env) :: starEach [c] X.env := by rfl) (hs3 : starEach [c] X.env = (false, eval c X.env) :: starEach [] X.env := by rfl) :
    PS X (.Assign [.Tuple [.Name x px, .Name y py, .Name z pz] kt pt] (.Tuple [a, b, c] k2 pt2) pos) (tS K (sPar3 i j k f g h (ca ++ (cb ++ cc)))) := (ps_par3 hc hN hi hj hk hij hik hjk hx hy hz (qa_cons ha (qa_cons hb (qa_cons hcc qa_nil hs3) hs2) hs1) hw hs).imp fun E σ H ⟨B0, G, s, hs, q⟩ => by
  unfold sPar3 at q
  split at q
  · rename_i d e u hd he hu
    have hf : aCons f (aCons g (aCons h aNil)) s.1 = some [d, e, u] := by
      unfold aCons aNil
      simp [hd, he, hu, o2]
    obtain ⟨O, B, gd⟩ := hs
    obtain ⟨O', B', g', _⟩ := gd.demote (ca ++ (cb ++ (cc ++ [])))
    rw [List.append_nil] at g'
    refine ⟨B', lv (demote (ca ++ (cb ++ cc)) s.2), s.1, _, g'.good, by rw [List.append_nil]; exact demote_ok _ s.2, hf, fun vs H' e1 hl p => ?_⟩
    match vs, hl with
    | [v1, v2, v3], _ =>
      refine ⟨v1, v2, v3, rfl, q _ H' ?_⟩
      exact GS.sets (m := [(i, v1), (j, v2), (k, v3)]) (l := [(i, d), (j, e), (k, u)]) (g'.mono e1) (fun _ h => h) (.cons (RL.r (p 0 v1 d rfl rfl)) (.cons (RL.r (p 1 v2 e rfl rfl)) (.cons (RL.r (p 2 v3 u rfl rfl)) .nil)))
  · exact q.elim
/-! list(range(..)), tuple(range(..)) -/
def rgOk (a b : Int) : Bool := rngOk a b && decide ((b - a).toNat ≤ 16777216)
theorem rgOk_ok {a b : Int} (h : rgOk a b = true) : RgOk a b := by
  unfold rgOk at h
  rw [Bool.and_eq_true] at h
  have h1 := rngOk_ok h.1
  have h2 := of_decide_eq_true h.2
  exact ⟨h1.1, h1.2.1, h1.2.2.1, h1.2.2.2, by omega⟩
def eRg (t : List D → D) (f g : FE) : FE := fun ρ => o2 (f ρ) (g ρ) fun d e => match d, e with
  | .int i, .int j => if rgOk i j = true then some (t (rngD i (j - i).toNat)) else none
  | _, _ => none
def tRgD (K : PySem.W.Frag) (f g : FE) : St → Hp → (Int → Int → Hp → Prop) → Prop := fun σ H Q => ∃ B L ρ i j, Good K B L σ H ρ ∧ f ρ = some (.int i) ∧ g ρ = some (.int j) ∧ ∀ H', Same H H' → Q i j H'
theorem qrg_1 {p : Pos} (hg : Gl X "range") (hm : X.mg "range" = none) (ha : PE X a (tD K (.br 1) f ca)) (na : starEach [a] X.env = (false, eval a X.env) :: starEach [] X.env := by rfl) : PRg X (.Call (.Name "range" p) [a] [] pos) (tRgD K (eC (.int 0)) f) := by
  intro pins s σ H Q I ⟨B, L, ρ, i, j, gd, h1, h2, q⟩
  cases (Option.some.inj h1)
  exact prg_1 hg hm ha na pins s σ H Q I ⟨[], _, ρ, _, gd.zero, .zero, h2, fun v H1 s1 p1 => ⟨j, RL.int p1, q H1 s1⟩⟩
theorem qrg_2 {p : Pos} (hg : Gl X "range") (hm : X.mg "range" = none) (ha : PE X a (tD K (.br 1) f ca)) (hb : PE X b (tD K (.br 1) g cb)) (na : starEach [a, b] X.env = (false, eval a X.env) :: starEach [b] X.env := by rfl) (nb : starEach [b] X.env = (false, eval b X.env) :: starEach [] X.env := by rfl) (hp : (backTo pos (starEach [b] X.env)).any (·.1) = false := by rfl) :
    PRg X (.Call (.Name "range" p) [a, b] [] pos) (tRgD K f g) := by
  intro pins s σ H Q I ⟨B, L, ρ, i, j, gd, h1, h2, q⟩
  exact prg_2 hg hm ha hb na nb hp pins s σ H Q I ⟨[], _, ρ, _, gd.zero, .zero, h1, fun v H1 s1 p1 => ⟨[], _, ρ, _, (gd.mono s1).zero, .zero, h2, fun w H2 s2 p2 => ⟨i, j, RL.int p1, RL.int p2, q H2 (s1.trans s2)⟩⟩⟩
theorem rgV_R {H : Hp} (i : Int) (n : Nat) : RA K H ((List.range n).map fun k => V.int (i + (k : Nat))) (rngD i n) := by
  unfold rngD
  generalize List.range n = l
  induction l with
  | nil => exact .nil
  | cons k r ih => exact .cons (.int _) ih
theorem qe_listRg {p : Pos} {e : Expr} (hc : X.calm = true) (hg : Gl X "list") (hm : X.mg "list" = none) (he : PRg X e (tRgD K f g)) (hκ : κ.one = true := by rfl) (na : starEach [e] X.env = (false, eval e X.env) :: starEach [] X.env := by rfl) : PE X (.Call (.Name "list" p) [e] [] pos) (tD K κ (eRg .list f g) []) :=
  (pe_listRg hc hg hm he na).imp fun σ H Q ⟨B, L, ρ, d, gd, es, hf, q⟩ => by
  obtain ⟨d1, d2, h1, h2, h3⟩ := o2_some hf
  split at h3
  · rename_i i j
    obtain ⟨hok, e⟩ := ite_some h3
    subst e
    refine ⟨B, L, ρ, i, j, gd, h1, h2, fun H1 s1 => ⟨rgOk_ok hok, fun t nt => q _ _ (s1.trans (same_upd nt)) (Post.new gd.ok.trk (s1.free nt) upd_same (rgV_R i _) hκ)⟩⟩
  · cases h3
theorem qe_tupRg {p : Pos} {e : Expr} (hc : X.calm = true) (hg : Gl X "tuple") (hm : X.mg "tuple" = none) (he : PRg X e (tRgD K f g)) (na : starEach [e] X.env = (false, eval e X.env) :: starEach [] X.env := by rfl) : PE X (.Call (.Name "tuple" p) [e] [] pos) (tD K κ (eRg .tuple f g) []) :=
  (pe_tupRg hc hg hm he na).imp fun σ H Q ⟨B, L, ρ, d, gd, es, hf, q⟩ => by
  obtain ⟨d1, d2, h1, h2, h3⟩ := o2_some hf
  split at h3
  · rename_i i j
    obtain ⟨hok, e⟩ := ite_some h3
    subst e
    refine ⟨B, L, ρ, i, j, gd, h1, h2, fun H1 s1 => ⟨rgOk_ok hok, fun t nt => q _ _ (s1.trans (same_upd nt)) (Post.of_flat (.tup (a := t) (xs := rgV i j) ?_ (rgV_R i _)) rfl)⟩⟩
    rw [hid_out ((gd.ok.mono s1).trk.new nt), upd_same]
  · cases h3
end
end DS
end

section
set_option Elab.async false
set_option linter.all false
set_option maxRecDepth 100000
/-! Part k: the law's own promise. -/
namespace DS
open PySem PySem.Spec PyProof.Rows L2
/-- the script as a tree: a list that is never written -/
def scr (ns : List Int) : D := .dict [(.none, .list (ns.map PyData.int))]
theorem law_sp {K : PySem.W.Frag} {F : Fn} {H : Hp} {a : Addr} {ns : List Int} (h : F [scr ns] = some (.bool true)) (hS : SqL K H a (ns.map V.int)) : spD K 1 F [.ref a] H (fun v _ => v = .bl true) fun _ _ _ => False :=
  ⟨[], [scr ns], .bool true, Ok.nil, by rw [hid_nil]; exact .cons (.frz hS (RA.ofInts ns)) .nil, rfl, h, fun v H' _ r => r.bl'⟩
end DS
end

section
set_option Elab.async false
set_option linter.all false
set_option maxRecDepth 100000
set_option maxHeartbeats 1000000
/-! Part m: min, max, sorted of trees that are alike. -/
namespace DS
open PySem PySem.Spec PyProof.Rows L2

/-- trees that can be compared with each other -/
def allCmp (ds : List D) : Bool := PyData.canLayAll0 ds && decide (PyData.depthAll ds ≤ 60) && ds.all fun x => !noneD x && ds.all fun y => PySem.W.alike x y
theorem noneD_ne {x : D} (h : (!noneD x) = true) : x ≠ .none := by
  intro e
  rw [e] at h
  simp [noneD] at h
theorem allCmp_facts {ds : List D} (h : allCmp ds = true) : PyData.canLayAll0 ds = true ∧ PyData.depthAll ds ≤ 60 ∧ PySem.W.AlikeAll ds := by
  unfold allCmp at h
  simp only [Bool.and_eq_true, decide_eq_true_eq, List.all_eq_true] at h
  exact ⟨h.1.1, h.1.2, fun x hx y hy => (h.2 x hx).2 y hy, fun x hx => noneD_ne (h.2 x hx).1⟩
theorem fold_mem (f : D → D → Bool) : ∀ (r : List D) (x : D), r.foldl (fun a y => if f y a = true then y else a) x ∈ x :: r
  | [], x => .head _
  | y :: r, x => by
    have := fold_mem f r (if f y x = true then y else x)
    rw [List.foldl_cons]
    rcases List.mem_cons.mp this with e | e
    · rw [e]
      split
      · exact .tail _ (.head _)
      · exact .head _
    · exact .tail _ (.tail _ e)
theorem minD_mem (x : D) (r : List D) : PySem.W.minD x r ∈ x :: r := fold_mem (fun y a => PySem.W.dataLt y a) r x
theorem maxD_mem (x : D) (r : List D) : PySem.W.maxD x r ∈ x :: r := fold_mem (fun y a => PySem.W.dataLt a y) r x
/-- min(xs), max(xs) as g tells -/
def rBest (K : PySem.W.Frag) (g : D → List D → D) : List V → Hp → VK → Prop := fun vs H Q => ∃ a xs ds x r, vs = [.ref a] ∧ (SqL K H a xs ∨ SqT K H a xs) ∧ DpAll K H xs ds ∧ ds = x :: r ∧ allCmp ds = true ∧ ∀ (i : Nat) (y : V), xs[i]? = some y → ds[i]? = some (g x r) → Q y H
section
variable {X : Cx} {K : PySem.W.Frag} {pins : List (Addr × Obj)} {s : Shared} {σ : St} {H : Hp}
theorem best_at {its : List Value} {xs : List V} {ds : List D} {as : List Addr} {i : Nat} {v : Value} {d : D} {h' : Heap} {bs : List Addr} (rv : Vals xs its) (ra : ReadsAll s.heap its ds as) (al : PySem.W.AlikeAll ds) (hd : d ∈ ds)
    (hk : ∀ b o, s.heap.get? b = some o → h'.get? b = some o) (hv : its.toArray[i]? = some v) (rd : Reads h' v d bs) : ∃ y, xs[i]? = some y ∧ RelV y v ∧ ds[i]? = some d := by
  have hv' : its[i]? = some v := by simpa using hv
  obtain ⟨bs', r1, hi, hm, _⟩ := PySem.W.readsAll_at ra i v hv'
  have e := PySem.W.alike_unique _ _ _ _ _ (al.1 _ hm _ hd) (PyProof.Rows.Reads.keeps hk r1) rd
  have hl : i < its.length := (List.getElem?_eq_some_iff.mp hv').1
  have hx : i < xs.length := by rw [rv.length]; exact hl
  obtain ⟨u, hu, ru⟩ := rv.get (List.getElem?_eq_getElem hx)
  rw [hv'] at hu
  cases hu
  refine ⟨xs[i], List.getElem?_eq_getElem hx, ru, ?_⟩
  rw [← e, List.getD_eq_getElem?_getD, List.getElem?_eq_getElem hi]
  rfl
theorem cr_minD (hc : X.calm = true) (hu : X.A.units + 64 < cLine) : CallR X (.builtin "min") (rBest X.K PySem.W.minD) := by
  intro pins s σ H vs us Q I r h
  obtain ⟨a, xs, ds, x, l, rfl, hs, dp, rfl, ok, q⟩ := h
  obtain ⟨f1, f2, f3⟩ := allCmp_facts ok
  rw [Vals.ref1 r]
  rcases hs with hs | hs
  · obtain ⟨its, rv, hl, _⟩ := I.list hs
    obtain ⟨as, ra⟩ := Dp.readsAll I _ _ _ dp rv
    refine PySem.W.min_list_data (I.ok.hd hc) hl.isList (by simpa using ra) f3 (by omega) fun i v h' tk bs hv rd hk => ?_
    obtain ⟨y, e1, e2, e3⟩ := best_at rv ra f3 (minD_mem x l) hk hv rd
    exact ⟨y, H, I.kept hk, e2, q i y e1 e3⟩
  · obtain ⟨its, rv, hl, _⟩ := I.tuple hs
    obtain ⟨as, ra⟩ := Dp.readsAll I _ _ _ dp rv
    refine PySem.W.min_tuple_data (I.ok.hd hc) hl (by simpa using ra) f3 (by omega) fun i v h' tk bs hv rd hk => ?_
    obtain ⟨y, e1, e2, e3⟩ := best_at rv ra f3 (minD_mem x l) hk hv rd
    exact ⟨y, H, I.kept hk, e2, q i y e1 e3⟩
theorem cr_maxD (hc : X.calm = true) (hu : X.A.units + 64 < cLine) : CallR X (.builtin "max") (rBest X.K PySem.W.maxD) := by
  intro pins s σ H vs us Q I r h
  obtain ⟨a, xs, ds, x, l, rfl, hs, dp, rfl, ok, q⟩ := h
  obtain ⟨f1, f2, f3⟩ := allCmp_facts ok
  rw [Vals.ref1 r]
  rcases hs with hs | hs
  · obtain ⟨its, rv, hl, _⟩ := I.list hs
    obtain ⟨as, ra⟩ := Dp.readsAll I _ _ _ dp rv
    refine PySem.W.max_list_data (I.ok.hd hc) hl.isList (by simpa using ra) f3 (by omega) fun i v h' tk bs hv rd hk => ?_
    obtain ⟨y, e1, e2, e3⟩ := best_at rv ra f3 (maxD_mem x l) hk hv rd
    exact ⟨y, H, I.kept hk, e2, q i y e1 e3⟩
  · obtain ⟨its, rv, hl, _⟩ := I.tuple hs
    obtain ⟨as, ra⟩ := Dp.readsAll I _ _ _ dp rv
    refine PySem.W.max_tuple_data (I.ok.hd hc) hl (by simpa using ra) f3 (by omega) fun i v h' tk bs hv rd hk => ?_
    obtain ⟨y, e1, e2, e3⟩ := best_at rv ra f3 (maxD_mem x l) hk hv rd
    exact ⟨y, H, I.kept hk, e2, q i y e1 e3⟩
end
/-- min(xs) of a list or a tuple -/
def bestOf (g : D → List D → D) : List D → Option D
  | x :: r => if (allCmp (x :: r) && flat (g x r)) = true then some (g x r) else none
  | [] => none
def dMin1 : D → Option D
  | .list ds => bestOf PySem.W.minD ds
  | .tuple ds => bestOf PySem.W.minD ds
  | _ => none
def dMax1 : D → Option D
  | .list ds => bestOf PySem.W.maxD ds
  | .tuple ds => bestOf PySem.W.maxD ds
  | _ => none
section
variable {K : PySem.W.Frag}
theorem best_ok {g : D → List D → D} {a : Addr} {xs : List V} {ds : List D} {d : D} {H : Hp} {Q : VK} (hs : SqL K H a xs ∨ SqT K H a xs) (ra : RA K H xs ds) (h : bestOf g ds = some d) (q : ∀ v, R K H v d → flat d = true → Q v H) : rBest K g [.ref a] H Q := by
  unfold bestOf at h
  split at h
  · rename_i x r
    obtain ⟨hc, e⟩ := ite_some h
    subst e
    rw [Bool.and_eq_true] at hc
    refine ⟨a, xs, _, x, r, rfl, hs, RA.toDp ra (allCmp_facts hc.1).1, rfl, hc.1, fun i y e1 e2 => ?_⟩
    obtain ⟨y', e3, rr⟩ := ra.get e2
    rw [e1] at e3
    cases e3
    exact q y rr hc.2
  · cases h
theorem cf_min1 : CallF K (rBest K PySem.W.minD) (d1 dMin1) := by
  intro vs ds d H Q r h q
  obtain ⟨x, rfl, h'⟩ := d1_some h
  obtain ⟨v, rfl, rv⟩ := r.one
  unfold dMin1 at h'
  split at h'
  · cases rv with
    | lst e1 e2 => exact best_ok (.inl (SqL.of e1)) e2 h' q
  · cases rv with
    | tup e1 e2 => exact best_ok (.inr (.inl (.inl e1))) e2 h' q
  · cases h'
theorem cf_max1 : CallF K (rBest K PySem.W.maxD) (d1 dMax1) := by
  intro vs ds d H Q r h q
  obtain ⟨x, rfl, h'⟩ := d1_some h
  obtain ⟨v, rfl, rv⟩ := r.one
  unfold dMax1 at h'
  split at h'
  · cases rv with
    | lst e1 e2 => exact best_ok (.inl (SqL.of e1)) e2 h' q
  · cases rv with
    | tup e1 e2 => exact best_ok (.inr (.inl (.inl e1))) e2 h' q
  · cases h'
end
end DS
end

section
set_option Elab.async false
set_option linter.all false
set_option maxRecDepth 100000
set_option maxHeartbeats 1000000
/-! Part n: comprehensions with two fors. -/
namespace DS
open PySem PySem.Spec PyProof.Rows L2
/-- the list that the outer for makes -/
def lc2Go (t : Tg) (ft : FT) (inner : PEnv → Option (List D)) (ρ : PEnv) : List D → Option (List D)
  | [] => some []
  | d :: ds => match t.go d with
    | none => none
    | some l => match ft (setsD ρ l) with
      | none => none
      | some false => lc2Go t ft inner ρ ds
      | some true => match inner (setsD ρ l) with
        | none => none
        | some ys => match lc2Go t ft inner ρ ds with
          | none => none
          | some zs => some (ys ++ zs)
def inLc (fi : FA) (t : Tg) (ft : FT) (fe : FE) (vs : List Nat) (ρ : PEnv) : Option (List D) := o1 (fi ρ) fun ds => lcGo t ft fe (wipeD ρ vs) ds
def eLc2 (fi : FA) (t : Tg) (ft : FT) (fi1 : FA) (t1 : Tg) (ft1 : FT) (fe : FE) (vs vs1 : List Nat) : FE := fun ρ => o1 (fi ρ) fun ds => o1 (lc2Go t ft (inLc fi1 t1 ft1 fe vs1) (wipeD ρ vs) ds) fun ys => if ys.length ≤ sz then some (.list ys) else none
section
variable {X : Cx} {K : PySem.W.Frag} {κ : Mo}
theorem RS.mono {H H' : Hp} (e : Same H H') : ∀ {l : List (Nat × V)} {m : List (Nat × D)}, RS K H l m → RS K H' l m
  | _, _, .nil => .nil
  | _, _, .cons h t => .cons (h.mono e) (RS.mono e t)
theorem lc2_ok {fi fi1 : FA} {ci ci1 : Esc} {t t1 : Tg} {ft ft1 : FT} {fe : FE} {ce : Esc} {vs vs1 : List Nat} (hv : t.ix.all (vs.contains ·) = true) (hv1 : t1.ix.all (vs1.contains ·) = true) (hκ : κ.one = true) :
    ∀ σ H Q, tD K κ (eLc2 fi t ft fi1 t1 ft1 fe vs vs1) (ci ++ (ci1 ++ ce)) σ H Q → tLc2 (tI K 1 fi ci) (tG K t) (tT K ft) (tI K 0 fi1 ci1) (tG K t1) (tT K ft1) (tD K (.br 0) fe ce) vs vs1 σ H Q := by
  intro σ H Q ⟨B, L, ρ, d, g, es, hf, q⟩
  obtain ⟨ds, h1, h2⟩ := o1_some hf
  obtain ⟨ys, h3, h4⟩ := o1_some h2
  have hz : ys.length ≤ sz := by
    split at h4
    · assumption
    · cases h4
  rw [if_pos hz] at h4
  cases (Option.some.inj h4)
  refine ⟨B, L, ρ, ds, g, es.left, h1, fun J H1 s1 wk D hD => ?_⟩
  have hixs : ∀ {t : Tg} {vs : List Nat} {l : List (Nat × PyData)} {mm : List (Nat × V)} {d : PyData} {B' : List Addr} {Hh : Hp}, t.ix.all (vs.contains ·) = true → t.go d = some l → RS K (hid B' Hh) mm l → ∀ i ∈ mm.map (·.1), i ∈ vs := fun {t vs l mm d B' Hh} hv e rs i hi => by
    rw [rs.ix, Tg.go_ix e] at hi
    have := List.all_eq_true.mp hv i hi
    simpa using this
  -- hiding D : what is behind it may change
  have okB : ∀ {H' : Hp} {acc : List V}, Same H1 H' → H' D = some (.lst acc) → Ok (D :: B) H' := fun s' hacc => ((g.ok.mono s1).mono s').cons hacc rfl
  have gd : ∀ {H' : Hp} {acc : List V}, Same H1 H' → H' D = some (.lst acc) → Good K (D :: B) L σ H' ρ := fun {H' acc} s' hacc => by
    refine ⟨okB s' hacc, g.len, fun j e h => ?_⟩
    obtain ⟨v, e1, r⟩ := g.slot j e h
    refine ⟨v, e1, ((r.mono s1 (same_hid s1)).mono s' (same_hidW s' fun a ha => ?_))⟩
    rcases List.mem_cons.mp ha with z | z
    · rw [z]; exact .inr hD
    · exact .inl z
  let W : Nat → Nat → Hp → Prop := fun i n H' => n = ds.length - i ∧ i ≤ ds.length ∧ Same H1 H' ∧ ∃ acc done rest, H' D = some (.lst acc) ∧ RA K (hid (D :: B) H') acc done ∧ lc2Go t ft (inLc fi1 t1 ft1 fe vs1) (wipeD ρ vs) (ds.drop i) = some rest ∧ done ++ rest = ys
  refine ⟨W, ⟨ds.length, by simp, Nat.zero_le _, same_upd hD, [], [], ys, upd_same, .nil, by simpa using h3, rfl⟩, ?_⟩
  rintro i n H' ⟨rfl, hi, s', acc, done, rest, hacc, racc, hgo, hys⟩
  by_cases hlt : i < ds.length
  · refine .inr ⟨wk.go i H' hlt s', fun H'' => W (i + 1) (ds.length - (i + 1)) H'', fun H'' w => ⟨_, by omega, w⟩, fun x H2 y => ?_⟩
    have hd : ds[i]? = some ds[i] := List.getElem?_eq_getElem hlt
    obtain ⟨s2, rx⟩ := wk.yld i H' x H2 _ hd s' y
    have rx := rx (D :: B) (okB s' hacc) fun a ha => by
      refine ⟨?_, (okB s' hacc).trk a ha⟩
      rcases List.mem_cons.mp ha with z | z
      · rw [z]; exact .inr hD
      · exact .inl z
    rw [List.drop_eq_getElem_cons hlt] at hgo
    unfold lc2Go at hgo
    have hacc2 := s2 _ _ hacc
    have racc2 := racc.mono (same_hid (B := D :: B) s2)
    split at hgo
    · cases hgo
    · rename_i l hl
      refine ⟨D :: B, _, l, rx, hl, fun mm rs => ⟨?_, ?_⟩⟩
      · rw [wipe_sets (hixs hv hl rs)]
        exact wipe_idem vs fun _ h => h
      · have gs : Good K (D :: B) L (setsV (wipe σ vs) mm) H2 (setsD (wipeD ρ vs) l) := ((gd (s'.trans s2) hacc2).wipe vs).sets rs
        split at hgo
        · cases hgo
        · rename_i hft
          refine ⟨D :: B, L, _, false, gs, hft, fun H3 s3 => ?_⟩
          refine iteF ?_
          exact ⟨rfl, hlt, (s'.trans s2).trans s3, acc, done, rest, s3 _ _ hacc2, racc2.mono (same_hid s3), hgo, hys⟩
        · rename_i hft
          split at hgo
          · cases hgo
          · rename_i zs hin
            split at hgo
            · cases hgo
            · rename_i ys' hrest
              cases (Option.some.inj hgo)
              refine ⟨D :: B, L, _, true, gs, hft, fun H3 s3 => ?_⟩
              refine iteT ?_
              obtain ⟨ds1, g1, g2⟩ := o1_some hin
              refine ⟨D :: B, L, _, ds1, gs.mono s3, es.right.left, g1, fun J1 H4 s4 wk1 => ?_⟩
              have hacc4 := s4 _ _ (s3 _ _ hacc2)
              have racc4 := racc2.mono (same_hid (B := D :: B) (s3.trans s4))
              have s14 := ((s'.trans s2).trans s3).trans s4
              have rs4 := rs.mono (same_hid (B := D :: B) (s3.trans s4))
              -- the inner loop
              let W1 : Nat → Nat → Hp → Prop := fun j k H' => k = ds1.length - j ∧ j ≤ ds1.length ∧ Same H1 H' ∧ Same (hid (D :: B) H4) (hid (D :: B) H') ∧ ∃ acc done2 rest2, H' D = some (.lst acc) ∧ RA K (hid (D :: B) H') acc done2 ∧ lcGo t1 ft1 fe (wipeD (setsD (wipeD ρ vs) l) vs1) (ds1.drop j) = some rest2 ∧ done2 ++ (rest2 ++ ys') = ys
              refine ⟨W1, ⟨ds1.length, by simp, Nat.zero_le _, s14, Same.refl _, acc, done, zs, hacc4, racc4, by simpa using g2, hys⟩, ?_⟩
              rintro j k H5 ⟨rfl, hj, s15, s45, acc5, done5, rest5, hacc5, racc5, hgo5, hys5⟩
              have st5 : Same (gOf 0 (D :: B) H4) H5 := s45.trans same_unhid
              by_cases hlt1 : j < ds1.length
              · refine .inr ⟨wk1.go j H5 hlt1 st5, fun H'' => W1 (j + 1) (ds1.length - (j + 1)) H'', fun H'' w => ⟨_, by omega, w⟩, fun x1 H6 y1 => ?_⟩
                have hd1 : ds1[j]? = some ds1[j] := List.getElem?_eq_getElem hlt1
                obtain ⟨s6, rx1⟩ := wk1.yld j H5 x1 H6 _ hd1 st5 y1
                have rx1 := rx1 (D :: B) (okB s15 hacc5) fun a ha => ⟨.inl ha, (okB s15 hacc5).trk a ha⟩
                rw [List.drop_eq_getElem_cons hlt1] at hgo5
                unfold lcGo at hgo5
                have hacc6 := s6 _ _ hacc5
                have racc6 := racc5.mono (same_hid (B := D :: B) s6)
                split at hgo5
                · cases hgo5
                · rename_i l1 hl1
                  refine ⟨D :: B, _, l1, rx1, hl1, fun mm1 rs1 => ⟨?_, ?_⟩⟩
                  · rw [wipe_sets (hixs hv1 hl1 rs1)]
                    exact wipe_idem vs1 fun _ h => h
                  · have gs6 : Good K (D :: B) L (setsV (wipe σ vs) mm) H6 (setsD (wipeD ρ vs) l) := ((gd (s15.trans s6) hacc6).wipe vs).sets (rs4.mono (s45.trans (same_hid s6)))
                    have gt : Good K (D :: B) L (setsV (wipe (setsV (wipe σ vs) mm) vs1) mm1) H6 (setsD (wipeD (setsD (wipeD ρ vs) l) vs1) l1) := (gs6.wipe vs1).sets rs1
                    split at hgo5
                    · cases hgo5
                    · rename_i hft1
                      refine ⟨D :: B, L, _, false, gt, hft1, fun H7 s7 => ?_⟩
                      refine iteF ?_
                      exact ⟨rfl, hlt1, (s15.trans s6).trans s7, s45.trans (same_hid (s6.trans s7)), acc5, done5, rest5, s7 _ _ hacc6, racc6.mono (same_hid s7), hgo5, hys5⟩
                    · rename_i hft1
                      split at hgo5
                      · cases hgo5
                      · rename_i yv hfe
                        split at hgo5
                        · cases hgo5
                        · rename_i rest6 hrest6
                          cases (Option.some.inj hgo5)
                          refine ⟨D :: B, L, _, true, gt, hft1, fun H7 s7 => ?_⟩
                          refine iteT ?_
                          refine ⟨D :: B, L, _, yv, gt.mono s7, es.right.right, hfe, fun v H8 s8 p8 => ?_⟩
                          have s78 := s7.trans s8
                          have hacc8 := s78 _ _ hacc6
                          have su : Same (hid (D :: B) H8) (hid (D :: B) (upd H8 D (.lst (acc5 ++ [v])))) := fun b o e => by
                            obtain ⟨e1, e2⟩ := hid_some e
                            rw [hid_out e1, upd_ne fun z => e1 (by rw [z]; exact List.mem_cons_self)]
                            exact e2
                          have hl5 : acc5.length < sizeLine := by
                            rw [sz_eq, racc5.length]
                            have hlen : done5.length < ys.length := by
                              rw [← hys5]
                              simp only [List.length_append, List.length_cons]
                              omega
                            omega
                          refine ⟨acc5, hacc8, hl5, rfl, hlt1, fun b o e => ?_, (s45.trans (same_hid (s6.trans s78))).trans su, acc5 ++ [v], done5 ++ [yv], rest6, upd_same, ((racc6.mono (same_hid s78)).append (.cons (RL.r p8) .nil)).mono su, hrest6, by simpa using hys5⟩
                          have hb : b ≠ D := ne_of_none e hD
                          rw [upd_ne hb]
                          exact ((s15.trans s6).trans s78) _ _ e
              · have e : j = ds1.length := by omega
                subst e
                refine .inl ⟨wk1.stop H5 st5, ?_⟩
                rw [List.drop_length] at hgo5
                unfold lcGo at hgo5
                cases (Option.some.inj hgo5)
                exact ⟨rfl, hlt, s15, acc5, done5, ys', hacc5, racc5, hrest, by simpa using hys5⟩
  · have e : i = ds.length := by omega
    subst e
    refine .inl ⟨wk.stop H' s', ?_⟩
    rw [List.drop_length] at hgo
    unfold lc2Go at hgo
    cases (Option.some.inj hgo)
    rw [List.append_nil] at hys
    subst hys
    refine q _ H' (s1.trans s') (Post.new g.ok.trk (s1.free hD) hacc racc hκ)
theorem qe_lc2 {elt tg iter tg1 iter1 : Expr} {ifs ifs1 : List Expr} {scope : Scope} {own : List (Str × Nat)} {vs1 : List Nat} {pos : Pos} {fi fi1 : FA} {ci ci1 ce : Esc} {t t1 : Tg} {ft ft1 : FT} {fe : FE} (hc : X.calm = true) (hN : X.N.Nodup) (hi : PI X tg iter (tI K 1 fi ci)) (ok : BlkOk X.N X.env.scope scope own) (hvs : vs1.all ((own.map (·.2)).contains ·) = true)
    (hg : ∀ (s : Shared) (H : Hp) (C : Addr) (cl : List (Str × Addr)) (fp : List Addr), PG (X.blk s H scope (compEnvC scope cl C X.env) fp) tg (tG K t)) (ht : ∀ (s : Shared) (H : Hp) (C : Addr) (cl : List (Str × Addr)) (fp : List Addr), PTs (X.blk s H scope (compEnvC scope cl C X.env) fp) ifs (tT K ft))
    (hi1 : ∀ (s : Shared) (H : Hp) (C : Addr) (cl : List (Str × Addr)) (fp : List Addr), PI (X.blk s H scope (compEnvC scope cl C X.env) fp) tg1 iter1 (tI K 0 fi1 ci1))
    (hg1 : ∀ (s : Shared) (H : Hp) (C : Addr) (cl : List (Str × Addr)) (fp : List Addr), PG (X.blk s H scope (compEnvC scope cl C X.env) fp) tg1 (tG K t1)) (ht1 : ∀ (s : Shared) (H : Hp) (C : Addr) (cl : List (Str × Addr)) (fp : List Addr), PTs (X.blk s H scope (compEnvC scope cl C X.env) fp) ifs1 (tT K ft1))
    (he : ∀ (s : Shared) (H : Hp) (C : Addr) (cl : List (Str × Addr)) (fp : List Addr), PE (X.blk s H scope (compEnvC scope cl C X.env) fp) elt (tD K (.br 0) fe ce)) (hv : t.ix.all ((own.map (·.2)).contains ·) = true := by rfl) (hv1 : t1.ix.all (vs1.contains ·) = true := by rfl) (hκ : κ.one = true := by rfl) (hs : ∀ x, foldedSetIterable iter X.env x = pure x := by intro _; rfl) (hs1 : ∀ env x, foldedSetIterable iter1 env x = pure x := by intro _ _; rfl) :
    PE X (.ListComp elt [⟨tg, iter, ifs, 0⟩, ⟨tg1, iter1, ifs1, 0⟩] scope pos) (tD K κ (eLc2 fi t ft fi1 t1 ft1 fe (own.map (·.2)) vs1) (ci ++ (ci1 ++ ce))) :=
  (pe_lc2 hc hN hi ok (fun i hi => by simpa using List.all_eq_true.mp hvs i hi) hg ht hi1 hg1 ht1 he hs hs1).imp (lc2_ok hv hv1 hκ)
theorem ss_setLc2 (i l : Nat) {y : Str} {py : Pos} {elt tg iter tg1 iter1 : Expr} {ifs ifs1 : List Expr} {scope : Scope} {own : List (Str × Nat)} {vs1 : List Nat} {pos spos : Pos} {fi fi1 : FA} {ci ci1 ce : Esc} {t t1 : Tg} {ft ft1 : FT} {fe : FE} (hc : X.calm = true) (hN : X.N.Nodup) (hi : PI X tg iter (tI K 1 fi ci)) (ok : BlkOk X.N X.env.scope scope own) (hvs : vs1.all ((own.map (·.2)).contains ·) = true)
    (hg : ∀ (s : Shared) (H : Hp) (C : Addr) (cl : List (Str × Addr)) (fp : List Addr), PG (X.blk s H scope (compEnvC scope cl C X.env) fp) tg (tG K t)) (ht : ∀ (s : Shared) (H : Hp) (C : Addr) (cl : List (Str × Addr)) (fp : List Addr), PTs (X.blk s H scope (compEnvC scope cl C X.env) fp) ifs (tT K ft))
    (hi1 : ∀ (s : Shared) (H : Hp) (C : Addr) (cl : List (Str × Addr)) (fp : List Addr), PI (X.blk s H scope (compEnvC scope cl C X.env) fp) tg1 iter1 (tI K 0 fi1 ci1))
    (hg1 : ∀ (s : Shared) (H : Hp) (C : Addr) (cl : List (Str × Addr)) (fp : List Addr), PG (X.blk s H scope (compEnvC scope cl C X.env) fp) tg1 (tG K t1)) (ht1 : ∀ (s : Shared) (H : Hp) (C : Addr) (cl : List (Str × Addr)) (fp : List Addr), PTs (X.blk s H scope (compEnvC scope cl C X.env) fp) ifs1 (tT K ft1))
    (he : ∀ (s : Shared) (H : Hp) (C : Addr) (cl : List (Str × Addr)) (fp : List Addr), PE (X.blk s H scope (compEnvC scope cl C X.env) fp) elt (tD K (.br 0) fe ce)) (hl : l ≤ 1 := by decide) (hy : X.N[i]? = some y := by rfl) (hyl : X.env.scope.names.lookup y = some .local := by rfl)
    (hsw : swapsWith (.ListComp elt [⟨tg, iter, ifs, 0⟩, ⟨tg1, iter1, ifs1, 0⟩] scope pos) (some (.Name y py)) spos.line X.env = pure true := by exact sw_true rfl rfl rfl (by decide +kernel)) (hv : t.ix.all ((own.map (·.2)).contains ·) = true := by rfl) (hv1 : t1.ix.all (vs1.contains ·) = true := by rfl) (hs : ∀ x, foldedSetIterable iter X.env x = pure x := by intro _; rfl) (hs1 : ∀ env x, foldedSetIterable iter1 env x = pure x := by intro _ _; rfl) :
    PS X (.Assign [.Name y py] (.ListComp elt [⟨tg, iter, ifs, 0⟩, ⟨tg1, iter1, ifs1, 0⟩] scope pos) spos) (tS K (sSet i l (eLc2 fi t ft fi1 t1 ft1 fe (own.map (·.2)) vs1) (ci ++ (ci1 ++ ce)))) := (ps_setLc2 hc hN hy hyl hsw hi ok (fun i hi => by simpa using List.all_eq_true.mp hvs i hi) hg ht hi1 hg1 ht1 he hs hs1).imp fun E σ H h =>
  lc2_ok (κ := moOf l) hv hv1 (by match l, hl with | 0, _ => rfl | 1, _ => rfl) σ H _ (set_ok (by omega) E σ H h)
end
end DS
end

section
set_option Elab.async false
set_option linter.all false
set_option maxRecDepth 100000
set_option maxHeartbeats 1000000
/-! Part o: range(i, j, -1), max(.., default=), found *= x, tuples times a number. -/
namespace DS
open PySem PySem.Spec PyProof.Rows L2
/-- i, i - 1, .. (n of them) -/
def rngDn (i : Int) (n : Nat) : List D := (List.range n).map fun (k : Nat) => .int (i - (k : Int))
theorem walks_down {K : PySem.W.Frag} {G : Hp} {B : List Addr} {lo : Int} {n : Nat} : Walks K G B (Itc lo (-1) n) (rngDn lo n) where
  go := fun i H hi s => show i < n from by simpa [rngDn] using hi
  stop := fun H s => by
    show n ≤ (rngDn lo n).length
    simp [rngDn]
  yld := fun i H x H' d hd s y => by
    obtain ⟨e, y⟩ := y
    subst e y
    refine ⟨Same.refl _, fun B' _ hb => ?_⟩
    have hi : i < n := by
      have := (List.getElem?_eq_some_iff.mp hd).1
      simpa [rngDn] using this
    have : d = .int (lo + (i : Nat) * (-1)) := by
      unfold rngDn at hd
      rw [List.getElem?_map, List.getElem?_range hi] at hd
      have e := Option.some.inj hd
      rw [← e]
      show PyData.int (lo - (i : Int)) = PyData.int (lo + (i : Int) * (-1))
      rw [Int.mul_neg_one]
      rfl
    rw [this]
    exact .int _
def iRange3 (f g h : FE) : FA := fun ρ => match f ρ, g ρ, h ρ with
  | some (.int i), some (.int j), some (.int c) => if (rngOk i j && decide (c = -1)) = true then some (rngDn i (i - j).toNat) else none
  | _, _, _ => none
section
variable {X : Cx} {K : PySem.W.Frag} {tg : Expr} {p pos : Pos} {m : Nat} {f f2 f3 : FE} {c c2 c3 : Esc}
theorem qi_range3 {a b d : Expr} (hg : Gl X "range") (hm : X.mg "range" = none) (ha : PE X a (tD K (.br 1) f c)) (hb : PE X b (tD K (.br 1) f2 c2)) (hd : PE X d (tD K (.br 1) f3 c3))
    (hs : starEach [a, b, d] X.env = (false, eval a X.env) :: starEach [b, d] X.env := by rfl) (hs2 : starEach [b, d] X.env = (false, eval b X.env) :: starEach [d] X.env := by rfl) (hs3 : starEach [d] X.env = (false, eval d X.env) :: starEach [] X.env := by rfl) (hpl : (backTo pos (starEach [b, d] X.env)).any (·.1) = false := by rfl) :
    PI X tg (.Call (.Name "range" p) [a, b, d] [] pos) (tI K m (iRange3 f f2 f3) []) := by
  refine (pi_range3 hg hm (pa_cons ha (pa_cons hb (pa_cons hd pa_nil hs3) hs2) hs) hs hpl).imp fun σ H Rr ⟨B, L, ρ, ds, g, es, hf, q⟩ => ?_
  unfold iRange3 at hf
  split at hf
  · rename_i i j k h1 h2 h3
    obtain ⟨hc, rfl⟩ := ite_some hf
    rw [Bool.and_eq_true, decide_eq_true_eq] at hc
    have r := rngOk_ok hc.1
    have hk := hc.2
    subst hk
    refine ⟨[], _, ρ, _, g.zero, .zero, h1, fun v H1 s1 p1 => ⟨[], _, ρ, _, (g.mono s1).zero, .zero, h2, fun w H2 s2 p2 => ⟨[], _, ρ, _, ((g.mono s1).mono s2).zero, .zero, h3, fun u H3 s3 p3 => ?_⟩⟩⟩
    exact ⟨_, _, _, _, by rw [RL.int p1, RL.int p2, RL.int p3], RgC.neg r.1 r.2.1 r.2.2.1 r.2.2.2, q _ H3 ((s1.trans s2).trans s3) walks_down⟩
  · cases hf
end
end DS
end

section
set_option Elab.async false
set_option linter.all false
set_option maxRecDepth 100000
set_option maxHeartbeats 1000000
/-! Sorting of alike trees, tuples among which some may be (). -/
namespace PySem.W
open PySem PySem.Calls PyProof.Rows PySem.SeqAt
section
variable {A : Around} {s : Shared}
theorem call_tuple_lt' {prog : Program} {w : World} {E : Value → Shared → Prop} {Q : Value → Shared → Prop} {l b : Addr} {items items2 : Array Value} {e r : Nat → Bool} (hl : s.heap.IsTuple l items) (hb : s.heap.IsTuple b items2)
    (he : ∀ j (h1 : j < items.size) (h2 : j < items2.size), EqAt A.in1 s items[j] items2[j] (e j)) (hr : ∀ j (h1 : j < items.size) (h2 : j < items2.size), e j = false → RcLt A.in1 s items[j] items2[j] (r j))
    (h : Q (.bool (firstLt e r (decide (items.size < items2.size)) (List.range (min items.size items2.size)))) s) : wpAny (model prog w) A (call (.builtin "tuple.__lt__") [.ref l, .ref b]) Q E s := by
  obtain ⟨⟨cls, dd, data, sl⟩, ho, hc, n, hd⟩ := id hl
  obtain ⟨⟨cls2, dd2, data2, sl2⟩, ho2, hc2, n2, hd2⟩ := id hb
  simp only at hc hd hc2 hd2
  subst hc hd hc2 hd2
  exact call_meets F.slot_tuple_lt ⟨_, ho, rfl⟩ F.entry_tuple_lt (F.args_tuple_lt_2 _ _) (tuple_ltAt l b items items2 n n2 dd dd2 sl sl2 e r) ⟨ho, ho2, he, hr, h⟩
end
section
variable {prog : Program} {w : World} {A : Around} {E : Value → Shared → Prop} {s : Shared}
theorem oneLt_any {f : Bool} {da db : PyData} {a b : Value} {as bs : List Addr} {Q : Bool → Shared → Prop} (ra : Reads s.heap a da as) (rb : Reads s.heap b db bs) (h : alike da db = true) (hn : da ≠ .none)
    (hu : A.units + min da.depth db.depth < cLine) (hq : Q (dataLt da db) s) : wpAny (model prog w) A (oneLt' f a b) Q E s := by
  by_cases ht : f = true → ∀ xs, da ≠ .tuple xs
  · exact oneLt_alike ht ra rb h hn hu hq
  · obtain ⟨hf, xs, rfl⟩ : f = true ∧ ∃ xs, da = .tuple xs := by
      by_cases hf : f = true
      · refine ⟨hf, ?_⟩
        by_cases z : ∃ xs, da = .tuple xs
        · exact z
        · exact absurd (fun _ xs e => z ⟨xs, e⟩) ht
      · exact absurd (fun z => absurd z hf) ht
    subst hf
    cases db with
    | tuple ys =>
      have hal : alikeAll xs ys = true := by simpa [alike] using h
      cases ra with
      | @tuple l o vs n _ as₁ h1 h2 h3 h4 =>
        cases rb with
        | @tuple l' o' vs' n' _ bs₁ k1 k2 k3 k4 =>
          have n1 : vs.size = xs.length := by simpa using ReadsAll.length _ _ _ h4
          have n2 : vs'.size = ys.length := by simpa using ReadsAll.length _ _ _ k4
          rw [dataLt_tuple, ← firstLt_toks xs ys hal, ← n1, ← n2] at hq
          rw [oneLt'_eq]
          simp only [if_true]
          refine wpAny_bind (wpAny_cRoomFor (room_here hu) ?_)
          refine wpAny_bind (wpAny_callSpecialIfBound?_slot (T := "tuple") ⟨_, h1, h2⟩ F.slot_tuple_lt (call_tuple_lt' (e := pairEq xs ys) (r := fun j => dataLt (xs.getD j .none) (ys.getD j .none)) ⟨_, h1, h2, _, h3⟩ ⟨_, k1, k2, _, k3⟩ (fun j j1 j2 => ?_) (fun j j1 j2 hj => ?_) ?_))
          · have := eqAt_alikeAll xs ys A.in1 s vs.toList vs'.toList _ _ h4 k4 hal (room_in hu) j (by simpa using j1) (by simpa using j2)
            simpa using this
          · have := rcLt_alikeAll xs ys A.in1 s vs.toList vs'.toList _ _ h4 k4 hal (room_in hu) j (by simpa using j1) (by simpa using j2) hj
            simpa using this
          · exact wpAny_truthy_bool hq
    | _ => exact absurd h (by simp [alike])
end
/-- tuples, the first item of each, if it has one -/
inductive Mix (h : Heap) : List Value → List (Option Value) → Prop
  | nil : Mix h [] []
  | cons {a : Addr} {o : Obj} {xs : Array Value} {n : Nat} {vs : List Value} {fs : List (Option Value)} (ho : h.get? a = some o) (hc : o.cls = .type "tuple") (hd : o.data = .seq xs n) (r : Mix h vs fs) : Mix h (.ref a :: vs) (xs[0]? :: fs)
section
variable {M : Model} {A : Around} {E : Value → Shared → Prop} {s : Shared}
theorem mix_firsts : ∀ {vs : List Value} {fs : List (Option Value)} {Q : List (Option Value) → Shared → Prop}, Mix s.heap vs fs → Q fs s → wpAny M A (vs.mapM firstOfTuple') Q E s
  | _, _, _, .nil, h => by rw [List.mapM_nil]; exact wpAny_pure h
  | _, _, Q, .cons (a := a) (o := o) (xs := xs) (fs := fs) ho hc hd t, h => by
    rw [List.mapM_cons]
    refine wpAny_bind ?_
    rw [kas_first_eq]
    refine wpAny_bind (Looks.here (show Looks M s.heap (typeOf (.ref a)) o.cls from (Looks.ld ho).andThen .now) ?_)
    rw [hc, if_neg (by first | decide | simp)]
    refine wpAny_bind (listItems_at ho hd (wpAny_pure ?_))
    exact wpAny_bind (mix_firsts (Q := fun bs s' => wpAny M A (pure (xs[0]? :: bs)) Q E s') t (wpAny_pure h))
theorem Mix.length {h : Heap} : ∀ {vs : List Value} {fs : List (Option Value)}, Mix h vs fs → vs.length = fs.length
  | _, _, .nil => rfl
  | _, _, .cons _ _ _ t => congrArg (· + 1) t.length
theorem Mix.looks {h : Heap} : ∀ {vs : List Value} {fs : List (Option Value)}, Mix h vs fs → ∀ v ∈ vs, Looks M h (typeOf v) (Value.type "tuple")
  | _, _, .nil, v, hv => by simp at hv
  | _, _, .cons (a := a) (o := o) ho hc hd t, v, hv => by
    rcases List.mem_cons.mp hv with e | hv
    · rw [e]
      exact hc ▸ (Looks.ld ho).andThen .now
    · exact t.looks v hv
/-- one of them is (): then the first one tells -/
theorem mix_kind {vs : List Value} {fs : List (Option Value)} {f : Option Value} {fr : List (Option Value)} {Q : SortKind → Shared → Prop} (t : Mix s.heap vs fs) (hf : fs = f :: fr) (hno : (fs.all fun x => x.isSome) = false) (h : Q (if f.isSome = true then general' else oneType') s) :
    wpAny M A (keyKind' vs.toArray) Q E s := by
  subst hf
  rw [keyKind'_eq, List.mapM_toArray, map_eq_pure_bind]
  refine wpAny_bind (wpAny_bind (mix_firsts t (wpAny_pure ?_)))
  have h1 : ((f :: fr).toArray.all fun x => x.isSome) = false := by simpa using hno
  rw [h1, if_neg (by simp)]
  have h2 : ((f :: fr).toArray[0]?.bind id) = f := by simp
  rw [h2]
  by_cases hs : f.isSome = true
  · rw [if_pos hs]
    rw [if_pos hs] at h
    exact wpAny_pure h
  · rw [if_neg hs]
    rw [if_neg hs] at h
    rw [oneTypeOnly'_eq, List.mapM_toArray, map_eq_pure_bind]
    refine wpAny_bind (wpAny_bind (wpAny_bind (kas_mapM (r := Value.type "tuple") _ (fun v hv Q' hq => (t.looks v hv).here hq) (wpAny_pure ?_))))
    obtain ⟨v₁, rest, rfl⟩ : ∃ v₁ rest, vs = v₁ :: rest := by
      cases t with
      | cons ho hc hd r => exact ⟨_, _, rfl⟩
    have hall : ((List.map (fun _ => Value.type "tuple") (v₁ :: rest)).toArray.all fun x => x == Value.type "tuple") = true := by
      simp only [List.all_toArray, List.all_map, List.all_eq_true]
      intro _ _
      exact beq_self_eq_true _
    have h0 : (List.map (fun _ => Value.type "tuple") (v₁ :: rest)).toArray[0]? = some (Value.type "tuple") := by simp
    rw [h0]
    simp only [hall, if_true]
    exact wpAny_pure (wpAny_pure h)
end
theorem each_mix {h : Heap} : ∀ {vs : List Value} {ds : List PyData}, EachIs (fun v d => ∃ as, Reads h v d as) vs ds → (∀ d, d ∈ ds → ∃ xs, d = .tuple xs) → ∃ fs, Mix h vs fs ∧ ∀ i : Nat, (∀ d : PyData, ds[i]? = some d → (∃ f, fs[i]? = some f ∧ (f.isSome = true ↔ ∃ x r, d = .tuple (x :: r))))
  | _, _, .nil, _ => ⟨[], .nil, fun i d hd => by simp at hd⟩
  | _, _, .cons (b := d) ⟨as, r⟩ t, ht => by
    obtain ⟨fs, h1, h2⟩ := each_mix t fun d hd => ht d (List.mem_cons_of_mem _ hd)
    obtain ⟨xs, rfl⟩ := ht d (List.mem_cons_self ..)
    cases r with
    | @tuple a o its n _ _ ho hc hd hr =>
      refine ⟨its[0]? :: fs, .cons ho hc hd h1, fun i d' hi => ?_⟩
      cases i with
      | succ i => exact h2 i d' (by simpa using hi)
      | zero =>
        have e : d' = .tuple xs := by simpa using hi.symm
        subst e
        refine ⟨_, rfl, ?_⟩
        have hl : its.size = xs.length := by simpa using SeqAt.ReadsAll.length _ _ _ hr
        cases xs with
        | nil =>
          have : its[0]? = none := by
            rw [Array.getElem?_eq_none]
            simp at hl
            simp [hl]
          rw [this]
          simp
        | cons x r =>
          have : its[0]?.isSome = true := by
            have : 0 < its.size := by rw [hl]; simp
            simp [this]
          exact ⟨fun _ => ⟨x, r, rfl⟩, fun _ => this⟩
section
variable {prog : Program} {w : World} {A : Around} {s : Shared}
/-- any alike values but None can be sorted -/
theorem SortsAt.any {vs : List Value} {ds : List PyData} (e : EachIs (fun v d => ∃ as, Reads s.heap v d as) vs ds) (hal : AllAlike ds) (hn : ∀ d, d ∈ ds → d ≠ .none) (hu : ∀ d, d ∈ ds → A.units + d.depth < cLine) : SortsAt prog w A s (dataKind s.heap ds) vs := by
  by_cases hk : Sortable ds
  · exact SortsAt.data e hal hk hu
  · have room : ∀ {d d' : PyData}, d ∈ ds → A.units + min d.depth d'.depth < cLine := fun {d d'} hd => Nat.lt_of_le_of_lt (Nat.add_le_add_left (Nat.min_le_left _ _) _) (hu d hd)
    have ht : ∀ d, d ∈ ds → ∃ xs, d = .tuple xs := by
      by_cases z : ∃ d ∈ ds, ∃ xs, d = .tuple xs
      · obtain ⟨d0, h0, xs0, rfl⟩ := z
        intro d hd
        have := hal d hd _ h0
        cases d with
        | tuple xs => exact ⟨xs, rfl⟩
        | _ => exact absurd this (by simp [alike])
      · exact absurd (.inr fun d hd => ⟨hn d hd, fun xs ex => z ⟨d, hd, xs, ex⟩⟩) hk
    obtain ⟨fs, m, hm⟩ := each_mix e ht
    have hne : ∃ d ∈ ds, d = .tuple [] := by
      by_cases z : ∃ d ∈ ds, d = .tuple []
      · exact z
      · refine absurd (.inl fun d hd => ?_) hk
        obtain ⟨xs, rfl⟩ := ht d hd
        cases xs with
        | nil => exact absurd ⟨_, hd, rfl⟩ z
        | cons x r => exact ⟨x, r, rfl⟩
    obtain ⟨d0, hd0, rfl⟩ := hne
    obtain ⟨i0, hi0⟩ := List.getElem?_of_mem hd0
    obtain ⟨f0, hf0, q0⟩ := hm i0 _ hi0
    have hno : (fs.all fun x => x.isSome) = false := by
      rw [Bool.eq_false_iff]
      intro z
      rw [List.all_eq_true] at z
      have := q0.mp (z f0 (List.mem_of_getElem? hf0))
      obtain ⟨x, r, h⟩ := this
      cases h
    cases hfs : fs with
    | nil =>
      rw [hfs] at hf0
      simp at hf0
    | cons f fr =>
      have lt : ∀ b : Bool, H.LtAt prog w A s (dataKind s.heap ds) (if b = true then general' else oneType') := by
        intro b E x y a b' Q ha hb hq
        obtain ⟨d, as, hd, ra, rfl⟩ := dataKind_inv ha
        obtain ⟨d', as', hd', rb, rfl⟩ := dataKind_inv hb
        cases b with
        | true => exact oneLt_any (f := false) ra rb (hal d hd d' hd') (hn d hd) (room hd) hq
        | false => exact oneLt_any (f := true) ra rb (hal d hd d' hd') (hn d hd) (room hd) hq
      refine ⟨fun v hv => ?_, (if f.isSome = true then general' else oneType'), lt _, fun _ E Q hq => mix_kind m hfs hno hq⟩
      obtain ⟨d, hd, as, r⟩ := e.left v hv
      exact ⟨_, dataKind_some hal hd r⟩
end
end PySem.W
end

section
set_option Elab.async false
set_option linter.all false
set_option maxRecDepth 100000
set_option maxHeartbeats 1000000
/-! Part q: sorted(xs) of a list of alike trees. -/
namespace PySem.W
open PySem PySem.Calls PyProof.Rows
section
variable {prog : Program} {w : World} {A : Around} {E : Value → Shared → Prop} {s : Shared} {β : Type} {vs : List Value} {bs : List β} {enc : β → PyData} {R : Value → β → Prop}
theorem sorted_any' {l : Addr} {Q : Value → Shared → Prop} (hl : s.heap.IsList l vs.toArray) (e : EachIs R vs bs) (er : EachIs (fun v b => ∃ as, Reads s.heap v (enc b) as) vs bs) (hal : AllAlike (bs.map enc)) (hk : ∀ d, d ∈ bs.map enc → d ≠ .none) (hL : bs.length ≤ sizeLine)
    (hu : ∀ b, b ∈ bs → A.units + 2 + (enc b).depth < cLine) (h : ∀ out, out.length = bs.length → EachIs R out (bs.mergeSort (dataLe false enc)) → Q (.ref (s.heap.objs.size + 1)) { s with heap := sortedAll s.heap vs (List.toArray out) }) :
    wpAny (model prog w) A (call (.builtin "sorted") [.ref l]) Q E s := by
  have er' : EachIs (fun v b => ∃ as, Reads (sortingHeap (copyHeap s.heap vs) (s.heap.objs.size + 1) vs) v (enc b) as) vs bs := er.mono fun _ _ ⟨as, r⟩ => ⟨as, PyProof.Rows.Reads.keeps (fun _ _ => sorting_copy_old) r⟩
  exact sorted_vals hl (SortsAt.any (s := { s with heap := sortingHeap (copyHeap s.heap vs) (s.heap.objs.size + 1) vs }) (each_map (R := fun v d => ∃ as, Reads (sortingHeap (copyHeap s.heap vs) (s.heap.objs.size + 1) vs) v d as) enc er') hal hk (bound_map hu)) (by rw [e.length]; exact hL)
    (h _ (by rw [sortVals_length false rfl]; exact e.length) (sortVals_data false e er' hal))
end
end PySem.W
namespace DS
open PySem PySem.Spec PyProof.Rows L2
/-- a before b in a sorted list, or as good -/
def leD (a b : D) : Bool := !PySem.W.dataLt b a
def rSortA (K : PySem.W.Frag) : List V → Hp → VK → Prop := fun vs H Q => ∃ a xs ds, vs = [.ref a] ∧ SqL K H a xs ∧ DpAll K H xs ds ∧ xs.length = ds.length ∧ allCmp ds = true ∧ ∀ p, H p = none → Q (.ref p) (upd H p (.lst (((xs.zip ds).mergeSort (fun u v => leD u.2 v.2)).map (·.1))))
section
variable {X : Cx} {K : PySem.W.Frag}
theorem each_zip {R : Value → V → Prop} : ∀ {us : List Value} {xs : List V} {ds : List D}, us.length = xs.length → xs.length = ds.length → (∀ (i : Nat) (u : Value) (x : V), us[i]? = some u → xs[i]? = some x → R u x) → PySem.W.EachIs (fun u b => R u b.1) us (xs.zip ds)
  | [], [], [], _, _, _ => .nil
  | u :: us, x :: xs, d :: ds, h1, h2, h => .cons (h 0 u x rfl rfl) (each_zip (by simpa using h1) (by simpa using h2) fun i u' x' e1 e2 => h (i + 1) u' x' (by simpa using e1) (by simpa using e2))
  | [], _ :: _, _, h1, _, _ => by simp at h1
  | _ :: _, [], _, h1, _, _ => by simp at h1
  | [], [], _ :: _, _, h2, _ => by simp at h2
  | _ :: _, _ :: _, [], _, h2, _ => by simp at h2
theorem each_reads {h : Heap} : ∀ {us : List Value} {xs : List V} {ds : List D} {as : List Addr}, ReadsAll h us ds as → xs.length = ds.length → PySem.W.EachIs (fun u b => ∃ as, Reads h u b.2 as) us (xs.zip ds)
  | _, [], _, _, .nil, _ => .nil
  | _, x :: xs, _, _, .cons r t, hl => .cons ⟨_, r⟩ (each_reads t (by simpa using hl))
  | _, _ :: _, _, _, .nil, hl => by simp at hl
  | _, [], _, _, .cons r t, hl => by simp at hl
theorem each_vals : ∀ {us : List Value} {zs : List (V × D)}, PySem.W.EachIs (fun u b => RelV b.1 u) us zs → Vals (zs.map (·.1)) us
  | _, _, .nil => .nil
  | _, _, .cons r t => .cons r (each_vals t)
theorem zip_snd {α β : Type} : ∀ {xs : List α} {ds : List β}, xs.length = ds.length → (xs.zip ds).map (·.2) = ds
  | [], [], _ => rfl
  | x :: xs, d :: ds, h => by
    simp only [List.zip_cons_cons, List.map_cons]
    rw [zip_snd (by simpa using h)]
  | [], _ :: _, h => by simp at h
  | _ :: _, [], h => by simp at h
theorem depth_mem : ∀ {ds : List D} {d : D}, d ∈ ds → d.depth ≤ PyData.depthAll ds
  | x :: ds, d, h => by
    rw [PyData.depthAll]
    rcases List.mem_cons.mp h with e | h
    · rw [e]; omega
    · have := depth_mem h
      omega
theorem cr_sortedA (hu : X.A.units + 64 < cLine) : CallR X (.builtin "sorted") (rSortA X.K) := by
  intro pins s σ H vs us Q I r h
  obtain ⟨a, xs, ds, rfl, hs, dp, hlen, ok, q⟩ := h
  obtain ⟨f1, f2, f3⟩ := allCmp_facts ok
  obtain ⟨its, rv, hl, hz⟩ := I.list hs
  rw [Vals.ref1 r]
  obtain ⟨as, ra⟩ := Dp.readsAll I _ _ _ dp rv
  have zs : (xs.zip ds).map (fun b : V × D => b.2) = ds := zip_snd hlen
  refine PySem.W.sorted_any' (bs := xs.zip ds) (enc := fun b => b.2) (R := fun u b => RelV b.1 u) hl.isList
    (each_zip rv.length.symm hlen fun i u x e1 e2 => by
      obtain ⟨u', e3, r3⟩ := rv.get e2
      rw [e1] at e3
      cases e3
      exact r3)
    (each_reads ra hlen) (by rw [zs]; exact f3.1) (by rw [zs]; exact f3.2) (by rw [List.length_zip, ← hlen, Nat.min_self]; exact hz) (fun b hb => ?_) (fun out hol ho => ?_)
  · have : b.2 ∈ ds := (List.of_mem_zip hb).2
    have := depth_mem this
    omega
  · obtain ⟨ep, he'⟩ := PyProof.Rows.sortedAll_at s.heap its out.toArray
    have hv := each_vals ho
    refine ⟨.ref (s.heap.objs.size + 1), upd H (s.heap.objs.size + 1) (.lst (((xs.zip ds).mergeSort (fun u v => leD u.2 v.2)).map (·.1))), I.laid (t' := s.toks) (fun _ _ => PyProof.Rows.sortedAll_old) (Nat.le_succ _) ⟨?_, out, ep, hv, he'⟩, rfl, q _ (I.hok.fresh (Nat.le_succ _))⟩
    rw [List.length_map, List.length_mergeSort, List.length_zip, ← hlen, Nat.min_self]
    exact hz
end
def dSorted : D → Option D
  | .list ds => if allCmp ds = true then some (.list (ds.mergeSort leD)) else none
  | _ => none
section
variable {K : PySem.W.Frag}
theorem sort_snd {xs : List V} {ds : List D} (h : xs.length = ds.length) : ((xs.zip ds).mergeSort (fun u v => leD u.2 v.2)).map (·.2) = ds.mergeSort leD := by
  have := PySem.W.sort_maps (r := fun u v : V × D => leD u.2 v.2) (s := leD) (fun b : V × D => b.2) (l := xs.zip ds) fun _ _ _ _ => rfl
  rw [this, zip_snd h]
theorem RA.sorted {H : Hp} {xs : List V} {ds : List D} (r : RA K H xs ds) : RA K H (((xs.zip ds).mergeSort (fun u v => leD u.2 v.2)).map (·.1)) (ds.mergeSort leD) := by
  rw [← sort_snd r.length]
  have all : ∀ p ∈ xs.zip ds, R K H p.1 p.2 := by
    intro p hp
    obtain ⟨i, hi⟩ := List.getElem?_of_mem hp
    have := List.getElem?_zip_eq_some.mp hi
    obtain ⟨y, e, ry⟩ := r.get this.2
    rw [this.1] at e
    cases e
    exact ry
  have go : ∀ l : List (V × D), (∀ p ∈ l, R K H p.1 p.2) → RA K H (l.map (·.1)) (l.map (·.2)) := by
    intro l hl
    induction l with
    | nil => exact .nil
    | cons p l ih => exact .cons (hl p (.head _)) (ih fun q hq => hl q (.tail _ hq))
  exact go _ fun p hp => all p ((List.mergeSort_perm _ _).mem_iff.mp hp)
theorem cd_sorted : CallD K (rSortA K) (d1 dSorted) := by
  intro B vs ds d H Q ok hl r h q
  obtain ⟨x, rfl, h'⟩ := d1_some h
  obtain ⟨v, rfl, rv⟩ := one_of hl r
  unfold dSorted at h'
  split at h'
  · rename_i es
    obtain ⟨hc, e⟩ := ite_some h'
    subst e
    obtain ⟨p, ys, rfl, h1, h2⟩ := rv.list1
    have h3 := h2.mono same_unhid
    refine ⟨p, ys, es, rfl, SqL.of h1, RA.toDp h3 (allCmp_facts hc).1, h2.length, hc, fun l hn => q _ _ (same_upd hn) fun κ hκ => Post.new ok.trk hn upd_same (h2.sorted.mono (same_hidC hn)) hκ⟩
  · cases h'
end
end DS
end

section
set_option Elab.async false
set_option linter.all false
set_option maxRecDepth 100000
set_option maxHeartbeats 1000000
/-! Part r: min(xs, default=d), max(xs, default=d). -/
namespace DS
open PySem PySem.Spec PyProof.Rows L2
def rBestD (K : PySem.W.Frag) (g : D → List D → D) : List V → List V → Hp → VK → Prop := fun vs zs H Q => ∃ a xs ds z, vs = [.ref a] ∧ zs = [z] ∧ (SqL K H a xs ∨ SqT K H a xs) ∧ DpAll K H xs ds ∧ allCmp ds = true ∧ (ds = [] → Q z H) ∧ ∀ (x : D) (r : List D), ds = x :: r → ∀ (i : Nat) (y : V), xs[i]? = some y → ds[i]? = some (g x r) → Q y H
section
variable {X : Cx} {K : PySem.W.Frag}
theorem crk_maxD (hc : X.calm = true) (hu : X.A.units + 64 < cLine) : CallRK X (.builtin "max") [Str.ofString "default"] (rBestD X.K PySem.W.maxD) := by
  intro pins s σ H vs zs us ws Q I r rz h
  obtain ⟨a, xs, ds, z, rfl, rfl, hs, dp, ok, q0, q⟩ := h
  obtain ⟨f1, f2, f3⟩ := allCmp_facts ok
  rw [Vals.ref1 r]
  obtain ⟨wz, rfl, rw'⟩ := vals1 rz
  show wpAny _ _ (call (.builtin "max") [.ref a] [(Str.ofString "default", wz)]) _ _ _
  rcases hs with hs | hs
  · obtain ⟨its, rv, hl, _⟩ := I.list hs
    obtain ⟨as, ra⟩ := Dp.readsAll I _ _ _ dp rv
    refine PySem.W.max_list_default (I.ok.hd hc) hl.isList (by simpa using ra) f3 (by omega) (fun e h' tk hk => ⟨z, H, I.kept hk, rw', q0 e⟩) fun y ys i v h' tk bs e hv rd hk => ?_
    subst e
    obtain ⟨y', e1, e2, e3⟩ := best_at rv ra f3 (maxD_mem y ys) hk hv rd
    exact ⟨y', H, I.kept hk, e2, q y ys rfl i y' e1 e3⟩
  · obtain ⟨its, rv, hl, _⟩ := I.tuple hs
    obtain ⟨as, ra⟩ := Dp.readsAll I _ _ _ dp rv
    refine PySem.W.max_tuple_default (I.ok.hd hc) hl (by simpa using ra) f3 (by omega) (fun e h' tk hk => ⟨z, H, I.kept hk, rw', q0 e⟩) fun y ys i v h' tk bs e hv rd hk => ?_
    subst e
    obtain ⟨y', e1, e2, e3⟩ := best_at rv ra f3 (maxD_mem y ys) hk hv rd
    exact ⟨y', H, I.kept hk, e2, q y ys rfl i y' e1 e3⟩
theorem crk_minD (hc : X.calm = true) (hu : X.A.units + 64 < cLine) : CallRK X (.builtin "min") [Str.ofString "default"] (rBestD X.K PySem.W.minD) := by
  intro pins s σ H vs zs us ws Q I r rz h
  obtain ⟨a, xs, ds, z, rfl, rfl, hs, dp, ok, q0, q⟩ := h
  obtain ⟨f1, f2, f3⟩ := allCmp_facts ok
  rw [Vals.ref1 r]
  obtain ⟨wz, rfl, rw'⟩ := vals1 rz
  show wpAny _ _ (call (.builtin "min") [.ref a] [(Str.ofString "default", wz)]) _ _ _
  rcases hs with hs | hs
  · obtain ⟨its, rv, hl, _⟩ := I.list hs
    obtain ⟨as, ra⟩ := Dp.readsAll I _ _ _ dp rv
    refine PySem.W.min_list_default (I.ok.hd hc) hl.isList (by simpa using ra) f3 (by omega) (fun e h' tk hk => ⟨z, H, I.kept hk, rw', q0 e⟩) fun y ys i v h' tk bs e hv rd hk => ?_
    subst e
    obtain ⟨y', e1, e2, e3⟩ := best_at rv ra f3 (minD_mem y ys) hk hv rd
    exact ⟨y', H, I.kept hk, e2, q y ys rfl i y' e1 e3⟩
  · obtain ⟨its, rv, hl, _⟩ := I.tuple hs
    obtain ⟨as, ra⟩ := Dp.readsAll I _ _ _ dp rv
    refine PySem.W.min_tuple_default (I.ok.hd hc) hl (by simpa using ra) f3 (by omega) (fun e h' tk hk => ⟨z, H, I.kept hk, rw', q0 e⟩) fun y ys i v h' tk bs e hv rd hk => ?_
    subst e
    obtain ⟨y', e1, e2, e3⟩ := best_at rv ra f3 (minD_mem y ys) hk hv rd
    exact ⟨y', H, I.kept hk, e2, q y ys rfl i y' e1 e3⟩
end
/-- the best of xs, or z where there is none -/
def bestOr (g : D → List D → D) : List D → D → Option D
  | [], z => if flat z = true then some z else none
  | x :: r, _ => bestOf g (x :: r)
def dMaxD : D → D → Option D
  | .list ds, z => bestOr PySem.W.maxD ds z
  | .tuple ds, z => bestOr PySem.W.maxD ds z
  | _, _ => none
def dMinD : D → D → Option D
  | .list ds, z => bestOr PySem.W.minD ds z
  | .tuple ds, z => bestOr PySem.W.minD ds z
  | _, _ => none
def CallKF (K : PySem.W.Frag) (r : List V → List V → Hp → VK → Prop) (op : D → D → Option D) : Prop := ∀ (v z : V) (dv dz d : D) (H : Hp) (Q : VK), R K H v dv → R K H z dz → op dv dz = some d → (∀ u, R K H u d → flat d = true → Q u H) → r [v] [z] H Q
section
variable {K : PySem.W.Frag}
theorem bestOr_ok {g : D → List D → D} {a : Addr} {xs : List V} {ds : List D} {z : V} {dz d : D} {H : Hp} {Q : VK} (hs : SqL K H a xs ∨ SqT K H a xs) (ra : RA K H xs ds) (rz : R K H z dz) (h : bestOr g ds dz = some d) (q : ∀ v, R K H v d → flat d = true → Q v H) : rBestD K g [.ref a] [z] H Q := by
  unfold bestOr at h
  split at h
  · obtain ⟨hc, e⟩ := ite_some h
    subst e
    exact ⟨a, xs, [], z, rfl, rfl, hs, RA.toDp ra rfl, rfl, fun _ => q z rz hc, fun x r e => by cases e⟩
  · rename_i x r z'
    unfold bestOf at h
    obtain ⟨hc, e⟩ := ite_some h
    subst e
    rw [Bool.and_eq_true] at hc
    refine ⟨a, xs, _, z, rfl, rfl, hs, RA.toDp ra (allCmp_facts hc.1).1, hc.1, fun e => by (cases e), fun x' r' e i y e1 e2 => ?_⟩
    cases e
    obtain ⟨y', e3, rr⟩ := ra.get e2
    rw [e1] at e3
    cases e3
    exact q y rr hc.2
theorem ck_max : CallKF K (rBestD K PySem.W.maxD) dMaxD := by
  intro v z dv dz d H Q rv rz h q
  unfold dMaxD at h
  split at h
  · cases rv with
    | lst e1 e2 => exact bestOr_ok (.inl (SqL.of e1)) e2 rz h q
  · cases rv with
    | tup e1 e2 => exact bestOr_ok (.inr (.inl (.inl e1))) e2 rz h q
  · cases h
theorem ck_min : CallKF K (rBestD K PySem.W.minD) dMinD := by
  intro v z dv dz d H Q rv rz h q
  unfold dMinD at h
  split at h
  · cases rv with
    | lst e1 e2 => exact bestOr_ok (.inl (SqL.of e1)) e2 rz h q
  · cases rv with
    | tup e1 e2 => exact bestOr_ok (.inr (.inl (.inl e1))) e2 rz h q
  · cases h
end
section
variable {X : Cx} {K : PySem.W.Frag} {κ : Mo} {x : Str} {p pos kpos : Pos} {e o : Expr} {f g : FE} {c c2 : Esc} {id : String} {nm : Str} {r : List V → List V → Hp → VK → Prop} {op : D → D → Option D}
/-- f(e, nm=o) -/
theorem qe_k1 (hc : CallRK X (.builtin id) [nm] r) (hd : CallKF K r op) (hg : Gl X x) (hm : X.mg x = none) (hv : bootBuiltins x = some (.builtin id)) (ha : PE X e (tD K (.br 1) f c)) (hk : PE X o (tD K (.br 1) g c2)) (hn : x ≠ "__name__" := by decide) (hdb : (x == ("__debug__" : Str)) = false := by decide)
    (hs : starEach [e] X.env = (false, eval e X.env) :: starEach [] X.env := by rfl)
    (he : backTo pos (starEach [e] X.env) = (false, eval e X.env) :: backTo pos (starEach [] X.env) := by rfl) (hpl : (backTo pos (starEach [e] X.env)).any (·.1) = false := by rfl)
    (hall : (backToKw pos (keywordEach [{ arg := some nm, value := o, pos := kpos }] X.env)).all (·.1.isSome) = true := by rfl) (hnone : (backToKw pos (keywordEach [{ arg := some nm, value := o, pos := kpos }] X.env)).any (·.1.isNone) = false := by rfl) (hks : (backToKw pos (keywordEach [{ arg := some nm, value := o, pos := kpos }] X.env)).filterMap (·.1) = [nm] := by rfl) :
    PE X (.Call (.Name x p) [e] [{ arg := some nm, value := o, pos := kpos }] pos) (tD K κ (eOp op f g) []) :=
  (pe_callBK hc hg hm hv (pa_cons ha pa_nil hs) (pk_cons hk pk_nil) hn hdb he hpl hall hnone hks).imp fun σ H Q ⟨B, L, ρ, d, gd, es, hf, q⟩ => by
    obtain ⟨dx, dy, h1, h2, h3⟩ := o2_some hf
    refine ⟨[], _, ρ, dx, gd.zero, .zero, h1, fun v H1 s1 p1 => ⟨[], _, ρ, dy, (gd.mono s1).zero, .zero, h2, fun z H2 s2 p2 => ?_⟩⟩
    exact hd v z dx dy d H2 Q ((RL.r0 p1).mono s2) (RL.r0 p2) h3 fun u ru fl => q u H2 (s1.trans s2) (Post.of_flat (ru.hidF ((gd.ok.mono s1).mono s2).noTup fl) (flat_top fl))
end
end DS
end

section
set_option Elab.async false
set_option linter.all false
set_option maxRecDepth 100000
set_option maxHeartbeats 1000000
/-! Part t: is, is not of truth values; found *= x. -/
namespace DS
open PySem PySem.Spec PyProof.Rows L2
def dIs : D → D → Option Bool
  | .bool a, .bool b => some (decide (a = b))
  | _, _ => none
def dIsNot : D → D → Option Bool
  | .bool a, .bool b => some (!decide (a = b))
  | _, _ => none
section
variable {X : Cx} {K : PySem.W.Frag}
theorem oc_is : OpC K rIsB dIs := by
  intro x y dx dy b H Q rx ry h q
  unfold dIs at h
  split at h
  · cases (Option.some.inj h)
    exact ⟨_, _, rx.bl', ry.bl', q⟩
  · cases h
theorem oc_isNot : OpC K rNotB dIsNot := by
  intro x y dx dy b H Q rx ry h q
  unfold dIsNot at h
  split at h
  · cases (Option.some.inj h)
    exact ⟨_, _, rx.bl', ry.bl', q⟩
  · cases h
def ipM : TIp := fun x y H Q => ∃ i j, x = .int i ∧ y = .int j ∧ mulOk i j = true ∧ Q (.int (i * j)) H
theorem ip_mul : PIp X .Mult ipM := by
  intro pins s σ H x y v u Q I r1 r2 h
  obtain ⟨i, j, e1, e2, hm, q⟩ := h
  subst e1; subst e2
  obtain ⟨t, rfl⟩ := r1
  obtain ⟨t', rfl⟩ := r2
  exact imul_int ⟨.int _, H, I.tok _, ⟨_, rfl⟩, q⟩ (mulOk_ok hm)
def dMulI : D → D → Option D
  | .int i, .int j => if mulOk i j = true then some (.int (i * j)) else none
  | _, _ => none
theorem ss_augMul (i : Nat) {x : Str} {e : Expr} {f : FE} {c : Esc} {pos pos' : Pos} (hN : X.N.Nodup) (he : PE X e (tD K (.br 1) f c)) (hi : X.N[i]? = some x := by rfl) (hx : Loc X.env.scope x := by first | exact Or.inl rfl | exact Or.inr rfl) (hf : X.fn x = true ∨ X.env.scope.names.lookup x = some .local := by first | exact .inl rfl | exact .inr rfl) :
    PS X (.AugAssign (.Name x pos') .Mult e pos) (tS K (sAug i dMulI f)) := ss_aug i ip_mul (fun B x y dx dy d H Q ok rx ry h q => by
      unfold dMulI at h
      split at h
      · obtain ⟨hc, e⟩ := ite_some h
        subst e
        exact ⟨_, _, rx.int', ry.int', hc, q _ H (Same.refl H) (.int _)⟩
      · cases h) hN he hi hx hf
end
end DS
end

section
set_option Elab.async false
set_option linter.all false
set_option maxRecDepth 100000
set_option maxHeartbeats 1000000
/-! Part u: x[i], y[j] = a, b with flat values. -/
namespace DS
open PySem PySem.Spec PyProof.Rows L2
def sPutC (i : Nat) (j : FE) (d : D) : FS := fun s => match eVar i s.1, j s.1 with
  | some (.list ds), some (.int k) => match ixN ds.length k with
    | none => .stuck
    | some n => if lv s.2 i = 1 then .next (s.1.set i (some (.list (ds.set n d))), s.2) else .stuck
  | _, _ => .stuck
def sPut2 (i1 : Nat) (j1 : FE) (i2 : Nat) (j2 : FE) (f : FE) : FS := fun s => match f s.1 with
  | some (.tuple [a, b]) => if (flat a && flat b) = true then (match sPutC i1 j1 a s with
    | .next s1 => sPutC i2 j2 b s1
    | _ => .stuck) else .stuck
  | _ => .stuck
section
variable {X : Cx} {K : PySem.W.Frag}
theorem flat_write {H : Hp} {a : Addr} {xs xs' : List V} {w : V} {e : D} (r : R K H w e) (hf : flat e = true) (ha : H a = some (.lst xs)) : R K (upd H a (.lst xs')) w e := by
  have nt : NoTup [a] H := fun b hb ys rd => by
    have : b = a := by simpa using hb
    subst this
    rcases rd with rd | ⟨u, rd⟩ <;> rw [rd] at ha <;> cases ha
  refine (r.hidF nt hf).mono fun b o q => ?_
  obtain ⟨q1, q2⟩ := hid_some q
  rw [upd_ne fun z => q1 (by rw [z]; exact List.mem_cons_self)]
  exact q2
theorem putC_ok {B0 : List Addr} {G H : Hp} {σ : St} {s s' : S} {i : Nat} {j : FE} {cj : Esc} {d : D} {v : V} {Q : St → Hp → Prop} (hs : GS K B0 G σ H s) (hv : R K H v d) (hfl : flat d = true) (he : sPutC i j d s = .next s')
    (q : ∀ H', GS K B0 G σ H' s' → (∀ w e, R K H w e → flat e = true → R K H' w e) → Q σ H') : gSub (tVar i) (tD K (.br 1) j cj) rSetL v σ H Q := by
  unfold sPutC at he
  split at he
  · rename_i ds k hi hk
    have hi := eVar_some hi
    split at he
    · cases he
    · rename_i n hn
      split at he
      · rename_i hl
        cases he
        obtain ⟨O, B, g⟩ := hs
        obtain ⟨a, xs, h1, h2, h3, _⟩ := g.write hi hl
        refine ⟨.ref a, h1, [], _, s.1, _, g.good.zero, .zero, hk, fun w H2 s2 p2 => ?_⟩
        obtain ⟨a', xs', h1', h2', h3', h4'⟩ := (g.mono s2).write hi hl
        rw [h1] at h1'
        cases h1'
        have h5 := s2 _ _ h2
        rw [h5] at h2'
        cases h2'
        refine ⟨a, xs, _, n, rfl, RL.int p2, h5, by rw [h3.length]; exact hn, ?_⟩
        exact q _ (h4' _ _ (h3'.set ((hv.mono s2).hidF ((g.ok.mono s2).noTup) hfl) n)) fun w' e' r' f' => flat_write (r'.mono s2) f' h5
      · cases he
  · cases he
theorem put2_ok {i1 i2 : Nat} {j1 j2 f : FE} {c c1 c2 : Esc} : ∀ E σ H, tS K (sPut2 i1 j1 i2 j2 f) E σ H →
    tAsg (tD K (.br 0) f c) (gTup K 2 (gCons (gSub (tVar i1) (tD K (.br 1) j1 c1) rSetL) (gCons (gSub (tVar i2) (tD K (.br 1) j2 c2) rSetL) gNil))) E σ H := fun E σ H ⟨B0, G, s, hs, q⟩ => by
  unfold sPut2 at q
  split at q
  · rename_i a b hd
    split at q
    · rename_i hfl
      rw [Bool.and_eq_true] at hfl
      split at q
      · rename_i s1 e1
        cases e2 : sPutC i2 j2 b s1 with
        | next s2 =>
          rw [e2] at q
          obtain ⟨O, B, g⟩ := id hs
          refine ⟨[], _, s.1, _, g.good.zero, .zero, hd, fun v H1 st p1 => ?_⟩
          have rv := RL.r0 p1
          cases rv with
          | tup t1 t2 =>
            cases t2 with
            | cons ra t3 =>
              cases t3 with
              | cons rb t4 =>
                cases t4
                refine ⟨_, _, rfl, (.inl (.inl t1)), rfl, _, _, rfl, ?_⟩
                have hs1 : GS K B0 G σ H1 s := ⟨O, B, g.mono st⟩
                refine putC_ok hs1 ra hfl.1 e1 fun H2 gs2 kp => ?_
                refine ⟨_, _, rfl, putC_ok gs2 (kp _ _ rb hfl.2) hfl.2 e2 fun H3 gs3 _ => ⟨rfl, q σ H3 gs3⟩⟩
        | ret d =>
          unfold sPutC at e2
          split at e2
          · split at e2
            · cases e2
            · split at e2 <;> cases e2
          · cases e2
        | brk s2 =>
          unfold sPutC at e2
          split at e2
          · split at e2
            · cases e2
            · split at e2 <;> cases e2
          · cases e2
        | cont s2 =>
          unfold sPutC at e2
          split at e2
          · split at e2
            · cases e2
            · split at e2 <;> cases e2
          · cases e2
        | stuck => rw [e2] at q; exact q.elim
      · exact q.elim
    · exact q.elim
  · exact q.elim
theorem ss_put2 (i1 i2 : Nat) {tg e : Expr} {j1 j2 f : FE} {c c1 c2 : Esc} {pos : Pos} (ps : PS X (.Assign [tg] e pos) (tAsg (tD K (.br 0) f c) (gTup K 2 (gCons (gSub (tVar i1) (tD K (.br 1) j1 c1) rSetL) (gCons (gSub (tVar i2) (tD K (.br 1) j2 c2) rSetL) gNil))))) :
    PS X (.Assign [tg] e pos) (tS K (sPut2 i1 j1 i2 j2 f)) := ps.imp put2_ok
end
end DS
end

section
set_option Elab.async false
set_option linter.all false
set_option maxRecDepth 100000
set_option maxHeartbeats 1000000
/-! Part v: sorted(xs, reverse=True). -/
namespace PySem.W
open PySem PySem.Calls PyProof.Rows
section
variable {prog : Program} {w : World} {A : Around} {E : Value → Shared → Prop} {s : Shared} {β : Type} {vs : List Value} {bs : List β} {enc : β → PyData} {R : Value → β → Prop}
theorem sorted_rev_any' {l : Addr} {b : Bool} {Q : Value → Shared → Prop} (hl : s.heap.IsList l vs.toArray) (e : EachIs R vs bs) (er : EachIs (fun v b => ∃ as, Reads s.heap v (enc b) as) vs bs) (hal : AllAlike (bs.map enc)) (hk : ∀ d, d ∈ bs.map enc → d ≠ .none) (hL : bs.length ≤ sizeLine)
    (hu : ∀ b, b ∈ bs → A.units + 2 + (enc b).depth < cLine) (h : ∀ out, out.length = bs.length → EachIs R out (bs.mergeSort (dataLe b enc)) → Q (.ref (s.heap.objs.size + 1)) { s with heap := sortedAll s.heap vs (List.toArray out) }) :
    wpAny (model prog w) A (call (.builtin "sorted") [.ref l] [(Str.ofString "reverse", .bool b)]) Q E s := by
  have er' : EachIs (fun v b => ∃ as, Reads (sortingHeap (copyHeap s.heap vs) (s.heap.objs.size + 1) vs) v (enc b) as) vs bs := er.mono fun _ _ ⟨as, r⟩ => ⟨as, PyProof.Rows.Reads.keeps (fun _ _ => sorting_copy_old) r⟩
  exact sorted_rev_vals hl (SortsAt.any (s := { s with heap := sortingHeap (copyHeap s.heap vs) (s.heap.objs.size + 1) vs }) (each_map (R := fun v d => ∃ as, Reads (sortingHeap (copyHeap s.heap vs) (s.heap.objs.size + 1) vs) v d as) enc er') hal hk (bound_map hu)) (by rw [e.length]; exact hL)
    (h _ (by rw [sortVals_length b rfl]; exact e.length) (sortVals_data b e er' hal))
end
end PySem.W
namespace DS
open PySem PySem.Spec PyProof.Rows L2
/-- a before b in a list sorted downwards, or as good -/
def geD (a b : D) : Bool := !PySem.W.dataLt a b
def rSortRv (K : PySem.W.Frag) : List V → List V → Hp → VK → Prop := fun vs zs H Q => ∃ a xs ds, vs = [.ref a] ∧ zs = [.bl true] ∧ SqL K H a xs ∧ DpAll K H xs ds ∧ xs.length = ds.length ∧ allCmp ds = true ∧ ∀ p, H p = none → Q (.ref p) (upd H p (.lst (((xs.zip ds).mergeSort (fun u v => geD u.2 v.2)).map (·.1))))
section
variable {X : Cx} {K : PySem.W.Frag}
theorem crk_sortedRv (hu : X.A.units + 64 < cLine) : CallRK X (.builtin "sorted") [Str.ofString "reverse"] (rSortRv X.K) := by
  intro pins s σ H vs zs us ws Q I r rz h
  obtain ⟨a, xs, ds, rfl, rfl, hs, dp, hlen, ok, q⟩ := h
  obtain ⟨f1, f2, f3⟩ := allCmp_facts ok
  obtain ⟨its, rv, hl, hz⟩ := I.list hs
  rw [Vals.ref1 r]
  obtain ⟨wz, rfl, rw'⟩ := vals1 rz
  cases (show wz = Value.bool true from rw')
  show wpAny _ _ (call (.builtin "sorted") [.ref a] [(Str.ofString "reverse", .bool true)]) _ _ _
  obtain ⟨as, ra⟩ := Dp.readsAll I _ _ _ dp rv
  have zz : (xs.zip ds).map (fun b : V × D => b.2) = ds := zip_snd hlen
  refine PySem.W.sorted_rev_any' (b := true) (bs := xs.zip ds) (enc := fun b => b.2) (R := fun u b => RelV b.1 u) hl.isList
    (each_zip rv.length.symm hlen fun i u x e1 e2 => by
      obtain ⟨u', e3, r3⟩ := rv.get e2
      rw [e1] at e3
      cases e3
      exact r3)
    (each_reads ra hlen) (by rw [zz]; exact f3.1) (by rw [zz]; exact f3.2) (by rw [List.length_zip, ← hlen, Nat.min_self]; exact hz) (fun b hb => ?_) (fun out hol ho => ?_)
  · have : b.2 ∈ ds := (List.of_mem_zip hb).2
    have := depth_mem this
    omega
  · obtain ⟨ep, he'⟩ := PyProof.Rows.sortedAll_at s.heap its out.toArray
    have hv := each_vals ho
    refine ⟨.ref (s.heap.objs.size + 1), upd H (s.heap.objs.size + 1) (.lst (((xs.zip ds).mergeSort (fun u v => geD u.2 v.2)).map (·.1))), I.laid (t' := s.toks) (fun _ _ => PyProof.Rows.sortedAll_old) (Nat.le_succ _) ⟨?_, out, ep, hv, he'⟩, rfl, q _ (I.hok.fresh (Nat.le_succ _))⟩
    rw [List.length_map, List.length_mergeSort, List.length_zip, ← hlen, Nat.min_self]
    exact hz
end
def dSortRv : D → D → Option D
  | .list ds, .bool true => if allCmp ds = true then some (.list (ds.mergeSort geD)) else none
  | _, _ => none
/-- f(e, nm=o) makes something new -/
def CallKD (K : PySem.W.Frag) (r : List V → List V → Hp → VK → Prop) (op : D → D → Option D) : Prop := ∀ (B : List Addr) (v z : V) (dv dz d : D) (H : Hp) (Q : VK), Ok B H → RL K B H 1 v dv → RL K B H 1 z dz → op dv dz = some d →
  (∀ u H', Same H H' → (∀ κ : Mo, κ.one = true → Post K B H H' κ u d) → Q u H') → r [v] [z] H Q
section
variable {K : PySem.W.Frag}
theorem sort_snd' {xs : List V} {ds : List D} (h : xs.length = ds.length) : ((xs.zip ds).mergeSort (fun u v => geD u.2 v.2)).map (·.2) = ds.mergeSort geD := by
  have := PySem.W.sort_maps (r := fun u v : V × D => geD u.2 v.2) (s := geD) (fun b : V × D => b.2) (l := xs.zip ds) fun _ _ _ _ => rfl
  rw [this, zip_snd h]
theorem RA.sorted' {H : Hp} {xs : List V} {ds : List D} (r : RA K H xs ds) : RA K H (((xs.zip ds).mergeSort (fun u v => geD u.2 v.2)).map (·.1)) (ds.mergeSort geD) := by
  rw [← sort_snd' r.length]
  have all : ∀ p ∈ xs.zip ds, R K H p.1 p.2 := by
    intro p hp
    obtain ⟨i, hi⟩ := List.getElem?_of_mem hp
    have := List.getElem?_zip_eq_some.mp hi
    obtain ⟨y, e, ry⟩ := r.get this.2
    rw [this.1] at e
    cases e
    exact ry
  have go : ∀ l : List (V × D), (∀ p ∈ l, R K H p.1 p.2) → RA K H (l.map (·.1)) (l.map (·.2)) := by
    intro l hl
    induction l with
    | nil => exact .nil
    | cons p l ih => exact .cons (hl p (.head _)) (ih fun q hq => hl q (.tail _ hq))
  exact go _ fun p hp => all p ((List.mergeSort_perm _ _).mem_iff.mp hp)
theorem ckd_sortedRv : CallKD K (rSortRv K) dSortRv := by
  intro B v z dv dz d H Q ok rv rz h q
  unfold dSortRv at h
  split at h
  · rename_i es
    obtain ⟨hc, e⟩ := ite_some h
    subst e
    obtain ⟨p, ys, rfl, h1, h2⟩ := rv.list1
    have h3 := h2.mono same_unhid
    have ez : z = .bl true := (RL.open rz).bl'
    subst ez
    refine ⟨p, ys, es, rfl, rfl, SqL.of h1, RA.toDp h3 (allCmp_facts hc).1, h2.length, hc, fun l hn => q _ _ (same_upd hn) fun κ hκ => Post.new ok.trk hn upd_same (h2.sorted'.mono (same_hidC hn)) hκ⟩
  · cases h
end
section
variable {X : Cx} {K : PySem.W.Frag} {κ : Mo} {x : Str} {p pos kpos : Pos} {e o : Expr} {f g : FE} {c c2 : Esc} {id : String} {nm : Str} {r : List V → List V → Hp → VK → Prop} {op : D → D → Option D}
theorem qe_k1D (hc : CallRK X (.builtin id) [nm] r) (hd : CallKD K r op) (hg : Gl X x) (hm : X.mg x = none) (hv : bootBuiltins x = some (.builtin id)) (ha : PE X e (tD K (.br 1) f c)) (hk : PE X o (tD K (.br 1) g c2)) (hκ : κ.one = true := by rfl) (hn : x ≠ "__name__" := by decide) (hdb : (x == ("__debug__" : Str)) = false := by decide)
    (hs : starEach [e] X.env = (false, eval e X.env) :: starEach [] X.env := by rfl)
    (he : backTo pos (starEach [e] X.env) = (false, eval e X.env) :: backTo pos (starEach [] X.env) := by rfl) (hpl : (backTo pos (starEach [e] X.env)).any (·.1) = false := by rfl)
    (hall : (backToKw pos (keywordEach [{ arg := some nm, value := o, pos := kpos }] X.env)).all (·.1.isSome) = true := by rfl) (hnone : (backToKw pos (keywordEach [{ arg := some nm, value := o, pos := kpos }] X.env)).any (·.1.isNone) = false := by rfl) (hks : (backToKw pos (keywordEach [{ arg := some nm, value := o, pos := kpos }] X.env)).filterMap (·.1) = [nm] := by rfl) :
    PE X (.Call (.Name x p) [e] [{ arg := some nm, value := o, pos := kpos }] pos) (tD K κ (eOp op f g) (c ++ c2)) :=
  (pe_callBK hc hg hm hv (pa_cons ha pa_nil hs) (pk_cons hk pk_nil) hn hdb he hpl hall hnone hks).imp fun σ H Q ⟨B, L, ρ, d, gd, es, hf, q⟩ => by
    obtain ⟨dx, dy, h1, h2, h3⟩ := o2_some hf
    refine ⟨B, L, ρ, dx, gd, es.left, h1, fun v H1 s1 p1 => ⟨B, L, ρ, dy, gd.mono s1, es.right, h2, fun z H2 s2 p2 => ?_⟩⟩
    refine hd B v z dx dy d H2 Q ((gd.ok.mono s1).mono s2) (RL.mono s2 (same_hid s2) p1) p2 h3 fun u H' s3 p3 => q u H' ((s1.trans s2).trans s3) ?_
    have p := p3 κ hκ
    cases κ with
    | br m => exact p
    | fr =>
      obtain ⟨o, h1, h2, h3⟩ := p
      exact ⟨o, fun a z => (s1.trans s2).free (h1 a z), h2, h3⟩
    | fr2 => cases hκ
end
end DS
end

section
set_option Elab.async false
set_option linter.all false
set_option maxRecDepth 100000
set_option maxHeartbeats 1000000
/-! Part x: y = o + (l.pop(e),) of an owned list l. -/
namespace DS
open PySem PySem.Spec PyProof.Rows L2
theorem RA.erase {K : PySem.W.Frag} {H : Hp} : ∀ {v : List V} {d : List D} (n : Nat), RA K H v d → RA K H (v.eraseIdx n) (d.eraseIdx n)
  | _, _, _, .nil => .nil
  | _, _, 0, .cons h t => t
  | _, _, n + 1, .cons h t => .cons h (RA.erase n t)
/-- the list at l without its item at j, and that item -/
def popAt (l : Nat) (j : FE) (s : S) : Option (S × D) := match eVar l s.1, j s.1 with
  | some (.list ds), some (.int k) => match ixN ds.length k with
    | none => none
    | some n => match ds[n]? with
      | none => none
      | some d => if (flat d && decide (lv s.2 l = 1) && decide (ds.length ≤ sz)) = true then some ((s.1.set l (some (.list (ds.eraseIdx n))), s.2), d) else none
  | _, _ => none
def sPopCat (i o l : Nat) (j : FE) : FS := fun s => match eVar o s.1, popAt l j s with
  | some (.tuple xs), some (s1, d) => if (flats xs && decide (xs.length + 1 ≤ sz)) = true then .next (s1.1.set i (some (.tuple (xs ++ [d]))), s1.2.set i 0) else .stuck
  | _, _ => .stuck
section
variable {X : Cx} {K : PySem.W.Frag}
abbrev tPop (K : PySem.W.Frag) (l : Nat) (j : FE) (cj : Esc) : TE := tBM K "list" rPopAt (tVar l) (tCons (tD K (.br 1) j cj) tNil)
theorem pop_ok {B0 : List Addr} {G H : Hp} {σ : St} {s s1 : S} {l : Nat} {j : FE} {cj : Esc} {d : D} {Q : VK} (hs : GS K B0 G σ H s) (he : popAt l j s = some (s1, d))
    (q : ∀ y H', GS K B0 G σ H' s1 → R K H' y d → (∀ w e, R K H w e → flat e = true → R K H' w e) → Q y H') : tPop K l j cj σ H Q := by
  unfold popAt at he
  split at he
  · rename_i ds k hi hk
    have hi := eVar_some hi
    split at he
    · cases he
    · rename_i n hn
      split at he
      · cases he
      · rename_i d' hd
        obtain ⟨hc, e⟩ := ite_some he
        cases e
        simp only [Bool.and_eq_true, decide_eq_true_eq] at hc
        obtain ⟨⟨hfl, hl⟩, hz⟩ := hc
        obtain ⟨O, B, g⟩ := hs
        obtain ⟨a, xs, h1, h2, h3, _⟩ := g.write hi hl
        refine ⟨.ref a, h1, .inl ⟨rfl, xs, SqL.of h2⟩, [], _, s.1, _, g.good.zero, .zero, hk, fun w H2 s2 p2 => ?_⟩
        obtain ⟨a', xs', h1', h2', h3', h4'⟩ := (g.mono s2).write hi hl
        rw [h1] at h1'
        cases h1'
        have h5 := s2 _ _ h2
        rw [h5] at h2'
        cases h2'
        obtain ⟨y, hy, ry⟩ := h3'.get hd
        have sq := ixN_seq (n := xs.length) (i := k) (j := n) (by rw [h3.length]; exact hn)
        have hlen : (xs.length : Int) ≤ 16777216 := by
          have : xs.length ≤ 16777216 := by rw [h3.length]; exact hz
          omega
        refine ⟨a, xs, k, n, y, rfl, by rw [RL.int p2], h5, by omega, by omega, sq.1, hy, ?_⟩
        exact q y _ (h4' _ _ (h3'.erase n)) (flat_write (ry.mono same_unhid) hfl h5) fun w' e' r' f' => flat_write (r'.mono s2) f' h5
  · cases he
theorem popCat_ok {i o l : Nat} {j : FE} {cj : Esc} : ∀ E σ H, tS K (sPopCat i o l j) E σ H → tAsg (tOp (rCatA K) (tVar o) (tTup (tCons (tPop K l j cj) tNil))) (gName i) E σ H := fun E σ H ⟨B0, G, s, hs, q⟩ => by
  unfold sPopCat at q
  split at q
  · rename_i xs s1 d ho hp
    split at q
    · rename_i hc
      simp only [Bool.and_eq_true, decide_eq_true_eq] at hc
      obtain ⟨O, B, g⟩ := id hs
      obtain ⟨v, e1, rv⟩ := g.good.slot o _ (eVar_some ho)
      have rv0 : R K H v (.tuple xs) := rv.open
      refine ⟨v, e1, pop_ok hs hp fun y H1 gs1 ry kp => ?_⟩
      have rv1 := kp _ _ rv0 (by simpa [flat] using hc.1)
      have fd : flat d = true := by
        unfold popAt at hp
        split at hp
        · split at hp
          · cases hp
          · split at hp
            · cases hp
            · obtain ⟨hc', e⟩ := ite_some hp
              cases e
              simp only [Bool.and_eq_true] at hc'
              exact hc'.1.1
        · cases hp
      refine ⟨by rw [sz_eq]; show 1 ≤ sz; decide, fun p np => ?_⟩
      have st : Same H1 (upd H1 p (.tup [y])) := same_upd np
      have ft : flat (.tuple (xs ++ [d])) = true := by
        have : ∀ (l : List D), flats l = true → flats (l ++ [d]) = true := by
          intro l
          induction l with
          | nil => intro _; simp [flats, fd]
          | cons x l ih =>
            intro h
            simp only [flats, Bool.and_eq_true, List.cons_append] at h ⊢
            exact ⟨h.1, ih h.2⟩
        simpa [flat] using this xs hc.1
      have fin : ∀ (u : V) (H3 : Hp), Same H1 H3 → R K H3 u (.tuple (xs ++ [d])) → E.nx (σ.set i (some u)) H3 := fun u H3 s3 ru => by
        obtain ⟨O1, B1, g1⟩ := gs1
        obtain ⟨O', B', g', _⟩ := (g1.mono s3).assign0 (i := i) (ru.hidF ((g1.ok.mono s3).noTup) ft)
        exact q _ _ ⟨O', B', g'⟩
      have rv2 := rv1.mono st
      cases rv2 with
      | @tup a0 vs0 _ t1 t2 =>
        have hp' : SqT K (upd H1 p (.tup [y])) p [y] := .inl (.inl upd_same)
        refine ⟨_, p, _, [y], rfl, rfl, (.inl (.inl t1)), hp', by rw [t2.length, sz_eq]; exact hc.2, fun e => ?_, fun _ e => by (cases e), fun _ _ t nt => ?_⟩
        · subst e
          cases t2
          exact fin _ _ st (.tup upd_same (.cons (ry.mono st) .nil))
        · have s' := same_upd (o := HO.tup (vs0 ++ [y])) nt
          exact fin _ _ (st.trans s') (.tup upd_same ((t2.mono s').append (.cons (ry.mono (st.trans s')) .nil)))
    · exact q.elim
  · exact q.elim
theorem ss_popCat (i o l : Nat) {tg e : Expr} {j : FE} {cj : Esc} {pos : Pos} (ps : PS X (.Assign [tg] e pos) (tAsg (tOp (rCatA K) (tVar o) (tTup (tCons (tPop K l j cj) tNil))) (gName i))) :
    PS X (.Assign [tg] e pos) (tS K (sPopCat i o l j)) := ps.imp popCat_ok
end
end DS
end

section
set_option Elab.async false
set_option linter.all false
set_option maxRecDepth 100000
set_option maxHeartbeats 1000000
/-! Part y: a, b = [..], flat: the new list is a's own. -/
namespace DS
open PySem PySem.Spec PyProof.Rows L2
def sParF (i j : Nat) (f g : FE) (c : Esc) : FS := fun s => match f s.1, g s.1 with
  | some d, some e => if flat e = true then .next ((s.1.set i (some d)).set j (some e), ((demote c s.2).set i 1).set j 0) else .stuck
  | _, _ => .stuck
section
variable {X : Cx} {K : PySem.W.Frag}
theorem fresh_two {B0 : List Addr} {G H : Hp} {O : Nat → List Addr} {B : List Addr} {σ : St} {ρ : PEnv} {L : List Nat} {H1 H2 : Hp} {v : V} {d : D} {i : Nat} (g : GoodS K B0 G O B σ H ρ L) (e1 : Same H H1) (e2 : Same H1 H2) (p : Post K B H H1 .fr v d) :
    ∃ O' B', GoodS K B0 G O' B' (σ.set i (some v)) H2 (ρ.set i (some d)) (L.set i 1) := by
  obtain ⟨o, hn, hd, ro⟩ := p
  have r2 : RO K (o ++ B) H2 1 o v d := ro.mono_aux (same_hid e2) fun a ha => by
    obtain ⟨x, hx, _⟩ := ro.mut_aux a ha
    rw [hx, e2 _ _ hx]
  obtain ⟨O', B', g', _⟩ := g.assign (i := i) (e1.trans e2) hn hd r2
  exact ⟨O', B', g'⟩
theorem ss_parF (i j : Nat) {x y : Str} {a b : Expr} {f g : FE} {c c' : Esc} {px py pt pos : Pos} {kt k2 pt2} (hc : X.calm = true) (hN : X.N.Nodup) (ha : PE X a (tD K .fr f c)) (hb : PE X b (tD K (.br 0) g c'))
    (hw : swappedStores [.Tuple [.Name x px, .Name y py] kt pt] (.Tuple [a, b] k2 pt2) X.env = pure (some [x, y])) (hi : X.N[i]? = some x := by rfl) (hj : X.N[j]? = some y := by rfl) (hij : i ≠ j := by decide)
    (hx : X.env.scope.names.lookup x = some .local := by rfl) (hy : X.env.scope.names.lookup y = some .local := by rfl)
    (hs : swapsWithSole [.Tuple [.Name x px, .Name y py] kt pt] (.Tuple [a, b] k2 pt2) pos.line X.env = pure false := by rfl) (hs1 : starEach [a, b] X.env = (false, eval a X.env) :: starEach [b] X.env := by rfl) (hs2 : starEach [b] X.env = (false, eval b X.env) :: starEach [] X.env := by rfl) :
    PS X (.Assign [.Tuple [.Name x px, .Name y py] kt pt] (.Tuple [a, b] k2 pt2) pos) (tS K (sParF i j f g c)) := (ps_par hc hN hi hj hij hx hy (pa_cons ha (pa_cons hb pa_nil hs2) hs1) hw hs).imp fun E σ H ⟨B0, G, s, hs, q⟩ => by
  unfold sParF at q
  split at q
  · rename_i d e hd he
    split at q
    · rename_i hfl
      obtain ⟨O, B, gd⟩ := hs
      obtain ⟨O', B', g', _⟩ := gd.demote c
      refine ⟨B', lv (demote c s.2), s.1, d, g'.good, demote_ok _ s.2, hd, fun v H1 e1 p1 => ?_⟩
      refine ⟨[], _, s.1, e, (gd.mono e1).good.zero, .zero, he, fun w H2 e2 p2 => ?_⟩
      refine ⟨v, w, rfl, q _ H2 ?_⟩
      obtain ⟨O1, B1, g1⟩ := fresh_two (i := i) g' e1 e2 p1
      obtain ⟨O2, B2, g2, _⟩ := g1.assign0 (i := j) ((RL.r0 p2).hidF g1.ok.noTup hfl)
      exact ⟨O2, B2, g2⟩
    · exact q.elim
  · exact q.elim
end
def sPar3A (i j k : Nat) (f g h : FE) (c : Esc) : FS := fun s => match f s.1, g s.1, h s.1 with
  | some d, some e, some u => if (flat e && flat u) = true then .next (((s.1.set i (some d)).set j (some e)).set k (some u), (((demote c s.2).set i 1).set j 0).set k 0) else .stuck
  | _, _, _ => .stuck
section
variable {X : Cx} {K : PySem.W.Frag}
theorem ss_sPar3A (i j k : Nat) {x y z : Str} {a b c : Expr} {f g h : FE} {ca cb cc : Esc} {px py pz pt pos : Pos} {kt k2 pt2} (hc : X.calm = true) (hN : X.N.Nodup) (ha : PE X a (tD K (.fr) f ca)) (hb : PE X b (tD K (.br 0) g cb)) (hcc : PE X c (tD K (.br 0) h cc))
    (hw : swappedStores [.Tuple [.Name x px, .Name y py, .Name z pz] kt pt] (.Tuple [a, b, c] k2 pt2) X.env = pure (some [x, y, z])) (hi : X.N[i]? = some x := by rfl) (hj : X.N[j]? = some y := by rfl) (hk : X.N[k]? = some z := by rfl) (hij : i ≠ j := by decide) (hik : i ≠ k := by decide) (hjk : j ≠ k := by decide)
    (hx : X.env.scope.names.lookup x = some .local := by rfl) (hy : X.env.scope.names.lookup y = some .local := by rfl) (hz : X.env.scope.names.lookup z = some .local := by rfl)
    (hs : swapsWithSole [.Tuple [.Name x px, .Name y py, .Name z pz] kt pt] (.Tuple [a, b, c] k2 pt2) pos.line X.env = pure false := by rfl) (hs1 : starEach [a, b, c] X.env = (false, eval a X.env) :: starEach [b, c] X.env := by rfl) (hs2 : starEach [b, c] X.env = (false, eval b X.env) :: starEach [c] X.env := by rfl) (hs3 : starEach [c] X.env = (false, eval c X.env) :: starEach [] X.env := by rfl) :
    PS X (.Assign [.Tuple [.Name x px, .Name y py, .Name z pz] kt pt] (.Tuple [a, b, c] k2 pt2) pos) (tS K (sPar3A i j k f g h ca)) := (ps_par3 hc hN hi hj hk hij hik hjk hx hy hz (pa_cons ha (pa_cons hb (pa_cons hcc pa_nil hs3) hs2) hs1) hw hs).imp fun E σ H ⟨B0, G, s, hs, q⟩ => by
  unfold sPar3A at q
  split at q
  · rename_i d e u hd he hu
    split at q
    · rename_i hfl
      rw [Bool.and_eq_true] at hfl
      obtain ⟨O, B, gd⟩ := hs
      obtain ⟨O', B', g', _⟩ := gd.demote ca
      refine ⟨B', lv (demote ca s.2), s.1, d, g'.good, demote_ok _ s.2, hd, fun v1 H1 e1 p1 => ?_⟩
      refine ⟨[], _, s.1, e, (gd.mono e1).good.zero, .zero, he, fun v2 H2 e2 p2 => ?_⟩
      refine ⟨[], _, s.1, u, ((gd.mono e1).mono e2).good.zero, .zero, hu, fun v3 H3 e3 p3 => ?_⟩
      refine ⟨v1, v2, v3, rfl, q _ H3 ?_⟩
      obtain ⟨O1, B1, g1⟩ := fresh_two (i := i) g' e1 (e2.trans e3) p1
      obtain ⟨O2, B2, g2, _⟩ := g1.assign0 (i := j) (((RL.r0 p2).mono e3).hidF g1.ok.noTup hfl.1)
      obtain ⟨O3, B3, g3, _⟩ := g2.assign0 (i := k) ((RL.r0 p3).hidF g2.ok.noTup hfl.2)
      exact ⟨O3, B3, g3⟩
    · exact q.elim
  · exact q.elim
end
def sPar3B (i j k : Nat) (f g h : FE) (c : Esc) : FS := fun s => match f s.1, g s.1, h s.1 with
  | some d, some e, some u => if (flat d && flat u) = true then .next (((s.1.set i (some d)).set j (some e)).set k (some u), (((demote c s.2).set i 0).set j 1).set k 0) else .stuck
  | _, _, _ => .stuck
section
variable {X : Cx} {K : PySem.W.Frag}
theorem ss_sPar3B (i j k : Nat) {x y z : Str} {a b c : Expr} {f g h : FE} {ca cb cc : Esc} {px py pz pt pos : Pos} {kt k2 pt2} (hc : X.calm = true) (hN : X.N.Nodup) (ha : PE X a (tD K (.br 0) f ca)) (hb : PE X b (tD K (.fr) g cb)) (hcc : PE X c (tD K (.br 0) h cc))
    (hw : swappedStores [.Tuple [.Name x px, .Name y py, .Name z pz] kt pt] (.Tuple [a, b, c] k2 pt2) X.env = pure (some [x, y, z])) (hi : X.N[i]? = some x := by rfl) (hj : X.N[j]? = some y := by rfl) (hk : X.N[k]? = some z := by rfl) (hij : i ≠ j := by decide) (hik : i ≠ k := by decide) (hjk : j ≠ k := by decide)
    (hx : X.env.scope.names.lookup x = some .local := by rfl) (hy : X.env.scope.names.lookup y = some .local := by rfl) (hz : X.env.scope.names.lookup z = some .local := by rfl)
    (hs : swapsWithSole [.Tuple [.Name x px, .Name y py, .Name z pz] kt pt] (.Tuple [a, b, c] k2 pt2) pos.line X.env = pure false := by rfl) (hs1 : starEach [a, b, c] X.env = (false, eval a X.env) :: starEach [b, c] X.env := by rfl) (hs2 : starEach [b, c] X.env = (false, eval b X.env) :: starEach [c] X.env := by rfl) (hs3 : starEach [c] X.env = (false, eval c X.env) :: starEach [] X.env := by rfl) :
    PS X (.Assign [.Tuple [.Name x px, .Name y py, .Name z pz] kt pt] (.Tuple [a, b, c] k2 pt2) pos) (tS K (sPar3B i j k f g h cb)) := (ps_par3 hc hN hi hj hk hij hik hjk hx hy hz (pa_cons ha (pa_cons hb (pa_cons hcc pa_nil hs3) hs2) hs1) hw hs).imp fun E σ H ⟨B0, G, s, hs, q⟩ => by
  unfold sPar3B at q
  split at q
  · rename_i d e u hd he hu
    split at q
    · rename_i hfl
      rw [Bool.and_eq_true] at hfl
      obtain ⟨O, B, gd⟩ := hs
      obtain ⟨O', B', g', _⟩ := gd.demote cb
      refine ⟨[], _, s.1, d, gd.good.zero, .zero, hd, fun v1 H1 e1 p1 => ?_⟩
      refine ⟨B', lv (demote cb s.2), s.1, e, (g'.mono e1).good, demote_ok _ s.2, he, fun v2 H2 e2 p2 => ?_⟩
      refine ⟨[], _, s.1, u, ((gd.mono e1).mono e2).good.zero, .zero, hu, fun v3 H3 e3 p3 => ?_⟩
      refine ⟨v1, v2, v3, rfl, q _ H3 ?_⟩
      obtain ⟨O1, B1, g1⟩ := fresh_two (i := j) (g'.mono e1) e2 e3 p2
      obtain ⟨O2, B2, g2, _⟩ := g1.assign0 (i := i) (((RL.r0 p1).mono (e2.trans e3)).hidF g1.ok.noTup hfl.1)
      obtain ⟨O3, B3, g3, _⟩ := g2.assign0 (i := k) ((RL.r0 p3).hidF g2.ok.noTup hfl.2)
      rw [List.set_comm _ _ (Ne.symm hij), List.set_comm _ _ (Ne.symm hij), List.set_comm _ _ (Ne.symm hij)] at g3
      exact ⟨O3, B3, g3⟩
    · exact q.elim
  · exact q.elim
end
end DS
end

section
set_option Elab.async false
set_option linter.all false
set_option maxRecDepth 100000
set_option maxHeartbeats 4000000
/-! Part z: (x, ..) * n for any n. -/
namespace DS
open PySem PySem.Spec PyProof.Rows L2
theorem tuple_mul1 (l : Addr) (items : Array Value) (n : Nat) (dd : Option Addr) (sl : Array (Option Value)) (u : Tok) :
    Meets (Builtin.«tuple.__mul__» ⟨[.ref l, .int 1 u], []⟩) (fun _ R s => s.heap.get? l = some { cls := .type "tuple", dict := dd, data := .seq items n, slots := sl } ∧
      R (.ok (.ret (Value.ref l))) s) :=
  .of_wp fun prog w A R s h => by
    obtain ⟨hp, g, d, tk, os⟩ := s
    obtain ⟨hl, h⟩ := h
    have f1 := AutoSeq1.idx_int
    wp_walk using wpAny_loadPart' hl
    repeat (first
      | (refine wpAny_ite_false (by simp) ?_; wp_walk using wpAny_loadPart' hl)
      | (refine wpAny_ite_true (by simp) ?_; wp_walk using wpAny_loadPart' hl))
    exact ⟨_, rfl, h⟩
theorem tuple_mul0 (l : Addr) (items : Array Value) (n : Nat) (dd : Option Addr) (sl : Array (Option Value)) (x : Int) (u : Tok) (c0 : (decide (x < -(2 ^ 63)) || decide (x ≥ 2 ^ 63)) = false) (c1 : (items.isEmpty || x == 1) = false) (c2 : (decide (x ≤ 0) || items.isEmpty) = true) :
    Meets (Builtin.«tuple.__mul__» ⟨[.ref l, .int x u], []⟩) (fun _ R s => s.heap.get? l = some { cls := .type "tuple", dict := dd, data := .seq items n, slots := sl } ∧
      R (.ok (.ret (Value.ref s.heap.objs.size))) { s with heap := s.heap.push { cls := Value.type "tuple", data := Data.seq #[] }, toks := s.toks }) :=
  .of_wp fun prog w A R s h => by
    obtain ⟨hp, g, d, tk, os⟩ := s
    obtain ⟨hl, h⟩ := h
    have f1 := AutoSeq1.idx_int
    wp_walk using wpAny_loadPart' hl
    repeat (first
      | (refine wpAny_ite_false (decide_eq_false (by rw [c0]; exact Bool.false_ne_true)) ?_; wp_walk using wpAny_loadPart' hl)
      | (refine wpAny_ite_false (decide_eq_false (by rw [c1]; exact Bool.false_ne_true)) ?_; wp_walk using wpAny_loadPart' hl)
      | (refine wpAny_ite_true (decide_eq_true c2) ?_; wp_walk using wpAny_loadPart' hl))
    exact ⟨_, rfl, h⟩
def rRep01 (K : PySem.W.Frag) : R2 := fun x y H Q => ∃ l k xs, x = .ref l ∧ y = .int k ∧ SqT K H l xs ∧ xs ≠ [] ∧ -1000000 ≤ k ∧ ((k = 1 ∧ Q (.ref l) H) ∨ (k ≤ 0 ∧ ∀ p, H p = none → Q (.ref p) (upd H p (.tup []))))
section
variable {X : Cx}
theorem op_rep01 : OpR X (binaryOp .Mult) (rRep01 X.K) := by
  intro pins s σ H x y v u Q I rx ry h
  obtain ⟨l, k, xs, rfl, rfl, hT, hne, hk, q⟩ := h
  cases rx
  obtain ⟨t, rfl⟩ := ry
  obtain ⟨its, r, ⟨⟨cls, dd, data, sl⟩, ho, hc, n, hd⟩, hs⟩ := I.tuple hT
  simp only at hc hd
  subst hc hd
  have hle : its.length = xs.length := r.length.symm
  have hn : its ≠ [] := fun e => hne (by
    rw [e] at hle
    exact List.eq_nil_of_length_eq_zero hle.symm)
  have hi : its.toArray.isEmpty = false := by
    cases its with
    | nil => exact absurd rfl hn
    | cons a b => rfl
  rcases q with ⟨rfl, q⟩ | ⟨h0, q⟩
  · refine wpAny_binaryOp_repeat_ref (T := "tuple") (U := "int") (by decide) ⟨_, ho, rfl⟩ (fun s' => typeIs_int s' 1 t) noFill_tuple_mul F.fills_int_mul F.slot_int_rmul repeat_tuple F.slot_int_index.lookup
      (call_meets F.slot_int_rmul (typeIs_int s 1 t) F.entry_int_rmul (F.args_int_rmul_2 _ _) (int_rmul_tuple 1 t l its.toArray n dd sl)
        ⟨ho, rfl, ⟨_, ho, rfl⟩, call_meets F.slot_tuple_mul ⟨_, ho, rfl⟩ F.entry_tuple_mul (F.args_tuple_mul_2 _ _) (tuple_mul1 l its.toArray n dd sl t) ⟨ho, ?_⟩⟩)
    exact ⟨.ref l, H, I, rfl, q⟩
  · have c0 : (decide (k < -(2 ^ 63)) || decide (k ≥ 2 ^ 63)) = false := by
      rw [decide_eq_false (by omega), decide_eq_false (by omega)] <;> rfl
    have c1 : (its.toArray.isEmpty || k == 1) = false := by
      rw [hi, Bool.false_or]
      exact beq_eq_false_iff_ne.mpr (by omega)
    have c2 : (decide (k ≤ 0) || its.toArray.isEmpty) = true := by
      rw [decide_eq_true h0]; rfl
    refine wpAny_binaryOp_repeat_ref (T := "tuple") (U := "int") (by decide) ⟨_, ho, rfl⟩ (fun s' => typeIs_int s' k t) noFill_tuple_mul F.fills_int_mul F.slot_int_rmul repeat_tuple F.slot_int_index.lookup
      (call_meets F.slot_int_rmul (typeIs_int s k t) F.entry_int_rmul (F.args_int_rmul_2 _ _) (int_rmul_tuple k t l its.toArray n dd sl)
        ⟨ho, rfl, ⟨_, ho, rfl⟩, call_meets F.slot_tuple_mul ⟨_, ho, rfl⟩ F.entry_tuple_mul (F.args_tuple_mul_2 _ _) (tuple_mul0 l its.toArray n dd sl k t c0 c1 c2) ⟨ho, ?_⟩⟩)
    refine ⟨.ref s.heap.objs.size, _, I.laid (t' := s.toks) (o := .tup []) (fun b ob q => Heap.get?_push_of_some _ q) (Nat.le_refl _) ?_, rfl, q _ (I.hok.fresh (Nat.le_refl _))⟩
    exact ⟨by rw [sizeLine_eq]; decide, [], .nil, IsTup.new _ _⟩
end
/-- (x, ..) * n -/
def dMulT : D → D → Option D
  | .tuple x, .int j => if x ≠ [] ∧ x.length ≤ 1000 ∧ -1000000 ≤ j ∧ j ≤ 1000 then some (.tuple (List.replicate j.toNat x).flatten) else none
  | _, _ => none
section
variable {X : Cx} {K : PySem.W.Frag} {κ : Mo} {a b : Expr} {fa fb : FE} {ca cb : Esc} {pos : Pos}
theorem qe_mulT (ha : PE X a (tD K (.br 1) fa ca)) (hb : PE X b (tD K (.br 1) fb cb)) (hX : X.K = K := by rfl) (hκ : κ.one = true := by rfl) : PE X (.BinOp a .Mult b pos) (tD K κ (eOp dMulT fa fb) (ca ++ cb)) := by
  subst hX
  refine qe_op (op_repT.or op_rep01) ?_ ha hb hκ
  intro B x y dx dy d H Q hB rx ry ho q
  unfold dMulT at ho
  split at ho
  · rename_i x' j'
    obtain ⟨⟨c0, c1, c2, c3⟩, rfl⟩ := ite_some ho
    obtain ⟨p, xs, rfl, h1, h1', h2⟩ := rx.tup
    have hne : xs ≠ [] := fun e => c0 (by
      subst e
      cases h2
      rfl)
    by_cases h2' : 2 ≤ j'
    · refine .inl ⟨p, _, xs, rfl, ry.int, h1, hne, h2', c3, by rw [h2.length]; exact c1, fun t nt => ?_⟩
      have s := same_upd (o := HO.tup (List.replicate j'.toNat xs).flatten) nt
      refine q _ _ s fun κ _ => Post.of_flat (.tup (a := t) (xs := (List.replicate j'.toNat xs).flatten) ?_ ((h2.rep _).mono (same_hid s))) rfl
      rw [hid_out (hB.trk.new nt), upd_same]
    · refine .inr ⟨p, _, xs, rfl, ry.int, h1, hne, c2, ?_⟩
      by_cases h1' : j' = 1
      · subst h1'
        refine .inl ⟨rfl, ?_⟩
        have e : (List.replicate (1 : Int).toNat x').flatten = x' := by simp
        rw [e] at q
        refine q _ H (Same.refl H) fun κ _ => Post.of_flat (.tup ?_ h2) rfl
        assumption
      · refine .inr ⟨by omega, fun t nt => ?_⟩
        have e : j'.toNat = 0 := by omega
        rw [e] at q
        have s := same_upd (o := HO.tup []) nt
        refine q _ _ s fun κ _ => Post.of_flat (.tup (a := t) (xs := []) ?_ .nil) rfl
        rw [hid_out (hB.trk.new nt), upd_same]
  · cases ho
end
end DS
end

section
set_option Elab.async false
set_option linter.all false
set_option maxRecDepth 100000
set_option maxHeartbeats 4000000
/-! Part w: range(n) as a value; a range walked. -/
namespace DS
open PySem PySem.Spec PyProof.Rows L2
def rgd (lo hi : Int) : D := .dict [(.none, .tuple [.int lo, .int hi])]
section
variable {X : Cx} {K : PySem.W.Frag} {κ : Mo} {m : Nat} {tg : Expr} {B : List Addr} {H : Hp}
theorem RL.rng {v : V} {lo hi : Int} (h : RL K B H m v (rgd lo hi)) : ∃ a, v = .ref a ∧ hid B H a = some (.rng lo hi) := by
  generalize hd : rgd lo hi = d at h
  cases h with
  | z h =>
    cases h with
    | rng h1 =>
      unfold rgd at hd
      simp at hd
      obtain ⟨rfl, rfl⟩ := hd
      exact ⟨_, rfl, h1⟩
    | frz _ _ => unfold rgd at hd; simp at hd
    | dk _ h2 =>
      unfold rgd at hd
      cases hd
      exact absurd rfl h2.key
    | dt _ h2 =>
      unfold rgd at hd
      cases hd
      exact absurd rfl h2.key
    | _ => cases hd
  | l => cases hd
  | dk _ h2 =>
    unfold rgd at hd
    cases hd
    exact absurd rfl h2.key
  | dt _ h2 =>
    unfold rgd at hd
    cases hd
    exact absurd rfl h2.key
/-- range(n) -/
def eRgV (f : FE) : FE := fun ρ => o1 (f ρ) fun d => match d with
  | .int n => some (rgd 0 n)
  | _ => none
theorem qe_rgV {a : Expr} {f : FE} {c : Esc} {p pos : Pos} (hg : Gl X "range") (hm : X.mg "range" = none) (ha : PE X a (tD K (.br 1) f c)) (hX : X.K = K := by rfl) (na : starEach [a] X.env = (false, eval a X.env) :: starEach [] X.env := by rfl) : PE X (.Call (.Name "range" p) [a] [] pos) (tD K κ (eRgV f) c) := by
  subst hX
  refine ⟨fun pins s σ H Q I ⟨B, L, ρ, d, g, es, hf, q⟩ => ?_⟩
  obtain ⟨e, h1, h2⟩ := o1_some hf
  refine Call_ (ld_blt I hg hm boot_range (PyProof.Rows.callWith_type1 (one_arg ha I ⟨B, L, ρ, e, g, es, h1, fun v H1 s1 p1 => (⟨s1, p1⟩ : Same H H1 ∧ RL X.K B H1 1 v e)⟩ (fun v s2 x H2 I2 r q2 => ?_) na) na))
  obtain ⟨s12, p12⟩ := q2
  split at h2
  · rename_i n
    cases (Option.some.inj h2)
    obtain rfl := RL.int p12
    obtain ⟨t, rfl⟩ := r
    have hok := (g.mono s12).ok
    have nt := I2.hok.fresh (Nat.le_refl _)
    refine call_range_1 ⟨.ref s2.heap.objs.size, upd H2 s2.heap.objs.size (.rng 0 n), I2.laid (t' := s2.toks + 1 + 1) (fun b o e => Heap.get?_push_of_some _ e) (Nat.le_refl _) ?_, rfl, q _ _ (s12.trans (same_upd nt)) (Post.of_flat (.rng ?_) rfl)⟩
    · exact ⟨s2.toks, t, s2.toks + 1, Heap.get?_push_size _ rfl⟩
    · rw [hid_out (hok.trk.new nt), upd_same]
  · cases h2
/-- a name that holds a range, walked -/
def iRgV (f : FE) : FA := fun ρ => o1 (f ρ) fun d => match d with
  | .dict [(.none, .tuple [.int lo, .int hi])] => if rngOk lo hi = true then some (rngD lo (hi - lo).toNat) else none
  | _ => none
def iRV (tl : TE) : TI := fun σ H R => tl σ H fun x H1 => ∃ a lo hi, x = .ref a ∧ H1 a = some (.rng lo hi) ∧ (-(2 ^ 62) ≤ lo ∧ lo < 2 ^ 62 ∧ -(2 ^ 62) ≤ hi ∧ hi < 2 ^ 62) ∧ R (Itr lo (hi - lo).toNat) H1
theorem pi_rv {l : Expr} {tl : TE} (hl : PE X l tl) : PI X tg l (iRV tl) := by
  refine ⟨fun pins s σ H R I h => ?_⟩
  refine thn (hl.run pins s σ H _ I h) fun v s1 ⟨x, H1, I1, r1, q1⟩ => ?_
  obtain ⟨a, lo, hi, e, ha, ⟨h1, h2, h3, h4⟩, q⟩ := q1
  subst e
  cases r1
  obtain ⟨t, u, v, ho⟩ := I1.hok a _ ha
  refine wpAny_pyIter_range (a := lo) (b := hi) (c := 1) (t := t) (u := u) (v := v) ho (small_one h1 h2 h3 h4) ?_
  refine ⟨s1.heap.objs.size, [s1.heap.objs.size], _, _, H1, rfl, I1.kept (t' := s1.toks) fun b o e => Heap.get?_push_of_some _ e, turn_range _ lo (hi - lo).toNat, ?_, fun b hb => ?_, q⟩
  · have e1 : lo + ((0 : Nat) : Int) * 1 = lo := by simp
    have e2 : (((hi - lo).toNat : Nat) : Int) - ((0 : Nat) : Int) = Builtin.Range.rangeSize lo hi 1 := by rw [rangeSize_one]; split <;> omega
    show IsRangeIter _ _ (lo + ((0 : Nat) : Int) * 1) ((((hi - lo).toNat : Nat) : Int) - ((0 : Nat) : Int)) 1
    rw [e1, e2]
    exact Heap.get?_push_size _ rfl
  · have e : b = s1.heap.objs.size := by simpa using hb
    subst e
    exact I1.fpOk (Nat.le_refl _) (I1.hok.fresh (Nat.le_refl _))
theorem qi_rgV {e : Expr} {f : FE} {c : Esc} (h : PE X e (tD K (.br m) f c)) (hX : X.K = K := by rfl) : PI X tg e (tI K m (iRgV f) c) := by
  subst hX
  refine (pi_rv h).imp fun σ H Rr ⟨B, L, ρ, ds, g, es, hf, q⟩ => ?_
  obtain ⟨d, h1, h2⟩ := o1_some hf
  refine ⟨B, L, ρ, d, g, es, h1, fun v H1 s1 p1 => ?_⟩
  split at h2
  · rename_i lo hi
    obtain ⟨h3, h4⟩ := ite_some h2
    subst h4
    obtain ⟨a, rfl, e1⟩ := RL.rng (lo := lo) (hi := hi) p1
    exact ⟨a, lo, hi, rfl, (hid_some e1).2, rngOk_ok h3, q _ H1 s1 walks_rng⟩
  · cases h2
end
end DS
end

section
set_option Elab.async false
set_option linter.all false
set_option maxRecDepth 100000
/-! Dicts, part a: a dict that is locked while it is walked. -/
namespace DS
open PySem PySem.Spec PyProof.Rows L2
def IsDk : HO → Prop
  | .dK _ => True
  | .dT _ => True
  | _ => False
theorem IsDk.mut {u : HO} (h : IsDk u) : Mut (some u) := by cases u <;> first | exact True.intro | exact h.elim
theorem nf_lst (xs : List V) : ∀ o x, HO.lst xs ≠ .frz o x := fun _ _ z => nomatch z
theorem nf_tup (xs : List V) : ∀ o x, HO.tup xs ≠ .frz o x := fun _ _ z => nomatch z
theorem nf_rng (a b : Int) : ∀ o x, HO.rng a b ≠ .frz o x := fun _ _ z => nomatch z
theorem nf_dk (k : List (Key × V)) : ∀ o x, HO.dK k ≠ .frz o x := fun _ _ z => nomatch z
theorem nf_dt (k : List (List Key × V)) : ∀ o x, HO.dT k ≠ .frz o x := fun _ _ z => nomatch z
theorem IsDk.nf {u : HO} (h : IsDk u) : ∀ o w, u ≠ .frz o w := fun o w e => by subst e; exact h
section
variable {K : PySem.W.Frag} {H : Hp} {d : Addr} {od : Obj} {u : HO}
theorem rd_lock (hd : H d = some u) (hu : IsDk u) {a : Addr} {w : HO} (h : Rd H a w) : Rd (upd H d (.frz od u)) a w := by
  by_cases e : a = d
  · subst e
    rcases h with h | ⟨o, h⟩
    · rw [hd] at h; cases h; exact .inr ⟨od, upd_same⟩
    · rw [hd] at h; cases h; exact hu.elim
  · rcases h with h | ⟨o, h⟩
    · exact .inl (by rw [upd_ne e]; exact h)
    · exact .inr ⟨o, by rw [upd_ne e]; exact h⟩
theorem rd_unlock (hd : H d = some (.frz od u)) {a : Addr} {w : HO} (hw : ∀ o x, w ≠ .frz o x) (h : Rd H a w) : Rd (upd H d u) a w := by
  by_cases e : a = d
  · subst e
    rcases h with h | ⟨o, h⟩
    · rw [hd] at h; cases h; exact absurd rfl (hw _ _)
    · rw [hd] at h; cases h; exact .inl upd_same
  · rcases h with h | ⟨o, h⟩
    · exact .inl (by rw [upd_ne e]; exact h)
    · exact .inr ⟨o, by rw [upd_ne e]; exact h⟩
theorem sqL_lock (hd : H d = some u) (hu : IsDk u) {a : Addr} {xs : List V} (h : SqL K H a xs) : SqL K (upd H d (.frz od u)) a xs := by
  rcases h with h | h
  · exact .inl (rd_lock hd hu h)
  · exact .inr h
theorem sqT_lock (hd : H d = some u) (hu : IsDk u) {a : Addr} {xs : List V} (h : SqT K H a xs) : SqT K (upd H d (.frz od u)) a xs := by
  rcases h with h | h
  · exact .inl (rd_lock hd hu h)
  · exact .inr h
theorem sqL_unlock (hd : H d = some (.frz od u)) {a : Addr} {xs : List V} (h : SqL K H a xs) : SqL K (upd H d u) a xs := by
  rcases h with h | h
  · exact .inl (rd_unlock hd (fun _ _ z => nomatch z) h)
  · exact .inr h
theorem sqT_unlock (hd : H d = some (.frz od u)) {a : Addr} {xs : List V} (h : SqT K H a xs) : SqT K (upd H d u) a xs := by
  rcases h with h | h
  · exact .inl (rd_unlock hd (fun _ _ z => nomatch z) h)
  · exact .inr h
theorem ne_dk {a : Addr} {w : HO} (hd : H d = some u) (hu : IsDk u) (h : H a = some w) (hw : ¬ IsDk w) : a ≠ d := fun e => by
  subst e; rw [hd] at h; cases h; exact hw hu
theorem ne_fz {a : Addr} {w : HO} (hd : H d = some (.frz od u)) (h : H a = some w) (hw : ∀ o x, w ≠ .frz o x) : a ≠ d := fun e => by
  subst e; rw [hd] at h; cases h; exact hw _ _ rfl
mutual
theorem R.lock (hd : H d = some u) (hu : IsDk u) : ∀ {v : V} {e : D}, R K H v e → R K (upd H d (.frz od u)) v e
  | _, _, .non => .non
  | _, _, .bl b => .bl b
  | _, _, .int i => .int i
  | _, _, .str x => .str x
  | _, _, .lst h a => .lst (by rw [upd_ne (ne_dk hd hu h (fun z => z))]; exact h) (RA.lock hd hu a)
  | _, _, .frz h a => .frz (sqL_lock hd hu h) (RA.lock hd hu a)
  | _, _, .tup h a => .tup (by rw [upd_ne (ne_dk hd hu h (fun z => z))]; exact h) (RA.lock hd hu a)
  | _, _, .rng h => .rng (by rw [upd_ne (ne_dk hd hu h (fun z => z))]; exact h)
  | _, _, .dk h a => .dk (rd_lock hd hu h) (RK.lock hd hu a)
  | _, _, .dt h a => .dt (rd_lock hd hu h) (RT.lock hd hu a)
theorem RA.lock (hd : H d = some u) (hu : IsDk u) : ∀ {v : List V} {e : List D}, RA K H v e → RA K (upd H d (.frz od u)) v e
  | _, _, .nil => .nil
  | _, _, .cons h t => .cons (R.lock hd hu h) (RA.lock hd hu t)
theorem RK.lock (hd : H d = some u) (hu : IsDk u) : ∀ {v : List (Key × V)} {e : List (D × D)}, RK K H v e → RK K (upd H d (.frz od u)) v e
  | _, _, .nil => .nil
  | _, _, .cons h t => .cons (R.lock hd hu h) (RK.lock hd hu t)
theorem RT.lock (hd : H d = some u) (hu : IsDk u) : ∀ {v : List (List Key × V)} {e : List (D × D)}, RT K H v e → RT K (upd H d (.frz od u)) v e
  | _, _, .nil => .nil
  | _, _, .cons h t => .cons (R.lock hd hu h) (RT.lock hd hu t)
end
mutual
theorem R.unlock (hd : H d = some (.frz od u)) : ∀ {v : V} {e : D}, R K H v e → R K (upd H d u) v e
  | _, _, .non => .non
  | _, _, .bl b => .bl b
  | _, _, .int i => .int i
  | _, _, .str x => .str x
  | _, _, .lst h a => .lst (by rw [upd_ne (ne_fz hd h (nf_lst _))]; exact h) (RA.unlock hd a)
  | _, _, .frz h a => .frz (sqL_unlock hd h) (RA.unlock hd a)
  | _, _, .tup h a => .tup (by rw [upd_ne (ne_fz hd h (nf_tup _))]; exact h) (RA.unlock hd a)
  | _, _, .rng h => .rng (by rw [upd_ne (ne_fz hd h (nf_rng _ _))]; exact h)
  | _, _, .dk h a => .dk (rd_unlock hd (nf_dk _) h) (RK.unlock hd a)
  | _, _, .dt h a => .dt (rd_unlock hd (nf_dt _) h) (RT.unlock hd a)
theorem RA.unlock (hd : H d = some (.frz od u)) : ∀ {v : List V} {e : List D}, RA K H v e → RA K (upd H d u) v e
  | _, _, .nil => .nil
  | _, _, .cons h t => .cons (R.unlock hd h) (RA.unlock hd t)
theorem RK.unlock (hd : H d = some (.frz od u)) : ∀ {v : List (Key × V)} {e : List (D × D)}, RK K H v e → RK K (upd H d u) v e
  | _, _, .nil => .nil
  | _, _, .cons h t => .cons (R.unlock hd h) (RK.unlock hd t)
theorem RT.unlock (hd : H d = some (.frz od u)) : ∀ {v : List (List Key × V)} {e : List (D × D)}, RT K H v e → RT K (upd H d u) v e
  | _, _, .nil => .nil
  | _, _, .cons h t => .cons (R.unlock hd h) (RT.unlock hd t)
end
theorem hid_upd {B : List Addr} {o : HO} (h : d ∉ B) : hid B (upd H d o) = upd (hid B H) d o := by
  funext a
  by_cases e : a = d
  · subst e; rw [hid_out h, upd_same, upd_same]
  · rw [upd_ne e]
    unfold hid
    rw [upd_ne e]
end
section
variable {K : PySem.W.Frag} {B : List Addr} {H : Hp} {d : Addr} {od : Obj} {u : HO}
theorem RL.lock (hB : d ∉ B) (hd : H d = some u) (hu : IsDk u) {m : Nat} {v : V} {e : D} (h : RL K B H m v e) : RL K B (upd H d (.frz od u)) m v e := by
  have hd' : hid B H d = some u := by rw [hid_out hB]; exact hd
  induction h with
  | z r => exact .z (by rw [hid_upd hB]; exact r.lock hd' hu)
  | l h1 h2 _ ih => exact .l (by rw [upd_ne (ne_dk hd hu h1 (fun z => z))]; exact h1) h2 ih
  | @dk m a kvs es h1 h2 =>
    by_cases e : a = d
    · subst e
      refine .z (.dk (kvs := kvs) ?_ (by rw [hid_upd hB]; exact h2.lock hd' hu))
      rw [hid_upd hB]
      exact rd_lock hd' hu (.inl (by rw [hid_out hB]; exact h1))
    · exact .dk (by rw [upd_ne e]; exact h1) (by rw [hid_upd hB]; exact h2.lock hd' hu)
  | @dt m a kvs es h1 h2 =>
    by_cases e : a = d
    · subst e
      refine .z (.dt (kvs := kvs) ?_ (by rw [hid_upd hB]; exact h2.lock hd' hu))
      rw [hid_upd hB]
      exact rd_lock hd' hu (.inl (by rw [hid_out hB]; exact h1))
    · exact .dt (by rw [upd_ne e]; exact h1) (by rw [hid_upd hB]; exact h2.lock hd' hu)
theorem RL.unlock (hB : d ∉ B) (hd : H d = some (.frz od u)) {m : Nat} {v : V} {e : D} (h : RL K B H m v e) : RL K B (upd H d u) m v e := by
  have hd' : hid B H d = some (.frz od u) := by rw [hid_out hB]; exact hd
  induction h with
  | z r => exact .z (by rw [hid_upd hB]; exact r.unlock hd')
  | l h1 h2 _ ih => exact .l (by rw [upd_ne (ne_fz hd h1 (fun _ _ z => nomatch z))]; exact h1) h2 ih
  | dk h1 h2 => exact .dk (by rw [upd_ne (ne_fz hd h1 (fun _ _ z => nomatch z))]; exact h1) (by rw [hid_upd hB]; exact h2.unlock hd')
  | dt h1 h2 => exact .dt (by rw [upd_ne (ne_fz hd h1 (fun _ _ z => nomatch z))]; exact h1) (by rw [hid_upd hB]; exact h2.unlock hd')
theorem RO.lock (hB : d ∉ B) (hd : H d = some u) (hu : IsDk u) {l : Nat} {o : List Addr} {v : V} {e : D} (h : RO K B H l o v e) : d ∉ o → RO K B (upd H d (.frz od u)) l o v e := by
  have hd' : hid B H d = some u := by rw [hid_out hB]; exact hd
  refine RO.rec (K := K) (B := B) (H := H) (motive_1 := fun l o v e _ => d ∉ o → RO K B (upd H d (.frz od u)) l o v e)
    (motive_2 := fun l os vs ds _ => d ∉ os.flatten → ROA K B (upd H d (.frz od u)) l os vs ds) ?_ ?_ ?_ ?_ ?_ ?_ h
  · intro l v e hl r _
    exact .z hl (by rw [hid_upd hB]; exact r.lock hd' hu)
  · intro l a os xs ds h1 _ ih hn
    exact .l (by rw [upd_ne (ne_dk hd hu h1 (fun z => z))]; exact h1) (ih fun z => hn (List.mem_cons_of_mem _ z))
  · intro l a kvs es ht h1 h2 hn
    exact .dk ht (by rw [upd_ne (fun z => hn (by rw [z]; exact List.mem_cons_self))]; exact h1) (by rw [hid_upd hB]; exact h2.lock hd' hu)
  · intro l a kvs es ht h1 h2 hn
    exact .dt ht (by rw [upd_ne (fun z => hn (by rw [z]; exact List.mem_cons_self))]; exact h1) (by rw [hid_upd hB]; exact h2.lock hd' hu)
  · intro l _
    exact .nil
  · intro l o os v e vs ds _ _ ih1 ih2 hn
    exact .cons (ih1 fun z => hn (by rw [List.flatten_cons]; exact List.mem_append_left _ z)) (ih2 fun z => hn (by rw [List.flatten_cons]; exact List.mem_append_right _ z))
theorem RO.unlock (hB : d ∉ B) (hd : H d = some (.frz od u)) {l : Nat} {o : List Addr} {v : V} {e : D} (h : RO K B H l o v e) : RO K B (upd H d u) l o v e := by
  have hd' : hid B H d = some (.frz od u) := by rw [hid_out hB]; exact hd
  refine RO.rec (K := K) (B := B) (H := H) (motive_1 := fun l o v e _ => RO K B (upd H d u) l o v e)
    (motive_2 := fun l os vs ds _ => ROA K B (upd H d u) l os vs ds) ?_ ?_ ?_ ?_ ?_ ?_ h
  · intro l v e hl r
    exact .z hl (by rw [hid_upd hB]; exact r.unlock hd')
  · intro l a os xs ds h1 _ ih
    exact .l (by rw [upd_ne (ne_fz hd h1 (fun _ _ z => nomatch z))]; exact h1) ih
  · intro l a kvs es ht h1 h2
    exact .dk ht (by rw [upd_ne (ne_fz hd h1 (fun _ _ z => nomatch z))]; exact h1) (by rw [hid_upd hB]; exact h2.unlock hd')
  · intro l a kvs es ht h1 h2
    exact .dt ht (by rw [upd_ne (ne_fz hd h1 (fun _ _ z => nomatch z))]; exact h1) (by rw [hid_upd hB]; exact h2.unlock hd')
  · intro l
    exact .nil
  · intro l o os v e vs ds _ _ ih1 ih2
    exact .cons ih1 ih2
theorem Ok.lock (h : Ok B H) (hB : d ∉ B) {o : HO} : Ok B (upd H d o) := fun a ha => by
  obtain ⟨x, h1, h2⟩ := h a ha
  exact ⟨x, by rw [upd_ne fun e => hB (by rw [← e]; exact ha)]; exact h1, h2⟩
theorem Good.lock {L : Nat → Nat} {σ : St} {ρ : PEnv} (g : Good K B L σ H ρ) (hB : d ∉ B) (hd : H d = some u) (hu : IsDk u) : Good K B L σ (upd H d (.frz od u)) ρ :=
  ⟨g.ok.lock hB, g.len, fun i e h => let ⟨v, h1, h2⟩ := g.slot i e h; ⟨v, h1, h2.lock hB hd hu⟩⟩
theorem same_back {H' : Hp} (s : Same (upd H d (.frz od u)) H') (hd : H d = some u) : H' d = some (.frz od u) ∧ Same H (upd H' d u) :=
  ⟨s _ _ upd_same, fun a o h => by
    by_cases e : a = d
    · subst e; rw [hd] at h; cases h; exact upd_same
    · rw [upd_ne e]; exact s a o (by rw [upd_ne e]; exact h)⟩
theorem Post.unlock {H' : Hp} {κ : Mo} {v : V} {e : D} (hB : d ∉ B) (hd : H d = some u) (hd' : H' d = some (.frz od u)) (h : Post K B (upd H d (.frz od u)) H' κ v e) : Post K B H (upd H' d u) κ v e := by
  have go : ∀ (l : Nat), (∃ o : List Addr, (∀ a ∈ o, (upd H d (.frz od u)) a = none) ∧ o.Nodup ∧ RO K (o ++ B) H' l o v e) → ∃ o : List Addr, (∀ a ∈ o, H a = none) ∧ o.Nodup ∧ RO K (o ++ B) (upd H' d u) l o v e := by
    rintro l ⟨o, h1, h2, h3⟩
    have hno : ∀ a ∈ o, a ≠ d := fun a ha z => by
      have := h1 a ha
      rw [z, upd_same] at this
      cases this
    refine ⟨o, fun a ha => ?_, h2, h3.unlock (fun z => ?_) hd'⟩
    · have := h1 a ha
      rw [upd_ne (hno a ha)] at this
      exact this
    · rcases List.mem_append.mp z with z | z
      · exact hno d z rfl
      · exact hB z
  cases κ with
  | br m => exact RL.unlock hB hd' h
  | fr => exact go 1 h
  | fr2 => exact go 2 h
/-- a dict that can be seen -/
theorem dict_seen {v : V} {es : List (D × D)} (hn : ∀ k r, es = k :: r → k.1 ≠ .none) (h : R K (hid B H) v (.dict es)) : ∃ a, v = .ref a ∧ a ∉ B ∧ ∃ u, IsDk u ∧ Rd H a u ∧
    ((∃ kvs, u = .dK kvs ∧ RK K (hid B H) kvs es) ∨ ∃ kvs, u = .dT kvs ∧ RT K (hid B H) kvs es) := by
  have vis : ∀ {a : Addr} {w : HO}, Rd (hid B H) a w → a ∉ B ∧ Rd H a w := fun {a w} h => by
    rcases h with h | ⟨o, h⟩
    · exact ⟨(hid_some h).1, .inl (hid_some h).2⟩
    · exact ⟨(hid_some h).1, .inr ⟨o, (hid_some h).2⟩⟩
  cases h with
  | frz _ _ => exact absurd rfl (hn _ _ rfl)
  | rng _ => exact absurd rfl (hn _ _ rfl)
  | dk h1 h2 => exact ⟨_, rfl, (vis h1).1, .dK _, True.intro, (vis h1).2, .inl ⟨_, rfl, h2⟩⟩
  | dt h1 h2 => exact ⟨_, rfl, (vis h1).1, .dT _, True.intro, (vis h1).2, .inr ⟨_, rfl, h2⟩⟩
end
end DS
end

section
set_option Elab.async false
set_option linter.all false
set_option maxRecDepth 100000
/-! Dicts, part b: for k in d, [.. for k in d ..]. -/
namespace DS
open PySem PySem.Spec PyProof.Rows L2
/-- the keys of a dict -/
def keysD : D → Option (List D)
  | .dict ((.none, _) :: _) => none
  | .dict es => some (es.map (·.1))
  | _ => none
def iDk (f : FE) : FA := fun ρ => o1 (f ρ) keysD
theorem keysD_some {d : D} {ds : List D} (h : keysD d = some ds) : ∃ es, d = .dict es ∧ ds = es.map (·.1) ∧ ∀ k r, es = k :: r → k.1 ≠ .none := by
  unfold keysD at h
  split at h
  · cases h
  · rename_i es hne
    refine ⟨es, rfl, (Option.some.inj h).symm, fun k r e z => ?_⟩
    subst e
    obtain ⟨k1, k2⟩ := k
    simp only at z
    subst z
    exact hne _ _ rfl
  · cases h
section
variable {K : PySem.W.Frag} {H : Hp}
theorem R.key (k : Key) : R K H (kV k) (keyD k) := by
  cases k with
  | inl i => exact .int i
  | inr x => exact .str x
theorem RA.keys : ∀ (k : List Key), RA K H (k.map kV) (k.map keyD)
  | [] => .nil
  | k :: r => .cons (R.key k) (RA.keys r)
theorem RK.keys : ∀ {kvs : List (Key × V)} {es : List (D × D)}, RK K H kvs es → es.map (·.1) = kvs.map fun p => keyD p.1
  | _, _, .nil => rfl
  | _, _, .cons _ t => by rw [List.map_cons, List.map_cons, RK.keys t]
theorem RT.keys : ∀ {kvs : List (List Key × V)} {es : List (D × D)}, RT K H kvs es → es.map (·.1) = kvs.map fun p => .tuple (p.1.map keyD)
  | _, _, .nil => rfl
  | _, _, .cons _ t => by rw [List.map_cons, List.map_cons, RT.keys t]
theorem walks_dk {G : Hp} {B : List Addr} {a : Addr} {od : Obj} {kvs : List (Key × V)} {ds : List D} (h : G a = some (.frz od (.dK kvs))) (e : ds = kvs.map fun p => keyD p.1) : Walks K G B (Itk a od kvs) ds where
  go := fun i H hi s => ⟨s _ _ h, by rw [e, List.length_map] at hi; exact hi⟩
  stop := fun H s => ⟨s _ _ h, by rw [e, List.length_map]; exact Nat.le_refl _⟩
  yld := fun i H x H' d hd s y => by
    obtain ⟨rfl, k, v, hk, rfl⟩ := y
    refine ⟨Same.refl _, fun B' _ _ => ?_⟩
    rw [e, List.getElem?_map, hk] at hd
    cases (Option.some.inj hd)
    exact R.key k
theorem walks_dt {G : Hp} {B : List Addr} {a : Addr} {od : Obj} {kvs : List (List Key × V)} {ds : List D} (h : G a = some (.frz od (.dT kvs))) (e : ds = kvs.map fun p => .tuple (p.1.map keyD)) : Walks K G B (Itkt a od kvs) ds where
  go := fun i H hi s => ⟨s _ _ h, by rw [e, List.length_map] at hi; exact hi⟩
  stop := fun H s => ⟨s _ _ h, by rw [e, List.length_map]; exact Nat.le_refl _⟩
  yld := fun i H x H' d hd s y => by
    obtain ⟨rfl, k, v, q, hk, rfl, hq⟩ := y
    refine ⟨Same.refl _, fun B' ok _ => ?_⟩
    rw [e, List.getElem?_map, hk] at hd
    cases (Option.some.inj hd)
    refine .tup (xs := k.map kV) ?_ (RA.keys k)
    rw [hid_out fun z => ?_]
    · exact hq
    · obtain ⟨o, h1, h2⟩ := ok q z
      rw [hq] at h1; cases h1; cases h2
theorem hti_dict {m : Nat} {B : List Addr} {L : Nat → Nat} {ds : List D} {σ : St} {ρ : PEnv} {i : Nat} {a : Addr} {od : Obj} {u : HO} (g : Good K B L σ H ρ) (hL : L i ≤ 0) (hf : iDk (eVar i) ρ = some ds) (hv : σ[i]? = some (some (.ref a))) (hfz : H a = some (.frz od u))
    (Rr : It → Hp → Prop) (hR : ∀ J H1, Same H H1 → Walks K (gOf m B H1) B J ds → Rr J H1) : iKeys (tVar i) σ H Rr := by
  obtain ⟨d, h1, h2⟩ := o1_some hf
  obtain ⟨es, rfl, rfl, hn⟩ := keysD_some h2
  have hρ : ρ[i]? = some (some (.dict es)) := by
    unfold eVar at h1
    split at h1
    · rename_i x hx
      cases (Option.some.inj h1)
      exact hx
    · cases h1
  obtain ⟨v, e1, r⟩ := g.slot i _ hρ
  rw [hv] at e1
  cases e1
  have e0 : L i = 0 := by omega
  rw [e0] at r
  have r := r.r
  refine ⟨.ref a, hv, a, od, rfl, ?_⟩
  have gof : ∀ {w : HO}, a ∉ B → H a = some w → gOf m B H a = some w := fun {w} hb hw => by
    cases m with
    | zero => show hid B H a = _; rw [hid_out hb]; exact hw
    | succ m => exact hw
  cases r with
  | frz _ _ => exact absurd rfl (hn _ _ rfl)
  | rng _ => exact absurd rfl (hn _ _ rfl)
  | @dk a kvs es hr rk =>
    rcases hr with hr | ⟨o, hr⟩
    · have := (hid_some hr).2
      rw [hfz] at this
      cases this
    · obtain ⟨nb, hr⟩ := hid_some hr
      rw [hfz] at hr
      cases hr
      exact .inl ⟨kvs, hfz, hR _ H (Same.refl H) (walks_dk (gof nb hfz) rk.keys)⟩
  | @dt a kvs es hr rk =>
    rcases hr with hr | ⟨o, hr⟩
    · have := (hid_some hr).2
      rw [hfz] at this
      cases this
    · obtain ⟨nb, hr⟩ := hid_some hr
      rw [hfz] at hr
      cases hr
      exact .inr ⟨kvs, hfz, hR _ H (Same.refl H) (walks_dt (gof nb hfz) rk.keys)⟩
end
section
variable {X : Cx} {K : PySem.W.Frag} {κ : Mo}
/-- the ends of what runs while the dict at d is locked -/
def lockE (E : Ends) (d : Addr) (od : Obj) (u : HO) : Ends := ⟨fun σ' H' => H' d = some (.frz od u) ∧ E.nx σ' (upd H' d u), fun v H' => H' d = some (.frz od u) ∧ E.rt v (upd H' d u), fun σ' H' => H' d = some (.frz od u) ∧ E.bk σ' (upd H' d u), fun σ' H' => H' d = some (.frz od u) ∧ E.ct σ' (upd H' d u)⟩
/-- what stands, all that no name owns -/
theorem GS.lock {B0 B : List Addr} {G : Hp} {O : Nat → List Addr} {σ : St} {H : Hp} {ρ : PEnv} {L : List Nat} {d : Addr} {od : Obj} {u : HO} (g : GoodS K B0 G O B σ H ρ L) (hB : d ∉ B) (hd : H d = some u) (hu : IsDk u) :
    ∃ G', (∀ σ' H' s', GS K B0 G' σ' H' s' → H' d = some (.frz od u) ∧ GS K B0 G σ' (upd H' d u) s') ∧ (∀ H', Same G' H' → H' d = some (.frz od u) ∧ Same G (upd H' d u)) ∧ GS K B0 G' σ (upd H d (.frz od u)) (ρ, L) := by
  let H_f : Hp := upd H d (.frz od u)
  let G' : Hp := fun a => if a ∈ B ∧ a ∉ B0 then none else H_f a
  have hGd : G' d = some (.frz od u) := by
    simp only [G']
    rw [if_neg fun z => hB z.1]
    exact upd_same
  have hs : ∀ H', Same G' H' → H' d = some (.frz od u) ∧ Same G (upd H' d u) := fun H' s => by
    refine ⟨s _ _ hGd, fun a o e => ?_⟩
    have eH := g.same _ _ e
    by_cases ea : a = d
    · subst ea
      rw [hd] at eH
      cases eH
      exact upd_same
    · rw [upd_ne ea]
      refine s a o ?_
      simp only [G']
      rw [if_neg fun z => ?_]
      · show upd H d _ a = _
        rw [upd_ne ea]; exact eH
      · rcases (g.memB a).mp z.1 with h | ⟨i, h⟩
        · exact z.2 h
        · rw [g.gO i a h] at e; cases e
  refine ⟨G', ?_, hs, ?_⟩
  · rintro σ' H' s' ⟨O2, B2, g2⟩
    obtain ⟨e1, e2⟩ := hs H' g2.same
    have hd2 : d ∉ B2 := fun z => by
      obtain ⟨o, h1, h2⟩ := g2.ok d z
      rw [e1] at h1; cases h1; cases h2
    refine ⟨e1, O2, B2, g2.memB, fun a ha => ?_, e2, g.g0, fun i a h => ?_, g2.nd, g2.dj, g2.len, g2.lenL, fun i e h => ?_⟩
    · obtain ⟨o, h1, h2⟩ := g2.ok a ha
      exact ⟨o, by rw [upd_ne fun z => hd2 (by rw [← z]; exact ha)]; exact h1, h2⟩
    · have hn := g2.gO i a h
      cases eg : G a with
      | none => rfl
      | some o =>
        exfalso
        have eH := g.same _ _ eg
        simp only [G'] at hn
        by_cases q : a ∈ B ∧ a ∉ B0
        · rcases (g.memB a).mp q.1 with h | ⟨j, h⟩
          · exact q.2 h
          · rw [g.gO j a h] at eg; cases eg
        · rw [if_neg q] at hn
          have : H_f a = none := hn
          by_cases ea : a = d
          · subst ea
            rw [show H_f a = some (.frz od u) from upd_same] at this; cases this
          · rw [show H_f a = H a from upd_ne ea, eH] at this; cases this
    · obtain ⟨v, h1, h2⟩ := g2.slot i e h
      exact ⟨v, h1, h2.unlock hd2 e1⟩
  · refine ⟨O, B, g.memB, g.ok.lock hB, fun b o e => ?_, fun a ha => ?_, fun i a h => ?_, g.nd, g.dj, g.len, g.lenL, fun i e h => ?_⟩
    · simp only [G'] at e
      split at e
      · cases e
      · exact e
    · simp only [G']
      rw [if_neg fun z => z.2 ha]
      intro z
      have hx := g.g0 a ha
      cases eg : G a with
      | none => exact hx eg
      | some o =>
        have eH := g.same _ _ eg
        by_cases ea : a = d
        · subst ea
          rw [show H_f a = some (.frz od u) from upd_same] at z; cases z
        · rw [show H_f a = H a from upd_ne ea, eH] at z; cases z
    · simp only [G']
      rw [if_pos ⟨(g.memB a).mpr (.inr ⟨i, h⟩), fun z => g.g0 a z (g.gO i a h)⟩]
    · obtain ⟨v, h1, h2⟩ := g.slot i e h
      exact ⟨v, h1, h2.lock hB hd hu fun z => hB ((g.memB d).mpr (.inr ⟨i, z⟩))⟩
theorem Fin.lock {B0 : List Addr} {G G' : Hp} {E : Ends} {d : Addr} {od : Obj} {u : HO} {o : Out} (hg : ∀ σ' H' s', GS K B0 G' σ' H' s' → H' d = some (.frz od u) ∧ GS K B0 G σ' (upd H' d u) s') (hs : ∀ H', Same G' H' → H' d = some (.frz od u) ∧ Same G (upd H' d u)) (h0 : d ∉ B0) (q : Fin K B0 G E o) :
    Fin K B0 G' (lockE E d od u) o := by
  cases o with
  | stuck => exact q
  | next s => exact fun σ' H' z => let ⟨e, z'⟩ := hg σ' H' s z; ⟨e, q σ' _ z'⟩
  | brk s => exact fun σ' H' z => let ⟨e, z'⟩ := hg σ' H' s z; ⟨e, q σ' _ z'⟩
  | cont s => exact fun σ' H' z => let ⟨e, z'⟩ := hg σ' H' s z; ⟨e, q σ' _ z'⟩
  | ret x =>
    intro v H' s r
    obtain ⟨e, s'⟩ := hs H' s
    refine ⟨e, q v _ s' ?_⟩
    rw [hid_upd h0]
    exact r.unlock (by rw [hid_out h0]; exact e)
theorem PS.either {st : Stmt} {t t' : TS} (h : PS X st t) (h' : PS X st t') : PS X st (fun E σ H => t E σ H ∨ t' E σ H) :=
  ⟨fun pins s σ H D I q => q.elim (h.run pins s σ H D I) (h'.run pins s σ H D I)⟩
theorem PE.either {e : Expr} {t t' : TE} (h : PE X e t) (h' : PE X e t') : PE X e (fun σ H Q => t σ H Q ∨ t' σ H Q) :=
  ⟨fun pins s σ H Q I q => q.elim (h.run pins s σ H Q I) (h'.run pins s σ H Q I)⟩
/-- for k in d -/
theorem ss_forD (i : Nat) {tg : Expr} {x : Str} {p : Pos} {body : List Stmt} {pos : Pos} {t : Tg} {fb : FS} (hp : PassesOwn (model X.prog X.w) X.A X.env X.xe) (hc : X.calm = true) (hx : PE X (.Name x p) (tVar i)) (hg : PG X tg (tG K t)) (hb : PSs X body (tS K fb))
    (hs : ∀ y, foldedSetIterable (.Name x p) X.env y = pure y := by intro _; rfl) : PS X (.For tg (.Name x p) body [] pos) (tS K (sFor (iDk (eVar i)) [(i, 0)] t fb)) :=
  (PS.either (ps_lock (ps_for hp hc (pi_keys hx) hg hb hs)) (ps_for hp hc (pi_keys hx) hg hb hs)).imp fun E σ H ⟨B0, G, s, hs, q⟩ => by
    have q0 := q
    unfold sFor at q
    split at q
    · exact q.elim
    · rename_i ds hds
      obtain ⟨O, B, g0⟩ := hs
      obtain ⟨O', B', g, _⟩ := g0.demote [(i, 0)]
      have hL : lv (demote [(i, 0)] s.2) i ≤ 0 := demote_ok [(i, 0)] s.2 (i, 0) List.mem_cons_self
      obtain ⟨d, h1, h2⟩ := o1_some hds
      obtain ⟨es, rfl, rfl, hn⟩ := keysD_some h2
      obtain ⟨v, e1, r⟩ := g.good.slot i _ (eVar_some h1)
      rw [show lv (demote [(i, 0)] s.2) i = 0 by omega] at r
      obtain ⟨a, rfl, ha, u, hu, hr, _⟩ := dict_seen hn r.r
      have zero : ∀ {L : Nat → Nat}, EscOk [(i, 0)] L → L i ≤ 0 := fun es => es (i, 0) List.mem_cons_self
      rcases hr with hr | ⟨od, hr⟩
      · refine .inl ⟨a, u, hr, hu.mut, fun od => ?_⟩
        obtain ⟨G', k1, k2, k3⟩ := GS.lock (od := od) g ha hr hu
        refine for_core (c := [(i, 0)]) (fi := iDk (eVar i)) k3 (E := lockE E a od u) (G := G') ?_ fun B L ds g es hf Rr hR => hti_dict g (zero es) hf e1 upd_same Rr hR
        have h0 : a ∉ B0 := fun z => ha ((g.memB a).mpr (.inl z))
        refine Fin.lock k1 k2 h0 ?_
        have e2 : sFor (iDk (eVar i)) [(i, 0)] t fb (s.1, demote [(i, 0)] s.2) = sFor (iDk (eVar i)) [(i, 0)] t fb s := by
          unfold sFor
          have : demote [(i, 0)] (demote [(i, 0)] s.2) = demote [(i, 0)] s.2 := by
            show (if lv (demote [(i, 0)] s.2) i ≤ 0 then demote [(i, 0)] s.2 else _) = _
            rw [if_pos hL]
          rw [this]
        rw [e2]
        exact q0
      · exact .inr (for_core (c := [(i, 0)]) (fi := iDk (eVar i)) ⟨O, B, g0⟩ q0 fun B L ds g es hf Rr hR => hti_dict g (zero es) hf e1 hr Rr hR)
end
end DS
end

section
set_option Elab.async false
set_option linter.all false
set_option maxRecDepth 100000
/-! Dicts, part c: looking up, storing, displays, comprehensions over keys. -/
namespace DS
open PySem PySem.Spec PyProof.Rows L2
/-! keys as trees -/
def keyOf : D → Option Key
  | .int i => some (.inl i)
  | .str x => some (.inr x)
  | _ => none
def keysOf : List D → Option (List Key)
  | [] => some []
  | d :: ds => match keyOf d, keysOf ds with
    | some k, some ks => some (k :: ks)
    | _, _ => none
def keyK : D → Option (Key ⊕ List Key)
  | .tuple ds => (keysOf ds).map .inr
  | d => (keyOf d).map .inl
def isT : D → Bool
  | .tuple _ => true
  | _ => false
def dFind (es : List (D × D)) (k : D) : Option D := (es.find? fun p => PyData.eqv p.1 k).map (·.2)
def putD (es : List (D × D)) (k v : D) : List (D × D) := if (es.any fun p => PyData.eqv p.1 k) = true then es.map fun p => if PyData.eqv p.1 k = true then (p.1, v) else p else es ++ [(k, v)]
/-- the key may be asked of the dict: one of its kind, or the dict is empty -/
def kindOk : List (D × D) → D → Bool
  | [], k => (keyK k).isSome
  | p :: _, k => (keyK k).isSome && !noneD p.1 && (isT p.1 == isT k)
def dGetD : D → D → Option D
  | .dict es, k => if kindOk es k = true then dFind es k else none
  | _, _ => none
def dInD : D → D → Option Bool
  | k, .dict es => if kindOk es k = true then some (dFind es k).isSome else none
  | _, _ => none
def dNotInD (k d : D) : Option Bool := o1 (dInD k d) fun b => some (!b)
theorem keyOf_some {d : D} {k : Key} (h : keyOf d = some k) : d = keyD k := by
  cases d <;> simp [keyOf] at h <;> subst h <;> rfl
theorem keysOf_some : ∀ {ds : List D} {ks : List Key}, keysOf ds = some ks → ds = ks.map keyD
  | [], ks, h => by simp [keysOf] at h; subst h; rfl
  | d :: ds, ks, h => by
    unfold keysOf at h
    split at h
    · rename_i k ks' h1 h2
      cases (Option.some.inj h)
      rw [List.map_cons, ← keyOf_some h1, ← keysOf_some h2]
    · cases h
theorem eqv_key (a b : Key) : PyData.eqv (keyD a) (keyD b) = decide (a = b) := by
  cases a with
  | inl i => cases b with
    | inl j => simp [keyD, PyData.eqv]; rw [Bool.eq_iff_iff]; simp
    | inr y => simp [keyD, PyData.eqv]
  | inr x => cases b with
    | inl j => simp [keyD, PyData.eqv]
    | inr y => simp [keyD, PyData.eqv]; rw [Bool.eq_iff_iff]; simp
theorem eqv_keys : ∀ (a b : List Key), PyData.eqv (.tuple (a.map keyD)) (.tuple (b.map keyD)) = decide (a = b) := by
  have go : ∀ (a b : List Key), PyData.eqvAll (a.map keyD) (b.map keyD) = decide (a = b) := by
    intro a
    induction a with
    | nil => intro b; cases b <;> simp [PyData.eqvAll]
    | cons x a ih =>
      intro b
      cases b with
      | nil => simp [PyData.eqvAll]
      | cons y b =>
        simp only [List.map_cons, PyData.eqvAll, eqv_key, ih]
        rw [Bool.eq_iff_iff]; simp
  intro a b
  rw [← go]
  simp [PyData.eqv]
section
variable {K : PySem.W.Frag} {H : Hp}
theorem RA.key_inv : ∀ {ks : List Key} {xs : List V}, RA K H xs (ks.map keyD) → xs = ks.map kV
  | [], _, .nil => rfl
  | k :: ks, _, .cons h t => by
    rw [RA.key_inv t, List.map_cons]
    cases k with
    | inl i => rw [h.int']; rfl
    | inr x => rw [h.str']; rfl
/-- what a key is -/
theorem key_is {y : V} {k : D} (h : R K H y k) (hk : (keyK k).isSome = true) : (∃ kk : Key, k = keyD kk ∧ y = kV kk ∧ isT k = false) ∨ ∃ (ks : List Key) (b : Addr), k = .tuple (ks.map keyD) ∧ y = .ref b ∧ H b = some (.tup (ks.map kV)) ∧ isT k = true := by
  cases k with
  | int i => exact .inl ⟨.inl i, rfl, h.int', rfl⟩
  | str x => exact .inl ⟨.inr x, rfl, h.str', rfl⟩
  | tuple ds =>
    have hk : ((keysOf ds).map Sum.inr : Option (Key ⊕ List Key)).isSome = true := hk
    cases e : keysOf ds with
    | none => rw [e] at hk; cases hk
    | some ks =>
      have e := keysOf_some e
      subst e
      cases h with
      | tup h1 h2 =>
        have := h2.key_inv
        subst this
        exact .inr ⟨ks, _, rfl, rfl, h1, rfl⟩
  | none => simp [keyK, keyOf] at hk
  | bool b => simp [keyK, keyOf] at hk
  | list ds => simp [keyK, keyOf] at hk
  | dict es => simp [keyK, keyOf] at hk
theorem RK.find : ∀ {kvs : List (Key × V)} {es : List (D × D)} (k : Key), RK K H kvs es → (valV kvs k = none ∧ dFind es (keyD k) = none) ∨ ∃ v d, valV kvs k = some v ∧ dFind es (keyD k) = some d ∧ R K H v d
  | _, _, k, .nil => .inl ⟨rfl, rfl⟩
  | (a, v) :: kvs, _, k, .cons (d := d) (ds := es) h t => by
    by_cases e : a = k
    · refine .inr ⟨v, d, valV_pos e, ?_, h⟩
      unfold dFind
      rw [List.find?_cons_of_pos (by rw [eqv_key]; exact decide_eq_true e)]
      rfl
    · rw [valV_neg e]
      have : dFind ((keyD a, d) :: es) (keyD k) = dFind es (keyD k) := by
        unfold dFind
        rw [List.find?_cons_of_neg (by rw [eqv_key]; simpa using e)]
      rw [this]
      exact RK.find k t
theorem RT.find : ∀ {kvs : List (List Key × V)} {es : List (D × D)} (k : List Key), RT K H kvs es → (valV kvs k = none ∧ dFind es (.tuple (k.map keyD)) = none) ∨ ∃ v d, valV kvs k = some v ∧ dFind es (.tuple (k.map keyD)) = some d ∧ R K H v d
  | _, _, k, .nil => .inl ⟨rfl, rfl⟩
  | (a, v) :: kvs, _, k, .cons (d := d) (ds := es) h t => by
    by_cases e : a = k
    · refine .inr ⟨v, d, valV_pos e, ?_, h⟩
      unfold dFind
      rw [List.find?_cons_of_pos (by rw [eqv_keys]; exact decide_eq_true e)]
      rfl
    · rw [valV_neg e]
      have : dFind ((.tuple (a.map keyD), d) :: es) (.tuple (k.map keyD)) = dFind es (.tuple (k.map keyD)) := by
        unfold dFind
        rw [List.find?_cons_of_neg (by rw [eqv_keys]; simpa using e)]
      rw [this]
      exact RT.find k t
theorem RK.head {kvs : List (Key × V)} {p : D × D} {es : List (D × D)} (h : RK K H kvs (p :: es)) : isT p.1 = false := by
  cases h with
  | @cons k _ _ _ _ _ _ => cases k <;> rfl
theorem RT.head {kvs : List (List Key × V)} {p : D × D} {es : List (D × D)} (h : RT K H kvs (p :: es)) : isT p.1 = true := by
  cases h with
  | cons _ _ => rfl
theorem RK.nil_inv {kvs : List (Key × V)} (h : RK K H kvs []) : kvs = [] := by cases h; rfl
theorem RT.nil_inv {kvs : List (List Key × V)} (h : RT K H kvs []) : kvs = [] := by cases h; rfl
/-- a dict seen through, whatever its levels -/
theorem dict_open {v : V} {es : List (D × D)} (hn : ∀ k r, es = k :: r → noneD k.1 = false) (h : R K H v (.dict es)) : ∃ a, v = .ref a ∧ ((∃ kvs, Rd H a (.dK kvs) ∧ RK K H kvs es) ∨ ∃ kvs, Rd H a (.dT kvs) ∧ RT K H kvs es) := by
  cases h with
  | frz _ _ => exact absurd (hn _ _ rfl) (by simp [noneD])
  | rng _ => exact absurd (hn _ _ rfl) (by simp [noneD])
  | dk h1 h2 => exact ⟨_, rfl, .inl ⟨_, h1, h2⟩⟩
  | dt h1 h2 => exact ⟨_, rfl, .inr ⟨_, h1, h2⟩⟩
theorem kind_none {es : List (D × D)} {k : D} (h : kindOk es k = true) : (keyK k).isSome = true ∧ (∀ p r, es = p :: r → noneD p.1 = false) ∧ ∀ p r, es = p :: r → isT p.1 = isT k := by
  cases es with
  | nil => exact ⟨h, fun _ _ e => (by cases e), fun _ _ e => (by cases e)⟩
  | cons p es =>
    simp only [kindOk, Bool.and_eq_true, Bool.not_eq_true', beq_iff_eq] at h
    exact ⟨h.1.1, fun _ _ e => (by cases e; exact h.1.2), fun _ _ e => (by cases e; exact h.2)⟩
end
/-- what a dict holds at a key, or nothing: an empty dict is asked for a key of the other kind -/
def DGet' (H : Hp) (a : Addr) (y : V) (o : Option V) : Prop := DGet H a y o ∨ (o = none ∧ ((Rd H a (.dK []) ∧ ∃ (ks : List Key) (b : Addr), y = .ref b ∧ H b = some (.tup (ks.map kV))) ∨ (Rd H a (.dT []) ∧ ∃ kk : Key, y = kV kk)))
section
variable {K : PySem.W.Frag} {H : Hp}
theorem get_ok {v y : V} {es : List (D × D)} {k : D} (hv : R K H v (.dict es)) (hy : R K H y k) (hk : kindOk es k = true) : ∃ a o, v = .ref a ∧ DGet' H a y o ∧ o.isSome = (dFind es k).isSome ∧ ∀ d, dFind es k = some d → ∃ z, o = some z ∧ R K H z d ∧ DGet H a y o := by
  obtain ⟨k1, k2, k3⟩ := kind_none hk
  obtain ⟨a, rfl, h⟩ := dict_open k2 hv
  rcases key_is hy k1 with ⟨kk, rfl, rfl, ht⟩ | ⟨ks, b, rfl, rfl, hb, ht⟩
  · rcases h with ⟨kvs, h1, h2⟩ | ⟨kvs, h1, h2⟩
    · have g : DGet H a (kV kk) (valV kvs kk) := .inl ⟨kvs, kk, h1, rfl, rfl⟩
      rcases h2.find kk with ⟨e1, e2⟩ | ⟨z, d, e1, e2, r⟩
      · exact ⟨a, _, rfl, .inl g, by rw [e1, e2]; rfl, fun d e => by rw [e2] at e; cases e⟩
      · exact ⟨a, _, rfl, .inl g, by rw [e1, e2]; rfl, fun d' e => by rw [e2] at e; cases e; exact ⟨z, e1, r, g⟩⟩
    · cases es with
      | nil =>
        have := h2.nil_inv
        subst this
        exact ⟨a, none, rfl, .inr ⟨rfl, .inr ⟨h1, kk, rfl⟩⟩, rfl, fun d e => by cases e⟩
      | cons p es =>
        have := h2.head
        rw [k3 _ _ rfl, ht] at this
        cases this
  · rcases h with ⟨kvs, h1, h2⟩ | ⟨kvs, h1, h2⟩
    · cases es with
      | nil =>
        have := h2.nil_inv
        subst this
        exact ⟨a, none, rfl, .inr ⟨rfl, .inl ⟨h1, ks, b, rfl, hb⟩⟩, rfl, fun d e => by cases e⟩
      | cons p es =>
        have := h2.head
        rw [k3 _ _ rfl, ht] at this
        cases this
    · have g : DGet H a (.ref b) (valV kvs ks) := .inr ⟨kvs, ks, b, h1, rfl, hb, rfl⟩
      rcases h2.find ks with ⟨e1, e2⟩ | ⟨z, d, e1, e2, r⟩
      · exact ⟨a, _, rfl, .inl g, by rw [e1, e2]; rfl, fun d e => by rw [e2] at e; cases e⟩
      · exact ⟨a, _, rfl, .inl g, by rw [e1, e2]; rfl, fun d' e => by rw [e2] at e; cases e; exact ⟨z, e1, r, g⟩⟩
end
section
variable {P : Program} {w : World} {H : Hp} {h : Heap} {a : Addr}
theorem nil_K_T (ok : HOk P w H h) (e : Rd H a (.dK [])) : (a == sysModules) = false ∧ h.DictOfH (tupleKind (mixKind P w)) a [] := by
  obtain ⟨_, hd, vs, rel, o, es, ep, h1, h2, h3, _, pr, _⟩ := dk_rd ok e
  cases rel
  have : es.toList = [] := by
    cases q : es.toList with
    | nil => rfl
    | cons x xs => rw [q] at pr; exact absurd pr.length (by simp)
  exact ⟨hd, o, es, ep, h1, h2, h3, by rw [this]; rfl, (fun x hx => by simp at hx), List.nodup_nil⟩
theorem nil_T_K (ok : HOk P w H h) (e : Rd H a (.dT [])) : (a == sysModules) = false ∧ h.DictOf (mixKind P w) a [] := by
  obtain ⟨_, hd, xs, rel, o, es, ep, h1, h2, h3, h4, _, _⟩ := dt_rd ok e
  cases rel
  have h5 : es = #[] := by
    apply Array.ext'
    simpa using h4
  subst h5
  refine ⟨hd, o, #[], ep, h1, h2, h3, ?_, ?_, List.nodup_nil⟩
  · intro en hen
    simp at hen
  · first | exact .nil | trivial | exact List.Forall₂.nil
end
end DS
end

section
set_option Elab.async false
set_option linter.all false
set_option maxRecDepth 100000
/-! Dicts, part d: k in d, d[k], d[k] = v, {}, {k: v}, [.. for k in d ..]. -/
namespace DS
open PySem PySem.Spec PyProof.Rows L2
section
variable {X : Cx} {K : PySem.W.Frag} {κ : Mo}
def rInDk : R2 := fun x y H Q => ∃ a o, y = .ref a ∧ DGet' H a x o ∧ Q (.bl o.isSome) H
def rNotInDk : R2 := fun x y H Q => ∃ a o, y = .ref a ∧ DGet' H a x o ∧ Q (.bl (!o.isSome)) H
theorem op_inDk (hu : X.A.units + 1 < cLine) : OpR X (compareOp .In) rInDk := by
  intro pins s σ H x y v u Q I rx ry h
  obtain ⟨a, o, rfl, g, q⟩ := h
  obtain rfl : u = Value.ref a := ry
  rcases g with g | ⟨rfl, g⟩
  · exact d_in hu I g rx fun s3 I3 => ⟨.bl o.isSome, H, I3, rfl, q⟩
  · rcases g with ⟨e, ks, b, rfl, hb⟩ | ⟨e, kk, rfl⟩
    · cases (show v = Value.ref b from rx)
      obtain ⟨hd, dd⟩ := nil_K_T I.hok e
      exact wpAny_in_heap (tupleKind_room_in1 hu) (key_of I.hok hb) hd dd ⟨.bl false, H, I.tok _, rfl, q⟩
    · obtain ⟨hd, dd⟩ := nil_T_K I.hok e
      exact wpAny_in_of (kV_is rx) hd dd.mapOf ⟨.bl false, H, I.tok _, rfl, q⟩
theorem op_notInDk (hu : X.A.units + 1 < cLine) : OpR X (compareOp .NotIn) rNotInDk := by
  intro pins s σ H x y v u Q I rx ry h
  obtain ⟨a, o, rfl, g, q⟩ := h
  obtain rfl : u = Value.ref a := ry
  rcases g with g | ⟨rfl, g⟩
  · exact d_notIn hu I g rx fun s3 I3 => ⟨.bl (!o.isSome), H, I3, rfl, q⟩
  · rcases g with ⟨e, ks, b, rfl, hb⟩ | ⟨e, kk, rfl⟩
    · cases (show v = Value.ref b from rx)
      obtain ⟨hd, dd⟩ := nil_K_T I.hok e
      exact wpAny_notIn_heap (tupleKind_room_in1 hu) (key_of I.hok hb) hd dd ⟨.bl true, H, I.tok _, rfl, q⟩
    · obtain ⟨hd, dd⟩ := nil_T_K I.hok e
      exact wpAny_notIn_of (kV_is rx) hd dd.mapOf ⟨.bl true, H, I.tok _, rfl, q⟩
theorem oc_inDk : OpC K rInDk dInD := by
  intro x y dx dy b H Q rx ry h q
  unfold dInD at h
  split at h
  · rename_i es
    obtain ⟨hk, rfl⟩ := ite_some h
    obtain ⟨a, o, rfl, g, e, _⟩ := get_ok ry rx hk
    exact ⟨a, o, rfl, g, by rw [e]; exact q⟩
  · cases h
theorem oc_notInDk : OpC K rNotInDk dNotInD := by
  intro x y dx dy b H Q rx ry h q
  unfold dNotInD at h
  obtain ⟨b', h1, h2⟩ := o1_some h
  cases (Option.some.inj h2)
  unfold dInD at h1
  split at h1
  · rename_i es
    obtain ⟨hk, rfl⟩ := ite_some h1
    obtain ⟨a, o, rfl, g, e, _⟩ := get_ok ry rx hk
    exact ⟨a, o, rfl, g, by rw [e]; exact q⟩
  · cases h1
/-- d[k] -/
theorem qe_dget {a b : Expr} {fa fb : FE} {ca cb : Esc} {pos : Pos} {m : Nat} (hu : X.A.units + 1 < cLine) (ha : PE X a (tD K (.br 1) fa ca)) (hb : PE X b (tD K (.br 1) fb cb)) (hs : NoSl b) (hX : X.K = K := by rfl) :
    PE X (.Subscript a b pos) (tD K (.br m) (eOp dGetD fa fb) ca) := (pe_dget hu ha hb hs).imp fun σ H Q ⟨B, L, ρ, d, g, es, hf, q⟩ => by
  obtain ⟨dx, dy, h1, h2, h3⟩ := o2_some hf
  refine ⟨B, L, ρ, dx, g, es, h1, fun x H1 s1 p1 => ⟨[], _, ρ, dy, (g.mono s1).zero, .zero, h2, fun y H2 s2 p2 => ?_⟩⟩
  have p1 : RL K B H2 1 x dx := RL.mono s2 (same_hid s2) p1
  unfold dGetD at h3
  split at h3
  · rename_i es' _
    obtain ⟨hk, hd⟩ : kindOk es' dy = true ∧ dFind es' dy = some d := by
      split at h3
      · rename_i hk; exact ⟨hk, h3⟩
      · cases h3
    obtain ⟨a, o, rfl, g1, e, hz⟩ := get_ok p1.open (RL.r0 p2) hk
    obtain ⟨z, rfl, rz, g2⟩ := hz d hd
    refine ⟨a, z, rfl, g2, ?_⟩
    refine q z H2 (s1.trans s2) ?_
    -- the value is seen
    obtain ⟨k1, k2, k3⟩ := kind_none hk
    have hv : ∃ a', V.ref a = .ref a' ∧ ((∃ kvs, Rd H2 a' (.dK kvs) ∧ RK K (hid B H2) kvs es') ∨ ∃ kvs, Rd H2 a' (.dT kvs) ∧ RT K (hid B H2) kvs es') := by
      cases p1 with
      | z r =>
        obtain ⟨a', e', h⟩ := dict_open k2 r
        refine ⟨a', e', ?_⟩
        rcases h with ⟨kvs, h1, h2⟩ | ⟨kvs, h1, h2⟩
        · exact .inl ⟨kvs, rd_mono same_unhid h1, h2⟩
        · exact .inr ⟨kvs, rd_mono same_unhid h1, h2⟩
      | dk h1 h2 => exact ⟨_, rfl, .inl ⟨_, .inl h1, h2⟩⟩
      | dt h1 h2 => exact ⟨_, rfl, .inr ⟨_, .inl h1, h2⟩⟩
    obtain ⟨a', e', hv⟩ := hv
    cases e'
    have one : ∀ {u w : HO}, IsDk u → IsDk w → Rd H2 a u → Rd H2 a w → u = w := fun {u w} hu hw h h' => by
      rcases h with h | ⟨o, h⟩ <;> rcases h' with h' | ⟨o', h'⟩ <;> rw [h] at h' <;> cases h'
      · rfl
      · exact hu.elim
      · exact hw.elim
      · rfl
    rcases g2 with ⟨kvs, kk, e1, e2, e3⟩ | ⟨kvs, ks, b, e1, e2, e3, e4⟩
    · rcases hv with ⟨kvs', w1, w2⟩ | ⟨kvs', w1, w2⟩
      · cases one (u := .dK kvs) (w := .dK kvs') True.intro True.intro e1 w1
        subst e2
        rcases key_is (RL.r0 p2) k1 with ⟨kk', rfl, hy, _⟩ | ⟨ks, b, rfl, hy, _, _⟩
        · cases kV_inj hy
          rcases w2.find kk with ⟨f1, f2⟩ | ⟨z', d', f1, f2, r⟩
          · rw [f1] at e3; cases e3
          · rw [f1] at e3; cases e3
            rw [hd] at f2; cases f2
            exact .z r
        · cases kk <;> cases hy
      · have := one (u := .dK kvs) (w := .dT kvs') True.intro True.intro e1 w1
        cases this
    · rcases hv with ⟨kvs', w1, w2⟩ | ⟨kvs', w1, w2⟩
      · have := one (u := .dT kvs) (w := .dK kvs') True.intro True.intro e1 w1
        cases this
      · cases one (u := .dT kvs) (w := .dT kvs') True.intro True.intro e1 w1
        subst e2
        rcases key_is (RL.r0 p2) k1 with ⟨kk', rfl, hy, _⟩ | ⟨ks', b', rfl, hy, hb', _⟩
        · cases kk' <;> cases hy
        · cases hy
          rw [e3] at hb'
          have ek : ks = ks' := kVs_inj (HO.tup.inj (Option.some.inj hb'))
          subst ek
          rcases w2.find ks with ⟨f1, f2⟩ | ⟨z', d', f1, f2, r⟩
          · rw [f1] at e4; cases e4
          · rw [f1] at e4; cases e4
            rw [hd] at f2; cases f2
            exact .z r
  · cases h3
/-- [.. for k in d ..] -/
theorem qe_lcD (i : Nat) {elt tg : Expr} {x : Str} {p : Pos} {ifs : List Expr} {scope : Scope} {own : List (Str × Nat)} {pos : Pos} {ce : Esc} {t : Tg} {ft : FT} {fe : FE} (hc : X.calm = true) (hN : X.N.Nodup) (hx : PE X (.Name x p) (tVar i)) (ok : BlkOk X.N X.env.scope scope own)
    (hg : ∀ (s : Shared) (H : Hp) (C : Addr) (cl : List (Str × Addr)) (fp : List Addr), PG (X.blk s H scope (compEnvC scope cl C X.env) fp) tg (tG K t)) (ht : ∀ (s : Shared) (H : Hp) (C : Addr) (cl : List (Str × Addr)) (fp : List Addr), PTs (X.blk s H scope (compEnvC scope cl C X.env) fp) ifs (tT K ft))
    (he : ∀ (s : Shared) (H : Hp) (C : Addr) (cl : List (Str × Addr)) (fp : List Addr), PE (X.blk s H scope (compEnvC scope cl C X.env) fp) elt (tD K (.br 0) fe ce)) (hv : t.ix.all ((own.map (·.2)).contains ·) = true := by rfl) (hκ : κ.one = true := by rfl) (hs : ∀ y, foldedSetIterable (.Name x p) X.env y = pure y := by intro _; rfl) :
    PE X (.ListComp elt [⟨tg, .Name x p, ifs, 0⟩] scope pos) (tD K κ (eLc (iDk (eVar i)) t ft fe (own.map (·.2))) ([(i, 0)] ++ ce)) :=
  (PE.either (pe_lock (pe_lc hc hN (pi_keys hx) ok hg ht he hs)) (pe_lc hc hN (pi_keys hx) ok hg ht he hs)).imp fun σ H Q ⟨B, L, ρ, d, g, es, hf, q⟩ => by
    obtain ⟨ds, h1, h2⟩ := o1_some hf
    obtain ⟨dd, h3, h4⟩ := o1_some h1
    obtain ⟨es', rfl, rfl, hn⟩ := keysD_some h4
    have hL : L i ≤ 0 := es.left (i, 0) List.mem_cons_self
    obtain ⟨v, e1, r⟩ := g.slot i _ (eVar_some h3)
    rw [show L i = 0 by omega] at r
    obtain ⟨a, rfl, ha, u, hu, hr, _⟩ := dict_seen hn r.r
    rcases hr with hr | ⟨od, hr⟩
    · refine .inl ⟨a, u, hr, hu.mut, fun od => ?_⟩
      have g' := g.lock (od := od) ha hr hu
      refine lc_core (m := 1) rfl hv hκ σ _ _ B L ρ d g' es hf (fun w H' s p => ?_) fun ds Rr h1 hR => hti_dict g' hL h1 e1 upd_same Rr hR
      obtain ⟨b1, b2⟩ := same_back s hr
      exact ⟨b1, q w _ b2 (Post.unlock ha hr b1 p)⟩
    · exact .inr (lc_core (m := 1) rfl hv hκ σ H Q B L ρ d g es hf q fun ds Rr h1 hR => hti_dict g hL h1 e1 hr Rr hR)
end
end DS
end

section
set_option Elab.async false
set_option linter.all false
set_option maxRecDepth 100000
/-! Dicts, part e: d[k] = v, {}, {k: v}. -/
namespace DS
open PySem PySem.Spec PyProof.Rows L2
section
variable {K : PySem.W.Frag} {H : Hp}
theorem RK.any : ∀ {kvs : List (Key × V)} {es : List (D × D)} (k : Key), RK K H kvs es → (es.any fun p => PyData.eqv p.1 (keyD k)) = kvs.any fun p => decide (p.1 = k)
  | _, _, _, .nil => rfl
  | (a, v) :: kvs, _, k, .cons _ t => by
    rw [List.any_cons, List.any_cons, RK.any k t, eqv_key]
theorem RT.any : ∀ {kvs : List (List Key × V)} {es : List (D × D)} (k : List Key), RT K H kvs es → (es.any fun p => PyData.eqv p.1 (.tuple (k.map keyD))) = kvs.any fun p => decide (p.1 = k)
  | _, _, _, .nil => rfl
  | (a, v) :: kvs, _, k, .cons _ t => by
    rw [List.any_cons, List.any_cons, RT.any k t, eqv_keys]
theorem RK.map {z : V} {d : D} (r : R K H z d) (k : Key) : ∀ {kvs : List (Key × V)} {es : List (D × D)}, RK K H kvs es → RK K H (kvs.map fun p => if p.1 = k then (p.1, z) else p) (es.map fun p => if PyData.eqv p.1 (keyD k) = true then (p.1, d) else p)
  | _, _, .nil => .nil
  | (a, v) :: kvs, _, .cons (d := e) h t => by
    rw [List.map_cons, List.map_cons]
    by_cases q : a = k
    · rw [if_pos q, if_pos (by rw [eqv_key]; exact decide_eq_true q)]
      exact .cons r (RK.map r k t)
    · rw [if_neg q, if_neg (by rw [eqv_key]; simpa using q)]
      exact .cons h (RK.map r k t)
theorem RT.map {z : V} {d : D} (r : R K H z d) (k : List Key) : ∀ {kvs : List (List Key × V)} {es : List (D × D)}, RT K H kvs es → RT K H (kvs.map fun p => if p.1 = k then (p.1, z) else p) (es.map fun p => if PyData.eqv p.1 (.tuple (k.map keyD)) = true then (p.1, d) else p)
  | _, _, .nil => .nil
  | (a, v) :: kvs, _, .cons (d := e) h t => by
    rw [List.map_cons, List.map_cons]
    by_cases q : a = k
    · rw [if_pos q, if_pos (by rw [eqv_keys]; exact decide_eq_true q)]
      exact .cons r (RT.map r k t)
    · rw [if_neg q, if_neg (by rw [eqv_keys]; simpa using q)]
      exact .cons h (RT.map r k t)
theorem RK.snoc {z : V} {d : D} (r : R K H z d) (k : Key) : ∀ {kvs : List (Key × V)} {es : List (D × D)}, RK K H kvs es → RK K H (kvs ++ [(k, z)]) (es ++ [(keyD k, d)])
  | _, _, .nil => .cons r .nil
  | _, _, .cons h t => .cons h (RK.snoc r k t)
theorem RT.snoc {z : V} {d : D} (r : R K H z d) (k : List Key) : ∀ {kvs : List (List Key × V)} {es : List (D × D)}, RT K H kvs es → RT K H (kvs ++ [(k, z)]) (es ++ [(.tuple (k.map keyD), d)])
  | _, _, .nil => .cons r .nil
  | _, _, .cons h t => .cons h (RT.snoc r k t)
theorem RK.put {z : V} {d : D} {kvs : List (Key × V)} {es : List (D × D)} (h : RK K H kvs es) (r : R K H z d) (k : Key) : RK K H (putK kvs k z) (putD es (keyD k) d) := by
  unfold putK putD
  rw [h.any k]
  split
  · exact h.map r k
  · exact h.snoc r k
theorem RT.put {z : V} {d : D} {kvs : List (List Key × V)} {es : List (D × D)} (h : RT K H kvs es) (r : R K H z d) (k : List Key) : RT K H (putK kvs k z) (putD es (.tuple (k.map keyD)) d) := by
  unfold putK putD
  rw [h.any k]
  split
  · exact h.map r k
  · exact h.snoc r k
theorem RK.length : ∀ {kvs : List (Key × V)} {es : List (D × D)}, RK K H kvs es → kvs.length = es.length
  | _, _, .nil => rfl
  | _, _, .cons _ t => congrArg (· + 1) (RK.length t)
theorem RT.length : ∀ {kvs : List (List Key × V)} {es : List (D × D)}, RT K H kvs es → kvs.length = es.length
  | _, _, .nil => rfl
  | _, _, .cons _ t => congrArg (· + 1) (RT.length t)
/-- what stands at a owned dict's address -/
def Dk (K : PySem.W.Frag) (H : Hp) (u : HO) (es : List (D × D)) : Prop := (∃ kvs, u = .dK kvs ∧ RK K H kvs es) ∨ ∃ kvs, u = .dT kvs ∧ RT K H kvs es
end
section
variable {K : PySem.W.Frag}
/-- the owned dict at a name, changed -/
theorem GoodS.writeD {B0 B : List Addr} {G H : Hp} {O : Nat → List Addr} {σ : St} {ρ : PEnv} {L : List Nat} {i : Nat} {es : List (D × D)} (g : GoodS K B0 G O B σ H ρ L) (hd : ρ[i]? = some (some (.dict es))) (hl : lv L i = 1) (ht : isTop (.dict es) = true) :
    ∃ a u, σ[i]? = some (some (.ref a)) ∧ H a = some u ∧ Dk K (hid B H) u es ∧ ∀ u' es', isTop (.dict es') = true → Dk K (hid B H) u' es' → GS K B0 G σ (upd H a u') (ρ.set i (some (.dict es')), L) := by
  obtain ⟨v, h1, h2⟩ := g.slot i _ hd
  rw [hl] at h2
  generalize hoi : O i = oi at h2
  have fin : ∀ {a : Addr} {u : HO}, oi = [a] → v = .ref a → H a = some u → Dk K (hid B H) u es → ∃ a u, σ[i]? = some (some (.ref a)) ∧ H a = some u ∧ Dk K (hid B H) u es ∧ ∀ u' es', isTop (.dict es') = true → Dk K (hid B H) u' es' → GS K B0 G σ (upd H a u') (ρ.set i (some (.dict es')), L) := by
    rintro a u rfl rfl e dk
    have aB : a ∈ B := (g.memB a).mpr (.inr ⟨i, by rw [hoi]; exact List.mem_cons_self⟩)
    refine ⟨a, u, h1, e, dk, fun u' es' ht' r => ?_⟩
    have hsame : Same (hid B H) (hid B (upd H a u')) := fun b o q => by
      obtain ⟨q1, q2⟩ := hid_some q
      rw [hid_out q1, upd_ne fun z => q1 (by rw [z]; exact aB)]
      exact q2
    have hm : mutO u' = true := by
      rcases r with ⟨_, rfl, _⟩ | ⟨_, rfl, _⟩ <;> rfl
    refine ⟨O, B, g.memB, fun b hb => ?_, fun b o q => ?_, g.g0, g.gO, g.nd, g.dj, by rw [List.length_set, g.len], by rw [List.length_set, g.lenL], fun j d h => ?_⟩
    · by_cases hba : b = a
      · rw [hba]; exact ⟨_, upd_same, hm⟩
      · rw [upd_ne hba]; exact g.ok b hb
    · rw [upd_ne fun z => ?_]
      · exact g.same _ _ q
      · rw [z] at q
        have := g.gO i a (by rw [hoi]; exact List.mem_cons_self)
        rw [this] at q; cases q
    · by_cases hj : j = i
      · subst hj
        have hi : j < ρ.length := (List.getElem?_eq_some_iff.mp hd).1
        simp only [List.getElem?_set_self hi] at h
        cases h
        refine ⟨.ref a, h1, ?_⟩
        rw [hoi]
        show RO K B _ (lv L j) _ _ _
        rw [hl]
        rcases r with ⟨kvs, rfl, r⟩ | ⟨kvs, rfl, r⟩
        · exact .dk ht' upd_same (r.mono hsame)
        · exact .dt ht' upd_same (r.mono hsame)
      · simp only [List.getElem?_set_ne (Ne.symm hj)] at h
        obtain ⟨w, h3, h4⟩ := g.slot j d h
        refine ⟨w, h3, h4.mono_aux hsame fun b hb => upd_ne fun z => ?_⟩
        exact g.dj j i hj b hb (by rw [hoi, z]; exact List.mem_cons_self)
  cases h2 with
  | z h _ =>
    rcases h with h | h
    · cases h
    · rw [ht] at h; cases h
  | dk _ e rk => exact fin rfl rfl e (.inl ⟨_, rfl, rk⟩)
  | dt _ e rk => exact fin rfl rfl e (.inr ⟨_, rfl, rk⟩)
end
/-- the heap behind a[y] = v: a dict without entries takes keys of either kind -/
def rSetD : V → V → V → Hp → (Hp → Prop) → Prop := fun o i v H Q => ∃ a, o = .ref a ∧ ((∃ H', DPut H a i v H' ∧ Q H') ∨ (H a = some (.dK []) ∧ ∃ (ks : List Key) (b : Addr), i = .ref b ∧ H b = some (.tup (ks.map kV)) ∧ Q (upd H a (.dT [(ks, v)]))) ∨ (H a = some (.dT []) ∧ ∃ kk : Key, i = kV kk ∧ Q (upd H a (.dK [(kk, v)]))))
section
variable {X : Cx} {K : PySem.W.Frag} {κ : Mo}
theorem set_dict (hu : X.A.units + 1 < cLine) : PSet X rSetD := by
  intro pins s σ H o i v ov iv u Q I ro ri rv h
  obtain ⟨a, rfl, h⟩ := h
  obtain rfl : ov = Value.ref a := ro
  rcases h with ⟨H', g, q⟩ | ⟨e, ks, b, rfl, hb, q⟩ | ⟨e, kk, rfl, q⟩
  · exact d_setItem hu I g ri rv fun s' I' => ⟨H', I', q⟩
  · cases (show iv = Value.ref b from ri)
    obtain ⟨hd, dd⟩ := nil_K_T I.hok (.inl e)
    refine wpAny_setItem_heap (hsz := by rw [sizeLine_eq]; simp) (tupleKind_room_in1 hu) (key_of I.hok hb) dd fun h' dd' hs => ⟨_, ?_, q⟩
    obtain ⟨q', es, ep, hq, h2, h3, h4, _, h5⟩ := dd'
    have rel : KT (upd H a (.dT [(ks, v)])) [(ks, v)] (storedH [] ks b u) := by
      refine .cons ⟨rfl, ?_, rv⟩ .nil
      rw [upd_ne (ne_of hb e (fun z => nomatch z))]
      exact hb
    exact d_write I (by rw [e]; exact True.intro) hs ⟨q', hq⟩ ⟨by rw [sizeLine_eq]; simp, hd, _, rel, q', es, ep, hq, h2, h3, h4, h5⟩
  · obtain ⟨hd, dd⟩ := nil_T_K I.hok (.inl e)
    refine wpAny_setItem_pairs (hsz := by rw [sizeLine_eq]; simp) (kV_is ri) dd fun h' dd' hs => ⟨_, ?_, q⟩
    have he : ∃ q, h'.get? a = some q := let ⟨q, _, _, hq, _⟩ := dd'; ⟨q, hq⟩
    exact d_write I (by rw [e]; exact True.intro) hs he (dk_new (by rw [sizeLine_eq]; simp) hd (KV.put .nil kk rv) dd')
/-- x[k] = v, v without lists -/
def sPutD (i : Nat) (j f : FE) : FS := fun s => match f s.1, eVar i s.1, j s.1 with
  | some d, some (.dict es), some k => if (flat d && kindOk es k && decide (es.length < sz) && decide (lv s.2 i = 1)) = true then .next (s.1.set i (some (.dict (putD es k d))), s.2) else .stuck
  | _, _, _ => .stuck
theorem putD_top {es : List (D × D)} {k d : D} (hk : kindOk es k = true) : isTop (.dict (putD es k d)) = true := by
  obtain ⟨k1, k2, k3⟩ := kind_none hk
  have top : ∀ l : List (D × D), (∀ p r, l = p :: r → noneD p.1 = false) → isTop (.dict l) = true := fun l h => by
    cases l with
    | nil => rfl
    | cons p r =>
      obtain ⟨a, b⟩ := p
      have := h _ _ rfl
      cases a <;> first | rfl | simp [noneD] at this
  have hkn : noneD k = false := by cases k <;> simp [keyK, keyOf, noneD] at k1 ⊢
  refine top _ fun p r e => ?_
  unfold putD at e
  split at e
  · cases es with
    | nil => cases e
    | cons q es =>
      rw [List.map_cons] at e
      have := k2 _ _ rfl
      injection e with e1 e2
      rw [← e1]
      split <;> exact this
  · cases es with
    | nil => injection e with e1 e2; rw [← e1]; exact hkn
    | cons q es =>
      injection e with e1 e2
      rw [← e1]
      exact k2 _ _ rfl
theorem dict_top {es : List (D × D)} {k : D} (hk : kindOk es k = true) : isTop (.dict es) = true := by
  obtain ⟨k1, k2, k3⟩ := kind_none hk
  cases es with
  | nil => rfl
  | cons p r =>
    obtain ⟨a, b⟩ := p
    have := k2 _ _ rfl
    cases a <;> first | rfl | simp [noneD] at this
theorem putD_ok {i : Nat} {j f : FE} {c cj : Esc} : ∀ E σ H, tS K (sPutD i j f) E σ H → tAsg (tD K (.br 0) f c) (gSub (tVar i) (tD K (.br 1) j cj) rSetD) E σ H := fun E σ H ⟨B0, G, s, hs, q⟩ => by
  unfold sPutD at q
  split at q
  · rename_i d es k hd hi hk
    have hi := eVar_some hi
    split at q
    · rename_i hc
      simp only [Bool.and_eq_true, decide_eq_true_eq] at hc
      obtain ⟨⟨⟨hfl, hkd⟩, hz⟩, hl⟩ := hc
      obtain ⟨k1, k2, k3⟩ := kind_none hkd
      obtain ⟨O, B, g⟩ := hs
      refine ⟨[], _, s.1, d, g.good.zero, .zero, hd, fun v H1 s1 p1 => ?_⟩
      obtain ⟨a, u, h1, h2, h3, _⟩ := (g.mono s1).writeD hi hl (dict_top hkd)
      refine ⟨.ref a, h1, [], _, s.1, _, (g.mono s1).good.zero, .zero, hk, fun w H2 s2 p2 => ?_⟩
      obtain ⟨a', u', h1', h2', h3', h4'⟩ := ((g.mono s1).mono s2).writeD hi hl (dict_top hkd)
      rw [h1] at h1'
      cases h1'
      have rv := ((RL.r0 p1).mono s2).hidF (((g.ok.mono s1).mono s2).noTup) hfl
      have hz' : es.length < sizeLine := by rw [sz_eq]; exact hz
      refine ⟨a, rfl, ?_⟩
      rcases key_is (RL.r0 p2) k1 with ⟨kk, rfl, rfl, ht⟩ | ⟨ks, b, rfl, rfl, hb, ht⟩
      · rcases h3' with ⟨kvs, rfl, rk⟩ | ⟨kvs, rfl, rk⟩
        · exact .inl ⟨_, .inl ⟨kvs, kk, h2', rfl, by rw [rk.length]; exact hz', rfl⟩, q _ _ (h4' _ _ (putD_top hkd) (.inl ⟨_, rfl, rk.put rv kk⟩))⟩
        · cases es with
          | nil =>
            have := rk.nil_inv
            subst this
            exact .inr (.inr ⟨h2', kk, rfl, q _ _ (h4' _ _ (putD_top hkd) (.inl ⟨_, rfl, .cons rv .nil⟩))⟩)
          | cons p r =>
            have := rk.head
            rw [k3 _ _ rfl, ht] at this
            cases this
      · rcases h3' with ⟨kvs, rfl, rk⟩ | ⟨kvs, rfl, rk⟩
        · cases es with
          | nil =>
            have := rk.nil_inv
            subst this
            exact .inr (.inl ⟨h2', ks, b, rfl, hb, q _ _ (h4' _ _ (putD_top hkd) (.inr ⟨_, rfl, .cons rv .nil⟩))⟩)
          | cons p r =>
            have := rk.head
            rw [k3 _ _ rfl, ht] at this
            cases this
        · exact .inl ⟨_, .inr ⟨kvs, ks, b, h2', rfl, hb, by rw [rk.length]; exact hz', rfl⟩, q _ _ (h4' _ _ (putD_top hkd) (.inr ⟨_, rfl, rk.put rv ks⟩))⟩
    · exact q.elim
  · exact q.elim
theorem ss_putD (i : Nat) {x : Str} {e ix : Expr} {j f : FE} {c cj : Esc} {pos p p2 : Pos} (ps : PS X (.Assign [.Subscript (.Name x p) ix p2] e pos) (tAsg (tD K (.br 0) f c) (gSub (tVar i) (tD K (.br 1) j cj) rSetD))) :
    PS X (.Assign [.Subscript (.Name x p) ix p2] e pos) (tS K (sPutD i j f)) := ps.imp putD_ok
/-! displays -/
theorem Post.newD {B : List Addr} {H0 H' : Hp} {p : Addr} {u : HO} {es : List (D × D)} (t : Trk B H0) (hn : H0 p = none) (h : H' p = some u) (ht : isTop (.dict es) = true) (r : Dk K (hid (p :: B) H') u es) (hκ : κ.one = true) : Post K B H0 H' κ (.ref p) (.dict es) := by
  have f : Post K B H0 H' .fr (.ref p) (.dict es) := by
    refine ⟨[p], by simpa using hn, by simp, ?_⟩
    rcases r with ⟨kvs, rfl, r⟩ | ⟨kvs, rfl, r⟩
    · exact .dk ht h r
    · exact .dt ht h r
  cases κ with
  | br m => exact f.weak t
  | fr => exact f
  | fr2 => cases hκ
/-- {} -/
def eD0 : FE := fun _ => some (.dict [])
theorem qe_d0 {pos : Pos} (hκ : κ.one = true := by rfl) : PE X (.Dict [] [] pos) (tD K κ eD0 []) := (pe_dnewK).imp fun σ H Q ⟨B, L, ρ, d, g, es, hf, q⟩ => fun p hp => by
  cases (Option.some.inj hf)
  exact q _ _ (same_upd hp) (Post.newD g.ok.trk hp upd_same rfl (.inl ⟨[], rfl, .nil⟩) hκ)
/-- {k: v} -/
def tDisp1 (tk tv : TE) : TE := fun σ H Q => ∀ p, H p = none → tPairs [(tk, tv)] σ (upd H p (.dK [])) fun ps H2 => H2 p = some (.dK []) ∧ ∃ x y, ps = [(x, y)] ∧ ((∃ kk : Key, x = kV kk ∧ Q (.ref p) (upd H2 p (.dK [(kk, y)]))) ∨ ∃ (ks : List Key) (b : Addr), x = .ref b ∧ H2 b = some (.tup (ks.map kV)) ∧ Q (.ref p) (upd H2 p (.dT [(ks, y)])))
theorem pe_disp1 {k v : Expr} {tk tv : TE} {pos : Pos} (hu : X.A.units + 1 < cLine) (hk : PE X k tk) (hv : PE X v tv) : PE X (.Dict [some k] [v] pos) (tDisp1 tk tv) := by
  refine ⟨fun pins s σ H Q I q => ?_⟩
  have hn := I.hok.fresh (Nat.le_refl s.heap.objs.size)
  have I1 := I.laid (a := s.heap.objs.size) (o := .dK []) (h' := s.heap.push { cls := .type "dict", data := .dict #[] }) (t' := s.toks) (fun _ _ q => Heap.get?_push_of_some _ q) (Nat.le_refl _) (dk_empty s.heap I.big)
  refine wpAny_Dict_any rfl rfl (by simp) (by simp) (thn ((pps_cons (pos := pos) hk hv (pps_nil (X := X) (pos := pos))).run pins _ σ _ _ I1 (q _ hn)) fun ws s2 ⟨ps, H2, I2, rel, e, x, y, ep, h⟩ => ?_)
  subst ep
  obtain ⟨u, w, rfl, ru, rw'⟩ : ∃ u w, ws = [(u, w)] ∧ L2.RelV x u ∧ L2.RelV y w := by
    cases rel with
    | cons r0 r1 => cases r1; exact ⟨_, _, rfl, r0.1, r0.2⟩
  rcases h with ⟨kk, rfl, q2⟩ | ⟨ks, b, rfl, hb, q2⟩
  · obtain ⟨z, hd, vs0, r0, dd⟩ := dk_of I2.hok e
    cases r0
    refine wpAny_storeAll (knd := mixKind X.prog X.w) [(u, w)] [(kk, w)] [] s2 _ ⟨kV_is ru, rfl, True.intro⟩ dd (by rw [sizeLine_eq]; simp) fun h' dd' hs => ⟨.ref s.heap.objs.size, _, ?_, show L2.RelV (.ref _) _ from rfl, q2⟩
    have he : ∃ q, h'.get? s.heap.objs.size = some q := let ⟨q, _, _, hq, _⟩ := dd'; ⟨q, hq⟩
    exact d_write I2 (by rw [e]; exact True.intro) hs he (dk_new (by rw [sizeLine_eq]; simp) hd (KV.put .nil kk rw') dd')
  · cases (show u = Value.ref b from ru)
    obtain ⟨hd, dd⟩ := nil_K_T I2.hok (.inl e)
    show wpAny _ _ (forIn [(Value.ref b, w)] PUnit.unit _) _ _ _
    rw [List.forIn_cons]
    refine wpAny_bind (wpAny_bind (wpAny_dictSet_heap (knd := tupleKind (mixKind X.prog X.w)) (hsz := by rw [sizeLine_eq]; simp) (show X.A.units < cLine by omega) (key_of I2.hok hb) dd fun h' dd' hs => wpAny_pure ?_))
    show wpAny _ _ (forIn ([] : List (Value × Value)) PUnit.unit _) _ _ _
    rw [List.forIn_nil]
    refine wpAny_pure ⟨.ref s.heap.objs.size, _, ?_, show L2.RelV (.ref _) _ from rfl, q2⟩
    obtain ⟨q', es, ep, hq, h2, h3, h4, _, h5⟩ := dd'
    have rel : KT (upd H2 s.heap.objs.size (.dT [(ks, y)])) [(ks, y)] (storedH [] ks b w) := by
      refine .cons ⟨rfl, ?_, rw'⟩ .nil
      rw [upd_ne (ne_of hb e (fun z => nomatch z))]
      exact hb
    exact d_write I2 (by rw [e]; exact True.intro) hs ⟨q', hq⟩ ⟨by rw [sizeLine_eq]; simp, hd, _, rel, q', es, ep, hq, h2, h3, h4, h5⟩
def dD1 (k v : D) : Option D := if ((keyK k).isSome && flat v) = true then some (.dict [(k, v)]) else none
theorem qe_d1 {k v : Expr} {fk fv : FE} {ck cv : Esc} {pos : Pos} (hu : X.A.units + 1 < cLine) (hk : PE X k (tD K (.br 1) fk ck)) (hv : PE X v (tD K (.br 1) fv cv)) (hκ : κ.one = true := by rfl) : PE X (.Dict [some k] [v] pos) (tD K κ (eOp dD1 fk fv) []) := (pe_disp1 hu hk hv).imp fun σ H Q ⟨B, L, ρ, d, g, es, hf, q⟩ => fun p hp => by
  obtain ⟨dx, dy, h1, h2, h3⟩ := o2_some hf
  obtain ⟨hc, rfl⟩ := ite_some h3
  simp only [Bool.and_eq_true] at hc
  have s0 : Same H (upd H p (.dK [])) := same_upd hp
  refine ⟨[], _, ρ, dx, (g.mono s0).zero, .zero, h1, fun x H1 s1 p1 => ?_⟩
  refine ⟨[], _, ρ, dy, ((g.mono s0).mono s1).zero, .zero, h2, fun y H2 s2 p2 => ?_⟩
  have e2 : H2 p = some (.dK []) := s2 _ _ (s1 _ _ upd_same)
  have rx : R K H2 x dx := (RL.r0 p1).mono s2
  have ry : R K H2 y dy := RL.r0 p2
  have top : isTop (.dict [(dx, dy)]) = true := by
    have := hc.1
    cases dx <;> first | rfl | simp [keyK, keyOf] at this
  have s02 : Same H H2 := (s0.trans s1).trans s2
  have ok2 : Ok (p :: B) H2 := (g.ok.mono s02).cons e2 rfl
  have hp2 : ∀ u, Same (hid (p :: B) H2) (hid (p :: B) (upd H2 p u)) := fun u b o q => by
    obtain ⟨q1, q2⟩ := hid_some q
    rw [hid_out q1, upd_ne fun z => q1 (by rw [z]; exact List.mem_cons_self)]
    exact q2
  have hs : ∀ u, Same H (upd H2 p u) := fun u b o q => by
    rw [upd_ne fun z => by rw [z, hp] at q; cases q]
    exact s02 _ _ q
  have ry' : ∀ u, R K (hid (p :: B) (upd H2 p u)) y dy := fun u => (R.hidF ok2.noTup ry hc.2).mono (hp2 u)
  refine ⟨e2, x, y, rfl, ?_⟩
  rcases key_is rx hc.1 with ⟨kk, rfl, rfl, _⟩ | ⟨ks, b, rfl, rfl, hb, _⟩
  · exact .inl ⟨kk, rfl, q _ _ (hs _) (Post.newD g.ok.trk hp upd_same top (.inl ⟨_, rfl, .cons (ry' _) .nil⟩) hκ)⟩
  · exact .inr ⟨ks, b, rfl, hb, q _ _ (hs _) (Post.newD g.ok.trk hp upd_same top (.inr ⟨_, rfl, .cons (ry' _) .nil⟩) hκ)⟩
end
end DS
end

section
set_option Elab.async false
set_option linter.all false
set_option maxRecDepth 100000
/-! Dicts, part f: name = [.. for k in d ..]. -/
namespace DS
open PySem PySem.Spec PyProof.Rows L2
section
variable {X : Cx} {K : PySem.W.Frag} {κ : Mo}
theorem eLc_list {fi : FA} {t : Tg} {ft : FT} {fe : FE} {vs : List Nat} {ρ : PEnv} {d : D} (h : eLc fi t ft fe vs ρ = some d) : flat d = false := by
  obtain ⟨ds, h1, h2⟩ := o1_some h
  split at h2
  · obtain ⟨ys, h3, h4⟩ := o1_some h2
    cases (Option.some.inj h4)
    rfl
  · cases h2
theorem eLc_it {fi : FA} {t : Tg} {ft : FT} {fe : FE} {vs : List Nat} {ρ : PEnv} {d : D} (h : eLc fi t ft fe vs ρ = some d) : ∃ ds, fi ρ = some ds := by
  obtain ⟨ds, h1, h2⟩ := o1_some h
  exact ⟨ds, h1⟩
theorem demote_app : ∀ {c c' : Esc} {L : List Nat}, demote (c ++ c') L = demote c' (demote c L)
  | [], _, _ => rfl
  | (_, _) :: c, c', L => demote_app (c := c)
theorem ss_setLcD (j i l : Nat) {y : Str} {py : Pos} {elt tg : Expr} {x : Str} {p : Pos} {ifs : List Expr} {scope : Scope} {own : List (Str × Nat)} {pos spos : Pos} {ce : Esc} {t : Tg} {ft : FT} {fe : FE} (hc : X.calm = true) (hN : X.N.Nodup) (hx : PE X (.Name x p) (tVar j)) (ok : BlkOk X.N X.env.scope scope own)
    (hg : ∀ (s : Shared) (H : Hp) (C : Addr) (cl : List (Str × Addr)) (fp : List Addr), PG (X.blk s H scope (compEnvC scope cl C X.env) fp) tg (tG K t)) (ht : ∀ (s : Shared) (H : Hp) (C : Addr) (cl : List (Str × Addr)) (fp : List Addr), PTs (X.blk s H scope (compEnvC scope cl C X.env) fp) ifs (tT K ft))
    (he : ∀ (s : Shared) (H : Hp) (C : Addr) (cl : List (Str × Addr)) (fp : List Addr), PE (X.blk s H scope (compEnvC scope cl C X.env) fp) elt (tD K (.br 0) fe ce)) (hl : l ≤ 1 := by decide) (hy : X.N[i]? = some y := by rfl) (hyl : X.env.scope.names.lookup y = some .local := by rfl)
    (hsw : swapsWith (.ListComp elt [⟨tg, .Name x p, ifs, 0⟩] scope pos) (some (.Name y py)) spos.line X.env = pure true := by exact sw_true rfl rfl rfl (by decide +kernel)) (hv : t.ix.all ((own.map (·.2)).contains ·) = true := by rfl) (hs : ∀ z, foldedSetIterable (.Name x p) X.env z = pure z := by intro _; rfl) :
    PS X (.Assign [.Name y py] (.ListComp elt [⟨tg, .Name x p, ifs, 0⟩] scope pos) spos) (tS K (sSet i l (eLc (iDk (eVar j)) t ft fe (own.map (·.2))) ([(j, 0)] ++ ce))) :=
  (PS.either (ps_lock (ps_setLc hc hN hy hyl hsw (pi_keys hx) ok hg ht he hs)) (ps_setLc hc hN hy hyl hsw (pi_keys hx) ok hg ht he hs)).imp fun E σ H ⟨B0, G, s, hs, q⟩ => by
    have hκ : (moOf l).one = true := by match l, hl with | 0, _ => rfl | 1, _ => rfl
    have q0 := q
    unfold sSet at q
    split at q
    · exact q.elim
    · rename_i d0 hd0
      obtain ⟨ds, hds⟩ := eLc_it hd0
      obtain ⟨O, B, g0⟩ := hs
      obtain ⟨O', B', g, _⟩ := g0.demote [(j, 0)]
      have hL : lv (demote [(j, 0)] s.2) j ≤ 0 := demote_ok [(j, 0)] s.2 (j, 0) List.mem_cons_self
      obtain ⟨d, h1, h2⟩ := o1_some hds
      obtain ⟨es, rfl, rfl, hn⟩ := keysD_some h2
      obtain ⟨v, e1, r⟩ := g.good.slot j _ (eVar_some h1)
      rw [show lv (demote [(j, 0)] s.2) j = 0 by omega] at r
      obtain ⟨a, rfl, ha, u, hu, hr, _⟩ := dict_seen hn r.r
      rcases hr with hr | ⟨od, hr⟩
      · refine .inl ⟨a, u, hr, hu.mut, fun od => ?_⟩
        obtain ⟨G', k1, k2, k3⟩ := GS.lock (od := od) g ha hr hu
        have h0 : a ∉ B0 := fun z => ha ((g.memB a).mpr (.inl z))
        have e2 : sSet i l (eLc (iDk (eVar j)) t ft fe (own.map (·.2))) ([(j, 0)] ++ ce) (s.1, demote [(j, 0)] s.2) = sSet i l (eLc (iDk (eVar j)) t ft fe (own.map (·.2))) ([(j, 0)] ++ ce) s := by
          unfold sSet
          simp only [hd0, eLc_list hd0]
          have : demote [(j, 0)] (demote [(j, 0)] s.2) = demote [(j, 0)] s.2 := by
            show (if lv (demote [(j, 0)] s.2) j ≤ 0 then demote [(j, 0)] s.2 else _) = _
            rw [if_pos hL]
          have e3 : demote ([(j, 0)] ++ ce) (demote [(j, 0)] s.2) = demote ([(j, 0)] ++ ce) s.2 := by
            rw [demote_app, demote_app, this]
          rw [e3]
          simp
        obtain ⟨B1, L1, ρ1, d1, gg, es1, hf1, qq⟩ := set_ok (K := K) (i := i) (l := l) (f := eLc (iDk (eVar j)) t ft fe (own.map (·.2))) (c := [(j, 0)] ++ ce) (by omega) (lockE E a od u) σ _ ⟨B0, G', _, k3, by rw [e2]; exact Fin.lock k1 k2 h0 q0⟩
        exact lc_core (m := 1) rfl hv hκ σ _ _ B1 L1 ρ1 d1 gg es1 hf1 qq fun ds Rr h1 hR => hti_dict gg (es1.left (j, 0) List.mem_cons_self) h1 e1 upd_same Rr hR
      · obtain ⟨B1, L1, ρ1, d1, gg, es1, hf1, qq⟩ := set_ok (K := K) (i := i) (l := l) (f := eLc (iDk (eVar j)) t ft fe (own.map (·.2))) (c := [(j, 0)] ++ ce) (by omega) E σ H ⟨B0, G, s, ⟨O, B, g0⟩, q0⟩
        exact .inr (lc_core (m := 1) rfl hv hκ σ _ _ B1 L1 ρ1 d1 gg es1 hf1 qq fun ds Rr h1 hR => hti_dict gg (es1.left (j, 0) List.mem_cons_self) h1 e1 hr Rr hR)
end
end DS
end

section
set_option Elab.async false
set_option linter.all false
set_option maxRecDepth 100000
set_option maxHeartbeats 1000000
/-! Part g: bits; a, b = [..], [..], both their own; a, b = flat, [..]. -/
namespace DS
open PySem PySem.Spec PyProof.Rows L2
def dAnd : D → D → Option D
  | .int i, .int j => some (.int (Builtin.bitAnd i j))
  | _, _ => none
def dOr : D → D → Option D
  | .int i, .int j => some (.int (Builtin.bitOr i j))
  | _, _ => none
theorem OpD.ii0 {K : PySem.W.Frag} {gV : Int → Int → Int} {op : D → D → Option D} (h : ∀ dx dy d, op dx dy = some d → ∃ i j, dx = .int i ∧ dy = .int j ∧ d = .int (gV i j)) : OpD K (rI0 fun i j => .int (gV i j)) op := by
  intro B x y dx dy d H Q hB rx ry ho q
  obtain ⟨i, j, rfl, rfl, rfl⟩ := h _ _ _ ho
  exact ⟨i, j, rx.int, ry.int, q _ H (Same.refl H) fun κ _ => Post.of_flat (.int _) rfl⟩
section
variable {X : Cx} {K : PySem.W.Frag} {κ : Mo} {a b : Expr} {fa fb : FE} {ca cb : Esc} {pos : Pos}
theorem qe_band (ha : PE X a (tD K (.br 1) fa ca)) (hb : PE X b (tD K (.br 1) fb cb)) (hκ : κ.one = true := by rfl) : PE X (.BinOp a .BitAnd b pos) (tD K κ (eOp dAnd fa fb) (ca ++ cb)) :=
  qe_op op_and (OpD.ii0 fun dx dy d h => by
    unfold dAnd at h
    split at h
    · exact ⟨_, _, rfl, rfl, (Option.some.inj h).symm⟩
    · cases h) ha hb hκ
theorem qe_bor (ha : PE X a (tD K (.br 1) fa ca)) (hb : PE X b (tD K (.br 1) fb cb)) (hκ : κ.one = true := by rfl) : PE X (.BinOp a .BitOr b pos) (tD K κ (eOp dOr fa fb) (ca ++ cb)) :=
  qe_op op_or (OpD.ii0 fun dx dy d h => by
    unfold dOr at h
    split at h
    · exact ⟨_, _, rfl, rfl, (Option.some.inj h).symm⟩
    · cases h) ha hb hκ
end
def sParFF (i j : Nat) (f g : FE) (c : Esc) : FS := fun s => match f s.1, g s.1 with
  | some d, some e => .next ((s.1.set i (some d)).set j (some e), ((demote c s.2).set i 1).set j 1)
  | _, _ => .stuck
def sParG (i j : Nat) (f g : FE) (c : Esc) : FS := fun s => match f s.1, g s.1 with
  | some d, some e => if flat d = true then .next ((s.1.set i (some d)).set j (some e), ((demote c s.2).set i 0).set j 1) else .stuck
  | _, _ => .stuck
section
variable {X : Cx} {K : PySem.W.Frag}
theorem ss_parFF (i j : Nat) {x y : Str} {a b : Expr} {f g : FE} {c c' : Esc} {px py pt pos : Pos} {kt k2 pt2} (hc : X.calm = true) (hN : X.N.Nodup) (ha : PE X a (tD K .fr f c)) (hb : PE X b (tD K .fr g c'))
    (hw : swappedStores [.Tuple [.Name x px, .Name y py] kt pt] (.Tuple [a, b] k2 pt2) X.env = pure (some [x, y])) (hi : X.N[i]? = some x := by rfl) (hj : X.N[j]? = some y := by rfl) (hij : i ≠ j := by decide)
    (hx : X.env.scope.names.lookup x = some .local := by rfl) (hy : X.env.scope.names.lookup y = some .local := by rfl)
    (hs : swapsWithSole [.Tuple [.Name x px, .Name y py] kt pt] (.Tuple [a, b] k2 pt2) pos.line X.env = pure false := by rfl) (hs1 : starEach [a, b] X.env = (false, eval a X.env) :: starEach [b] X.env := by rfl) (hs2 : starEach [b] X.env = (false, eval b X.env) :: starEach [] X.env := by rfl) :
    PS X (.Assign [.Tuple [.Name x px, .Name y py] kt pt] (.Tuple [a, b] k2 pt2) pos) (tS K (sParFF i j f g (c ++ c'))) := (ps_par hc hN hi hj hij hx hy (pa_cons ha (pa_cons hb pa_nil hs2) hs1) hw hs).imp fun E σ H ⟨B0, G, s, hs, q⟩ => by
  unfold sParFF at q
  split at q
  · rename_i d e hd he
    obtain ⟨O, B, gd⟩ := hs
    obtain ⟨O', B', g', _⟩ := gd.demote (c ++ c')
    have esc := demote_ok (c ++ c') s.2
    refine ⟨B', lv (demote (c ++ c') s.2), s.1, d, g'.good, esc.left, hd, fun v H1 e1 p1 => ?_⟩
    obtain ⟨o1, hn1, nd1, ro1⟩ := p1
    have gg := g'.good
    have sw : Same (hid B' H) (hid (o1 ++ B') H1) := same_hidW e1 fun a h => (List.mem_append.mp h).elim (fun h => .inr (hn1 a h)) .inl
    have gd2 : Good K (o1 ++ B') (lv (demote (c ++ c') s.2)) σ H1 s.1 := ⟨(ro1.mut_aux).append (g'.ok.mono e1), gg.len, fun k d h => let ⟨v, h1, h2⟩ := gg.slot k d h; ⟨v, h1, h2.mono e1 sw⟩⟩
    refine ⟨o1 ++ B', lv (demote (c ++ c') s.2), s.1, e, gd2, esc.right, he, fun w H2 e2 p2 => ?_⟩
    obtain ⟨o2, hn2, nd2, ro2⟩ := p2
    refine ⟨v, w, rfl, q _ H2 ?_⟩
    obtain ⟨O1, B1, g1, hB1⟩ := g'.assign (i := i) e1 hn1 nd1 ro1
    have ro3 : RO K (o2 ++ B1) H2 1 o2 w e := ro2.mono_aux (same_hidW (Same.refl H2) fun a h => .inl ((List.mem_append.mp h).elim (fun h => List.mem_append_left _ h) fun h => List.mem_append_right _ (hB1 a h))) fun _ _ => rfl
    obtain ⟨O2, B2, g2, _⟩ := g1.assign (i := j) e2 hn2 nd2 ro3
    exact ⟨O2, B2, g2⟩
  · exact q.elim
theorem ss_parG (i j : Nat) {x y : Str} {a b : Expr} {f g : FE} {c c' : Esc} {px py pt pos : Pos} {kt k2 pt2} (hc : X.calm = true) (hN : X.N.Nodup) (ha : PE X a (tD K (.br 0) f c)) (hb : PE X b (tD K .fr g c'))
    (hw : swappedStores [.Tuple [.Name x px, .Name y py] kt pt] (.Tuple [a, b] k2 pt2) X.env = pure (some [x, y])) (hi : X.N[i]? = some x := by rfl) (hj : X.N[j]? = some y := by rfl) (hij : i ≠ j := by decide)
    (hx : X.env.scope.names.lookup x = some .local := by rfl) (hy : X.env.scope.names.lookup y = some .local := by rfl)
    (hs : swapsWithSole [.Tuple [.Name x px, .Name y py] kt pt] (.Tuple [a, b] k2 pt2) pos.line X.env = pure false := by rfl) (hs1 : starEach [a, b] X.env = (false, eval a X.env) :: starEach [b] X.env := by rfl) (hs2 : starEach [b] X.env = (false, eval b X.env) :: starEach [] X.env := by rfl) :
    PS X (.Assign [.Tuple [.Name x px, .Name y py] kt pt] (.Tuple [a, b] k2 pt2) pos) (tS K (sParG i j f g c')) := (ps_par hc hN hi hj hij hx hy (pa_cons ha (pa_cons hb pa_nil hs2) hs1) hw hs).imp fun E σ H ⟨B0, G, s, hs, q⟩ => by
  unfold sParG at q
  split at q
  · rename_i d e hd he
    split at q
    · rename_i hfl
      obtain ⟨O, B, gd⟩ := hs
      obtain ⟨O', B', g', _⟩ := gd.demote c'
      refine ⟨[], _, s.1, d, gd.good.zero, .zero, hd, fun v H1 e1 p1 => ?_⟩
      refine ⟨B', lv (demote c' s.2), s.1, e, (g'.mono e1).good, demote_ok _ s.2, he, fun w H2 e2 p2 => ?_⟩
      obtain ⟨o2, hn2, nd2, ro2⟩ := p2
      refine ⟨v, w, rfl, q _ H2 ?_⟩
      obtain ⟨O1, B1, g1, hB1⟩ := (g'.mono e1).assign0 (i := i) ((RL.r0 p1).hidF (g'.mono e1).ok.noTup hfl)
      have ro3 : RO K (o2 ++ B1) H2 1 o2 w e := ro2.mono_aux (same_hidW (Same.refl H2) fun a h => .inl ((List.mem_append.mp h).elim (fun h => List.mem_append_left _ h) fun h => List.mem_append_right _ (hB1 a h))) fun _ _ => rfl
      obtain ⟨O2, B2, g2, _⟩ := g1.assign (i := j) e2 hn2 nd2 ro3
      exact ⟨O2, B2, g2⟩
    · exact q.elim
  · exact q.elim
end
end DS
end

section
set_option Elab.async false
set_option linter.all false
set_option maxRecDepth 100000
set_option maxHeartbeats 1000000
/-! Part h: lists of own lists: [[..] for ..], x[i][j] = v. -/
namespace DS
open PySem PySem.Spec PyProof.Rows L2
section
variable {K : PySem.W.Frag} {B B' : List Addr} {H H' : Hp}
theorem ROA.mono_aux (eh : Same (hid B H) (hid B' H')) {l : Nat} : ∀ {xs : List V} {os : List (List Addr)} {ds : List D}, ROA K B H l os xs ds → (∀ a ∈ os.flatten, H' a = H a) → ROA K B' H' l os xs ds
  | [], _, _, h, _ => by cases h; exact .nil
  | x :: xs, _, _, h, hb => by
    cases h with
    | @cons _ o os v d vs ds hr t =>
      exact .cons (hr.mono_aux eh fun a q => hb a (by rw [List.flatten_cons]; exact List.mem_append_left _ q)) (ROA.mono_aux eh t fun a q => hb a (by rw [List.flatten_cons]; exact List.mem_append_right _ q))
theorem ROA.append {l : Nat} : ∀ {xs : List V} {os : List (List Addr)} {ds : List D} {o : List Addr} {v : V} {d : D}, ROA K B H l os xs ds → RO K B H l o v d → ROA K B H l (os ++ [o]) (xs ++ [v]) (ds ++ [d])
  | [], _, _, _, _, _, h, r => by cases h; exact .cons r .nil
  | x :: xs, _, _, _, _, _, h, r => by
    cases h with
    | cons hr t => exact .cons hr (ROA.append t r)
theorem ROA.len {l : Nat} : ∀ {xs : List V} {os : List (List Addr)} {ds : List D}, ROA K B H l os xs ds → xs.length = ds.length
  | [], _, _, h => by cases h; rfl
  | x :: xs, _, _, h => by
    cases h with
    | cons hr t => rw [List.length_cons, List.length_cons, ROA.len t]
theorem ROA.mut {l : Nat} : ∀ {xs : List V} {os : List (List Addr)} {ds : List D}, ROA K B H l os xs ds → Ok os.flatten H
  | [], _, _, h => by cases h; exact Ok.nil
  | x :: xs, _, _, h => by
    cases h with
    | cons hr t => rw [List.flatten_cons]; exact hr.mut_aux.append (ROA.mut t)
theorem RO.one {o : List Addr} {v : V} {ds : List D} (h : RO K B H 1 o v (.list ds)) : ∃ a xs, o = [a] ∧ v = .ref a ∧ H a = some (.lst xs) ∧ RA K (hid B H) xs ds := by
  cases h with
  | z h _ => rcases h with h | h <;> cases h
  | @l _ a os xs _ e ra =>
    have h1 : ∀ {xs : List V} {os : List (List Addr)} {ds : List D}, ROA K B H 0 os xs ds → os.flatten = [] ∧ RA K (hid B H) xs ds := by
      intro xs
      induction xs with
      | nil => intro os ds h; cases h; exact ⟨rfl, .nil⟩
      | cons x xs ih =>
        intro os ds h
        cases h with
        | cons hr t =>
          obtain ⟨a1, a2⟩ := ih t
          cases hr with
          | z _ r => exact ⟨by rw [List.flatten_cons, a1]; rfl, .cons r a2⟩
    obtain ⟨a1, a2⟩ := h1 ra
    exact ⟨a, xs, by rw [a1], rfl, e, a2⟩
/-- the n-th of a list's own lists, written -/
theorem ROA.write : ∀ {xs : List V} {os : List (List Addr)} {ds : List D} {n : Nat} {es : List D}, ROA K B H 1 os xs ds → os.flatten.Nodup → (∀ a ∈ os.flatten, a ∈ B) → ds[n]? = some (.list es) →
    ∃ a ys, xs[n]? = some (.ref a) ∧ a ∈ os.flatten ∧ H a = some (.lst ys) ∧ RA K (hid B H) ys es ∧ ∀ ys' es', RA K (hid B H) ys' es' → ROA K B (upd H a (.lst ys')) 1 os xs (ds.set n (.list es'))
  | [], _, _, n, _, h, _, _, hn => by cases h; simp at hn
  | x :: xs, _, _, 0, es, h, nd, hB, hn => by
    cases h with
    | @cons _ o os v d vs ds hr t =>
      simp at hn
      subst hn
      obtain ⟨a, ys, rfl, rfl, e, ra⟩ := hr.one
      rw [List.flatten_cons] at nd hB ⊢
      have aB : a ∈ B := hB a (by simp)
      have hsame : ∀ u, Same (hid B H) (hid B (upd H a u)) := fun u b o q => by
        obtain ⟨q1, q2⟩ := hid_some q
        rw [hid_out q1, upd_ne fun z => q1 (by rw [z]; exact aB)]
        exact q2
      refine ⟨a, ys, rfl, by simp, e, ra, fun ys' es' r => ?_⟩
      rw [List.set_cons_zero]
      have nd' : a ∉ os.flatten := by
        rw [List.nodup_append] at nd
        intro z
        exact nd.2.2 a (by simp) a z rfl
      exact .cons (RO.l1 upd_same (r.mono (hsame _))) (ROA.mono_aux (hsame _) t fun b hb => upd_ne fun z => nd' (by rw [← z]; exact hb))
  | x :: xs, _, _, n + 1, es, h, nd, hB, hn => by
    cases h with
    | @cons _ o os v d vs ds hr t =>
      rw [List.flatten_cons] at nd hB ⊢
      rw [List.nodup_append] at nd
      obtain ⟨a, ys, h1, h2, h3, h4, h5⟩ := ROA.write (n := n) t nd.2.1 (fun a q => hB a (List.mem_append_right _ q)) (by simpa using hn)
      have aB : a ∈ B := hB a (List.mem_append_right _ h2)
      refine ⟨a, ys, by simpa using h1, List.mem_append_right _ h2, h3, h4, fun ys' es' r => ?_⟩
      rw [List.set_cons_succ]
      refine .cons (hr.mono_aux (fun b o q => ?_) fun b hb => upd_ne fun z => nd.2.2 b hb a h2 z) (h5 ys' es' r)
      obtain ⟨q1, q2⟩ := hid_some q
      rw [hid_out q1, upd_ne fun z => q1 (by rw [z]; exact aB)]
      exact q2
theorem GoodS.write2 {B0 B : List Addr} {G H : Hp} {O : Nat → List Addr} {σ : St} {ρ : PEnv} {L : List Nat} {i n : Nat} {ds es : List D} (g : GoodS K B0 G O B σ H ρ L) (hd : ρ[i]? = some (some (.list ds))) (hl : lv L i = 2) (hn : ds[n]? = some (.list es)) :
    ∃ a xs b ys, σ[i]? = some (some (.ref a)) ∧ H a = some (.lst xs) ∧ xs.length = ds.length ∧ xs[n]? = some (.ref b) ∧ H b = some (.lst ys) ∧ RA K (hid B H) ys es ∧ ∀ ys' es', RA K (hid B H) ys' es' → GS K B0 G σ (upd H b (.lst ys')) (ρ.set i (some (.list (ds.set n (.list es')))), L) := by
  obtain ⟨v, h1, h2⟩ := g.slot i _ hd
  rw [hl] at h2
  generalize hoi : O i = oi at h2
  cases h2 with
  | z h _ => rcases h with h | h <;> cases h
  | @l _ a os xs _ e ra =>
    have nd := g.nd i
    rw [hoi] at nd
    have inB : ∀ b ∈ a :: os.flatten, b ∈ B := fun b hb => (g.memB b).mpr (.inr ⟨i, by rw [hoi]; exact hb⟩)
    obtain ⟨b, ys, w1, w2, w3, w4, w5⟩ := ra.write (List.nodup_cons.mp nd).2 (fun b hb => inB b (List.mem_cons_of_mem _ hb)) hn
    have hba : b ≠ a := fun z => (List.nodup_cons.mp nd).1 (by rw [← z]; exact w2)
    have bB := inB b (List.mem_cons_of_mem _ w2)
    refine ⟨a, xs, b, ys, h1, e, ra.len, w1, w3, w4, fun ys' es' r => ?_⟩
    have hsame : Same (hid B H) (hid B (upd H b (.lst ys'))) := fun c o q => by
      obtain ⟨q1, q2⟩ := hid_some q
      rw [hid_out q1, upd_ne fun z => q1 (by rw [z]; exact bB)]
      exact q2
    refine ⟨O, B, g.memB, fun c hc => ?_, fun c o q => ?_, g.g0, g.gO, g.nd, g.dj, by rw [List.length_set, g.len], by rw [List.length_set, g.lenL], fun j d h => ?_⟩
    · by_cases hcb : c = b
      · rw [hcb]; exact ⟨_, upd_same, rfl⟩
      · rw [upd_ne hcb]; exact g.ok c hc
    · rw [upd_ne fun z => ?_]
      · exact g.same _ _ q
      · rw [z] at q
        have := g.gO i b (by rw [hoi]; exact List.mem_cons_of_mem _ w2)
        rw [this] at q; cases q
    · by_cases hj : j = i
      · subst hj
        have hi : j < ρ.length := (List.getElem?_eq_some_iff.mp hd).1
        simp only [List.getElem?_set_self hi] at h
        cases h
        refine ⟨.ref a, h1, ?_⟩
        rw [hoi]
        show RO K B _ (lv L j) _ _ _
        rw [hl]
        exact .l (by rw [upd_ne (Ne.symm hba)]; exact e) (w5 ys' es' r)
      · simp only [List.getElem?_set_ne (Ne.symm hj)] at h
        obtain ⟨w, h3, h4⟩ := g.slot j d h
        refine ⟨w, h3, h4.mono_aux hsame fun c hc => upd_ne fun z => ?_⟩
        exact g.dj j i hj c hc (by rw [hoi, z]; exact List.mem_cons_of_mem _ w2)
end
/-- x[i][j] = v, v without lists; x's lists are its own -/
def sPut22 (i : Nat) (j k f : FE) : FS := fun s => match f s.1, eVar i s.1, j s.1, k s.1 with
  | some d, some (.list ds), some (.int a), some (.int b) => match ixN ds.length a with
    | none => .stuck
    | some n => match ds[n]? with
      | some (.list es) => match ixN es.length b with
        | none => .stuck
        | some m => if (flat d && decide (lv s.2 i = 2)) = true then .next (s.1.set i (some (.list (ds.set n (.list (es.set m d))))), s.2) else .stuck
      | _ => .stuck
  | _, _, _, _ => .stuck
section
variable {X : Cx} {K : PySem.W.Frag}
theorem atI_ixN {α : Type} {xs : List α} {k : Int} {n : Nat} {v : α} (h : ixN xs.length k = some n) (e : xs[n]? = some v) : atI xs k = some v := by
  unfold L2.atI
  rw [h]
  exact e
theorem put22_ok {i : Nat} {j k f : FE} {c cj ck : Esc} : ∀ E σ H, tS K (sPut22 i j k f) E σ H → tAsg (tD K (.br 0) f c) (gSub (tOp (rIxL K) (tVar i) (tD K (.br 1) j cj)) (tD K (.br 1) k ck) rSetL) E σ H := fun E σ H ⟨B0, G, s, hs, q⟩ => by
  unfold sPut22 at q
  split at q
  · rename_i d ds a b hd hi hj hk
    have hi := eVar_some hi
    split at q
    · exact q.elim
    · rename_i n hn
      split at q
      · rename_i es hes
        split at q
        · exact q.elim
        · rename_i m hm
          split at q
          · rename_i hc
            simp only [Bool.and_eq_true, decide_eq_true_eq] at hc
            obtain ⟨hfl, hl⟩ := hc
            obtain ⟨O, B, g⟩ := hs
            refine ⟨[], _, s.1, d, g.good.zero, .zero, hd, fun v H1 s1 p1 => ?_⟩
            have g1 := g.mono s1
            obtain ⟨a1, xs, b1, ys, h1, h2, h3, h4, h5, h6, _⟩ := g1.write2 hi hl hes
            refine ⟨.ref a1, h1, [], _, s.1, _, g1.good.zero, .zero, hj, fun w H2 s2 p2 => ?_⟩
            refine ⟨a1, xs, a, .ref b1, rfl, RL.int p2, SqL.of (s2 _ _ h2), atI_ixN (by rw [h3]; exact hn) h4, ?_⟩
            have g2 := g1.mono s2
            refine ⟨[], _, s.1, _, g2.good.zero, .zero, hk, fun w' H3 s3 p3 => ?_⟩
            have g3 := g2.mono s3
            obtain ⟨a1', xs', b1', ys', h1', h2', h3', h4', h5', h6', h7'⟩ := g3.write2 hi hl hes
            rw [h1] at h1'
            cases h1'
            have e2 := s3 _ _ (s2 _ _ h2)
            rw [e2] at h2'
            cases h2'
            rw [h4] at h4'
            cases h4'
            refine ⟨b1, ys', b, m, rfl, RL.int p3, h5', by rw [h6'.length]; exact hm, ?_⟩
            have rv := (((RL.r0 p1).mono s2).mono s3).hidF g3.ok.noTup hfl
            exact q _ _ (h7' _ _ (h6'.set rv m))
          · exact q.elim
      · exact q.elim
  · exact q.elim
theorem ss_put22 (i : Nat) {x : Str} {e ix jx : Expr} {j k f : FE} {c cj ck : Esc} {pos p p2 p3 : Pos} (ps : PS X (.Assign [.Subscript (.Subscript (.Name x p) ix p2) jx p3] e pos) (tAsg (tD K (.br 0) f c) (gSub (tOp (rIxL K) (tVar i) (tD K (.br 1) j cj)) (tD K (.br 1) k ck) rSetL))) :
    PS X (.Assign [.Subscript (.Subscript (.Name x p) ix p2) jx p3] e pos) (tS K (sPut22 i j k f)) := ps.imp put22_ok
end
section
variable {X : Cx} {K : PySem.W.Frag}
/-- [..] of new lists, each its own -/
theorem lcF_core {m : Nat} {fi : FA} {ci : Esc} {t : Tg} {ft : FT} {fe : FE} {ce : Esc} {vs : List Nat} {ti : TI} (hm : m = 1) (hv : t.ix.all (vs.contains ·) = true) :
    ∀ σ H Q B L ρ d, Good K B L σ H ρ → EscOk (ci ++ ce) L → eLc fi t ft fe vs ρ = some d → (∀ v H', Same H H' → Post K B H H' .fr2 v d → Q v H') →
      (∀ ds Rr, fi ρ = some ds → (∀ J H1, Same H H1 → Walks K (gOf m B H1) B J ds → Rr J H1) → ti σ H Rr) → tLc ti (tG K t) (tT K ft) (tD K .fr fe ce) vs σ H Q := by
  intro σ H Q B L ρ d g es hf q hti
  obtain ⟨ds, h1, h2⟩ := o1_some hf
  have hz : ds.length ≤ sz := by
    split at h2
    · assumption
    · cases h2
  rw [if_pos hz] at h2
  obtain ⟨ys, h3, h4⟩ := o1_some h2
  cases (Option.some.inj h4)
  refine hti ds _ h1 fun J H1 s1 wk D hD => ?_
  subst hm
  have hixs : ∀ {l : List (Nat × PyData)} {mm : List (Nat × V)} {d : PyData} {B' : List Addr} {Hh : Hp}, t.go d = some l → RS K (hid B' Hh) mm l → ∀ i ∈ mm.map (·.1), i ∈ vs := fun {l mm d B' Hh} e rs i hi => by
    rw [rs.ix, Tg.go_ix e] at hi
    have := List.all_eq_true.mp hv i hi
    simpa using this
  -- what holds behind i turns
  let W : Nat → Nat → Hp → Prop := fun i n H' => n = ds.length - i ∧ i ≤ ds.length ∧ Same H1 H' ∧ ∃ acc os done rest, H' D = some (.lst acc) ∧ ROA K (os.flatten ++ (D :: B)) H' 1 os acc done ∧ (∀ a ∈ os.flatten, H1 a = none ∧ a ≠ D) ∧ os.flatten.Nodup ∧ acc.length ≤ i ∧ lcGo t ft fe (wipeD ρ vs) (ds.drop i) = some rest ∧ done ++ rest = ys
  refine ⟨W, ⟨ds.length, by simp, Nat.zero_le _, same_upd hD, [], [], [], ys, upd_same, .nil, by simp, by simp, Nat.le_refl _, by simpa using h3, rfl⟩, ?_⟩
  rintro i n H' ⟨rfl, hi, s', acc, os, done, rest, hacc, racc, hos, hnd, hlen, hgo, hys⟩
  have okB : Ok (os.flatten ++ (D :: B)) H' := racc.mut.append (((g.ok.mono s1).mono s').cons hacc rfl)
  have inn : ∀ a ∈ os.flatten ++ (D :: B), a ∈ B ∨ H1 a = none := fun a ha => by
    rcases List.mem_append.mp ha with z | z
    · exact .inr (hos a z).1
    · rcases List.mem_cons.mp z with z | z
      · rw [z]; exact .inr hD
      · exact .inl z
  have gd : Good K (os.flatten ++ (D :: B)) L σ H' ρ := by
    refine ⟨okB, g.len, fun j e h => ?_⟩
    obtain ⟨v, e1, r⟩ := g.slot j e h
    exact ⟨v, e1, ((r.mono s1 (same_hid s1)).mono s' (same_hidW s' inn))⟩
  by_cases hlt : i < ds.length
  · refine .inr ⟨wk.go i H' hlt s', fun H'' => W (i + 1) (ds.length - (i + 1)) H'', fun H'' w => ⟨_, by omega, w⟩, fun x H2 y => ?_⟩
    have hd : ds[i]? = some ds[i] := List.getElem?_eq_getElem hlt
    obtain ⟨s2, rx⟩ := wk.yld i H' x H2 _ hd s' y
    have rx := rx (os.flatten ++ (D :: B)) okB fun a ha => ⟨inn a ha, okB.trk a ha⟩
    rw [List.drop_eq_getElem_cons hlt] at hgo
    unfold lcGo at hgo
    have hacc2 := s2 _ _ hacc
    have racc2 : ROA K (os.flatten ++ (D :: B)) H2 1 os acc done := ROA.mono_aux (same_hid s2) racc fun a ha => by
      obtain ⟨u, hu, _⟩ := racc.mut a ha
      rw [hu, s2 _ _ hu]
    split at hgo
    · cases hgo
    · rename_i l hl
      refine ⟨os.flatten ++ (D :: B), _, l, rx, hl, fun mm rs => ⟨?_, ?_⟩⟩
      · rw [wipe_sets (hixs hl rs)]
        exact wipe_idem vs fun _ h => h
      · have gs : Good K (os.flatten ++ (D :: B)) L (setsV (wipe σ vs) mm) H2 (setsD (wipeD ρ vs) l) := ((gd.mono s2).wipe vs).sets rs
        split at hgo
        · cases hgo
        · rename_i hft
          refine ⟨os.flatten ++ (D :: B), L, _, false, gs, hft, fun H3 s3 => ?_⟩
          refine iteF ?_
          exact ⟨rfl, hlt, (s'.trans s2).trans s3, acc, os, done, rest, s3 _ _ hacc2, ROA.mono_aux (same_hid s3) racc2 (fun a ha => by
            obtain ⟨u, hu, _⟩ := racc2.mut a ha
            rw [hu, s3 _ _ hu]), hos, hnd, by omega, hgo, hys⟩
        · rename_i hft
          split at hgo
          · cases hgo
          · rename_i yv hfe
            split at hgo
            · cases hgo
            · rename_i ys' hrest
              cases (Option.some.inj hgo)
              refine ⟨os.flatten ++ (D :: B), L, _, true, gs, hft, fun H3 s3 => ?_⟩
              refine iteT ?_
              refine ⟨os.flatten ++ (D :: B), L, _, yv, gs.mono s3, es.right, hfe, fun v H4 s4 p4 => ?_⟩
              obtain ⟨o, hno, hndo, ro⟩ := p4
              have s34 := s3.trans s4
              have hacc4 := s34 _ _ hacc2
              have hoD : ∀ a ∈ o, a ≠ D := fun a ha z => by
                have := s3 _ _ hacc2
                rw [← z, hno a ha] at this
                cases this
              have hoos : ∀ a ∈ o, a ∉ os.flatten := fun a ha z => by
                obtain ⟨u, hu, _⟩ := racc2.mut a z
                have := s3 _ _ hu
                rw [hno a ha] at this
                cases this
              have ho1 : ∀ a ∈ o, H1 a = none := fun a ha => by
                cases e : H1 a with
                | none => rfl
                | some u =>
                  have := s3 _ _ (s2 _ _ (s' _ _ e))
                  rw [hno a ha] at this
                  cases this
              have fl : (os ++ [o]).flatten = os.flatten ++ o := by simp
              have su : ∀ {C C' : List Addr}, D ∈ C → (∀ a ∈ C', a ∈ C) → Same (hid C H4) (hid C' (upd H4 D (.lst (acc ++ [v])))) → True := fun _ _ _ => True.intro
              -- the older ones
              have r1 : ROA K ((os ++ [o]).flatten ++ (D :: B)) (upd H4 D (.lst (acc ++ [v]))) 1 os acc done := by
                refine ROA.mono_aux (H := H2) (B := os.flatten ++ (D :: B)) (fun b x e => ?_) racc2 fun a ha => ?_
                · obtain ⟨e1, e2⟩ := hid_some e
                  have e3 := s34 _ _ e2
                  rw [hid_out (fun z => ?_), upd_ne fun z => e1 (by rw [z]; exact List.mem_append_right _ (.head _))]
                  · exact e3
                  · rw [fl, List.append_assoc] at z
                    rcases List.mem_append.mp z with z | z
                    · exact e1 (List.mem_append_left _ z)
                    · rcases List.mem_append.mp z with z | z
                      · have := hno b z
                        rw [s3 _ _ e2] at this
                        cases this
                      · exact e1 (List.mem_append_right _ z)
                · obtain ⟨u, hu, _⟩ := racc2.mut a ha
                  rw [upd_ne (hos a ha).2, s34 _ _ hu, hu]
              have r2 : RO K ((os ++ [o]).flatten ++ (D :: B)) (upd H4 D (.lst (acc ++ [v]))) 1 o v yv := by
                refine ro.mono_aux (fun b x e => ?_) fun a ha => upd_ne (hoD a ha)
                obtain ⟨e1, e2⟩ := hid_some e
                rw [hid_out (fun z => ?_), upd_ne fun z => e1 (by rw [z]; exact List.mem_append_right _ (List.mem_append_right _ (.head _)))]
                · exact e2
                · rw [fl, List.append_assoc] at z
                  rcases List.mem_append.mp z with z | z
                  · exact e1 (List.mem_append_right _ (List.mem_append_left _ z))
                  · rcases List.mem_append.mp z with z | z
                    · exact e1 (List.mem_append_left _ z)
                    · exact e1 (List.mem_append_right _ (List.mem_append_right _ z))
              refine ⟨acc, hacc4, by rw [sz_eq]; omega, rfl, hlt, fun b x e => ?_, acc ++ [v], os ++ [o], done ++ [yv], ys', upd_same, r1.append r2, fun a ha => ?_, ?_, by simp; omega, hrest, by rw [List.append_assoc]; exact hys⟩
              · have hb : b ≠ D := ne_of_none e hD
                rw [upd_ne hb]
                exact ((s'.trans s2).trans s34) _ _ e
              · rw [fl] at ha
                rcases List.mem_append.mp ha with z | z
                · exact hos a z
                · exact ⟨ho1 a z, hoD a z⟩
              · rw [fl, List.nodup_append]
                exact ⟨hnd, hndo, fun a ha b hb z => hoos b hb (by rw [← z]; exact ha)⟩
  · have e : i = ds.length := by omega
    subst e
    refine .inl ⟨wk.stop H' s', ?_⟩
    rw [List.drop_length] at hgo
    unfold lcGo at hgo
    cases (Option.some.inj hgo)
    rw [List.append_nil] at hys
    subst hys
    refine q _ H' (s1.trans s') ⟨D :: os.flatten, fun a ha => ?_, ?_, ?_⟩
    · rcases List.mem_cons.mp ha with z | z
      · rw [z]; exact s1.free hD
      · exact s1.free (hos a z).1
    · exact List.nodup_cons.mpr ⟨fun z => (hos D z).2 rfl, hnd⟩
    · refine .l hacc (ROA.mono_aux (same_hidW (Same.refl H') fun a ha => .inl ?_) racc fun _ _ => rfl)
      rcases List.mem_append.mp ha with z | z
      · rcases List.mem_cons.mp z with z | z
        · rw [z]; exact List.mem_append_right _ (.head _)
        · exact List.mem_append_left _ z
      · exact List.mem_append_right _ (List.mem_cons_of_mem _ z)
/-- name = [[..] for ..], the new lists the name's own -/
theorem ss_setLcF (i : Nat) {y : Str} {py : Pos} {elt tg iter : Expr} {ifs : List Expr} {scope : Scope} {own : List (Str × Nat)} {pos spos : Pos} {fi : FA} {ci ce : Esc} {t : Tg} {ft : FT} {fe : FE} (hc : X.calm = true) (hN : X.N.Nodup) (hi : PI X tg iter (tI K 1 fi ci)) (ok : BlkOk X.N X.env.scope scope own)
    (hg : ∀ (s : Shared) (H : Hp) (C : Addr) (cl : List (Str × Addr)) (fp : List Addr), PG (X.blk s H scope (compEnvC scope cl C X.env) fp) tg (tG K t)) (ht : ∀ (s : Shared) (H : Hp) (C : Addr) (cl : List (Str × Addr)) (fp : List Addr), PTs (X.blk s H scope (compEnvC scope cl C X.env) fp) ifs (tT K ft))
    (he : ∀ (s : Shared) (H : Hp) (C : Addr) (cl : List (Str × Addr)) (fp : List Addr), PE (X.blk s H scope (compEnvC scope cl C X.env) fp) elt (tD K .fr fe ce)) (hy : X.N[i]? = some y := by rfl) (hyl : X.env.scope.names.lookup y = some .local := by rfl)
    (hsw : swapsWith (.ListComp elt [⟨tg, iter, ifs, 0⟩] scope pos) (some (.Name y py)) spos.line X.env = pure true := by exact sw_true rfl rfl rfl (by decide +kernel)) (hv : t.ix.all ((own.map (·.2)).contains ·) = true := by rfl) (hs : ∀ x, foldedSetIterable iter X.env x = pure x := by intro _; rfl) :
    PS X (.Assign [.Name y py] (.ListComp elt [⟨tg, iter, ifs, 0⟩] scope pos) spos) (tS K (sSet i 2 (eLc fi t ft fe (own.map (·.2))) (ci ++ ce))) := (ps_setLc hc hN hy hyl hsw hi ok hg ht he hs).imp fun E σ H h => by
  obtain ⟨B, L, ρ, d, g, es, hf, q⟩ := set_ok (K := K) (i := i) (l := 2) (f := eLc fi t ft fe (own.map (·.2))) (c := ci ++ ce) (by decide) E σ H h
  exact lcF_core (m := 1) rfl hv σ H _ B L ρ d g es hf q fun ds Rr h1 hR => ⟨B, L, ρ, ds, g, es.left, h1, hR⟩
end
end DS
end

section
set_option Elab.async false
set_option linter.all false
set_option maxRecDepth 100000
set_option maxHeartbeats 1000000
/-! Part i of the dicts' row: [::-1] of lists and tuples, index of tuples, a chain's value. -/
namespace DS
open PySem PySem.Spec PyProof.Rows L2
section
variable {prog : Program} {w : World} {A : Around} {E : Value → Shared → Prop} {s : Shared}
theorem part_back {Q : Option Int → Shared → Prop} {v : Value} (p : IsPart v (some (-1))) (h : Q (some (-1)) s) : wpAny (model prog w) A (Builtin.Slice.slicePartIndex v) Q E s := HT.slicePart_ p h
theorem sliceApplied_rev {sl : Addr} {vl vu vs : Value} {n : Nat} {Q : Int × Int × Nat → Shared → Prop} (hs : s.heap.IsSliceOf sl vl vu vs) (pl : IsPart vl none) (pu : IsPart vu none) (ps : IsPart vs (some (-1)))
    (h : Q ((n : Int) - 1, -1, n) s) : wpAny (model prog w) A (Builtin.Slice.sliceApplied (.ref sl) (pure (n : Int))) Q E s := by
  obtain ⟨os, hos, hcs, hds⟩ := id hs
  unfold Builtin.Slice.sliceApplied Builtin.Slice.sliceFields
  refine wpAny_bind (wpAny_bind (wpAny_field hos hds (x := vl) rfl (wpAny_bind (wpAny_field hos hds (x := vu) rfl (wpAny_bind (wpAny_field hos hds (x := vs) rfl (wpAny_pure ?_)))))))
  refine wpAny_bind (HT.slicePart_ ps ?_)
  show wpAny _ _ (if ((-1 : Int) == 0) = true then _ else _) _ _ s
  rw [if_neg (by decide)]
  refine wpAny_bind (HT.slicePart_ pl (wpAny_bind (HT.slicePart_ pu (wpAny_bind (wpAny_pure ?_)))))
  have e : Builtin.Slice.slicePlaces ((n : Int) - 1) (-1) (-1) = n := by
    unfold Builtin.Slice.slicePlaces
    have h1 : ¬ ((-1 : Int) > 0) := by omega
    have h2 : (-(-1 : Int)) = 1 := rfl
    simp only [h1, if_false, h2, Int.ediv_one]
    split <;> omega
  show wpAny _ _ (pure ((n : Int) - 1, (-1 : Int), Builtin.Slice.slicePlaces ((n : Int) - 1) (-1) (-1))) _ _ s
  rw [e]
  exact wpAny_pure h
theorem fm_congr {α β : Type} {f g : α → Option β} : ∀ {l : List α}, (∀ a ∈ l, f a = g a) → l.filterMap f = l.filterMap g
  | [], _ => rfl
  | a :: l, h => by
    rw [List.filterMap_cons, List.filterMap_cons, h a (.head _), fm_congr fun b hb => h b (.tail _ hb)]
theorem fm_all {α : Type} : ∀ (l : List α), ((List.range l.length).filterMap fun m => l[m]?) = l
  | [] => rfl
  | a :: l => by
    rw [List.length_cons, List.range_succ_eq_map, List.filterMap_cons]
    simp only [List.getElem?_cons_zero, List.filterMap_map]
    congr 1
    exact fm_all l
theorem pick_rev (xs : Array Value) : ((List.range xs.size).filterMap fun (m : Nat) => xs[(((xs.size : Int) - 1) + (m : Int) * (-1)).toNat]?).toArray = xs.toList.reverse.toArray := by
  congr 1
  have e := fm_all xs.toList.reverse
  rw [List.length_reverse, Array.length_toList] at e
  rw [← e]
  refine fm_congr fun m hm => ?_
  have hm := List.mem_range.mp hm
  have e1 : (((xs.size : Int) - 1) + (m : Int) * (-1)).toNat = xs.size - 1 - m := by omega
  rw [e1, ← Array.getElem?_toList, List.getElem?_reverse (by rw [Array.length_toList]; exact hm), Array.length_toList]
theorem getItem_tuple_rev {t sl : Addr} {items : Array Value} {vl vu vs : Value} {Q : Value → Shared → Prop} (ht : IsTup s.heap t items) (hs : s.heap.IsSliceOf sl vl vu vs) (pl : IsPart vl none) (pu : IsPart vu none) (ps : IsPart vs (some (-1)))
    (h : Q (.ref s.heap.objs.size) { s with heap := s.heap.push { cls := .type "tuple", data := .seq items.toList.reverse.toArray } })
    (hsz : items.size ≤ sizeLine) : wpAny (model prog w) A (getItem (.ref t) (.ref sl)) Q E s := by
  have htake : sizeOk (.seq items.toList.reverse.toArray) := by
    show items.toList.reverse.toArray.size ≤ sizeLine
    rw [List.size_toArray, List.length_reverse, Array.length_toList]
    exact hsz
  obtain ⟨os, hos, hcs, hds⟩ := id hs
  have hTs : s.TypeIs (.ref sl) "slice" := ⟨os, hos, hcs⟩
  unfold getItem
  try with_reducible refine wpAny_holding ?_
  first | refine wpAny_bind (wpAny_pure ?_) | skip
  refine wpAny_bind (wpAny_sequenceKey ht.typeIs (by decide) ?_)
  refine wpAny_bind (wpAny_callSpecial?_slot (name := Str.ofString "__getitem__") ht.typeIs PyProof.Rows.slot_tuple_getitem
    (wpAny_call_entry PyProof.Rows.slot_tuple_getitem ht.typeIs PyProof.Rows.entry_tuple_getitem ?_ (PyProof.Rows.args_tuple_getitem _ _)))
  show wpAny _ _ (Builtin.Tuple.tupleItemsOf (.ref t) >>= _) _ _ s
  refine wpAny_bind (PyProof.Rows.tupleItemsOf_ ht ?_)
  refine wpAny_bind (wpAny_typeOf hTs ?_)
  rw [if_pos (by decide)]
  refine wpAny_bind (sliceApplied_rev hs pl pu ps ?_)
  show wpAny _ _ (if (((items.size : Int) - 1) == 0 && (-1 : Int) == 1 && items.size == items.size) = true then _ else _) _ _ s
  rw [if_neg (by simp), pick_rev]
  first
    | exact wpAny_bind (m := Builtin.Tuple.tupleExact _) (wpAny_newObj_type (wpAny_pure ⟨_, rfl, wpAny_pure h⟩) htake)
    | exact wpAny_bind (m := Builtin.Tuple.tupleExact _) (wpAny_newObj_type (wpAny_bind (wpAny_pure (wpAny_pure ⟨_, rfl, wpAny_pure h⟩))) htake)
    | exact wpAny_bind (wpAny_bind (m := Builtin.Tuple.tupleExact _) (wpAny_newObj_type (wpAny_pure (wpAny_pure ⟨_, rfl, wpAny_pure h⟩)) htake))
    | exact wpAny_bind (wpAny_bind (m := Builtin.Tuple.tupleExact _) (wpAny_newObj_type (wpAny_pure ⟨_, rfl, wpAny_pure h⟩) htake))
end
/-! ### e[::-1] -/
def tRevA (K : PySem.W.Frag) (te : TE) : TE := fun σ H Q => te σ H fun x H1 => ∃ a xs, x = .ref a ∧ ((SqL K H1 a xs ∧ ∀ p, H1 p = none → Q (.ref p) (upd H1 p (.lst xs.reverse))) ∨ (SqT K H1 a xs ∧ ∀ p, H1 p = none → Q (.ref p) (upd H1 p (.tup xs.reverse))))
theorem pe_revA {X : Cx} {e : Expr} {te : TE} {k : Nat} {p1 p2 p3 pos : Pos} (he : PE X e te) : PE X (.Subscript e (.Slice none none (some (.UnaryOp .USub (.Constant (.int 1) k p1) p2)) p3) pos) (tRevA X.K te) := by
  refine ⟨fun pins s σ H Q I h => ?_⟩
  refine Subscript_ (thn (he.run pins s σ H _ I h) fun v s1 ⟨x, H1, I1, r1, q1⟩ => ?_)
  obtain ⟨a, xs, ex, hor⟩ := q1
  subst ex
  cases r1
  have hst : PO X (some (.UnaryOp .USub (.Constant (.int 1) k p1) p2)) (tPart (tUn (rU fun i => .int (-i)) (tC (.int 1)))) := po_some (pe_un un_neg pe_int)
  refine wpAny_Slice (thn (po_none.run pins s1 σ H1 (fun o H2 => o = none ∧ H2 = H1) I1 ⟨rfl, rfl⟩) fun vl s2 ⟨l, H2, I2, pl, el, e2⟩ => ?_)
  subst el e2
  refine thn (po_none.run pins s2 σ H2 (fun o H3 => o = none ∧ H3 = H2) I2 ⟨rfl, rfl⟩) fun vu s3 ⟨u, H3, I3, pu, eu, e3⟩ => ?_
  subst eu e3
  refine thn (hst.run pins s3 σ H3 (fun o H4 => o = some (-1) ∧ H4 = H3) I3 ⟨1, rfl, -1, rfl, rfl, rfl⟩) fun vs s4 ⟨o, H4, I4, ps, eo, e4⟩ => ?_
  subst eo e4
  have I5 : Inv X pins σ H4 { s4 with heap := s4.heap.push { cls := .type "slice", data := .fields #[vl, vu, vs] } } := I4.kept (t' := s4.toks) fun b ob q => Heap.get?_push_of_some _ q
  show wpAny (model X.prog X.w) X.A (subscriptTail e (.Slice none none (some (.UnaryOp .USub (.Constant (.int 1) k p1) p2)) p3) (.ref a) (.ref s4.heap.objs.size)) (EP X pins σ Q) X.xe { s4 with heap := s4.heap.push { cls := .type "slice", data := .fields #[vl, vu, vs] } }
  rcases hor with ⟨hx, q⟩ | ⟨hx, q⟩
  · obtain ⟨its, r, ht, hz⟩ := I5.list hx
    have hlen := r.length
    refine tail_any (ops := [.ref a, .ref s4.heap.objs.size]) ht.isList.typeIs (PySem.slot_list_getitem.lookup) ?_ (by with_unfolding_all rfl)
    refine wpAny_getItem_list_slice ht.isList (Heap.IsSliceOf.new _ vl vu vs) pl pu ps (by decide) ?_ (by rw [List.size_toArray]; omega)
    rw [PySem.W.krv_pick]
    refine ⟨.ref _, _, I5.laid (t' := s4.toks) (o := .lst xs.reverse) (fun b ob q => Heap.get?_push_of_some _ q) (Nat.le_refl _) ?_, rfl, q _ (I5.hok.fresh (Nat.le_refl _))⟩
    exact ⟨by rw [List.length_reverse]; exact hz, _, 0, r.reverse, Heap.get?_push_size _ rfl⟩
  · obtain ⟨its, r, ht, hz⟩ := I5.tuple hx
    have hlen := r.length
    refine tail_any (ops := [.ref a, .ref s4.heap.objs.size]) ht.typeIs (PyProof.Rows.slot_tuple_getitem.lookup) ?_ (by with_unfolding_all rfl)
    refine getItem_tuple_rev ht (Heap.IsSliceOf.new _ vl vu vs) pl pu ps ?_ (by rw [List.size_toArray]; omega)
    refine ⟨.ref _, _, I5.laid (t' := s4.toks) (o := .tup xs.reverse) (fun b ob q => Heap.get?_push_of_some _ q) (Nat.le_refl _) ?_, rfl, q _ (I5.hok.fresh (Nat.le_refl _))⟩
    exact ⟨by rw [List.length_reverse]; exact hz, _, r.reverse, IsTup.new _ _⟩
def dRev : D → Option D
  | .list ds => some (.list ds.reverse)
  | .tuple ds => some (.tuple ds.reverse)
  | _ => none
def eRev (f : FE) : FE := fun ρ => o1 (f ρ) dRev
@[simp] theorem eRev_a (f : FE) (ρ : PEnv) : eRev f ρ = o1 (f ρ) dRev := id rfl
@[simp] theorem dRev_l (ds : List D) : dRev (.list ds) = some (.list ds.reverse) := id rfl
@[simp] theorem dRev_t (ds : List D) : dRev (.tuple ds) = some (.tuple ds.reverse) := id rfl
theorem same_hidC' {B : List Addr} {H : Hp} {p : Addr} {o : HO} (n : H p = none) : Same (hid B H) (hid (p :: B) (upd H p o)) := same_hidW (same_upd n) fun a h => by
  rcases List.mem_cons.mp h with e | h
  · rw [e]; exact .inr n
  · exact .inl h
theorem qe_rev {X : Cx} {K : PySem.W.Frag} {κ : Mo} {a : Expr} {fa : FE} {c : Esc} {k : Nat} {p1 p2 p3 pos : Pos} (ha : PE X a (tD K (.br 1) fa c)) (hX : X.K = K := by rfl) (hκ : κ.one = true := by rfl) :
    PE X (.Subscript a (.Slice none none (some (.UnaryOp .USub (.Constant (.int 1) k p1) p2)) p3) pos) (tD K κ (eRev fa) c) := (pe_revA ha).imp fun σ H Q ⟨B, L, ρ, d, g, es, hf, q⟩ => by
  subst hX
  obtain ⟨dx, h1, h2⟩ := o1_some hf
  refine ⟨B, L, ρ, dx, g, es, h1, fun x H1 s1 p1 => ?_⟩
  have ok := g.ok.mono s1
  unfold dRev at h2
  split at h2
  · cases (Option.some.inj h2)
    obtain ⟨p, ys, rfl, h1, h2⟩ := p1.list1
    refine ⟨p, ys, rfl, .inl ⟨SqL.of h1, fun t nt => q _ _ (s1.trans (same_upd nt)) ?_⟩⟩
    exact Post.new (κ := κ) (H' := upd H1 t (.lst ys.reverse)) g.ok.trk (s1.free nt) upd_same (h2.reverse.mono (same_hidC' nt)) hκ
  · cases (Option.some.inj h2)
    obtain ⟨p, ys, rfl, h1, h1', h2⟩ := p1.tup
    refine ⟨p, ys, rfl, .inr ⟨h1, fun t nt => ?_⟩⟩
    have s := same_upd (o := HO.tup ys.reverse) nt
    refine q _ _ (s1.trans s) (Post.of_flat (.tup (a := t) (xs := ys.reverse) ?_ (h2.reverse.mono (same_hid s))) rfl)
    rw [hid_out (ok.trk.new nt), upd_same]
  · cases h2
end DS
end

section
set_option Elab.async false
set_option linter.all false
set_option maxRecDepth 100000
set_option maxHeartbeats 1000000
/-! sorted(xs, key=f), where f's calls are only known by what they keep of the layer's heap. -/
namespace PySem.W
open PySem PySem.Calls PyProof.Rows
section
variable {prog : Program} {w : World} {A : Around} {E : Value → Shared → Prop} {s : Shared} {a kS : Addr} {b : Bool} {vs : List Value} {keys : Array Value} {e e1 : Nat} {P : PySem.Fin → Shared → Prop} {kz : List PyData}
theorem keyG_tail {st : SortSt} {out : List Value} (nk : s.heap.get? kS = some (seqObj "list" keys e)) (na : s.heap.get? a = some (seqObj "list" #[] e1)) (hka : kS ≠ a)
    (hsz : keys.size ≤ sizeLine) (hz : out.length ≤ sizeLine) (hfl : failedOf st = none) (ho : (if b = true then ((arrOf st).map (·.2)).reverse else (arrOf st).map (·.2)) = out.toArray)
    (h : ∀ (hm h' : Heap) (tk c : Nat), (∀ x o, x ≠ kS → s.heap.get? x = some o → hm.get? x = some o) → (∀ x o, x ≠ a → hm.get? x = some o → h'.get? x = some o) → h'.get? a = some (seqObj "list" out.toArray c) → P (.done (.ret .none)) { s with heap := h', toks := tk }) :
    wpAny (model prog w) A (ksk_tail a b e1 (.ref kS) st) P E s := by
  have s1 := Heap.SameBut.update s.heap kS (Obj.mapSeq fun _ => (#[] : Array Value))
  have na1 : (s.heap.update kS (Obj.mapSeq fun _ => (#[] : Array Value))).get? a = some (seqObj "list" #[] e1) := (s1.2 a hka.symm).trans na
  have s2 := Heap.SameBut.update (s.heap.update kS (Obj.mapSeq fun _ => (#[] : Array Value))) a (Obj.mapSeq fun _ => out.toArray)
  obtain ⟨c2, hc2⟩ : ∃ c2, ((s.heap.update kS (Obj.mapSeq fun _ => (#[] : Array Value))).update a (Obj.mapSeq fun _ => out.toArray)).get? a = some (seqObj "list" out.toArray c2) :=
    ⟨_, get?_update_seq na1 fun _ => out.toArray⟩
  have hz2 : out.toArray.size ≤ sizeLine + 1 := by
    rw [List.size_toArray]
    exact Nat.le_succ_of_le hz
  unfold ksk_tail
  try dsimp only
  rw [ho]
  refine wpAny_bind (listUpdate_at nk rfl ?_ hsz (Nat.zero_le _))
  refine wpAny_bind (wpAny_letGo ?_)
  refine wpAny_bind (seqEpoch_at na1 rfl ?_)
  refine wpAny_bind (listUpdate_at na1 rfl ?_ (Nat.zero_le _) hz2)
  rw [hfl]
  simp only [bne_self_eq_false, Bool.false_eq_true, if_false]
  exact wpAny_pure (h _ _ _ c2 (fun x o hx e => (s1.2 x hx).trans e) (fun x o hx e => (s2.2 x hx).trans e) hc2)
theorem keyG_end {κ : PyProof.Rows.KeyKind} (nk : s.heap.get? kS = some (seqObj "list" keys e)) (na : s.heap.get? a = some (seqObj "list" #[] e1)) (hka : kS ≠ a)
    (S : SortsAt prog w A s κ keys.toList) (hsz : keys.size = vs.length) (hZ : vs.length ≤ sizeLine)
    (h : ∀ (hm h' : Heap) (tk c : Nat), (∀ x o, x ≠ kS → s.heap.get? x = some o → hm.get? x = some o) → (∀ x o, x ≠ a → hm.get? x = some o → h'.get? x = some o) → h'.get? a = some (seqObj "list" (sortVals κ b keys.toList vs).toArray c) → P (.done (.ret .none)) { s with heap := h', toks := tk }) :
    wpAny (model prog w) A (ksk_end a b vs.toArray e1 (.ref kS) keys) P E s := by
  obtain ⟨kd, h1, h2⟩ := S.kind
  have hkl : keys.toList.length = vs.length := by
    rw [Array.length_toList]
    exact hsz
  have hK : PyProof.Rows.KeysOf κ (keys.zip vs.toArray) := keysOf_zip S.keys
  have hol : (sortVals κ b keys.toList vs).length = vs.length := sortVals_length b hkl
  have hstart : (if b = true then (keys.zip vs.toArray).reverse else keys.zip vs.toArray).Perm (keys.zip vs.toArray) := by
    cases b with
    | false => exact Array.Perm.refl _
    | true => exact Array.perm_iff_toList_perm.mpr (by rw [if_pos rfl, Array.toList_reverse]; exact List.reverse_perm _)
  have hss : (if b = true then (keys.zip vs.toArray).reverse else keys.zip vs.toArray).size = vs.length := by rw [hstart.size_eq, Array.size_zip, hsz, List.size_toArray, Nat.min_self]
  have fin : ∀ st' : SortSt, (arrOf st').Perm (if b = true then (keys.zip vs.toArray).reverse else keys.zip vs.toArray) → SortedToK κ (arrOf st') (if b = true then (keys.zip vs.toArray).reverse else keys.zip vs.toArray).size →
      Stable κ (arrOf st') (if b = true then (keys.zip vs.toArray).reverse else keys.zip vs.toArray) → (if b = true then ((arrOf st').map (·.2)).reverse else (arrOf st').map (·.2)) = (sortVals κ b keys.toList vs).toArray := by
    intro st' hp hs ht
    have e := sort_out (rev := b) (keys := keys) (items := vs.toArray) (xs := arrOf st') (κ := κ) hK hp hs ht
    have e' := congrArg List.toArray e
    rw [Array.toArray_toList] at e'
    exact e'
  have step : ∀ t : Sem PySem.Fin, wpAny (model prog w) A t P E s → wpAny (model prog w) A (if b = true then (do let _ ← rule "list.sort.reverse"; t) else t) P E s := by
    intro t ht
    split
    · exact wpAny_bind (wpAny_rule ht)
    · exact ht
  unfold ksk_end
  try dsimp only
  refine step _ ?_
  by_cases hl2 : vs.toArray.size < 2
  · rw [if_pos hl2, if_pos hl2]
    refine wpAny_bind (wpAny_pure ?_)
    rw [StateT.run_pure]
    refine wpAny_bind (wpAny_pure ?_)
    try dsimp only
    refine keyG_tail (st := SortSt.mk' general' (if b = true then (keys.zip vs.toArray).reverse else keys.zip vs.toArray) #[] 7 none) nk na hka (by rw [hsz]; exact hZ) (by rw [hol]; exact hZ) rfl (fin _ (Array.Perm.refl _) ?_ (Stable.refl _)) h
    intro i j hij hj
    rw [hss] at hj
    rw [List.size_toArray] at hl2
    have : i = j := by omega
    subst this
    exact KeyOrd.kle_refl _
  · rw [if_neg hl2, if_neg hl2]
    rw [List.size_toArray] at hl2
    refine wpAny_bind (h2 (by omega) _ ?_)
    refine wpAny_bind (wpAny_mono (H.wpS_sortRunsSt (κ := κ) (kd := kd) (a₀ := if b = true then (keys.zip vs.toArray).reverse else keys.zip vs.toArray)
      (st := SortSt.mk' kd (if b = true then (keys.zip vs.toArray).reverse else keys.zip vs.toArray) #[] 7 none)
      (Q := fun _ st' => failedOf st' = none ∧ (if b = true then ((arrOf st').map (·.2)).reverse else (arrOf st').map (·.2)) = (sortVals κ b keys.toList vs).toArray)
      h1 (hK.perm hstart) ⟨Array.Perm.refl _, rfl, rfl⟩ rfl (Stable.refl _) (by rw [hss]; omega) fun st' a1 a2 a3 a4 => ⟨a2, fin st' a1 a3 a4⟩) ?_ fun _ _ e => e)
    rintro ⟨⟨⟩, st'⟩ s' ⟨rfl, hf, ho⟩
    try dsimp only at ho ⊢
    exact keyG_tail nk na hka (by rw [hsz]; exact hZ) (by rw [hol]; exact hZ) hf ho h
end
end PySem.W
namespace DS
open PySem PySem.Spec PyProof.Rows L2 PySem.W PySem.Calls
section
variable {X : Cx} {pins : List (Addr × Obj)} {σ : L2.St} {H : Hp} {s : Shared}
/-- an address of an object made since: free for whatever is pinned there -/
structure Fresh (X : Cx) (pins : List (Addr × Obj)) (a : Addr) : Prop where
  nl : a ≠ X.env.locals
  nf : a ∉ X.fs
  sz : X.s_0.heap.objs.size ≤ a
  nc : ∀ x c, X.env.cells.lookup x = some c → c ≠ a
  np : ∀ p ∈ X.pn ++ pins, p.1 ≠ a
theorem fresh_of (I : Inv X pins σ H s) {a : Addr} (h : s.heap.objs.size ≤ a) : Fresh X pins a := by
  refine ⟨fun z => ?_, I.nofs h, Nat.le_trans I.sz h, fun x c e z => ?_, fun p hp z => ?_⟩
  · have q := I.lt
    rw [← z] at q
    exact absurd (Nat.lt_of_lt_of_le q h) (Nat.lt_irrefl _)
  · obtain ⟨v, o, ho, _⟩ := I.cell x c e
    have q := Heap.lt_size ho
    rw [z] at q
    exact absurd (Nat.lt_of_lt_of_le q h) (Nat.lt_irrefl _)
  · have q := Heap.lt_size (I.pin p hp).1
    rw [z] at q
    exact absurd (Nat.lt_of_lt_of_le q h) (Nat.lt_irrefl _)
theorem Fresh.nil {a : Addr} (f : Fresh X pins a) : ∀ p ∈ X.pn ++ ([] : List (Addr × Obj)), p.1 ≠ a := fun p hp => f.np p (List.mem_append_left _ (by simpa using hp))
theorem Inv.unpin {q : Addr × Obj} (I : Inv X (q :: pins) σ H s) : Inv X pins σ H s := I.pins_of fun p hp => by
  have := I.pin p (List.mem_append_right _ (.tail _ hp))
  exact this
/-- an own untracked object is tracked from now on -/
theorem Inv.track {a : Addr} {o : HO} (I : Inv X pins σ H s) (f : Fresh X pins a) (n : H a = none) (new : ObjOk X.prog X.w (upd H a o) s.heap a o) : Inv X pins σ (upd H a o) s := by
  have ns : ∀ b ob, X.s_0.heap.get? b = some ob → b ≠ a := fun b ob e z => by
    have q := Heap.lt_size e
    rw [z] at q
    exact absurd (Nat.lt_of_lt_of_le q f.sz) (Nat.lt_irrefl _)
  refine ⟨I.ok, I.os, I.bare, ⟨I.base.keep, I.base.slot, fun b ob e n' hx => ?_, I.base.there, fun b xs e => ?_, fun b ob u e => ?_, fun b ps e => ?_⟩, I.loc, I.cell, ?_, fun x c e => ?_, fun p hp => ?_, ?_, I.len⟩
  · rw [upd_ne (ns b ob e)]; exact I.base.free b ob e n' hx
  · have z := I.base.tups b xs e
    rw [upd_ne (ne_of_none z n)]; exact z
  · have z := I.base.frzs b ob u e
    rw [upd_ne (ne_of_none z n)]; exact z
  · obtain ⟨m, z⟩ := I.base.tbls b ps e
    exact ⟨m, by rw [upd_ne (ne_of_none z n)]; exact z⟩
  · rw [upd_ne f.nl.symm]; exact I.free
  · rw [upd_ne (f.nc x c e)]; exact I.freeC x c e
  · obtain ⟨e, h, r⟩ := I.pin p hp
    exact ⟨e, by rw [upd_ne (f.np p hp)]; exact h, r⟩
  · intro b u e
    by_cases hb : b = a
    · subst hb; rw [upd_same] at e; cases e; exact new
    · rw [upd_ne hb] at e
      exact (I.hok b u e).stay (fun c v _ q => q) (fun c q => by rw [upd_ne (ne_of_none q n)]; exact q) fun c xs q => by rw [upd_ne (ne_of_none q n)]; exact q
theorem Inv.repin {a : Addr} {o : Obj} (I : Inv X pins σ H s) (f : Fresh X [] a) (n : H a = none) (h : s.heap.get? a = some o) (d : ∀ v, o.data ≠ .cell v) : Inv X ((a, o) :: pins) σ H s := I.pins_of fun p hp => by
  rcases List.mem_cons.mp hp with e | hp
  · rw [e]; exact ⟨h, n, f.nl, f.nf, d⟩
  · exact I.pin p (List.mem_append_right _ hp)
theorem seq_nocell {c : String} {xs : Array Value} {n : Nat} : ∀ v, (seqObj c xs n).data ≠ .cell v := fun v z => by cases z
/-- all the turns of a sort's key, then the sort -/
theorem keyI_rest {f : Value} {a kS : Addr} {e1 : Nat} {vs : List Value} {xs : List V} {kz : List PyData} {b : Bool} {P : PySem.Fin → Shared → Prop} {E : Value → Shared → Prop} (I : Inv X pins σ H s)
    (fa : Fresh X pins a) (fk : Fresh X pins kS) (nHa : H a = none) (nHk : H kS = none) (hka : kS ≠ a) (nk : s.heap.get? kS = some (seqObj "list" #[] 0)) (na : s.heap.get? a = some (seqObj "list" #[] e1))
    (rv : Vals xs vs) (hlen : kz.length = vs.length) (hZ : vs.length ≤ sizeLine) (hlay : PyData.canLayAll0 kz = true) (hal : AllAlike kz) (hsk : ∀ d ∈ kz, d ≠ .none) (hu : ∀ d, d ∈ kz → X.A.in1.in1.units + d.depth < cLine)
    (turn : ∀ (i : Nat) (x : V) (k : PyData), xs[i]? = some x → kz[i]? = some k → ∀ pins' s' H', Inv X pins' σ H' s' → Same H H' → ∀ v, RelV x v →
      wpAny (model X.prog X.w) X.A.in1.in1 (call f [v]) (fun u s'' => ∃ z H'', Inv X pins' σ H'' s'' ∧ Same H' H'' ∧ RelV z u ∧ R X.K H'' z k) (fun _ _ => False) s')
    (h : ∀ s' H' out c, Inv X pins σ H' s' → Same H H' → H' a = none → s'.heap.get? a = some (seqObj "list" (List.toArray out) c) → KeyedOut b kz vs out → P (.done (.ret .none)) s') :
    wpAny (model X.prog X.w) X.A.in1.in1 (ksk_rest a f b vs.toArray e1 (.ref kS)) P E s := by
  unfold ksk_rest
  refine wpAny_bind (wpAny_rule ?_)
  first
    | rw [List.forIn_toArray]
    | (rw [← Array.forIn_toList]; simp only [List.toList_toArray])
    | rw [← Array.forIn_toList]
  have fk0 : Fresh X [] kS := ⟨fk.nl, fk.nf, fk.sz, fk.nc, fk.nil⟩
  have fa0 : Fresh X [] a := ⟨fa.nl, fa.nf, fa.sz, fa.nc, fa.nil⟩
  refine wpAny_bind (ksk_fold (fun i s' => ∃ H' kA e zs, Inv X ((kS, seqObj "list" kA e) :: (a, seqObj "list" #[] e1) :: pins) σ H' s' ∧ Same H H' ∧ Vals zs kA.toList ∧ RA X.K H' zs (kz.take i)) vs 0 s
    ⟨H, #[], 0, [], ?i0, Same.refl H, .nil, by rw [List.take_zero]; exact .nil⟩ ?step ?done)
  case i0 => exact Inv.repin (Inv.repin I fa0 nHa na seq_nocell) fk0 nHk nk seq_nocell
  case step =>
    rintro j x s' hx ⟨H', kA, e, zs, I', sm, rz, dz⟩
    simp only [Nat.zero_add] at dz ⊢
    have hj : j < vs.length := (List.getElem?_eq_some_iff.mp hx).1
    obtain ⟨k, hkj⟩ : ∃ k, kz[j]? = some k := ⟨_, List.getElem?_eq_getElem (by omega)⟩
    obtain ⟨xv, hxv⟩ : ∃ xv, xs[j]? = some xv := ⟨_, List.getElem?_eq_getElem (by have := rv.length; omega)⟩
    have rx : RelV xv x := by
      obtain ⟨u, e2, r⟩ := rv.get hxv
      rw [hx] at e2; cases e2; exact r
    have zl : zs.length = j := by
      have h1 := dz.length
      rw [List.length_take] at h1
      omega
    have hz : kA.size ≤ vs.length := by
      have h2 := rz.length
      have h3 : kA.toList.length = kA.size := Array.length_toList
      omega
    refine wpAny_bind (wpAny_attempt (wpAny_mono (turn j xv k hxv hkj _ s' H' I' sm x rx) (fun u s'' he => ?_) fun _ _ hF => hF.elim))
    obtain ⟨z, H'', I2, sm2, ru, du⟩ := he
    try dsimp only
    have nk2 : s''.heap.get? kS = some (seqObj "list" kA e) := (I2.pin _ (List.mem_append_right _ (.head _))).1
    have nH2 : H'' kS = none := (I2.pin _ (List.mem_append_right _ (.head _))).2.1
    have s1 := Heap.SameBut.update s''.heap kS (Obj.mapSeq (·.push u))
    obtain ⟨c2, hc2⟩ : ∃ c2, (s''.heap.update kS (Obj.mapSeq (·.push u))).get? kS = some (seqObj "list" (kA.push u) c2) := ⟨_, get?_update_seq nk2 (·.push u)⟩
    have ek : kz.take (j + 1) = kz.take j ++ [k] := by rw [List.take_add_one, hkj]; simp
    have ea : (kA.push u).toList = kA.toList ++ [u] := by simp
    refine wpAny_bind (listUpdate_at nk2 rfl ?_ (Nat.le_trans hz hZ) (Nat.le_trans (Nat.le_of_eq (Array.size_push ..)) (Nat.succ_le_succ (Nat.le_trans hz hZ))))
    have I3 : Inv X ((a, seqObj "list" #[] e1) :: pins) σ H'' s'' := Inv.unpin I2
    have I4 := I3.turned (t' := s''.toks) (it := kS) (h' := s''.heap.update kS (Obj.mapSeq (·.push u))) (fun b o hb e => (s1.2 b hb).trans e) nH2 fk.nl (.inr fk.sz) fk.nc (fun p hp => by
      rcases List.mem_append.mp hp with q | q
      · exact fk.np p (List.mem_append_left _ q)
      · rcases List.mem_cons.mp q with q | q
        · rw [q]; exact hka.symm
        · exact fk.np p (List.mem_append_right _ q))
    refine wpAny_pure ⟨rfl, H'', kA.push u, c2, zs ++ [z], Inv.repin I4 fk0 nH2 hc2 seq_nocell, sm.trans sm2, ?_, ?_⟩
    · rw [ea]; exact rz.append (.cons ru .nil)
    · rw [ek]
      exact (dz.mono sm2).append (.cons du .nil)
  case done =>
    rintro s' ⟨H', kA, e, zs, I', sm, rz, dz⟩
    have e3 : kz.take (0 + vs.length) = kz := List.take_of_length_le (by omega)
    rw [e3] at dz
    obtain ⟨as, ra⟩ := Dp.readsAll I' _ _ _ (RA.toDp dz hlay) rz
    have hk' : EachIs (fun v k => ∃ as, Reads s'.heap v k as) kA.toList kz := by
      have := readsAll_each (h := s'.heap) (vs := kA.toList) (bs := kz) (as := as) (fun d => d) (by rw [List.map_id']; exact ra)
      exact this
    have hsz : kA.size = vs.length := by
      have h1 := hk'.length
      rw [Array.length_toList] at h1
      omega
    have nk' : s'.heap.get? kS = some (seqObj "list" kA e) := (I'.pin _ (List.mem_append_right _ (.head _))).1
    have nH' : H' kS = none := (I'.pin _ (List.mem_append_right _ (.head _))).2.1
    have na' : s'.heap.get? a = some (seqObj "list" #[] e1) := (I'.pin _ (List.mem_append_right _ (.tail _ (.head _)))).1
    have nA' : H' a = none := (I'.pin _ (List.mem_append_right _ (.tail _ (.head _)))).2.1
    try dsimp only
    refine wpAny_bind (listItems_at nk' rfl ?_)
    refine keyG_end (κ := dataKind s'.heap kz) nk' na' hka (SortsAt.any hk' hal hsk hu) hsz hZ fun hm h' tk c k1 k2 hD => ?_
    have J1 : Inv X pins σ H' { s' with heap := hm, toks := s'.toks } := (Inv.unpin (Inv.unpin I')).turned (it := kS) k1 nH' fk.nl (.inr fk.sz) fk.nc fk.np
    have J2 : Inv X pins σ H' { s' with heap := h', toks := tk } := Inv.turned (s := { s' with heap := hm, toks := s'.toks }) (t' := tk) (it := a) J1 k2 nA' fa.nl (.inr fa.sz) fa.nc fa.np
    exact h _ H' _ c J2 sm nA' hD ⟨s'.heap, kA.toList, hal, rfl, hk'⟩
end

/-- what key= gives of a list's items -/
def keyLs (F : Fn) : List D → Option (List D)
  | [] => some []
  | d :: ds => match F [d], keyLs F ds with
    | some k, some ks => some (k :: ks)
    | _, _ => none
theorem keyLs_get {F : Fn} : ∀ {ds ks : List D}, keyLs F ds = some ks → ds.length = ks.length ∧ ∀ (i : Nat) (d k : D), ds[i]? = some d → ks[i]? = some k → F [d] = some k
  | [], ks, h => by cases (Option.some.inj h); exact ⟨rfl, fun i d k e _ => by simp at e⟩
  | d :: ds, ks, h => by
    unfold keyLs at h
    split at h
    · rename_i k ks' h1 h2
      cases (Option.some.inj h)
      obtain ⟨a1, a2⟩ := keyLs_get h2
      refine ⟨by simp [a1], fun i x y e1 e2 => ?_⟩
      cases i with
      | zero => simp at e1 e2; rw [← e1, ← e2]; exact h1
      | succ i => exact a2 i x y (by simpa using e1) (by simpa using e2)
    · cases h
def dSortK (F : Fn) : D → Option D
  | .list ds => match keyLs F ds with
    | some ks => if allCmp ks = true then some (.list (((ds.zip ks).mergeSort (fun u v => leD u.2 v.2)).map (·.1))) else none
    | none => none
  | _ => none
def eSortK (F : Fn) (f : FE) : FE := fun ρ => o1 (f ρ) (dSortK F)
@[simp] theorem eSortK_a (F : Fn) (f : FE) (ρ : PEnv) : eSortK F f ρ = o1 (f ρ) (dSortK F) := id rfl
def rSortK (K : PySem.W.Frag) (F : Fn) (fa : Addr) : List V → List V → Hp → VK → Prop := fun vs zs H Q => ∃ a xs ds ks, vs = [.ref a] ∧ zs = [.ref fa] ∧ SqL K H a xs ∧ RA K H xs ds ∧ keyLs F ds = some ks ∧ allCmp ks = true ∧
  ∀ H' p, Same H H' → H' p = none → Q (.ref p) (upd H' p (.lst (((xs.zip ks).mergeSort (fun u v => leD u.2 v.2)).map (·.1))))
section
variable {X : Cx} {K : PySem.W.Frag}
theorem crk_sortedK {fa : Addr} {fd : FuncData} {ps : List Str} {F : Fn} {k : Nat} (G : FnOk X.prog X.w X.K X.mg X.base CX0 k fa fd ps (spD X.K 1 F)) (hr : Room (k + 2) X.A) (hb : Binds X.K fd ps []) : CallRK X (.builtin "sorted") [Str.ofString "key"] (rSortK X.K F fa) := by
  intro pins s σ H vs zs us ws Q I r rz h
  obtain ⟨a, xs, ds, ks, rfl, rfl, hs, ra, hk, ok, q⟩ := h
  obtain ⟨f1, f2, f3⟩ := allCmp_facts ok
  obtain ⟨kl, kg⟩ := keyLs_get hk
  obtain ⟨its, rv, hl, hz⟩ := I.list hs
  have hlen := ra.length
  have hvl := rv.length
  rw [Vals.ref1 r]
  obtain ⟨wz, rfl, rw'⟩ := vals1 rz
  cases (show wz = Value.ref fa from rw')
  show wpAny _ _ (call (.builtin "sorted") [.ref a] [(Str.ofString "key", .ref fa)]) _ _ _
  have hZ : its.length ≤ sizeLine := by rw [← hvl]; exact hz
  have lk : ks.length = its.length := by omega
  refine sorted_of_sort hl.isList hZ (ksk_s1 _ _) (fun _ => ksk_l1 _ _) fun E' => ?_
  rw [ksk_t1]
  have sz1 : s.heap.objs.size ≤ s.heap.objs.size + 1 := Nat.le_succ _
  have ho : (copyHeap s.heap its).get? (s.heap.objs.size + 1) = some (seqObj "list" its.toArray 0) := copyHeap_at s.heap its
  have kp : ∀ b o, s.heap.get? b = some o → (sortingHeap (copyHeap s.heap its) (s.heap.objs.size + 1) its).get? b = some o := fun b o e =>
    sortingHeap_old (Nat.ne_of_lt (Nat.lt_succ_of_lt (Heap.lt_size e))) (copyHeap_old e)
  obtain ⟨e1, ho1⟩ : ∃ e1, ((copyHeap s.heap its).update (s.heap.objs.size + 1) (Obj.mapSeq fun _ => (#[] : Array Value))).get? (s.heap.objs.size + 1) = some (seqObj "list" #[] e1) := ⟨_, get?_update_seq ho fun _ => #[]⟩
  have cz : (copyHeap s.heap its).objs.size = s.heap.objs.size + 2 := by
    unfold copyHeap
    rw [size_push', Heap.size_update, size_push']
  have hkS : (((copyHeap s.heap its).update (s.heap.objs.size + 1) (Obj.mapSeq fun _ => (#[] : Array Value))).push (seqObj "tuple" its.toArray 0)).objs.size = s.heap.objs.size + 3 := by rw [size_push', Heap.size_update, cz]
  unfold ksk_tree
  refine wpAny_bind (listItems_at ho rfl ?_)
  refine wpAny_bind (listUpdate_at ho rfl ?_ (by rw [List.size_toArray]; exact hZ) (Nat.zero_le _))
  refine wpAny_bind (seqEpoch_at ho1 rfl ?_)
  refine wpAny_bind (wpAny_newTuple ?_ (by show its.length ≤ _; exact hZ))
  refine wpAny_bind (wpAny_newList ?_ (Nat.zero_le _))
  refine wpAny_holding ?_
  have I1 : Inv X pins σ H { s with heap := sortingHeap (copyHeap s.heap its) (s.heap.objs.size + 1) its } := I.kept (t' := s.toks) kp
  have fa' := fresh_of I sz1
  have fk' : Fresh X pins (s.heap.objs.size + 3) := fresh_of I (Nat.le_add_right _ 3)
  refine keyI_rest (X := X) (pins := pins) (σ := σ) (H := H) (s := { s with heap := sortingHeap (copyHeap s.heap its) (s.heap.objs.size + 1) its }) (kz := ks) (xs := xs) I1 fa' (by rw [hkS]; exact fk') (I.hok.fresh sz1) (I.hok.fresh (by rw [hkS]; exact Nat.le_add_right _ 3)) (by rw [hkS]; exact Nat.ne_of_gt (by omega))
    (Heap.get?_push_size _ rfl) (Heap.get?_push_of_some _ (Heap.get?_push_of_some _ ho1)) rv lk hZ f1 f3.1 f3.2 (fun d hd => ?_) (fun i x kk hx hkk pins' s' H' I' sm v rx => ?_) (fun s' H' out c J sm nA hD ko => ⟨rfl, ?_⟩)
  · have := depth_mem hd
    have u1 := hr.units
    show X.A.units + 1 + 1 + d.depth < cLine
    have := hr.un
    omega
  · obtain ⟨d, hd, rxd⟩ := ra.getV hx
    have hF := kg i d kk hd hkk
    refine wpAny_call (codeAny_mono (G.run X.A.in1.in1 X.stack s' H' ⟨[v], []⟩ [v] [x] (fun z H'' => Same H' H'' ∧ R X.K H'' z kk) E0 ((hr.in1).in1) I'.env0.in1.in1 (by
      have := hb s' [v] I'.kIn (by have := G.len [x] H' (fun z H'' => Same H' H'' ∧ R X.K H'' z kk) E0 ⟨[], [d], kk, Ok.nil, .cons (by rw [hid_nil]; exact rxd.mono sm) .nil, rfl, hF, fun z H'' s2 r2 => ⟨s2, by rw [hid_nil] at r2; exact r2⟩⟩; simpa using this)
      simpa using this) (.cons rx .nil) ⟨[], [d], kk, Ok.nil, .cons (by rw [hid_nil]; exact rxd.mono sm) .nil, rfl, hF, fun z H'' s2 r2 => ⟨s2, by rw [hid_nil] at r2; exact r2⟩⟩) fun r s'' hq => ?_)
    cases r with
    | error e => exact hq.elim
    | ok fl =>
      cases fl with
      | ret u =>
        obtain ⟨z, H'', I2, r2, s2, r3⟩ := I'.after hq
        exact ⟨z, H'', I2, s2, r2, r3⟩
      | next => exact False.elim hq
      | brk => exact False.elim hq
      | cont => exact False.elim hq
  · have zz : (xs.zip ks).map (fun b : V × D => b.2) = ks := zip_snd (by omega)
    have hR : EachIs (fun u (b : V × D) => RelV b.1 u) its (xs.zip ks) := each_zip (R := fun u x => RelV x u) (xs := xs) (ds := ks) rv.length.symm (hlen.trans kl) fun i u x e1 e2 => by
      obtain ⟨u', e3, r3⟩ := rv.get e2
      rw [e1] at e3
      cases e3
      exact r3
    have ko' : KeyedOut false ((xs.zip ks).map fun b : V × D => b.2) its out := by rw [zz]; exact ko
    have eo := keyedOut_each (fun b : V × D => b.2) ko' hR
    have hv := each_vals eo
    have hol : out.length = its.length := ko.length lk
    refine ⟨.ref (s.heap.objs.size + 1), upd H' (s.heap.objs.size + 1) (.lst (((xs.zip ks).mergeSort (fun u v => leD u.2 v.2)).map (·.1))), Inv.track J fa' nA ⟨?_, out, c, hv, hD⟩, rfl, q H' _ sm nA⟩
    rw [List.length_map, List.length_mergeSort, List.length_zip]
    omega
end

section
variable {X : Cx} {K : PySem.W.Frag} {κ : Mo} {x y : Str} {p pos kpos py : Pos} {e : Expr} {f : FE} {c : Esc}
theorem zip_fst_map {α β γ : Type} : ∀ {xs : List α} {ks : List β}, xs.length = ks.length → (xs.zip ks).map (·.1) = xs
  | [], [], _ => rfl
  | x :: xs, d :: ds, h => by
    simp only [List.zip_cons_cons, List.map_cons]
    rw [zip_fst_map (γ := γ) (by simpa using h)]
  | [], _ :: _, h => by simp at h
  | _ :: _, [], h => by simp at h
theorem RA.sortedK {H : Hp} {xs : List V} {ds ks : List D} (r : RA K H xs ds) (hl : ds.length = ks.length) : RA K H (((xs.zip ks).mergeSort (fun u v => leD u.2 v.2)).map (·.1)) (((ds.zip ks).mergeSort (fun u v => leD u.2 v.2)).map (·.1)) := by
  -- triples (value, tree, key)
  let zs := (xs.zip ds).zip ks
  have hx := r.length
  have e1 : zs.map (fun t => (t.1.1, t.2)) = xs.zip ks := by
    refine List.ext_getElem? fun i => ?_
    simp only [zs, List.getElem?_map, List.zip]
    rcases hi : xs[i]? with _ | v
    · simp [List.getElem?_zipWith, hi]
    · have : i < xs.length := (List.getElem?_eq_some_iff.mp hi).1
      have h2 : ds[i]? = some ds[i] := List.getElem?_eq_getElem (by omega)
      have h3 : ks[i]? = some ks[i] := List.getElem?_eq_getElem (by omega)
      simp [List.getElem?_zipWith, hi, h2, h3]
  have e2 : zs.map (fun t => (t.1.2, t.2)) = ds.zip ks := by
    refine List.ext_getElem? fun i => ?_
    simp only [zs, List.getElem?_map, List.zip]
    rcases hi : ds[i]? with _ | v
    · simp [List.getElem?_zipWith, hi]
    · have : i < ds.length := (List.getElem?_eq_some_iff.mp hi).1
      have h2 : xs[i]? = some xs[i] := List.getElem?_eq_getElem (by omega)
      have h3 : ks[i]? = some ks[i] := List.getElem?_eq_getElem (by omega)
      simp [List.getElem?_zipWith, hi, h2, h3]
  have s1 := PySem.W.sort_maps (r := fun u v : (V × D) × D => leD u.2 v.2) (s := fun u v : V × D => leD u.2 v.2) (fun t : (V × D) × D => (t.1.1, t.2)) (l := zs) fun _ _ _ _ => rfl
  have s2 := PySem.W.sort_maps (r := fun u v : (V × D) × D => leD u.2 v.2) (s := fun u v : D × D => leD u.2 v.2) (fun t : (V × D) × D => (t.1.2, t.2)) (l := zs) fun _ _ _ _ => rfl
  rw [e1] at s1
  rw [e2] at s2
  rw [← s1, ← s2, List.map_map, List.map_map]
  have all : ∀ t ∈ zs, R K H t.1.1 t.1.2 := by
    intro t ht
    have hp := (List.of_mem_zip (show (t.1, t.2) ∈ (xs.zip ds).zip ks from ht)).1
    obtain ⟨i, hi⟩ := List.getElem?_of_mem hp
    have := List.getElem?_zip_eq_some.mp hi
    obtain ⟨y, e, ry⟩ := r.get this.2
    rw [this.1] at e
    cases e
    exact ry
  have go : ∀ l : List ((V × D) × D), (∀ t ∈ l, R K H t.1.1 t.1.2) → RA K H (l.map ((·.1) ∘ fun t => (t.1.1, t.2))) (l.map ((·.1) ∘ fun t => (t.1.2, t.2))) := by
    intro l hl
    induction l with
    | nil => exact .nil
    | cons t l ih => exact .cons (hl t (.head _)) (ih fun q hq => hl q (.tail _ hq))
  exact go _ fun t ht => all t ((List.mergeSort_perm _ _).mem_iff.mp ht)
/-- sorted(e, key=y), y a def of the program -/
theorem qe_sortK {fa : Addr} {fd : FuncData} {ps : List Str} {F : Fn} {k : Nat} (G : FnOk X.prog X.w X.K X.mg X.base CX0 k fa fd ps (spD X.K 1 F)) (hr : Room (k + 2) X.A) (hb : Binds X.K fd ps []) (hg : Gl X x) (hm : X.mg x = none) (hv : bootBuiltins x = some (.builtin "sorted")) (hgy : Gl X y) (hmy : X.mg y = some (.ref fa)) (ha : PE X e (tD K (.br 1) f c)) (hX : X.K = K := by rfl) (hκ : κ.one = true := by rfl) (hn : x ≠ "__name__" := by decide) (hdb : (x == ("__debug__" : Str)) = false := by decide) (hdy : (y == ("__debug__" : Str)) = false := by decide)
    (hs : starEach [e] X.env = (false, eval e X.env) :: starEach [] X.env := by rfl)
    (he : backTo pos (starEach [e] X.env) = (false, eval e X.env) :: backTo pos (starEach [] X.env) := by rfl) (hpl : (backTo pos (starEach [e] X.env)).any (·.1) = false := by rfl)
    (hall : (backToKw pos (keywordEach [{ arg := some (Str.ofString "key"), value := .Name y py, pos := kpos }] X.env)).all (·.1.isSome) = true := by rfl) (hnone : (backToKw pos (keywordEach [{ arg := some (Str.ofString "key"), value := .Name y py, pos := kpos }] X.env)).any (·.1.isNone) = false := by rfl) (hks : (backToKw pos (keywordEach [{ arg := some (Str.ofString "key"), value := .Name y py, pos := kpos }] X.env)).filterMap (·.1) = [Str.ofString "key"] := by rfl) :
    PE X (.Call (.Name x p) [e] [{ arg := some (Str.ofString "key"), value := .Name y py, pos := kpos }] pos) (tD K κ (eSortK F f) c) :=
  (pe_callBK (crk_sortedK G hr hb) hg hm hv (pa_cons ha pa_nil hs) (pk_cons (pe_glob hgy hmy (v := .ref fa) rfl hdy) pk_nil) hn hdb he hpl hall hnone hks).imp fun σ H Q ⟨B, L, ρ, d, gd, es, hf, q⟩ => by
    subst hX
    obtain ⟨dx, h1, h2⟩ := o1_some hf
    refine ⟨B, L, ρ, dx, gd, es, h1, fun v H1 s1 p1 => ?_⟩
    unfold dSortK at h2
    split at h2
    · rename_i ds
      split at h2
      · rename_i ks hk
        obtain ⟨hc, e⟩ := ite_some h2
        subst e
        obtain ⟨p, ys, rfl, e1, e2⟩ := p1.list1
        obtain ⟨kl, _⟩ := keyLs_get hk
        refine ⟨p, ys, ds, ks, rfl, rfl, SqL.of e1, e2.mono same_unhid, hk, hc, fun H' l sm nl => ?_⟩
        have s2 := same_upd (o := .lst (((ys.zip ks).mergeSort (fun u v => leD u.2 v.2)).map (·.1))) nl
        refine q _ _ ((s1.trans sm).trans s2) (Post.new gd.ok.trk ((s1.trans sm).free nl) upd_same (((e2.mono (same_hid sm)).sortedK kl).mono (same_hidC nl)) hκ)
      · cases h2
    · cases h2
end
end DS
end

section
set_option Elab.async false
set_option linter.all false
set_option maxRecDepth 100000
set_option maxHeartbeats 1000000
/-! Part j of the dicts' row: names = values, any of them new lists of their own. -/
namespace DS
open PySem PySem.Spec PyProof.Rows L2
/-- (slot, is the value new and the name's own?, value) -/
abbrev Row := List (Nat × Bool × FE)
def rowVals : Row → PEnv → Option (List D)
  | [], _ => some []
  | (_, own, f) :: r, ρ => match f ρ with
    | none => none
    | some d => if (own || flat d) = true then (match rowVals r ρ with
      | none => none
      | some ds => some (d :: ds)) else none
def setsL (L : List Nat) (l : List (Nat × Bool)) : List Nat := l.foldl (fun L p => L.set p.1 (if p.2 = true then 1 else 0)) L
def sParN (rs : Row) (c : Esc) : FS := fun s => match rowVals rs s.1 with
  | none => .stuck
  | some ds => .next (setsD s.1 ((rs.map (·.1)).zip ds), setsL (demote c s.2) (rs.map fun r => (r.1, r.2.1)))
/-- the reading of the values -/
def tRow (K : PySem.W.Frag) : List (Bool × FE × Esc) → TA
  | [] => tNil
  | (own, f, c) :: r => tCons (tD K (if own = true then .fr else .br 0) f c) (tRow K r)
def escRow : List (Bool × FE × Esc) → Esc
  | [] => []
  | (own, _, c) :: r => (if own = true then c else []) ++ escRow r
section
variable {X : Cx} {K : PySem.W.Frag}
theorem qr_nil : PA X [] (tRow K []) := pa_nil
theorem qr_v {e : Expr} {es : List Expr} {f : FE} {c : Esc} {r : List (Bool × FE × Esc)} (h : PE X e (tD K (.br 0) f c)) (t : PA X es (tRow K r)) (hs : starEach (e :: es) X.env = (false, eval e X.env) :: starEach es X.env := by rfl) : PA X (e :: es) (tRow K ((false, f, c) :: r)) := pa_cons h t hs
theorem qr_f {e : Expr} {es : List Expr} {f : FE} {c : Esc} {r : List (Bool × FE × Esc)} (h : PE X e (tD K .fr f c)) (t : PA X es (tRow K r)) (hs : starEach (e :: es) X.env = (false, eval e X.env) :: starEach es X.env := by rfl) : PA X (e :: es) (tRow K ((true, f, c) :: r)) := pa_cons h t hs
end
def rowV (is : List Nat) (rs : List (Bool × FE × Esc)) : Row := (is.zip rs).map fun p => (p.1, p.2.1, p.2.2.1)
section
variable {K : PySem.W.Frag} {B0 : List Addr} {G : Hp} {σ : St} {ρ : PEnv} {L : List Nat}
theorem setsL_snoc (L : List Nat) (l : List (Nat × Bool)) (p : Nat × Bool) : setsL L (l ++ [p]) = (setsL L l).set p.1 (if p.2 = true then 1 else 0) := by
  unfold setsL; rw [List.foldl_append]; rfl
theorem setsD_snoc (ρ : PEnv) (l : List (Nat × D)) (p : Nat × D) : setsD ρ (l ++ [p]) = (setsD ρ l).set p.1 (some p.2) := by
  unfold setsD; rw [List.foldl_append]; rfl
theorem setsV_snoc (σ : St) (l : List (Nat × V)) (p : Nat × V) : setsV σ (l ++ [p]) = (setsV σ l).set p.1 (some p.2) := by
  unfold setsV; rw [List.foldl_append]; rfl
theorem row_ok : ∀ (rs : List (Bool × FE × Esc)) (is js : List Nat) (vs : List V) (ds0 ds : List D) (ow : List Bool) (B : List Addr) (H : Hp) (Q : List V → Hp → Prop), is.length = rs.length → js.length = vs.length → js.length = ds0.length → js.length = ow.length →
    Good K B (lv L) σ H ρ → EscOk (escRow rs) (lv L) → rowVals (rowV is rs) ρ = some ds →
    (∃ O' B', GoodS K B0 G O' B' (setsV σ (js.zip vs)) H (setsD ρ (js.zip ds0)) (setsL L (js.zip ow)) ∧ ∀ a ∈ B', a ∈ B) →
    (∀ ws H', (js ++ is).length = (vs ++ ws).length → ws.length = rs.length → (∃ O' B', GoodS K B0 G O' B' (setsV σ ((js ++ is).zip (vs ++ ws))) H' (setsD ρ ((js ++ is).zip (ds0 ++ ds))) (setsL L ((js ++ is).zip (ow ++ rs.map (·.1))))) → Q ws H') → tRow K rs σ H Q
  | [], [], js, vs, ds0, ds, ow, B, H, Q, _, h1, h2, h3, gd, es, hv, ⟨O', B', g, _⟩, q => by
    cases (Option.some.inj hv)
    refine q [] H (by simpa using h1) rfl ⟨O', B', ?_⟩
    simpa using g
  | [], _ :: _, _, _, _, _, _, _, _, _, h, _, _, _, _, _, _, _, _ => by simp at h
  | _ :: _, [], _, _, _, _, _, _, _, _, h, _, _, _, _, _, _, _, _ => by simp at h
  | (own, f, c) :: rs, i :: is, js, vs, ds0, ds, ow, B, H, Q, hl, h1, h2, h3, gd, es, hv, ⟨O', B', g, hB⟩, q => by
    unfold rowV at hv
    simp only [List.zip_cons_cons, List.map_cons] at hv
    unfold rowVals at hv
    split at hv
    · cases hv
    · rename_i d hd
      split at hv
      · rename_i hfl
        split at hv
        · cases hv
        · rename_i ds' hv'
          cases (Option.some.inj hv)
          have z1 : ∀ w : V, (js ++ [i]).zip (vs ++ [w]) = js.zip vs ++ [(i, w)] := fun w => by rw [List.zip_append h1]; rfl
          have z2 : (js ++ [i]).zip (ds0 ++ [d]) = js.zip ds0 ++ [(i, d)] := by rw [List.zip_append h2]; rfl
          have z3 : (js ++ [i]).zip (ow ++ [own]) = js.zip ow ++ [(i, own)] := by rw [List.zip_append h3]; rfl
          have next : ∀ (v : V) (H1 : Hp) (B1 : List Addr), Good K B1 (lv L) σ H1 ρ → (∃ O'' B'', GoodS K B0 G O'' B'' (setsV σ (js.zip vs ++ [(i, v)])) H1 (setsD ρ (js.zip ds0 ++ [(i, d)])) (setsL L (js.zip ow ++ [(i, own)])) ∧ ∀ a ∈ B'', a ∈ B1) → tRow K rs σ H1 fun ws H' => Q (v :: ws) H' := fun v H1 B1 g1 hg => by
            refine row_ok rs is (js ++ [i]) (vs ++ [v]) (ds0 ++ [d]) ds' (ow ++ [own]) B1 H1 _ (by simpa using hl) (by simp [h1]) (by simp [h2]) (by simp [h3]) g1 es.right hv' (by rw [z1, z2, z3]; exact hg) fun ws H' a1 a2 a3 => ?_
            refine q (v :: ws) H' (by simpa [List.append_assoc, Nat.add_comm, Nat.add_left_comm] using a1) (by simp [a2]) ?_
            simpa [List.append_assoc] using a3
          cases own with
          | true =>
            have es1 : EscOk c (lv L) := fun p hp => es p (by unfold escRow; simp [hp])
            refine ⟨B, lv L, ρ, d, gd, es1, hd, fun v H1 e1 p1 => ?_⟩
            obtain ⟨o, hn, nd, ro⟩ := p1
            have sw : Same (hid B H) (hid (o ++ B) H1) := same_hidW e1 fun a h => (List.mem_append.mp h).elim (fun h => .inr (hn a h)) .inl
            have gd2 : Good K (o ++ B) (lv L) σ H1 ρ := ⟨(ro.mut_aux).append (gd.ok.mono e1), gd.len, fun k x h => let ⟨w, h1, h2⟩ := gd.slot k x h; ⟨w, h1, h2.mono e1 sw⟩⟩
            refine next v H1 (o ++ B) gd2 ?_
            have ro3 : RO K (o ++ B') H1 1 o v d := ro.mono_aux (same_hidW (Same.refl H1) fun a h => .inl ((List.mem_append.mp h).elim (fun h => List.mem_append_left _ h) fun h => List.mem_append_right _ (hB a h))) fun _ _ => rfl
            obtain ⟨O2, B2, g2, hB2⟩ := g.assign (i := i) e1 hn nd ro3
            refine ⟨O2, B2, by rw [setsV_snoc, setsD_snoc, setsL_snoc]; exact g2, fun a ha => (List.mem_append.mp (hB2 a ha)).elim (fun h => List.mem_append_left _ h) fun h => List.mem_append_right _ (hB a h)⟩
          | false =>
            have hfd : flat d = true := by simpa using hfl
            refine ⟨[], _, ρ, d, gd.zero, .zero, hd, fun v H1 e1 p1 => ?_⟩
            refine next v H1 B (gd.mono e1) ?_
            obtain ⟨O2, B2, g2, hB2⟩ := (g.mono e1).assign0 (i := i) ((RL.r0 p1).hidF (g.mono e1).ok.noTup hfd)
            exact ⟨O2, B2, by rw [setsV_snoc, setsD_snoc, setsL_snoc]; exact g2, fun a ha => hB a (hB2 a ha)⟩
      · cases hv
/-- all of a row -/
theorem row_all {rs : List (Bool × FE × Esc)} {is : List Nat} {H : Hp} {s : S} {E : Out → Prop} {Q : List V → Hp → Prop} (hl : is.length = rs.length) (hs : GS K B0 G σ H s) (hv : ∃ ds, rowVals (rowV is rs) s.1 = some ds ∧ ∀ ws H', ws.length = rs.length → GS K B0 G (setsV σ (is.zip ws)) H' (setsD s.1 (is.zip ds), setsL (demote (escRow rs) s.2) (is.zip (rs.map (·.1)))) → Q ws H') : tRow K rs σ H Q := by
  obtain ⟨ds, h1, q⟩ := hv
  obtain ⟨O, B, gd⟩ := hs
  obtain ⟨O', B', g', _⟩ := gd.demote (escRow rs)
  refine row_ok rs is [] [] [] ds [] B' H Q hl rfl rfl rfl g'.good (demote_ok _ _) h1 ⟨O', B', g', fun _ h => h⟩ fun ws H' _ a2 a3 => q ws H' a2 ?_
  unfold GS
  simpa using a3
end
theorem rowV_ix : ∀ {is : List Nat} {rs : List (Bool × FE × Esc)}, is.length = rs.length → (rowV is rs).map (·.1) = is ∧ (rowV is rs).map (fun r => (r.1, r.2.1)) = is.zip (rs.map (·.1))
  | [], [], _ => ⟨rfl, rfl⟩
  | i :: is, r :: rs, h => by
    obtain ⟨a, b⟩ := rowV_ix (is := is) (rs := rs) (by simpa using h)
    unfold rowV at a b ⊢
    simp only [List.zip_cons_cons, List.map_cons]
    exact ⟨by rw [a], by rw [b]⟩
  | [], _ :: _, h => by simp at h
  | _ :: _, [], h => by simp at h
section
variable {X : Cx} {K : PySem.W.Frag}
theorem parN_core {is : List Nat} {rs : List (Bool × FE × Esc)} {E : Ends} {σ : St} {H : Hp} {Q : List V → Hp → Prop} (hl : is.length = rs.length) (h : tS K (sParN (rowV is rs) (escRow rs)) E σ H) (q : ∀ ws H' , ws.length = rs.length → E.nx (setsV σ (is.zip ws)) H' → Q ws H') : tRow K rs σ H Q := by
  obtain ⟨B0, G, s, hs, hq⟩ := h
  unfold sParN at hq
  split at hq
  · exact hq.elim
  · rename_i ds hv
    refine row_all (E := fun _ => True) hl hs ⟨ds, hv, fun ws H' hw g => q ws H' hw (hq _ H' ?_)⟩
    rw [(rowV_ix hl).1, (rowV_ix hl).2]
    exact g
theorem ss_parN2 (i j : Nat) {x y : Str} {a b : Expr} {r1 r2 : Bool × FE × Esc} {px py pt pos : Pos} {kt k2 pt2} (hc : X.calm = true) (hN : X.N.Nodup) (ha : PA X [a, b] (tRow K [r1, r2]))
    (hw : swappedStores [.Tuple [.Name x px, .Name y py] kt pt] (.Tuple [a, b] k2 pt2) X.env = pure (some [x, y])) (hi : X.N[i]? = some x := by rfl) (hj : X.N[j]? = some y := by rfl) (hij : i ≠ j := by decide)
    (hx : X.env.scope.names.lookup x = some .local := by rfl) (hy : X.env.scope.names.lookup y = some .local := by rfl)
    (hs : swapsWithSole [.Tuple [.Name x px, .Name y py] kt pt] (.Tuple [a, b] k2 pt2) pos.line X.env = pure false := by rfl) :
    PS X (.Assign [.Tuple [.Name x px, .Name y py] kt pt] (.Tuple [a, b] k2 pt2) pos) (tS K (sParN (rowV [i, j] [r1, r2]) (escRow [r1, r2]))) := (ps_par hc hN hi hj hij hx hy ha hw hs).imp fun E σ H h =>
  parN_core (is := [i, j]) rfl h fun ws H' hl q => by
    match ws, hl with
    | [v, w], _ => exact ⟨v, w, rfl, q⟩
theorem ss_parN3 (i j k : Nat) {x y z : Str} {a b c : Expr} {r1 r2 r3 : Bool × FE × Esc} {px py pz pt pos : Pos} {kt k2 pt2} (hc : X.calm = true) (hN : X.N.Nodup) (ha : PA X [a, b, c] (tRow K [r1, r2, r3]))
    (hw : swappedStores [.Tuple [.Name x px, .Name y py, .Name z pz] kt pt] (.Tuple [a, b, c] k2 pt2) X.env = pure (some [x, y, z])) (hi : X.N[i]? = some x := by rfl) (hj : X.N[j]? = some y := by rfl) (hk : X.N[k]? = some z := by rfl) (hij : i ≠ j := by decide) (hik : i ≠ k := by decide) (hjk : j ≠ k := by decide)
    (hx : X.env.scope.names.lookup x = some .local := by rfl) (hy : X.env.scope.names.lookup y = some .local := by rfl) (hz : X.env.scope.names.lookup z = some .local := by rfl)
    (hs : swapsWithSole [.Tuple [.Name x px, .Name y py, .Name z pz] kt pt] (.Tuple [a, b, c] k2 pt2) pos.line X.env = pure false := by rfl) :
    PS X (.Assign [.Tuple [.Name x px, .Name y py, .Name z pz] kt pt] (.Tuple [a, b, c] k2 pt2) pos) (tS K (sParN (rowV [i, j, k] [r1, r2, r3]) (escRow [r1, r2, r3]))) := (ps_par3 hc hN hi hj hk hij hik hjk hx hy hz ha hw hs).imp fun E σ H h =>
  parN_core (is := [i, j, k]) rfl h fun ws H' hl q => by
    match ws, hl with
    | [u, v, w], _ => exact ⟨u, v, w, rfl, q⟩
/-- the names of a row, one after another -/
inductive Names (X : Cx) : List Expr → List Nat → Prop
  | nil : Names X [] []
  | cons {x : Str} {p : Pos} {i : Nat} {es : List Expr} {is : List Nat} (hi : X.N[i]? = some x) (hx : Loc X.env.scope x) (hf : X.fn x = true ∨ X.env.scope.names.lookup x = some .local) (hs : (assignEach (.Name x p :: es) X.env).map (·.2) = assign (.Name x p) X.env :: (assignEach es X.env).map (·.2)) (t : Names X es is) : Names X (.Name x p :: es) (i :: is)
def gNames (is : List Nat) : TGs := fun vs σ H Q => vs.length = is.length ∧ Q (setsV σ (is.zip vs)) H
theorem pgs_names (hN : X.N.Nodup) : ∀ {es : List Expr} {is : List Nat}, Names X es is → PGs X es (gNames is)
  | _, _, .nil => pgs_nil.imp fun vs σ H Q ⟨h, q⟩ => by
    have e : vs = [] := by simpa using h
    subst e
    exact ⟨rfl, q⟩
  | _, _, .cons (i := i) hi hx hf hs t => (pgs_cons (pg_name hN hi hx hf) (pgs_names hN t) hs).imp fun vs σ H Q ⟨h, q⟩ => by
    match vs, h with
    | v :: vs, h => exact ⟨v, vs, rfl, by simpa using h, q⟩
theorem setsV_same {K : PySem.W.Frag} {B0 B : List Addr} {G H : Hp} {O : Nat → List Addr} {σ : St} {ρ : PEnv} {L : List Nat} {p : Addr} {xs : List V} (g : GoodS K B0 G O B σ H ρ L) (n : H p = none) : GoodS K B0 G O B σ (upd H p (.tup xs)) ρ L := g.mono (same_upd n)
theorem ss_parNT (is : List Nat) {ts es : List Expr} {rs : List (Bool × FE × Esc)} {kt k2 : Nat} {pt pt2 pos : Pos} (hc : X.calm = true) (hN : X.N.Nodup) (ha : PA X es (tRow K rs)) (hn : Names X ts is) (hl : is.length = rs.length) (hz : rs.length ≤ 1000 := by decide) (hX : X.K = K := by rfl)
    (hs : swapsWithSole [.Tuple ts kt pt] (.Tuple es k2 pt2) pos.line X.env = pure false := by rfl) (hw : swappedStores [.Tuple ts kt pt] (.Tuple es k2 pt2) X.env = pure none := by rfl)
    (h1 : (assignEach [.Tuple ts kt pt] X.env).map (·.2) = [assign (.Tuple ts kt pt) X.env] := by rfl) (hn2 : (assignEach ts X.env).length = is.length := by rfl) (hst : (assignEach ts X.env).findIdx? (·.1) = none := by rfl) :
    PS X (.Assign [.Tuple ts kt pt] (.Tuple es k2 pt2) pos) (tS K (sParN (rowV is rs) (escRow rs))) := (ps_asg (pe_tup ha) (pg_tup hc (pgs_names hN hn) hn2 hst) hs hw h1).imp fun E σ H h => by
  subst hX
  obtain ⟨B0, G, s, hs, hq⟩ := h
  unfold sParN at hq
  split at hq
  · exact hq.elim
  · rename_i ds hv
    refine row_all (E := fun _ => True) hl hs ⟨ds, hv, fun ws H' hw g => ⟨by rw [hw, sizeLine_eq]; omega, fun p np => ⟨p, ws, rfl, .inl (.inl upd_same), by rw [hw, hl], by rw [hw, hl], ?_⟩⟩⟩
    refine hq _ _ ?_
    rw [(rowV_ix hl).1, (rowV_ix hl).2]
    obtain ⟨O', B', g⟩ := g
    exact ⟨O', B', g.mono (same_upd np)⟩
end
/-! list.count of ints -/
def dCount : D → D → Option D
  | .list ds, .int k => o1 (intsD ds) fun is => some (.int (is.count k : Nat))
  | _, _ => none
theorem mf_count {K : PySem.W.Frag} : MethF K "list" (rCntI K) dCount where
  ty := fun x dx dy d H rx h => by
    unfold dCount at h
    split at h
    · cases rx with
      | lst h1 h2 => exact .inl ⟨rfl, _, SqL.of h1⟩
    · cases h
  run := fun x y dx dy d H Q rx ry h q => by
    unfold dCount at h
    split at h
    · obtain ⟨is, h1, h2⟩ := o1_some h
      cases (Option.some.inj h2)
      cases rx with
      | lst e1 e2 =>
        rw [intsD_some h1] at e2
        have e3 := e2.ints
        subst e3
        exact ⟨_, is, _, rfl, by rw [ry.int'], SqL.of e1, q _ (.int _) rfl⟩
    · cases h

section
variable {X : Cx} {K : PySem.W.Frag} {κ : Mo} {a b : Expr} {fa fb : FE} {ca cb : Esc} {pos : Pos}
/-- a < b < c as a value -/
theorem qe_chain {op op' : CmpOp} {r r' : R2} {o o' : D → D → Option Bool} {c : Expr} {fc : FE} {cc : Esc} (hr : OpR X (compareOp op) r) (hd : OpC K r o) (hr' : OpR X (compareOp op') r') (hd' : OpC K r' o')
    (ha : PE X a (tD K (.br 1) fa ca)) (hb : PE X b (tD K (.br 1) fb cb)) (hc : PE X c (tD K (.br 1) fc cc)) (hm : lastMarks [op, op'] [b, c] = false := by with_unfolding_all rfl) :
    PE X (.Compare a [op, op'] [b, c] pos) (tD K κ (eB (tChn o o' fa fb fc)) []) := (pe_chain hr hr' ha hb hc hm).imp fun σ H Q ⟨B, L, ρ, d, g, es, hf', q⟩ => by
  obtain ⟨k, hf, hk⟩ := o1_some hf'
  cases (Option.some.inj hk)
  unfold tChn at hf
  split at hf
  · cases hf
  · rename_i h1
    obtain ⟨dx, dy, h3, h4, h5⟩ := o2_some h1
    refine ⟨[], _, ρ, dx, g.zero, .zero, h3, fun x H1 s1 p1 => ⟨[], _, ρ, dy, (g.mono s1).zero, .zero, h4, fun y H2 s2 p2 =>
      hd x y dx dy false H2 _ ((RL.r0 p1).mono s2) (RL.r0 p2) h5 ⟨false, rfl, ?_⟩⟩⟩
    rw [if_neg (by decide)]
    cases (Option.some.inj hf)
    exact q _ H2 (s1.trans s2) (Post.of_flat (.bl false) rfl)
  · rename_i h1
    obtain ⟨dx, dy, h3, h4, h5⟩ := o2_some h1
    obtain ⟨dy', dz, h6, h7, h8⟩ := o2_some hf
    rw [h4] at h6
    cases (Option.some.inj h6)
    refine ⟨[], _, ρ, dx, g.zero, .zero, h3, fun x H1 s1 p1 => ⟨[], _, ρ, dy, (g.mono s1).zero, .zero, h4, fun y H2 s2 p2 =>
      hd x y dx dy true H2 _ ((RL.r0 p1).mono s2) (RL.r0 p2) h5 ⟨true, rfl, ?_⟩⟩⟩
    rw [if_pos rfl]
    exact ⟨[], _, ρ, dz, ((g.mono s1).mono s2).zero, .zero, h7, fun z H3 s3 p3 => hd' y z dy dz k H3 _ ((RL.r0 p2).mono s3) (RL.r0 p3) h8 (q _ H3 ((s1.trans s2).trans s3) (Post.of_flat (.bl k) rfl))⟩
end
end DS
end

section


end

section
set_option Elab.async false
set_option linter.all false
set_option maxRecDepth 100000
/-! Part DDk: names from a list. -/
namespace DS
open PySem PySem.Spec PyProof.Rows L2
/-- (a, b, ..) = a list -/
def sTupL (ts : List Tg) (f : FE) (c : Esc) : FS := fun s => match f s.1 with
  | some (.list ds) => match Tg.gos ts ds with
    | none => .stuck
    | some l => .next (setsD s.1 l, zeros (demote c s.2) l)
  | _ => .stuck
def tGL (K : PySem.W.Frag) (ts : List Tg) : TG := fun v σ H Q => ∃ B ds l, R K (hid B H) v (.list ds) ∧ Tg.gos ts ds = some l ∧ ∀ m, RS K (hid B H) m l → Q (setsV σ m) H
section
variable {X : Cx} {K : PySem.W.Frag} {pos : Pos}
theorem gg_tupL {es : List Expr} {k : Nat} {ts : List Tg} (hc : X.calm = true) (h : PGs X es (tGs K ts)) (hX : X.K = K := by rfl)
    (hn : (assignEach es X.env).length = ts.length := by rfl) (hst : (assignEach es X.env).findIdx? (·.1) = none := by rfl) : PG X (.Tuple es k pos) (tGL K ts) := by
  subst hX
  refine (pg_unl hc h hn hst).imp fun v σ H Q ⟨B, ds, l, h1, h2, q⟩ => ?_
  cases h1 with
  | lst e1 e2 => exact ⟨_, _, rfl, SqL.of (same_unhid _ _ e1), by rw [e2.length, Tg.gos_len h2], B, ds, l, e2, h2, q⟩
theorem ss_tupL {tg e : Expr} {ts : List Tg} {f : FE} {c : Esc} {pos : Pos} (he : PE X e (tD K (.br 0) f c)) (hg : PG X tg (tGL K ts)) (hs : swapsWithSole [tg] e pos.line X.env = pure false := by rfl) (hw : swappedStores [tg] e X.env = pure none := by rfl)
    (h1 : (assignEach [tg] X.env).map (·.2) = [assign tg X.env] := by rfl) : PS X (.Assign [tg] e pos) (tS K (sTupL ts f c)) := (ps_asg he hg hs hw h1).imp fun E σ H ⟨B0, G, s, hs, q⟩ => by
  unfold sTupL at q
  split at q
  · rename_i ds hd
    split at q
    · exact q.elim
    · rename_i l hl
      refine GS.value (κ := .br 0) hs hd fun O B v H' g e p => ?_
      exact ⟨B, ds, l, RL.r p, hl, fun m rs => q _ H' (GS.sets (g.mono e) (fun _ h => h) rs)⟩
  · exact q.elim
end
end DS
end

section
set_option Elab.async false
set_option linter.all false
/-! Part l: rewriting rules by which a def's function on trees is reckoned. -/
namespace DS
open PySem
section
variable {α β γ : Type} {ρ : PEnv} {d e : D} {s : S}
@[simp] theorem o1_s (a : α) (g : α → Option γ) : o1 (some a) g = g a := id rfl
@[simp] theorem o1_n (g : α → Option γ) : o1 none g = none := id rfl
@[simp] theorem o2_ss (a : α) (b : β) (g : α → β → Option γ) : o2 (some a) (some b) g = g a b := id rfl
@[simp] theorem o2_n (y : Option β) (g : α → β → Option γ) : o2 none y g = none := id rfl
@[simp] theorem eC_a (d : D) (ρ : PEnv) : eC d ρ = some d := id rfl
@[simp] theorem eVar_0 (d : D) (ρ : PEnv) : eVar 0 (some d :: ρ) = some d := id rfl
@[simp] theorem eVar_s (n : Nat) (x : Option D) (ρ : PEnv) : eVar (n + 1) (x :: ρ) = eVar n ρ := id rfl
@[simp] theorem aNil_a (ρ : PEnv) : aNil ρ = some [] := id rfl
@[simp] theorem aCons_a (f : FE) (r : FA) (ρ : PEnv) : aCons f r ρ = o2 (f ρ) (r ρ) fun d ds => some (d :: ds) := id rfl
@[simp] theorem eOp_a (op : D → D → Option D) (f g : FE) (ρ : PEnv) : eOp op f g ρ = o2 (f ρ) (g ρ) op := id rfl
@[simp] theorem eUn_a (op : D → Option D) (f : FE) (ρ : PEnv) : eUn op f ρ = o1 (f ρ) op := id rfl
@[simp] theorem eIx_a (f g : FE) (ρ : PEnv) : eIx f g ρ = o2 (f ρ) (g ρ) dIx := id rfl
@[simp] theorem eCB_a (op : List D → Option D) (fs : FA) (ρ : PEnv) : eCB op fs ρ = o1 (fs ρ) op := id rfl
@[simp] theorem eB_a (f : FT) (ρ : PEnv) : eB f ρ = o1 (f ρ) fun b => some (.bool b) := id rfl
@[simp] theorem tCmp_a (op : D → D → Option Bool) (f g : FE) (ρ : PEnv) : tCmp op f g ρ = o2 (f ρ) (g ρ) op := id rfl
@[simp] theorem tTru_a (f : FE) (ρ : PEnv) : tTru f ρ = o1 (f ρ) dTru := id rfl
@[simp] theorem tNotD_a (f : FT) (ρ : PEnv) : tNotD f ρ = o1 (f ρ) fun b => some !b := id rfl
@[simp] theorem tIsND_a (f : FE) (ρ : PEnv) : tIsND f ρ = o1 (f ρ) fun d => some (isNon d) := id rfl
@[simp] theorem tNotND_a (f : FE) (ρ : PEnv) : tNotND f ρ = o1 (f ρ) fun d => some (!isNon d) := id rfl
@[simp] theorem eIsN_a (f : FE) (ρ : PEnv) : eIsN f ρ = o1 (f ρ) fun d => some (.bool (isNon d)) := id rfl
@[simp] theorem eNotN_a (f : FE) (ρ : PEnv) : eNotN f ρ = o1 (f ρ) fun d => some (.bool (!isNon d)) := id rfl
@[simp] theorem tTrue_a (ρ : PEnv) : tTrue ρ = some true := id rfl
@[simp] theorem eIsi_a (n : String) (f : FE) (ρ : PEnv) : eIsi n f ρ = o1 (f ρ) fun d => o1 (isTy d n) fun b => some (.bool b) := id rfl
@[simp] theorem iSeq_a (f : FE) (ρ : PEnv) : iSeq f ρ = o1 (f ρ) seqOf := id rfl
@[simp] theorem seqOf_l (ds : List D) : seqOf (.list ds) = some ds := id rfl
@[simp] theorem seqOf_t (ds : List D) : seqOf (.tuple ds) = some ds := id rfl
@[simp] theorem d1_1 (op : D → Option D) (x : D) : d1 op [x] = op x := id rfl
@[simp] theorem d2_2 (op : D → D → Option D) (x y : D) : d2 op [x, y] = op x y := id rfl
@[simp] theorem dLen_l (ds : List D) : dLen (.list ds) = some (.int ds.length) := id rfl
@[simp] theorem dLen_t (ds : List D) : dLen (.tuple ds) = some (.int ds.length) := id rfl
@[simp] theorem dInt_i (i : Int) : dInt (.int i) = some (.int i) := id rfl
@[simp] theorem dInt_b (b : Bool) : dInt (.bool b) = some (.int (if b then 1 else 0)) := id rfl
@[simp] theorem dTuple_l (ds : List D) : dTuple (.list ds) = some (.tuple ds) := id rfl
@[simp] theorem dTuple_t (ds : List D) : dTuple (.tuple ds) = some (.tuple ds) := id rfl
@[simp] theorem dList_l (ds : List D) : dList (.list ds) = some (.list ds) := id rfl
@[simp] theorem dList_t (ds : List D) : dList (.tuple ds) = some (.list ds) := id rfl
@[simp] theorem dAdd_i (i j : Int) : dAdd (.int i) (.int j) = some (.int (i + j)) := id rfl
@[simp] theorem dAddI_i (i j : Int) : dAddI (.int i) (.int j) = some (.int (i + j)) := id rfl
@[simp] theorem dSub_i (i j : Int) : dSub (.int i) (.int j) = some (.int (i - j)) := id rfl
@[simp] theorem dNeg_i (i : Int) : dNeg (.int i) = some (.int (-i)) := id rfl
@[simp] theorem dLt_i (i j : Int) : dLt (.int i) (.int j) = some (decide (i < j)) := id rfl
@[simp] theorem dLe_i (i j : Int) : dLe (.int i) (.int j) = some (decide (i ≤ j)) := id rfl
@[simp] theorem dGt_i (i j : Int) : dGt (.int i) (.int j) = some (decide (j < i)) := id rfl
@[simp] theorem dGe_i (i j : Int) : dGe (.int i) (.int j) = some (decide (j ≤ i)) := id rfl
@[simp] theorem dEq_i (i j : Int) : dEq (.int i) (.int j) = some (decide (i = j)) := by
  unfold dEq
  rw [if_pos (by rfl)]
  simp [PyData.eqv]
  rfl
@[simp] theorem dNe_i (i j : Int) : dNe (.int i) (.int j) = some (!decide (i = j)) := by
  unfold dNe
  rw [if_pos (by rfl)]
  simp [PyData.eqv]
  rfl
@[simp] theorem dTru_b (b : Bool) : dTru (.bool b) = some b := id rfl
@[simp] theorem dTru_i (i : Int) : dTru (.int i) = some (i != 0) := id rfl
@[simp] theorem dTru_l (ds : List D) : dTru (.list ds) = some !ds.isEmpty := id rfl
@[simp] theorem dTru_t (ds : List D) : dTru (.tuple ds) = some !ds.isEmpty := id rfl
@[simp] theorem dTru_n : dTru .none = some false := id rfl
@[simp] theorem isNon_n : isNon .none = true := id rfl
@[simp] theorem isNon_b (b : Bool) : isNon (.bool b) = false := id rfl
@[simp] theorem isNon_i (b : Int) : isNon (.int b) = false := id rfl
@[simp] theorem isNon_s (b : Str) : isNon (.str b) = false := id rfl
@[simp] theorem isNon_l (b : List D) : isNon (.list b) = false := id rfl
@[simp] theorem isNon_t (b : List D) : isNon (.tuple b) = false := id rfl
theorem dMul_i {i j : Int} (h : mulOk i j = true) : dMul (.int i) (.int j) = some (.int (i * j)) := by
  show (if mulOk i j = true then _ else _) = _
  rw [if_pos h]
theorem dFdiv_i {i j : Int} (h : fdivOk j = true) : dFdiv (.int i) (.int j) = some (.int (i / j)) := by
  show (if fdivOk j = true then _ else _) = _
  rw [if_pos h]
theorem dMod_i {i j : Int} (h : 0 < j) : dMod (.int i) (.int j) = some (.int (i % j)) := by
  show (if 0 < j then _ else _) = _
  rw [if_pos h]
theorem mulOk_l {i j : Int} (h : i.natAbs < 18446744073709551616) : mulOk i j = true := by
  simp [mulOk, h]
theorem mulOk_r {i j : Int} (h : j.natAbs < 18446744073709551616) : mulOk i j = true := by
  simp [mulOk, h]
theorem log2_le_of_lt {a : Nat} {n : Nat} (h : a < 2 ^ n) (hn : 0 < n) : a.log2 < n := by
  by_cases ha : a = 0
  · subst ha; simpa using hn
  · exact (Nat.log2_lt ha).mpr h
theorem mulOk_big {i j : Int} {m n : Nat} (hi : i.natAbs < 2 ^ m) (hj : j.natAbs < 2 ^ n) (hm : 0 < m) (hn : 0 < n) (h : m + n ≤ 1000000) : mulOk i j = true := by
  have h1 := log2_le_of_lt hi hm
  have h2 := log2_le_of_lt hj hn
  unfold mulOk
  rw [Bool.or_eq_true]
  right
  exact decide_eq_true (by omega)
theorem fdivOk_of {j : Int} {n : Nat} (h0 : 0 < j) (hj : j.natAbs < 2 ^ n) (hn : 0 < n) (h : n ≤ 9000) : fdivOk j = true := by
  have h1 := log2_le_of_lt hj hn
  unfold fdivOk
  rw [Bool.and_eq_true]
  exact ⟨decide_eq_true h0, decide_eq_true (by omega)⟩
/-! statements -/
@[simp] theorem sNil_a (s : S) : sNil s = .next s := id rfl
@[simp] theorem sRet_a (f : FE) (s : S) : sRet f s = match f s.1 with | none => .stuck | some d => .ret d := id rfl
theorem sSeq_next {f g : FS} {s s' : S} (h : f s = .next s') : sSeq f g s = g s' := by
  unfold sSeq; rw [h]
theorem sSeq_ret {f g : FS} {s : S} {d : D} (h : f s = .ret d) : sSeq f g s = .ret d := by
  unfold sSeq; rw [h]
theorem sSet_next {i l : Nat} {f : FE} {c : Esc} {s : S} {d : D} (h : f s.1 = some d) : sSet i l f c s = if flat d = true then .next (s.1.set i (some d), s.2.set i 0) else .next (s.1.set i (some d), (demote c s.2).set i l) := by
  unfold sSet; rw [h]
theorem sIf_t {c : FT} {f g : FS} {s : S} (h : c s.1 = some true) : sIf c f g s = f s := by
  unfold sIf; rw [h]
theorem sIf_f {c : FT} {f g : FS} {s : S} (h : c s.1 = some false) : sIf c f g s = g s := by
  unfold sIf; rw [h]
theorem eCall_a {n : Nat} {F : Fn} {fs : FA} {ρ : PEnv} {ds : List D} (h : fs ρ = some ds) (hn : ds.length = n) : eCall n F fs ρ = F ds := by
  unfold eCall; rw [h]; simp [hn]
end
/-! calls: no step by reckoning, so that nothing looks into the function called -/
section
variable {ρ : PEnv} {F : Fn} {f1 f2 f3 f4 f5 f6 : FE}
@[simp] theorem eCall_1 : eCall 1 F (aCons f1 aNil) ρ = o1 (f1 ρ) fun x => F [x] := by
  unfold eCall aCons aNil; cases f1 ρ <;> rfl
@[simp] theorem eCall_2 : eCall 2 F (aCons f1 (aCons f2 aNil)) ρ = o1 (f1 ρ) fun x => o1 (f2 ρ) fun y => F [x, y] := by
  unfold eCall aCons aNil; cases f1 ρ <;> cases f2 ρ <;> rfl
@[simp] theorem eCall_3 : eCall 3 F (aCons f1 (aCons f2 (aCons f3 aNil))) ρ = o1 (f1 ρ) fun x => o1 (f2 ρ) fun y => o1 (f3 ρ) fun z => F [x, y, z] := by
  unfold eCall aCons aNil; cases f1 ρ <;> cases f2 ρ <;> cases f3 ρ <;> rfl
@[simp] theorem eCall_4 : eCall 4 F (aCons f1 (aCons f2 (aCons f3 (aCons f4 aNil)))) ρ = o1 (f1 ρ) fun x => o1 (f2 ρ) fun y => o1 (f3 ρ) fun z => o1 (f4 ρ) fun u => F [x, y, z, u] := by
  unfold eCall aCons aNil; cases f1 ρ <;> cases f2 ρ <;> cases f3 ρ <;> cases f4 ρ <;> rfl
@[simp] theorem eCall_5 : eCall 5 F (aCons f1 (aCons f2 (aCons f3 (aCons f4 (aCons f5 aNil))))) ρ = o1 (f1 ρ) fun x => o1 (f2 ρ) fun y => o1 (f3 ρ) fun z => o1 (f4 ρ) fun u => o1 (f5 ρ) fun v => F [x, y, z, u, v] := by
  unfold eCall aCons aNil; cases f1 ρ <;> cases f2 ρ <;> cases f3 ρ <;> cases f4 ρ <;> cases f5 ρ <;> rfl
@[simp] theorem eCall_6 : eCall 6 F (aCons f1 (aCons f2 (aCons f3 (aCons f4 (aCons f5 (aCons f6 aNil)))))) ρ = o1 (f1 ρ) fun x => o1 (f2 ρ) fun y => o1 (f3 ρ) fun z => o1 (f4 ρ) fun u => o1 (f5 ρ) fun v => o1 (f6 ρ) fun w => F [x, y, z, u, v, w] := by
  unfold eCall aCons aNil; cases f1 ρ <;> cases f2 ρ <;> cases f3 ρ <;> cases f4 ρ <;> cases f5 ρ <;> cases f6 ρ <;> rfl
@[simp] theorem eCall_7 {f7 : FE} : eCall 7 F (aCons f1 (aCons f2 (aCons f3 (aCons f4 (aCons f5 (aCons f6 (aCons f7 aNil))))))) ρ = o1 (f1 ρ) fun x => o1 (f2 ρ) fun y => o1 (f3 ρ) fun z => o1 (f4 ρ) fun u => o1 (f5 ρ) fun v => o1 (f6 ρ) fun w => o1 (f7 ρ) fun t => F [x, y, z, u, v, w, t] := by
  unfold eCall aCons aNil; cases f1 ρ <;> cases f2 ρ <;> cases f3 ρ <;> cases f4 ρ <;> cases f5 ρ <;> cases f6 ρ <;> cases f7 ρ <;> rfl
end
theorem sRet_ok {f : FE} {s : S} {d : D} (h : f s.1 = some d) : sRet f s = .ret d := by
  unfold sRet; rw [h]
theorem dfun_ret {N n : Nat} {body : FS} {ds : List D} {d : D} (ρ : PEnv) (L : List Nat) (hn : ds.length = n) (hρ : ds.map some ++ List.replicate (N - n) none = ρ) (hL : List.replicate N 0 = L) (h : body (ρ, L) = .ret d) : dfun N n body ds = some d := by
  unfold dfun
  rw [if_pos hn, hρ, hL, h]
theorem sSet_any {i l : Nat} {f : FE} {c : Esc} {ρ : PEnv} {L : List Nat} {d : D} (h : f ρ = some d) : ∃ L', sSet i l f c (ρ, L) = .next (ρ.set i (some d), L') := by
  rw [sSet_next (s := (ρ, L)) h]
  split <;> exact ⟨_, rfl⟩
theorem sPar_flat {i j : Nat} {f g : FE} {c : Esc} {ρ : PEnv} {L : List Nat} {d e : D} (h : f ρ = some d) (h' : g ρ = some e) (hd : flat d = true) (he : flat e = true) : sPar i j f g c (ρ, L) = .next ((ρ.set i (some d)).set j (some e), (L.set i 0).set j 0) := by
  unfold sPar
  simp only [h, h', hd, he]
  rfl
theorem sSet_flat {i l : Nat} {f : FE} {c : Esc} {ρ : PEnv} {L : List Nat} {d : D} (h : f ρ = some d) (hd : flat d = true) : sSet i l f c (ρ, L) = .next (ρ.set i (some d), L.set i 0) := by
  rw [sSet_next (s := (ρ, L)) h, if_pos hd]
end DS
end

section
set_option Elab.async false
set_option linter.all false
set_option maxRecDepth 10000
namespace Lib
open DS PySem
def den_divisor : Fn := dfun 2 2 (sSeq (sPar 0 1 (eCB (d1 dAbs) (aCons (eVar 0) aNil)) (eCB (d1 dAbs) (aCons (eVar 1) aNil)) ([] ++ []))
  (sSeq (sWhile 100000 (tCmp dGt (eVar 1) (eC (.int 0)))
  (sPar 0 1 (eVar 1) (eOp dMod (eVar 0) (eVar 1)) ([(1, 0)] ++ ([(0, 1)] ++ [(1, 1)]))))
  (sRet (eVar 0))))
def den_lowest : Fn := dfun 3 2 (sSeq (sSet 2 0 (eIfD (tCmp dGt (eVar 1) (eC (.int 0))) (eCall 2 den_divisor (aCons (eVar 0) (aCons (eVar 1) aNil))) (eUn dNeg (eCall 2 den_divisor (aCons (eVar 0) (aCons (eVar 1) aNil))))) (([(0, 0)] ++ ([(1, 0)] ++ [])) ++ []))
  (sRet (eTup (aCons (eOp dFdiv (eVar 0) (eVar 2)) (aCons (eOp dFdiv (eVar 1) (eVar 2)) aNil)))))
def den_plus : Fn := dfun 2 2 (sRet (eCall 2 den_lowest (aCons (eOp dAdd (eOp dMul (eIx (eVar 0) (eC (.int 0))) (eIx (eVar 1) (eC (.int 1)))) (eOp dMul (eIx (eVar 1) (eC (.int 0))) (eIx (eVar 0) (eC (.int 1))))) (aCons (eOp dMul (eIx (eVar 0) (eC (.int 1))) (eIx (eVar 1) (eC (.int 1)))) aNil))))
def den_minus : Fn := dfun 2 2 (sRet (eCall 2 den_lowest (aCons (eOp dSub (eOp dMul (eIx (eVar 0) (eC (.int 0))) (eIx (eVar 1) (eC (.int 1)))) (eOp dMul (eIx (eVar 1) (eC (.int 0))) (eIx (eVar 0) (eC (.int 1))))) (aCons (eOp dMul (eIx (eVar 0) (eC (.int 1))) (eIx (eVar 1) (eC (.int 1)))) aNil))))
def den_times : Fn := dfun 2 2 (sRet (eCall 2 den_lowest (aCons (eOp dMul (eIx (eVar 0) (eC (.int 0))) (eIx (eVar 1) (eC (.int 0)))) (aCons (eOp dMul (eIx (eVar 0) (eC (.int 1))) (eIx (eVar 1) (eC (.int 1)))) aNil))))
def den_is_less : Fn := dfun 2 2 (sRet (eB (tCmp dLt (eOp dMul (eIx (eVar 0) (eC (.int 0))) (eIx (eVar 1) (eC (.int 1)))) (eOp dMul (eIx (eVar 1) (eC (.int 0))) (eIx (eVar 0) (eC (.int 1)))))))
def den_total : Fn := dfun 3 1 (sSeq (sSet 1 0 (eTup (aCons (eC (.int 0)) (aCons (eC (.int 1)) aNil))) ([] ++ ([] ++ [])))
  (sSeq (sFor (iSeq (eVar 0)) [(0, 0)] (.nm 2)
  (sSet 1 0 (eCall 2 den_plus (aCons (eVar 1) (aCons (eVar 2) aNil))) ([(1, 0)] ++ ([(2, 0)] ++ []))))
  (sRet (eVar 1))))
def den_greatest : Fn := dfun 3 1 (sSeq (sSet 1 0 (eIx (eVar 0) (eC (.int 0))) [(0, 1)])
  (sSeq (sFor (iSeq (eVar 0)) [(0, 0)] (.nm 2)
  (sSet 1 0 (eIfD (tTru (eCall 2 den_is_less (aCons (eVar 1) (aCons (eVar 2) aNil)))) (eVar 2) (eVar 1)) ([(2, 0)] ++ [(1, 0)])))
  (sRet (eVar 1))))
def den_mean_of : Fn := dfun 4 1 (sSeq (sSet 1 0 (eCB (d1 dSum) (aCons (eLc (iSeq (eVar 0)) (.tp [(.nm 2), (.nm 3)]) tTrue (eVar 2) [2, 3]) aNil)) [])
  (sRet (eCall 1 den_total (aCons (eLc (iSeq (eVar 0)) (.tp [(.nm 2), (.nm 3)]) tTrue (eCall 2 den_times (aCons (eVar 3) (aCons (eCall 2 den_lowest (aCons (eVar 2) (aCons (eVar 1) aNil))) aNil))) [2, 3]) aNil))))
def den__law_mixed : Fn := dfun 6 2 (sSeq (sSet 2 0 (eC (.int 0)) [])
  (sSeq (sIf (tCmp dGt (eCB (d1 dLen) (aCons (eVar 0) aNil)) (eC (.int 0)))
  (sSet 2 0 (eIx (eVar 0) (eOp dMod (eVar 1) (eCB (d1 dLen) (aCons (eVar 0) aNil)))) [(0, 1)])
  sNil)
  (sSeq (sSet 3 0 (eOp dMod (eCB (d1 dInt) (aCons (eOp dAdd (eOp dAdd (eOp dMul (eVar 2) (eC (.int 48271))) (eOp dMul (eVar 1) (eC (.int 69621)))) (eC (.int 8191))) aNil)) (eC (.int 2147483647))) ([] ++ []))
  (sSeq (sSet 4 0 (eOp dMod (eCB (d1 dInt) (aCons (eOp dAdd (eOp dAdd (eOp dMul (eVar 3) (eVar 3)) (eOp dFdiv (eVar 3) (eC (.int 7)))) (eOp dMul (eVar 1) (eC (.int 16807)))) aNil)) (eC (.int 2147483629))) ([] ++ []))
  (sSeq (sSet 5 0 (eOp dMod (eCB (d1 dInt) (aCons (eOp dAdd (eOp dAdd (eOp dMul (eVar 4) (eVar 4)) (eOp dFdiv (eVar 4) (eC (.int 11)))) (eC (.int 40692))) aNil)) (eC (.int 2147483563))) ([] ++ []))
  (sRet (eOp dMod (eOp dFdiv (eVar 5) (eC (.int 5))) (eC (.int 1000003)))))))))
def den__law_row : Fn := dfun 5 2 (sSeq (sSet 2 0 (eC (.int 0)) [])
  (sSeq (sIf (tAndD (tCmp dGt (eCB (d1 dLen) (aCons (eVar 0) aNil)) (eC (.int 0))) (tCmp dGe (eIx (eVar 0) (eC (.int 0))) (eOp dPow (eC (.int 10)) (eC (.int 18)))))
  (sSet 2 0 (eIx (eVar 0) (eC (.int 0))) [(0, 1)])
  sNil)
  (sSeq (sSet 3 1 (eLst aNil) [])
  (sSeq (sFor (iRange1 (eVar 1)) [] (.nm 4)
  (sIf (tCmp dGt (eVar 2) (eC (.int 0)))
  (sSeq (sApp 3 (eOp dMod (eCB (d1 dInt) (aCons (eVar 2) aNil)) (eC (.int 1000))) ([] ++ []))
  (sSet 2 0 (eOp dFdiv (eVar 2) (eC (.int 1000))) ([(2, 1)] ++ [])))
  (sApp 3 (eCall 2 den__law_mixed (aCons (eVar 0) (aCons (eVar 4) aNil))) ([(0, 0)] ++ ([(4, 0)] ++ [])))))
  (sRet (eVar 3))))))
def den__law_is_int : Fn := dfun 1 1 (sRet (eAndD (eIsi "int" (eVar 0)) (eB (tNotD (tTru (eIsi "bool" (eVar 0)))))))
def den__law_like : Nat → Fn
  | 0 => fun _ => none
  | n + 1 => dfun 3 2 (sSeq (sIf (tIsND (eVar 1))
  (sRet (eIsN (eVar 0)))
  sNil)
  (sSeq (sIf (tTru (eIsi "bool" (eVar 1)))
  (sRet (eAndD (eIsi "bool" (eVar 0)) (eB (tCmp dEq (eVar 0) (eVar 1)))))
  sNil)
  (sSeq (sIf (tTru (eIsi "tuple" (eVar 1)))
  (sSeq (sIf (tOrD (tNotD (tTru (eIsi "tuple" (eVar 0)))) (tCmp dNe (eCB (d1 dLen) (aCons (eVar 0) aNil)) (eCB (d1 dLen) (aCons (eVar 1) aNil))))
  (sRet (eC (.bool false)))
  sNil)
  (sRet (eCB (d1 dAll) (aCons (eLc (iRange1 (eCB (d1 dLen) (aCons (eVar 1) aNil))) (.nm 2) tTrue (eCall 2 (den__law_like n) (aCons (eIx (eVar 0) (eVar 2)) (aCons (eIx (eVar 1) (eVar 2)) aNil))) [2]) aNil))))
  sNil)
  (sSeq (sIf (tTru (eIsi "str" (eVar 1)))
  (sRet (eAndD (eIsi "str" (eVar 0)) (eB (tCmp dEq (eVar 0) (eVar 1)))))
  sNil)
  (sRet (eAndD (eCall 1 den__law_is_int (aCons (eVar 0) aNil)) (eB (tCmp dEq (eVar 0) (eVar 1)))))))))
def den__law_common : Fn := dfun 2 2 (sSeq (sPar 0 1 (eCB (d1 dAbs) (aCons (eVar 0) aNil)) (eCB (d1 dAbs) (aCons (eVar 1) aNil)) ([] ++ []))
  (sSeq (sWhile 100000 (tCmp dGt (eVar 1) (eC (.int 0)))
  (sPar 0 1 (eVar 1) (eOp dMod (eCB (d1 dInt) (aCons (eVar 0) aNil)) (eVar 1)) ([(1, 0)] ++ ([] ++ [(1, 1)]))))
  (sRet (eVar 0))))
def den__law_ratio : Fn := dfun 3 2 (sSeq (sSet 2 0 (eCall 2 den__law_common (aCons (eVar 0) (aCons (eVar 1) aNil))) ([(0, 0)] ++ ([(1, 0)] ++ [])))
  (sSeq (sIf (tCmp dLt (eVar 1) (eC (.int 0)))
  (sSet 2 0 (eUn dNeg (eVar 2)) [])
  sNil)
  (sRet (eTup (aCons (eOp dFdiv (eVar 0) (eVar 2)) (aCons (eOp dFdiv (eVar 1) (eVar 2)) aNil))))))
def den__law_power : Fn := dfun 4 2 (sSeq (sSet 2 0 (eC (.int 1)) [])
  (sSeq (sFor (iRange1 (eVar 1)) [] (.nm 3)
  (sSet 2 0 (eOp dMul (eVar 2) (eVar 0)) ([(2, 1)] ++ [(0, 1)])))
  (sRet (eVar 2))))
end Lib
end

section
set_option Elab.async false
set_option linter.all false
set_option maxRecDepth 10000
namespace Lib
open DS PySem
/-- a ratio as a tree -/
def rt (q : Rat) : D := .tuple [.int q.num, .int q.den]
/-- small enough: numerator and denominator below 2 ^ n -/
def Sm (n : Nat) (q : Rat) : Prop := q.num.natAbs < 2 ^ n ∧ q.den < 2 ^ n
/-! Euclid's loop -/
def gcdLoop : FS := sWhile 100000 (tCmp dGt (eVar 1) (eC (.int 0))) (sPar 0 1 (eVar 1) (eOp dMod (eVar 0) (eVar 1)) ([(1, 0)] ++ ([(0, 1)] ++ [(1, 1)])))
theorem gcd_step (n : Nat) (a b : Int) (L : List Nat) (hb : 0 < b) : ∃ L', whGo (tCmp dGt (eVar 1) (eC (.int 0))) (sPar 0 1 (eVar 1) (eOp dMod (eVar 0) (eVar 1)) ([(1, 0)] ++ ([(0, 1)] ++ [(1, 1)]))) (n + 1) ([some (.int a), some (.int b)], L) =
    whGo (tCmp dGt (eVar 1) (eC (.int 0))) (sPar 0 1 (eVar 1) (eOp dMod (eVar 0) (eVar 1)) ([(1, 0)] ++ ([(0, 1)] ++ [(1, 1)]))) n ([some (.int b), some (.int (a % b))], L') := by
  rw [whGo]
  simp [hb, sPar, dMod_i hb, flat]
  exact ⟨_, rfl⟩
theorem gcd_end (n : Nat) (a : Int) (L : List Nat) : whGo (tCmp dGt (eVar 1) (eC (.int 0))) (sPar 0 1 (eVar 1) (eOp dMod (eVar 0) (eVar 1)) ([(1, 0)] ++ ([(0, 1)] ++ [(1, 1)]))) (n + 1) ([some (.int a), some (.int 0)], L) = .next ([some (.int a), some (.int 0)], L) := by
  rw [whGo]
  simp
theorem mod2_lt {b r : Int} (hr : 0 < r) (hrb : r < b) : 2 * (b % r) < b := by
  have h1 := Int.emod_lt_of_pos b hr
  have h2 := Int.emod_nonneg b (by omega : r ≠ 0)
  by_cases h : 2 * r ≤ b
  · omega
  · have : b % r = b - r := by
      have e := Int.emod_add_mul_ediv b r
      have hq : b / r = 1 := by
        apply Int.le_antisymm
        · have : b / r < 2 := Int.ediv_lt_of_lt_mul hr (by omega)
          omega
        · exact (Int.le_ediv_iff_mul_le hr).mpr (by omega)
      rw [hq] at e
      omega
    omega
theorem gcd_mod (a b : Int) : Int.gcd a b = Int.gcd b (a % b) := by
  rw [Int.gcd_comm a b]
  conv => lhs; rw [← Int.emod_add_mul_ediv a b, Int.mul_comm]
  exact Int.gcd_add_mul_right_right b (a % b) (a / b)
theorem gcd_go : ∀ (k n : Nat) (a b : Int) (L : List Nat), 0 ≤ a → 0 ≤ b → b < 2 ^ k → 2 * k + 1 ≤ n → ∃ L', whGo (tCmp dGt (eVar 1) (eC (.int 0))) (sPar 0 1 (eVar 1) (eOp dMod (eVar 0) (eVar 1)) ([(1, 0)] ++ ([(0, 1)] ++ [(1, 1)]))) n ([some (.int a), some (.int b)], L) = .next ([some (.int (Int.gcd a b)), some (.int 0)], L')
  | 0, n + 1, a, b, L, ha, hb, hk, hn => by
    have e : b = 0 := by simpa using (show b < 1 by simpa using hk) |> fun h => (by omega : b = 0)
    subst e
    rw [gcd_end]
    exact ⟨L, by simp [Int.natAbs_of_nonneg ha]⟩
  | k + 1, n + 3, a, b, L, ha, hb, hk, hn => by
    by_cases h0 : b = 0
    · subst h0
      rw [gcd_end]
      exact ⟨L, by simp [Int.natAbs_of_nonneg ha]⟩
    · have hb' : 0 < b := by omega
      obtain ⟨L1, e1⟩ := gcd_step (n + 2) a b L hb'
      rw [e1]
      have hr0 := Int.emod_nonneg a (by omega : b ≠ 0)
      have hr1 := Int.emod_lt_of_pos a hb'
      have g1 : Int.gcd a b = Int.gcd b (a % b) := gcd_mod a b
      by_cases h1 : a % b = 0
      · rw [h1] at g1 ⊢
        rw [gcd_end]
        exact ⟨L1, by rw [g1]; simp [Int.natAbs_of_nonneg hb]⟩
      · obtain ⟨L2, e2⟩ := gcd_step (n + 1) b (a % b) L1 (by omega)
        rw [e2]
        have hm := mod2_lt (b := b) (r := a % b) (by omega) hr1
        have hlt : b % (a % b) < 2 ^ k := by
          have : (2 : Int) ^ (k + 1) = 2 * 2 ^ k := by rw [Int.pow_succ]; omega
          omega
        obtain ⟨L3, e3⟩ := gcd_go k (n + 1) (a % b) (b % (a % b)) L2 hr0 (Int.emod_nonneg b h1) hlt (by omega)
        rw [e3]
        refine ⟨L3, ?_⟩
        rw [g1, gcd_mod b (a % b)]
/-! divisor, lowest -/
theorem int_lt_pow {b : Int} {k : Nat} (h0 : 0 ≤ b) (h : b.natAbs < 2 ^ k) : b < 2 ^ k := by
  have e : b = (b.natAbs : Int) := by omega
  rw [e]
  have := Int.ofNat_lt.mpr h
  simpa using this
theorem divisor_ok {a b : Int} {k : Nat} (hb : b.natAbs < 2 ^ k) (hk : k ≤ 40000) : den_divisor [.int a, .int b] = some (.int (Int.gcd a b)) := by
  have habs : ∀ x : Int, (if x < 0 then -x else x) = (x.natAbs : Int) := fun x => by split <;> omega
  unfold den_divisor dfun
  simp only [List.length_cons, List.length_nil, Nat.zero_add, Nat.reduceAdd, if_true, List.map_cons, List.map_nil]
  rw [sSeq_next (s' := ([some (.int a.natAbs), some (.int b.natAbs)], [0, 0])) (by simp [sPar, dAbs, flat, habs])]
  obtain ⟨L, e⟩ := gcd_go k 100000 a.natAbs b.natAbs [0, 0] (by omega) (by omega) (by
    have := Int.ofNat_lt.mpr hb
    simpa using this) (by omega)
  rw [sSeq_next (s' := ([some (.int (Int.gcd a b)), some (.int 0)], L)) (by
    unfold sWhile
    rw [e]
    simp [Int.gcd_eq_natAbs_gcd_natAbs])]
  simp
/-- the lowest terms of a / b, b above 0 -/
theorem lowest_ok {a b : Int} {k : Nat} (hb0 : 0 < b) (hb : b.natAbs < 2 ^ k) (hk : k ≤ 8999) : den_lowest [.int a, .int b] = some (rt (Rat.divInt a b)) := by
  have hg : (Int.gcd a b) ≠ 0 := fun h => by
    have := (Int.gcd_eq_zero_iff.mp h).2
    omega
  have hgb : Int.gcd a b ≤ b.natAbs := Nat.le_of_dvd (by omega) (Int.gcd_eq_natAbs_gcd_natAbs a b ▸ Nat.gcd_dvd_right _ _)
  have hnum : (Rat.divInt a b).num = a / (Int.gcd a b : Int) := by rw [Rat.num_divInt, Int.gcd_comm, Int.sign_eq_one_of_pos hb0, Int.one_mul]
  have hden : (Rat.divInt a b).den = b.natAbs / Int.gcd a b := by rw [Rat.den_divInt, if_neg (by omega), Int.gcd_comm]
  have hfd : fdivOk (Int.gcd a b : Int) = true := fdivOk_of (n := k + 1) (by omega) (by
    rw [Nat.pow_succ]
    have e : ((Int.gcd a b : Nat) : Int).natAbs = Int.gcd a b := by omega
    rw [e]; omega) (by omega) (by omega)
  unfold den_lowest dfun
  simp only [List.length_cons, List.length_nil, Nat.zero_add, Nat.reduceAdd, if_true, List.map_cons, List.map_nil]
  rw [sSeq_next (s' := ([some (.int a), some (.int b), some (.int (Int.gcd a b))], [0, 0, 0])) (by
    rw [sSet_next (d := .int (Int.gcd a b)) (by simp [eIfD, hb0, eCall, divisor_ok hb (by omega : k ≤ 40000)])]
    simp [flat])]
  have eb : b / (Int.gcd a b : Int) = ((b.natAbs / Int.gcd a b : Nat) : Int) := by
    rw [Int.natCast_ediv]
    congr 1
    omega
  simp only [sRet_a, eTup, aCons_a, eOp_a, eVar_0, eVar_s, o2_ss, o1_s, dFdiv_i hfd, aNil_a, rt, hnum, hden, eb]
  rfl
theorem Sm.mono {m n : Nat} {q : Rat} (h : Sm m q) (hmn : m ≤ n) : Sm n q :=
  ⟨Nat.lt_of_lt_of_le h.1 (Nat.pow_le_pow_right (by omega) hmn), Nat.lt_of_lt_of_le h.2 (Nat.pow_le_pow_right (by omega) hmn)⟩
theorem natAbs_mul_lt {x y : Int} {m n : Nat} (hx : x.natAbs < 2 ^ m) (hy : y.natAbs < 2 ^ n) : (x * y).natAbs < 2 ^ (m + n) := by
  rw [Int.natAbs_mul, Nat.pow_add]
  exact Nat.mul_lt_mul'' hx hy
theorem natAbs_add_lt {x y : Int} {m : Nat} (hx : x.natAbs < 2 ^ m) (hy : y.natAbs < 2 ^ m) : (x + y).natAbs < 2 ^ (m + 1) := by
  rw [Nat.pow_succ]; omega
theorem natAbs_sub_lt {x y : Int} {m : Nat} (hx : x.natAbs < 2 ^ m) (hy : y.natAbs < 2 ^ m) : (x - y).natAbs < 2 ^ (m + 1) := by
  rw [Nat.pow_succ]; omega
/-- a quotient is no greater than what it is made of -/
theorem Sm.divInt {a b : Int} {m n : Nat} (hb : 0 < b) (ha : a.natAbs < 2 ^ m) (hb' : b.natAbs < 2 ^ m) : Sm m (Rat.divInt a b) := by
  have hg : 0 < Int.gcd a b := Nat.pos_of_ne_zero fun h => by
    have := (Int.gcd_eq_zero_iff.mp h).2
    omega
  have hnum : (Rat.divInt a b).num = a / (Int.gcd a b : Int) := by rw [Rat.num_divInt, Int.gcd_comm, Int.sign_eq_one_of_pos hb, Int.one_mul]
  have hden : (Rat.divInt a b).den = b.natAbs / Int.gcd a b := by rw [Rat.den_divInt, if_neg (by omega), Int.gcd_comm]
  constructor
  · rw [hnum]
    have hd : (Int.gcd a b : Int) ∣ a := Int.gcd_dvd_left _ _
    rw [Int.natAbs_ediv_of_dvd hd]
    have e : ((Int.gcd a b : Nat) : Int).natAbs = Int.gcd a b := by omega
    rw [e]
    exact Nat.lt_of_le_of_lt (Nat.div_le_self _ _) ha
  · rw [hden]
    exact Nat.lt_of_le_of_lt (Nat.div_le_self _ _) hb'
theorem den_pos (q : Rat) : (0 : Int) < q.den := by
  have := q.den_nz
  omega
theorem atI_0 {x : D} {r : List D} : L2.atI (x :: r) 0 = some x := by
  have : L2.atI (x :: r) ((0 : Nat) : Int) = some x := L2.atI_nat rfl
  simpa using this
theorem atI_1 {x y : D} {r : List D} : L2.atI (x :: y :: r) 1 = some y := by
  have : L2.atI (x :: y :: r) ((1 : Nat) : Int) = some y := L2.atI_nat rfl
  simpa using this
theorem rt_0 (q : Rat) : dIx (rt q) (.int 0) = some (.int q.num) := atI_0
theorem rt_1 (q : Rat) : dIx (rt q) (.int 1) = some (.int q.den) := atI_1
theorem times_ok {p q : Rat} {m n : Nat} (hp : Sm m p) (hq : Sm n q) (h0 : 0 < m) (h1 : 0 < n) (h : m + n ≤ 8000) : den_times [rt p, rt q] = some (rt (p * q)) ∧ Sm (m + n) (p * q) := by
  have e : p * q = Rat.divInt (p.num * q.num) (p.den * q.den) := by
    conv => lhs; rw [← Rat.num_divInt_den p, ← Rat.num_divInt_den q]
    exact Rat.divInt_mul_divInt _ _
  have hd : (0 : Int) < p.den * q.den := Int.mul_pos (den_pos p) (den_pos q)
  have b1 : (p.num * q.num).natAbs < 2 ^ (m + n) := natAbs_mul_lt hp.1 hq.1
  have b2 : ((p.den : Int) * q.den).natAbs < 2 ^ (m + n) := natAbs_mul_lt (by simpa using hp.2) (by simpa using hq.2)
  have m1 : mulOk p.num q.num = true := mulOk_big hp.1 hq.1 h0 h1 (by omega)
  have m2 : mulOk (p.den : Int) q.den = true := mulOk_big (m := m) (n := n) (by simpa using hp.2) (by simpa using hq.2) h0 h1 (by omega)
  refine ⟨?_, by rw [e]; exact Sm.divInt (n := n) hd b1 b2⟩
  have hl := lowest_ok (a := p.num * q.num) hd b2 (by omega)
  rw [← e] at hl
  simp [den_times, dfun, eCall, rt_0, rt_1, dMul_i m1, dMul_i m2, hl]
theorem plus_ok {p q : Rat} {m n : Nat} (hp : Sm m p) (hq : Sm n q) (h0 : 0 < m) (h1 : 0 < n) (h : m + n ≤ 8000) : den_plus [rt p, rt q] = some (rt (p + q)) ∧ Sm (m + n + 1) (p + q) := by
  have e : p + q = Rat.divInt (p.num * q.den + q.num * p.den) (p.den * q.den) := by
    conv => lhs; rw [← Rat.num_divInt_den p, ← Rat.num_divInt_den q]
    exact Rat.divInt_add_divInt _ _ (by have := den_pos p; omega) (by have := den_pos q; omega)
  have hd : (0 : Int) < p.den * q.den := Int.mul_pos (den_pos p) (den_pos q)
  have c1 : (p.num * q.den).natAbs < 2 ^ (m + n) := natAbs_mul_lt hp.1 (by simpa using hq.2)
  have c2 : (q.num * p.den).natAbs < 2 ^ (m + n) := by
    rw [Nat.add_comm]
    exact natAbs_mul_lt hq.1 (by simpa using hp.2)
  have b1 := natAbs_add_lt c1 c2
  have b2 : ((p.den : Int) * q.den).natAbs < 2 ^ (m + n) := natAbs_mul_lt (by simpa using hp.2) (by simpa using hq.2)
  have b2' : ((p.den : Int) * q.den).natAbs < 2 ^ (m + n + 1) := Nat.lt_of_lt_of_le b2 (Nat.pow_le_pow_right (by omega) (by omega))
  have m1 : mulOk p.num q.den = true := mulOk_big (m := m) (n := n) hp.1 (by simpa using hq.2) h0 h1 (by omega)
  have m2 : mulOk q.num p.den = true := mulOk_big (m := n) (n := m) hq.1 (by simpa using hp.2) h1 h0 (by omega)
  have m3 : mulOk (p.den : Int) q.den = true := mulOk_big (m := m) (n := n) (by simpa using hp.2) (by simpa using hq.2) h0 h1 (by omega)
  refine ⟨?_, by rw [e]; exact Sm.divInt (n := n) hd b1 b2'⟩
  have hl := lowest_ok (a := p.num * q.den + q.num * p.den) hd b2 (by omega)
  rw [← e] at hl
  simp [den_plus, dfun, eCall, rt_0, rt_1, dMul_i m1, dMul_i m2, dMul_i m3, hl]
theorem minus_ok {p q : Rat} {m n : Nat} (hp : Sm m p) (hq : Sm n q) (h0 : 0 < m) (h1 : 0 < n) (h : m + n ≤ 8000) : den_minus [rt p, rt q] = some (rt (p - q)) ∧ Sm (m + n + 1) (p - q) := by
  have e : p - q = Rat.divInt (p.num * q.den - q.num * p.den) (p.den * q.den) := by
    conv => lhs; rw [← Rat.num_divInt_den p, ← Rat.num_divInt_den q]
    exact Rat.divInt_sub_divInt _ _ (by have := den_pos p; omega) (by have := den_pos q; omega)
  have hd : (0 : Int) < p.den * q.den := Int.mul_pos (den_pos p) (den_pos q)
  have c1 : (p.num * q.den).natAbs < 2 ^ (m + n) := natAbs_mul_lt hp.1 (by simpa using hq.2)
  have c2 : (q.num * p.den).natAbs < 2 ^ (m + n) := by
    rw [Nat.add_comm]
    exact natAbs_mul_lt hq.1 (by simpa using hp.2)
  have b1 := natAbs_sub_lt c1 c2
  have b2 : ((p.den : Int) * q.den).natAbs < 2 ^ (m + n) := natAbs_mul_lt (by simpa using hp.2) (by simpa using hq.2)
  have b2' : ((p.den : Int) * q.den).natAbs < 2 ^ (m + n + 1) := Nat.lt_of_lt_of_le b2 (Nat.pow_le_pow_right (by omega) (by omega))
  have m1 : mulOk p.num q.den = true := mulOk_big (m := m) (n := n) hp.1 (by simpa using hq.2) h0 h1 (by omega)
  have m2 : mulOk q.num p.den = true := mulOk_big (m := n) (n := m) hq.1 (by simpa using hp.2) h1 h0 (by omega)
  have m3 : mulOk (p.den : Int) q.den = true := mulOk_big (m := m) (n := n) (by simpa using hp.2) (by simpa using hq.2) h0 h1 (by omega)
  refine ⟨?_, by rw [e]; exact Sm.divInt (n := n) hd b1 b2'⟩
  have hl := lowest_ok (a := p.num * q.den - q.num * p.den) hd b2 (by omega)
  rw [← e] at hl
  simp [den_minus, dfun, eCall, rt_0, rt_1, dMul_i m1, dMul_i m2, dMul_i m3, hl]
theorem is_less_ok {p q : Rat} {m n : Nat} (hp : Sm m p) (hq : Sm n q) (h0 : 0 < m) (h1 : 0 < n) (h : m + n ≤ 8000) : den_is_less [rt p, rt q] = some (.bool (decide (p < q))) := by
  have m1 : mulOk p.num q.den = true := mulOk_big (m := m) (n := n) hp.1 (by simpa using hq.2) h0 h1 (by omega)
  have m2 : mulOk q.num p.den = true := mulOk_big (m := n) (n := m) hq.1 (by simpa using hp.2) h1 h0 (by omega)
  simp [den_is_less, dfun, rt_0, rt_1, dMul_i m1, dMul_i m2, Rat.lt_iff]
end Lib
end

section
set_option Elab.async false
set_option linter.all false
set_option maxRecDepth 10000
/-! The law's own helpers, as in every law: the row of numbers that a script gives, the comparison of trees, ratios, powers. -/
namespace Lib
open DS PySem
theorem scr_len (ns : List Int) : dLen (scr ns) = some (.int ns.length) := by
  simp [scr, dLen]
theorem atI_map {ns : List Int} {i : Int} (h0 : 0 ≤ i) (h1 : i < ns.length) : ∃ x, L2.atI (ns.map PyData.int) i = some (.int x) := by
  obtain ⟨j, rfl⟩ : ∃ j : Nat, i = (j : Int) := ⟨i.toNat, by omega⟩
  have hj : j < ns.length := by omega
  exact ⟨ns[j], L2.atI_nat (by simp [hj])⟩
theorem scr_ix {ns : List Int} {i : Int} (h0 : 0 ≤ i) (h1 : i < ns.length) : ∃ x, dIx (scr ns) (.int i) = some (.int x) := by
  show ∃ x, L2.atI (ns.map PyData.int) i = some (.int x)
  exact atI_map h0 h1
theorem natAbs_emod_lt {a b : Int} (hb : 0 < b) : (a % b).natAbs < b.natAbs := by
  have h1 := Int.emod_lt_of_pos a hb
  have h2 := Int.emod_nonneg a (by omega : b ≠ 0)
  omega
theorem mixed_ok (ns : List Int) (k : Int) : ∃ v, 0 ≤ v ∧ den__law_mixed [scr ns, .int k] = some (.int v) := by
  -- behind the choice of the cell
  have tail : ∀ (cell : Int) (L : List Nat), ∃ v, 0 ≤ v ∧ (sSeq (sSet 3 0 (eOp dMod (eCB (d1 dInt) (aCons (eOp dAdd (eOp dAdd (eOp dMul (eVar 2) (eC (.int 48271))) (eOp dMul (eVar 1) (eC (.int 69621)))) (eC (.int 8191))) aNil)) (eC (.int 2147483647))) ([] ++ []))
      (sSeq (sSet 4 0 (eOp dMod (eCB (d1 dInt) (aCons (eOp dAdd (eOp dAdd (eOp dMul (eVar 3) (eVar 3)) (eOp dFdiv (eVar 3) (eC (.int 7)))) (eOp dMul (eVar 1) (eC (.int 16807)))) aNil)) (eC (.int 2147483629))) ([] ++ []))
      (sSeq (sSet 5 0 (eOp dMod (eCB (d1 dInt) (aCons (eOp dAdd (eOp dAdd (eOp dMul (eVar 4) (eVar 4)) (eOp dFdiv (eVar 4) (eC (.int 11)))) (eC (.int 40692))) aNil)) (eC (.int 2147483563))) ([] ++ []))
      (sRet (eOp dMod (eOp dFdiv (eVar 5) (eC (.int 5))) (eC (.int 1000003))))))) ([some (scr ns), some (.int k), some (.int cell), none, none, none], L) = .ret (.int v) := by
    intro cell L
    generalize hf : (cell * 48271 + k * 69621 + 8191) % 2147483647 = first
    have f1 : first.natAbs < 18446744073709551616 := by
      have := natAbs_emod_lt (a := cell * 48271 + k * 69621 + 8191) (b := 2147483647) (by omega)
      rw [hf] at this
      omega
    generalize hs : (first * first + first / 7 + k * 16807) % 2147483629 = second
    have s1 : second.natAbs < 18446744073709551616 := by
      have := natAbs_emod_lt (a := first * first + first / 7 + k * 16807) (b := 2147483629) (by omega)
      rw [hs] at this
      omega
    have k1 : ∀ i : Int, mulOk i 48271 = true := fun i => mulOk_r (by decide)
    have k2 : ∀ i : Int, mulOk i 69621 = true := fun i => mulOk_r (by decide)
    have k3 : ∀ i : Int, mulOk i 16807 = true := fun i => mulOk_r (by decide)
    have d7 : fdivOk 7 = true := by decide
    have d11 : fdivOk 11 = true := by decide
    have d5 : fdivOk 5 = true := by decide
    rw [sSeq_next (s' := ([some (scr ns), some (.int k), some (.int cell), some (.int first), none, none], L.set 3 0)) (by
      rw [sSet_next (d := .int first) (by simp [dMul_i (k1 _), dMul_i (k2 _), dMod, hf])]
      simp [flat])]
    rw [sSeq_next (s' := ([some (scr ns), some (.int k), some (.int cell), some (.int first), some (.int second), none], (L.set 3 0).set 4 0)) (by
      rw [sSet_next (d := .int second) (by simp [dMul_i (mulOk_l f1), dMul_i (k3 _), dFdiv_i d7, dMod, hs])]
      simp [flat])]
    rw [sSeq_next (s' := ([some (scr ns), some (.int k), some (.int cell), some (.int first), some (.int second), some (.int ((second * second + second / 11 + 40692) % 2147483563))], ((L.set 3 0).set 4 0).set 5 0)) (by
      rw [sSet_next (d := .int ((second * second + second / 11 + 40692) % 2147483563)) (by simp [dMul_i (mulOk_l s1), dFdiv_i d11, dMod])]
      simp [flat])]
    refine ⟨(second * second + second / 11 + 40692) % 2147483563 / 5 % 1000003, Int.emod_nonneg _ (by decide), ?_⟩
    simp [dFdiv_i d5, dMod]
  unfold den__law_mixed dfun
  simp only [List.length_cons, List.length_nil, Nat.zero_add, Nat.reduceAdd, if_true, List.map_cons, List.map_nil]
  rw [sSeq_next (s' := ([some (scr ns), some (.int k), some (.int 0), none, none, none], [0, 0, 0, 0, 0, 0])) (by simp [sSet, flat])]
  by_cases h : ns = []
  · rw [sSeq_next (s' := ([some (scr ns), some (.int k), some (.int 0), none, none, none], [0, 0, 0, 0, 0, 0])) (by
      rw [sIf_f (by simp [scr_len, h])]
      rfl)]
    obtain ⟨v, h0, e⟩ := tail 0 [0, 0, 0, 0, 0, 0]
    exact ⟨v, h0, by rw [e]⟩
  · have hl : (0 : Int) < ns.length := by
      have := List.length_pos_iff.mpr h
      omega
    obtain ⟨x, hx⟩ := scr_ix (ns := ns) (i := k % (ns.length : Int)) (Int.emod_nonneg _ (by omega)) (Int.emod_lt_of_pos _ hl)
    rw [sSeq_next (s' := ([some (scr ns), some (.int k), some (.int x), none, none, none], [0, 0, 0, 0, 0, 0])) (by
      rw [sIf_t (by simp [scr_len]; omega)]
      rw [sSet_next (d := .int x) (by simp [scr_len, dMod_i hl, hx])]
      simp [flat])]
    obtain ⟨v, h0, e⟩ := tail x [0, 0, 0, 0, 0, 0]
    exact ⟨v, h0, by rw [e]⟩
end Lib
end

section
set_option Elab.async false
set_option linter.all false
set_option maxRecDepth 10000
/-! Loops with a claim that each round keeps; comprehensions; the row that a script gives. -/
namespace Lib
open DS PySem
theorem for_inv {t : Tg} {body : FS} (P : Nat → S → Prop) : ∀ (ds : List D) (k0 : Nat) (s : S), P k0 s →
    (∀ k d s, ds[k]? = some d → P (k0 + k) s → ∃ l s', t.go d = some l ∧ body (setsD s.1 l, zeros s.2 l) = .next s' ∧ P (k0 + k + 1) s') →
    ∃ s', forGo t body ds s = .next s' ∧ P (k0 + ds.length) s'
  | [], k0, s, h, _ => ⟨s, rfl, h⟩
  | d :: ds, k0, s, h, st => by
    obtain ⟨l, s', e1, e2, h'⟩ := st 0 d s rfl h
    obtain ⟨s2, e3, h2⟩ := for_inv P ds (k0 + 1) s' h' (fun k d' s'' hd hp => by
      have := st (k + 1) d' s'' (by simpa using hd)
      have a1 : k0 + (k + 1) = k0 + 1 + k := by omega
      rw [a1] at this
      exact this hp)
    refine ⟨s2, ?_, ?_⟩
    · unfold forGo
      rw [e1]
      show (match body (setsD s.1 l, zeros s.2 l) with
        | .next s' => forGo t body ds s'
        | .cont s' => forGo t body ds s'
        | .brk s' => .next s'
        | .ret d => .ret d
        | .stuck => .stuck) = _
      rw [e2]
      exact e3
    · have a1 : k0 + (d :: ds).length = k0 + 1 + ds.length := by simp; omega
      rw [a1]; exact h2
/-- a loop over i, i + 1, … -/
theorem rng_get {lo : Int} {n k : Nat} {d : D} (h : (rngD lo n)[k]? = some d) : k < n ∧ d = .int (lo + k) := by
  have hk : k < n := by
    have := (List.getElem?_eq_some_iff.mp h).1
    simpa [rngD] using this
  refine ⟨hk, ?_⟩
  unfold rngD at h
  rw [List.getElem?_map, List.getElem?_range hk] at h
  exact (Option.some.inj h).symm
theorem rng_len {lo : Int} {n : Nat} : (rngD lo n).length = n := by simp [rngD]
theorem for_rng {i : Nat} {body : FS} {n : Nat} {lo : Int} (P : Nat → S → Prop) (s : S) (h0 : P 0 s)
    (st : ∀ (k : Nat) (s : S), k < n → P k s → ∃ s', body (s.1.set i (some (.int (lo + k))), s.2.set i 0) = .next s' ∧ P (k + 1) s') :
    ∃ s', forGo (.nm i) body (rngD lo n) s = .next s' ∧ P n s' := by
  obtain ⟨s', e, h⟩ := for_inv (t := .nm i) (body := body) P (rngD lo n) 0 s h0 (fun k d s hd hp => by
    obtain ⟨hk, rfl⟩ := rng_get hd
    rw [Nat.zero_add] at hp ⊢
    obtain ⟨s', e, h'⟩ := st k s hk hp
    exact ⟨[(i, .int (lo + k))], s', by simp [Tg.go], e, h'⟩)
  rw [Nat.zero_add, rng_len] at h
  exact ⟨s', e, h⟩
theorem range1_ok {f : FE} {ρ : PEnv} {n : Nat} (h : f ρ = some (.int n)) (hn : n < 4611686018427387904) : iRange1 f ρ = some (rngD 0 n) := by
  unfold iRange1
  rw [h, o1_s]
  have : rngOk 0 (n : Int) = true := by
    unfold rngOk
    simp only [Bool.and_eq_true, decide_eq_true_eq]
    omega
  show (if rngOk 0 (n : Int) = true then some (rngD 0 (n : Int).toNat) else none) = _
  rw [if_pos this]
  rfl
theorem range2_ok {f g : FE} {ρ : PEnv} {i j : Int} (h : f ρ = some (.int i)) (h' : g ρ = some (.int j)) (b1 : -4611686018427387904 ≤ i) (b2 : i < 4611686018427387904) (b3 : -4611686018427387904 ≤ j) (b4 : j < 4611686018427387904) : iRange2 f g ρ = some (rngD i (j - i).toNat) := by
  unfold iRange2
  rw [h, h', o2_ss]
  have : rngOk i j = true := by
    unfold rngOk
    simp only [Bool.and_eq_true, decide_eq_true_eq]
    omega
  show (if rngOk i j = true then some (rngD i (j - i).toNat) else none) = _
  rw [if_pos this]
theorem sFor_go {fi : FA} {c : Esc} {t : Tg} {body : FS} {s : S} {ds : List D} (h : fi s.1 = some ds) : sFor fi c t body s = forGo t body ds (s.1, demote c s.2) := by
  unfold sFor; rw [h]
/-! comprehensions -/
theorem lc_map {t : Tg} {fe : FE} {ρ : PEnv} {g : D → D} : ∀ {ds : List D}, (∀ d ∈ ds, ∃ l, t.go d = some l ∧ fe (setsD ρ l) = some (g d)) → lcGo t tTrue fe ρ ds = some (ds.map g)
  | [], _ => rfl
  | d :: ds, h => by
    obtain ⟨l, e1, e2⟩ := h d (.head _)
    have ih := lc_map (ds := ds) fun d' hd => h d' (.tail _ hd)
    unfold lcGo
    rw [e1]
    simp only [tTrue_a, e2, ih, List.map_cons]
theorem eLc_map {fi : FA} {t : Tg} {fe : FE} {vs : List Nat} {ρ : PEnv} {g : D → D} {ds : List D} (h : fi ρ = some ds) (hl : ds.length ≤ 16777216) (hg : ∀ d ∈ ds, ∃ l, t.go d = some l ∧ fe (setsD (wipeD ρ vs) l) = some (g d)) :
    eLc fi t tTrue fe vs ρ = some (.list (ds.map g)) := by
  unfold eLc
  rw [h, o1_s]
  have : ds.length ≤ sz := hl
  rw [if_pos this, lc_map hg, o1_s]
/-- over i = 0, 1, … -/
theorem lc_rng {i : Nat} {fe : FE} {ρ : PEnv} {n : Nat} {lo : Int} {g : Nat → D} (h : ∀ k : Nat, k < n → fe (ρ.set i (some (.int (lo + k)))) = some (g k)) : lcGo (.nm i) tTrue fe ρ (rngD lo n) = some ((List.range n).map g) := by
  unfold rngD
  have go : ∀ (l : List Nat), (∀ k ∈ l, k < n) → lcGo (.nm i) tTrue fe ρ (l.map fun (k : Nat) => .int (lo + (k : Int))) = some (l.map g) := by
    intro l hl
    induction l with
    | nil => rfl
    | cons k l ih =>
      have e := h k (hl k (.head _))
      have ih' := ih fun k' hk => hl k' (.tail _ hk)
      unfold lcGo
      simp only [List.map_cons, Tg.go, tTrue_a]
      show (match fe (ρ.set i (some (.int (lo + k)))) with
        | none => none
        | some y => match lcGo (.nm i) tTrue fe ρ (l.map fun (k : Nat) => .int (lo + (k : Int))) with
          | none => none
          | some ys => some (y :: ys)) = _
      rw [e, ih']
  exact go (List.range n) fun k hk => List.mem_range.mp hk
theorem eLc_rng {f : FE} {i : Nat} {fe : FE} {vs : List Nat} {ρ : PEnv} {n : Nat} {g : Nat → D} (hf : f ρ = some (.int n)) (hn : n ≤ 16777216) (h : ∀ k : Nat, k < n → fe ((wipeD ρ vs).set i (some (.int k))) = some (g k)) :
    eLc (iRange1 f) (.nm i) tTrue fe vs ρ = some (.list ((List.range n).map g)) := by
  unfold eLc
  rw [range1_ok hf (by omega), o1_s]
  have : (rngD 0 n).length ≤ sz := by rw [rng_len]; exact hn
  rw [if_pos this, lc_rng (g := g) (fun k hk => by rw [Int.zero_add]; exact h k hk), o1_s]
/-! the row -/
def Nats (ds : List D) : Prop := ∀ d ∈ ds, ∃ v : Int, 0 ≤ v ∧ d = .int v
theorem Nats.snoc {ds : List D} {v : Int} (h : Nats ds) (hv : 0 ≤ v) : Nats (ds ++ [.int v]) := fun d hd => by
  rcases List.mem_append.mp hd with h1 | h1
  · exact h d h1
  · simp at h1; exact ⟨v, hv, h1⟩
theorem sApp_flat {i : Nat} {f : FE} {c : Esc} {ρ : PEnv} {L : List Nat} {d : D} {ds : List D} (h : f ρ = some d) (hd : flat d = true) (hi : eVar i ρ = some (.list ds)) (hl : ds.length < 16777216) (hL : lv L i = 1) : sApp i f c (ρ, L) = .next (ρ.set i (some (.list (ds ++ [d]))), L) := by
  unfold sApp
  simp only [h, hi]
  have : ds.length < sz := hl
  rw [if_pos this, if_pos hd, if_pos hL]
theorem sApp_deep {i : Nat} {f : FE} {c : Esc} {ρ : PEnv} {L : List Nat} {d : D} {ds : List D} (h : f ρ = some d) (hd : flat d = false) (hi : eVar i ρ = some (.list ds)) (hl : ds.length < 16777216) (hL : lv (demote c L) i = 1) : sApp i f c (ρ, L) = .next (ρ.set i (some (.list (ds ++ [d]))), demote c L) := by
  unfold sApp
  simp only [h, hi]
  have : ds.length < sz := hl
  rw [if_pos this, if_neg (by simp [hd]), if_pos hL]
theorem row_ok (ns : List Int) (many : Nat) (hm : many ≤ 1000000) : ∃ ds, ds.length = many ∧ Nats ds ∧ den__law_row [scr ns, .int many] = some (.list ds) := by
  have head : ∃ (big : Int) , (sIf (tAndD (tCmp dGt (eCB (d1 dLen) (aCons (eVar 0) aNil)) (eC (.int 0))) (tCmp dGe (eIx (eVar 0) (eC (.int 0))) (eOp dPow (eC (.int 10)) (eC (.int 18)))))
      (sSet 2 0 (eIx (eVar 0) (eC (.int 0))) [(0, 1)]) sNil) ([some (scr ns), some (.int many), some (.int 0), none, none], [0, 0, 0, 0, 0]) = .next ([some (scr ns), some (.int many), some (.int big), none, none], [0, 0, 0, 0, 0]) := by
    by_cases h : ns = []
    · exact ⟨0, by rw [sIf_f (by simp [tAndD, scr_len, h])]; rfl⟩
    · have hl : (0 : Int) < ns.length := by
        have := List.length_pos_iff.mpr h
        omega
      obtain ⟨x, hx⟩ := scr_ix (ns := ns) (i := 0) (by omega) hl
      have hl' : 0 < ns.length := by omega
      have hp : dPow (.int 10) (.int 18) = some (.int 1000000000000000000) := by
        show (if powOk 10 18 = true then some (PyData.int ((10 : Int) ^ (18 : Int).toNat)) else none) = _
        rw [if_pos (by decide)]
        rfl
      by_cases hb : 1000000000000000000 ≤ x
      · refine ⟨x, ?_⟩
        rw [sIf_t (by simp [tAndD, scr_len, hx, hp, hb, hl'])]
        rw [sSet_next (d := .int x) (by simp [hx])]
        simp [flat]
      · refine ⟨0, ?_⟩
        rw [sIf_f (by simp [tAndD, scr_len, hx, hp, hb, hl'])]
        rfl
  obtain ⟨big, hbig⟩ := head
  unfold den__law_row dfun
  simp only [List.length_cons, List.length_nil, Nat.zero_add, Nat.reduceAdd, if_true, List.map_cons, List.map_nil]
  rw [sSeq_next (s' := ([some (scr ns), some (.int many), some (.int 0), none, none], [0, 0, 0, 0, 0])) (by simp [sSet, flat])]
  rw [sSeq_next hbig]
  rw [sSeq_next (s' := ([some (scr ns), some (.int many), some (.int big), some (.list []), none], [0, 0, 0, 1, 0])) (by simp [sSet, flat, eLst, sz, demote])]
  have loop := for_rng (i := 4) (n := many) (lo := 0) (body := sIf (tCmp dGt (eVar 2) (eC (.int 0)))
    (sSeq (sApp 3 (eOp dMod (eCB (d1 dInt) (aCons (eVar 2) aNil)) (eC (.int 1000))) ([] ++ []))
    (sSet 2 0 (eOp dFdiv (eVar 2) (eC (.int 1000))) ([(2, 1)] ++ [])))
    (sApp 3 (eCall 2 den__law_mixed (aCons (eVar 0) (aCons (eVar 4) aNil))) ([(0, 0)] ++ ([(4, 0)] ++ []))))
    (fun k s => ∃ (big : Int) (ds : List D) (x : Option D), s = ([some (scr ns), some (.int many), some (.int big), some (.list ds), x], [0, 0, 0, 1, 0]) ∧ ds.length = k ∧ Nats ds)
    ([some (scr ns), some (.int many), some (.int big), some (.list []), none], [0, 0, 0, 1, 0]) ⟨big, [], none, rfl, rfl, fun d hd => by simp at hd⟩
    (by
      rintro k _ hk ⟨big, ds, x, rfl, hl, hn⟩
      by_cases hb : 0 < big
      · refine ⟨_, ?_, big / 1000, ds ++ [.int (big % 1000)], some (.int (0 + k)), rfl, by simp [hl], hn.snoc (Int.emod_nonneg _ (by decide))⟩
        rw [sIf_t (by simp [hb])]
        rw [sSeq_next (sApp_flat (d := .int (big % 1000)) (ds := ds) (by simp [dMod]) (by rfl) (by simp) (by omega) (by rfl))]
        rw [sSet_next (d := .int (big / 1000)) (by simp [dFdiv_i (j := 1000) (by decide)])]
        simp [flat]
      · obtain ⟨v, hv, e⟩ := mixed_ok ns (0 + k)
        refine ⟨_, ?_, big, ds ++ [.int v], some (.int (0 + k)), rfl, by simp [hl], hn.snoc hv⟩
        rw [sIf_f (by simp [hb])]
        rw [sApp_flat (d := .int v) (ds := ds) (by simpa [eCall] using e) (by rfl) (by simp) (by omega) (by rfl)]
        rfl)
  obtain ⟨s', e, big', ds, x, rfl, hl, hn⟩ := loop
  rw [sSeq_next (s' := ([some (scr ns), some (.int many), some (.int big'), some (.list ds), x], [0, 0, 0, 1, 0])) (by
    rw [sFor_go (range1_ok (n := many) (by simp) (by omega))]
    exact e)]
  exact ⟨ds, hl, hn, by simp⟩
theorem map_ix {n j : Nat} {g : Nat → D} (h : j < n) : dIx (.list ((List.range n).map g)) (.int j) = some (g j) := by
  show L2.atI ((List.range n).map g) (j : Int) = some (g j)
  exact L2.atI_nat (by simp [h])
/-- the row as numbers r 0, r 1, … -/
theorem row_fn (ns : List Int) (many : Nat) (hm : many ≤ 1000000) : ∃ r : Nat → Int, (∀ k, 0 ≤ r k) ∧ den__law_row [scr ns, .int many] = some (.list ((List.range many).map fun k => .int (r k))) := by
  obtain ⟨ds, hl, hn, e⟩ := row_ok ns many hm
  have h : ∀ k : Nat, ∃ v : Int, 0 ≤ v ∧ (k < ds.length → ds[k]? = some (.int v)) := fun k => by
    by_cases hk : k < ds.length
    · obtain ⟨v, h0, h1⟩ := hn ds[k] (List.getElem_mem hk)
      exact ⟨v, h0, fun _ => by rw [List.getElem?_eq_getElem hk, h1]⟩
    · exact ⟨0, Int.le_refl _, fun h => absurd h hk⟩
  refine ⟨fun k => (h k).choose, fun k => (h k).choose_spec.1, ?_⟩
  rw [e]
  congr 2
  refine List.ext_getElem? fun k => ?_
  by_cases hk : k < many
  · rw [(h k).choose_spec.2 (by omega)]
    simp [hk]
  · rw [List.getElem?_eq_none (by omega), List.getElem?_eq_none (by simp; omega)]
end Lib
end

section
set_option Elab.async false
set_option linter.all false
set_option maxRecDepth 10000
/-! The law's comparison of a tree with itself; its ratios and powers. -/
namespace Lib
open DS PySem
@[simp] theorem ty_bool_bool (b : Bool) : isTy (.bool b) "bool" = some true := by
  show L2.kitB "bool" "bool" = _
  decide +kernel
@[simp] theorem ty_bool_int (b : Bool) : isTy (.bool b) "int" = some true := by
  show L2.kitB "bool" "int" = _
  decide +kernel
@[simp] theorem ty_bool_str (b : Bool) : isTy (.bool b) "str" = some false := by
  show L2.kitB "bool" "str" = _
  decide +kernel
@[simp] theorem ty_bool_list (b : Bool) : isTy (.bool b) "list" = some false := by
  show L2.kitB "bool" "list" = _
  decide +kernel
@[simp] theorem ty_bool_tuple (b : Bool) : isTy (.bool b) "tuple" = some false := by
  show L2.kitB "bool" "tuple" = _
  decide +kernel
@[simp] theorem ty_int_bool (i : Int) : isTy (.int i) "bool" = some false := by
  show L2.kitB "int" "bool" = _
  decide +kernel
@[simp] theorem ty_int_int (i : Int) : isTy (.int i) "int" = some true := by
  show L2.kitB "int" "int" = _
  decide +kernel
@[simp] theorem ty_int_str (i : Int) : isTy (.int i) "str" = some false := by
  show L2.kitB "int" "str" = _
  decide +kernel
@[simp] theorem ty_int_list (i : Int) : isTy (.int i) "list" = some false := by
  show L2.kitB "int" "list" = _
  decide +kernel
@[simp] theorem ty_int_tuple (i : Int) : isTy (.int i) "tuple" = some false := by
  show L2.kitB "int" "tuple" = _
  decide +kernel
@[simp] theorem ty_str_bool (s : Str) : isTy (.str s) "bool" = some false := by
  show L2.kitB "str" "bool" = _
  decide +kernel
@[simp] theorem ty_str_int (s : Str) : isTy (.str s) "int" = some false := by
  show L2.kitB "str" "int" = _
  decide +kernel
@[simp] theorem ty_str_str (s : Str) : isTy (.str s) "str" = some true := by
  show L2.kitB "str" "str" = _
  decide +kernel
@[simp] theorem ty_str_list (s : Str) : isTy (.str s) "list" = some false := by
  show L2.kitB "str" "list" = _
  decide +kernel
@[simp] theorem ty_str_tuple (s : Str) : isTy (.str s) "tuple" = some false := by
  show L2.kitB "str" "tuple" = _
  decide +kernel
@[simp] theorem ty_list_bool (l : List D) : isTy (.list l) "bool" = some false := by
  show L2.kitB "list" "bool" = _
  decide +kernel
@[simp] theorem ty_list_int (l : List D) : isTy (.list l) "int" = some false := by
  show L2.kitB "list" "int" = _
  decide +kernel
@[simp] theorem ty_list_str (l : List D) : isTy (.list l) "str" = some false := by
  show L2.kitB "list" "str" = _
  decide +kernel
@[simp] theorem ty_list_list (l : List D) : isTy (.list l) "list" = some true := by
  show L2.kitB "list" "list" = _
  decide +kernel
@[simp] theorem ty_list_tuple (l : List D) : isTy (.list l) "tuple" = some false := by
  show L2.kitB "list" "tuple" = _
  decide +kernel
@[simp] theorem ty_tuple_bool (l : List D) : isTy (.tuple l) "bool" = some false := by
  show L2.kitB "tuple" "bool" = _
  decide +kernel
@[simp] theorem ty_tuple_int (l : List D) : isTy (.tuple l) "int" = some false := by
  show L2.kitB "tuple" "int" = _
  decide +kernel
@[simp] theorem ty_tuple_str (l : List D) : isTy (.tuple l) "str" = some false := by
  show L2.kitB "tuple" "str" = _
  decide +kernel
@[simp] theorem ty_tuple_list (l : List D) : isTy (.tuple l) "list" = some false := by
  show L2.kitB "tuple" "list" = _
  decide +kernel
@[simp] theorem ty_tuple_tuple (l : List D) : isTy (.tuple l) "tuple" = some true := by
  show L2.kitB "tuple" "tuple" = _
  decide +kernel
@[simp] theorem ty_NoneType_bool  : isTy (.none) "bool" = some false := by
  show L2.kitB "NoneType" "bool" = _
  decide +kernel
@[simp] theorem ty_NoneType_int  : isTy (.none) "int" = some false := by
  show L2.kitB "NoneType" "int" = _
  decide +kernel
@[simp] theorem ty_NoneType_str  : isTy (.none) "str" = some false := by
  show L2.kitB "NoneType" "str" = _
  decide +kernel
@[simp] theorem ty_NoneType_list  : isTy (.none) "list" = some false := by
  show L2.kitB "NoneType" "list" = _
  decide +kernel
@[simp] theorem ty_NoneType_tuple  : isTy (.none) "tuple" = some false := by
  show L2.kitB "NoneType" "tuple" = _
  decide +kernel
/-- a tree that the law's comparison knows, less than n deep -/
def pl : Nat → D → Bool
  | 0, _ => false
  | _ + 1, .none => true
  | _ + 1, .bool _ => true
  | _ + 1, .int _ => true
  | _ + 1, .str s => SeqAt.shaped (.str s)
  | n + 1, .tuple ds => decide (ds.length ≤ 1000000) && ds.all (pl n)
  | _ + 1, _ => false
theorem is_int_ok (i : Int) : den__law_is_int [.int i] = some (.bool true) := by
  simp [den__law_is_int, dfun, eAndD]
theorem dEq_str (s : Str) (h : SeqAt.shaped (.str s) = true) : dEq (.str s) (.str s) = some true := by
  unfold dEq
  rw [if_pos (by simp [h])]
  simp [PyData.eqv]
theorem all_true {α : Type} (l : List α) : dAll (.list (l.map fun _ => .bool true)) = some (.bool true) := by
  have : ∀ l : List α, bools (l.map fun _ => PyData.bool true) = some (l.map fun _ => true) := by
    intro l
    induction l with
    | nil => rfl
    | cons a l ih => simp [bools, ih]
  simp [dAll, this]
theorem like_eq (n : Nat) : den__law_like (n + 1) = dfun 3 2 (sSeq (sIf (tIsND (eVar 1))
  (sRet (eIsN (eVar 0)))
  sNil)
  (sSeq (sIf (tTru (eIsi "bool" (eVar 1)))
  (sRet (eAndD (eIsi "bool" (eVar 0)) (eB (tCmp dEq (eVar 0) (eVar 1)))))
  sNil)
  (sSeq (sIf (tTru (eIsi "tuple" (eVar 1)))
  (sSeq (sIf (tOrD (tNotD (tTru (eIsi "tuple" (eVar 0)))) (tCmp dNe (eCB (d1 dLen) (aCons (eVar 0) aNil)) (eCB (d1 dLen) (aCons (eVar 1) aNil))))
  (sRet (eC (.bool false)))
  sNil)
  (sRet (eCB (d1 dAll) (aCons (eLc (iRange1 (eCB (d1 dLen) (aCons (eVar 1) aNil))) (.nm 2) tTrue (eCall 2 (den__law_like n) (aCons (eIx (eVar 0) (eVar 2)) (aCons (eIx (eVar 1) (eVar 2)) aNil))) [2]) aNil))))
  sNil)
  (sSeq (sIf (tTru (eIsi "str" (eVar 1)))
  (sRet (eAndD (eIsi "str" (eVar 0)) (eB (tCmp dEq (eVar 0) (eVar 1)))))
  sNil)
  (sRet (eAndD (eCall 1 den__law_is_int (aCons (eVar 0) aNil)) (eB (tCmp dEq (eVar 0) (eVar 1)))))))) ) := by rw [den__law_like]
theorem like_a2 (n) (ds : List D) (hc : eLc (iRange1 (eCB (d1 dLen) (aCons (eVar 1) aNil))) (.nm 2) tTrue (eCall 2 (den__law_like n) (aCons (eIx (eVar 0) (eVar 2)) (aCons (eIx (eVar 1) (eVar 2)) aNil))) [2] [some (.tuple ds), some (.tuple ds), none] = some (.list ((List.range ds.length).map fun _ => .bool true))) : (eCB (d1 dAll) (aCons (eLc (iRange1 (eCB (d1 dLen) (aCons (eVar 1) aNil))) (.nm 2) tTrue (eCall 2 (den__law_like n) (aCons (eIx (eVar 0) (eVar 2)) (aCons (eIx (eVar 1) (eVar 2)) aNil))) [2]) aNil)) [some (.tuple ds), some (.tuple ds), none] = some (.bool true) := by
  have ha := all_true (List.range ds.length)
  simp [hc, ha]
theorem like_a3 (ds : List D) : tOrD (tNotD (tTru (eIsi "tuple" (eVar 0)))) (tCmp dNe (eCB (d1 dLen) (aCons (eVar 0) aNil)) (eCB (d1 dLen) (aCons (eVar 1) aNil))) [some (.tuple ds), some (.tuple ds), none] = some false := by
  simp [tOrD]
theorem like_a4 (ds : List D) : (sIf (tTru (eIsi "bool" (eVar 1))) (sRet (eAndD (eIsi "bool" (eVar 0)) (eB (tCmp dEq (eVar 0) (eVar 1))))) sNil) ([some (.tuple ds), some (.tuple ds), none], [0, 0, 0]) = .next ([some (.tuple ds), some (.tuple ds), none], [0, 0, 0]) := by
  rw [sIf_f (by simp)]
  rfl
theorem like_a5 (n) (ds : List D) (hc : eLc (iRange1 (eCB (d1 dLen) (aCons (eVar 1) aNil))) (.nm 2) tTrue (eCall 2 (den__law_like n) (aCons (eIx (eVar 0) (eVar 2)) (aCons (eIx (eVar 1) (eVar 2)) aNil))) [2] [some (.tuple ds), some (.tuple ds), none] = some (.list ((List.range ds.length).map fun _ => .bool true))) : sRet (eCB (d1 dAll) (aCons (eLc (iRange1 (eCB (d1 dLen) (aCons (eVar 1) aNil))) (.nm 2) tTrue (eCall 2 (den__law_like n) (aCons (eIx (eVar 0) (eVar 2)) (aCons (eIx (eVar 1) (eVar 2)) aNil))) [2]) aNil)) ([some (.tuple ds), some (.tuple ds), none], [0, 0, 0]) = .ret (.bool true) := sRet_ok (like_a2 n ds hc)
theorem like_a6 (ds : List D) : (sIf (tOrD (tNotD (tTru (eIsi "tuple" (eVar 0)))) (tCmp dNe (eCB (d1 dLen) (aCons (eVar 0) aNil)) (eCB (d1 dLen) (aCons (eVar 1) aNil))))
  (sRet (eC (.bool false)))
  sNil) ([some (.tuple ds), some (.tuple ds), none], [0, 0, 0]) = .next ([some (.tuple ds), some (.tuple ds), none], [0, 0, 0]) := by
  rw [sIf_f (s := ([some (.tuple ds), some (.tuple ds), none], [0, 0, 0])) (like_a3 ds)]
  rfl
theorem like_tup {n : Nat} (ih : ∀ d, pl n d = true → den__law_like n [d, d] = some (.bool true)) {ds : List D} (h : pl (n + 1) (.tuple ds) = true) : den__law_like (n + 1) [.tuple ds, .tuple ds] = some (.bool true) := by
  simp only [pl, Bool.and_eq_true, decide_eq_true_eq, List.all_eq_true] at h
  have hc : eLc (iRange1 (eCB (d1 dLen) (aCons (eVar 1) aNil))) (.nm 2) tTrue (eCall 2 (den__law_like n) (aCons (eIx (eVar 0) (eVar 2)) (aCons (eIx (eVar 1) (eVar 2)) aNil))) [2] [some (.tuple ds), some (.tuple ds), none] = some (.list ((List.range ds.length).map fun _ => .bool true)) := by
    refine eLc_rng (n := ds.length) (by simp) (by omega) fun k hk => ?_
    have e : L2.atI ds (k : Int) = some ds[k] := L2.atI_nat (by simp [hk])
    have e' : dIx (.tuple ds) (.int k) = some ds[k] := e
    simp [wipeD, eCall, e', ih ds[k] (h.2 _ (List.getElem_mem hk))]
  rw [like_eq]
  unfold dfun
  simp only [List.length_cons, List.length_nil, Nat.zero_add, Nat.reduceAdd, if_true, List.map_cons, List.map_nil]
  rw [sSeq_next (s' := ([some (.tuple ds), some (.tuple ds), none], [0, 0, 0])) (by
    rw [sIf_f (by simp)]
    rfl)]
  rw [sSeq_next (like_a4 ds)]
  rw [sSeq_ret (d := .bool true) (by
    rw [sIf_t (by simp)]
    rw [sSeq_next (s' := ([some (.tuple ds), some (.tuple ds), none], [0, 0, 0])) (like_a6 ds)]
    exact like_a5 n ds hc)]
theorem like_ok (n : Nat) : ∀ (d : D), pl n d = true → den__law_like n [d, d] = some (.bool true) := by
  induction n with
  | zero => intro d h; cases h
  | succ n ih =>
    intro d h
    cases d with
    | none => simp [den__law_like, dfun, sSeq, sIf]
    | bool b => cases b <;> simp [den__law_like, dfun, sSeq, sIf, eAndD] <;> rfl
    | int i => simp [den__law_like, dfun, sSeq, sIf, eAndD, eCall, is_int_ok]
    | str s => simp [den__law_like, dfun, sSeq, sIf, eAndD, dEq_str s h]
    | tuple ds => exact like_tup ih h
    | list ds => cases h
    | dict ds => cases h
theorem pl_rt (n : Nat) (q : Rat) : pl (n + 2) (rt q) = true := rfl
/-! the law's ratio -/
theorem lgcd_go : ∀ (k n : Nat) (a b : Int) (L : List Nat), 0 ≤ a → 0 ≤ b → b < 2 ^ k → 2 * k + 1 ≤ n → ∃ L', whGo (tCmp dGt (eVar 1) (eC (.int 0))) (sPar 0 1 (eVar 1) (eOp dMod (eCB (d1 dInt) (aCons (eVar 0) aNil)) (eVar 1)) ([(1, 0)] ++ ([] ++ [(1, 1)]))) n ([some (.int a), some (.int b)], L) = .next ([some (.int (Int.gcd a b)), some (.int 0)], L') := by
  have same : ∀ (n : Nat) (a b : Int) (L : List Nat), whGo (tCmp dGt (eVar 1) (eC (.int 0))) (sPar 0 1 (eVar 1) (eOp dMod (eCB (d1 dInt) (aCons (eVar 0) aNil)) (eVar 1)) ([(1, 0)] ++ ([] ++ [(1, 1)]))) n ([some (.int a), some (.int b)], L) = whGo (tCmp dGt (eVar 1) (eC (.int 0))) (sPar 0 1 (eVar 1) (eOp dMod (eVar 0) (eVar 1)) ([(1, 0)] ++ ([(0, 1)] ++ [(1, 1)]))) n ([some (.int a), some (.int b)], L) := by
    intro n
    induction n with
    | zero => intros; rfl
    | succ n ih =>
      intro a b L
      by_cases hb : 0 < b
      · rw [whGo, whGo]
        simp only [List.append_nil, List.nil_append, List.cons_append] at ih ⊢
        simp [hb, sPar, dMod_i hb, flat, ih]
      · rw [whGo, whGo]
        simp [hb]
  intro k n a b L h0 h1 h2 h3
  rw [same]
  exact gcd_go k n a b L h0 h1 h2 h3
theorem common_ok {a b : Int} {k : Nat} (hb : b.natAbs < 2 ^ k) (hk : k ≤ 40000) : den__law_common [.int a, .int b] = some (.int (Int.gcd a b)) := by
  have habs : ∀ x : Int, (if x < 0 then -x else x) = (x.natAbs : Int) := fun x => by split <;> omega
  unfold den__law_common dfun
  simp only [List.length_cons, List.length_nil, Nat.zero_add, Nat.reduceAdd, if_true, List.map_cons, List.map_nil]
  rw [sSeq_next (s' := ([some (.int a.natAbs), some (.int b.natAbs)], [0, 0])) (by simp [sPar, dAbs, flat, habs])]
  obtain ⟨L, e⟩ := lgcd_go k 100000 a.natAbs b.natAbs [0, 0] (by omega) (by omega) (by
    have := Int.ofNat_lt.mpr hb
    simpa using this) (by omega)
  rw [sSeq_next (s' := ([some (.int (Int.gcd a b)), some (.int 0)], L)) (by
    unfold sWhile
    rw [e]
    simp [Int.gcd_eq_natAbs_gcd_natAbs])]
  simp
theorem ratio_ok {a b : Int} {k : Nat} (hb0 : 0 < b) (hb : b.natAbs < 2 ^ k) (hk : k ≤ 8999) : den__law_ratio [.int a, .int b] = some (rt (Rat.divInt a b)) := by
  have hg : (Int.gcd a b) ≠ 0 := fun h => by
    have := (Int.gcd_eq_zero_iff.mp h).2
    omega
  have hgb : Int.gcd a b ≤ b.natAbs := Nat.le_of_dvd (by omega) (Int.gcd_eq_natAbs_gcd_natAbs a b ▸ Nat.gcd_dvd_right _ _)
  have hnum : (Rat.divInt a b).num = a / (Int.gcd a b : Int) := by rw [Rat.num_divInt, Int.gcd_comm, Int.sign_eq_one_of_pos hb0, Int.one_mul]
  have hden : (Rat.divInt a b).den = b.natAbs / Int.gcd a b := by rw [Rat.den_divInt, if_neg (by omega), Int.gcd_comm]
  have hfd : fdivOk (Int.gcd a b : Int) = true := fdivOk_of (n := k + 1) (by omega) (by
    rw [Nat.pow_succ]
    have e : ((Int.gcd a b : Nat) : Int).natAbs = Int.gcd a b := by omega
    rw [e]; omega) (by omega) (by omega)
  unfold den__law_ratio dfun
  simp only [List.length_cons, List.length_nil, Nat.zero_add, Nat.reduceAdd, if_true, List.map_cons, List.map_nil]
  rw [sSeq_next (s' := ([some (.int a), some (.int b), some (.int (Int.gcd a b))], [0, 0, 0])) (by
    rw [sSet_next (d := .int (Int.gcd a b)) (by simp [eCall, common_ok hb (by omega : k ≤ 40000)])]
    simp [flat])]
  rw [sSeq_next (s' := ([some (.int a), some (.int b), some (.int (Int.gcd a b))], [0, 0, 0])) (by
    rw [sIf_f (by simp; omega)]
    simp)]
  have eb : b / (Int.gcd a b : Int) = ((b.natAbs / Int.gcd a b : Nat) : Int) := by
    rw [Int.natCast_ediv]
    congr 1
    omega
  simp only [sRet_a, eTup, aCons_a, eOp_a, eVar_0, eVar_s, o2_ss, o1_s, dFdiv_i hfd, aNil_a, rt, hnum, hden, eb]
  rfl
theorem power_ok {b : Int} {n : Nat} (hb : b.natAbs < 18446744073709551616) (hn : n ≤ 1000000) : den__law_power [.int b, .int n] = some (.int (b ^ n)) := by
  unfold den__law_power dfun
  simp only [List.length_cons, List.length_nil, Nat.zero_add, Nat.reduceAdd, if_true, List.map_cons, List.map_nil]
  rw [sSeq_next (s' := ([some (.int b), some (.int n), some (.int 1), none], [0, 0, 0, 0])) (by simp [sSet, flat])]
  obtain ⟨s', e, x, L, rfl⟩ := for_rng (i := 3) (n := n) (lo := 0) (body := sSet 2 0 (eOp dMul (eVar 2) (eVar 0)) ([(2, 1)] ++ [(0, 1)]))
    (fun k s => ∃ x L, s = ([some (.int b), some (.int n), some (.int (b ^ k)), x], L)) ([some (.int b), some (.int n), some (.int 1), none], [0, 0, 0, 0]) ⟨none, [0, 0, 0, 0], by rw [Int.pow_zero]⟩
    (by
      rintro k _ hk ⟨x, L, rfl⟩
      refine ⟨_, ?_, some (.int (0 + k)), (L.set 3 0).set 2 0, rfl⟩
      rw [sSet_next (d := .int (b ^ (k + 1))) (by simp [dMul_i (mulOk_r hb), Int.pow_succ])]
      simp [flat])
  rw [sSeq_next (s' := ([some (.int b), some (.int n), some (.int (b ^ n)), x], L)) (by
    rw [sFor_go (range1_ok (n := n) (by simp) (by omega))]
    exact e)]
  simp
end Lib
end

section
set_option Elab.async false
set_option linter.all false
set_option maxRecDepth 10000
/-! Sums and means of ratios. -/
namespace Lib
open DS PySem
theorem Sm.one {m : Nat} (h : 0 < m) : Sm m 1 := ⟨by show 1 < 2 ^ m; exact Nat.one_lt_two_pow (by omega), by show 1 < 2 ^ m; exact Nat.one_lt_two_pow (by omega)⟩
theorem Sm.zero {m : Nat} (h : 0 < m) : Sm m 0 := ⟨by show 0 < 2 ^ m; exact Nat.two_pow_pos m, by show 1 < 2 ^ m; exact Nat.one_lt_two_pow (by omega)⟩
theorem flat_rt (q : Rat) : flat (rt q) = true := rfl
theorem total_go {m : Nat} (hm : 0 < m) (x0 : Option D) : ∀ (ts : List Rat) (k : Nat) (q : Rat) (y : Option D) (L : List Nat), (∀ t ∈ ts, Sm m t) → 0 < k → Sm k q → k + ts.length * (m + 1) ≤ 7000 →
    ∃ y' L', forGo (.nm 2) (sSet 1 0 (eCall 2 den_plus (aCons (eVar 1) (aCons (eVar 2) aNil))) ([(1, 0)] ++ ([(2, 0)] ++ []))) (ts.map rt) ([x0, some (rt q), y], L) = .next ([x0, some (rt (ts.foldl (· + ·) q)), y'], L') ∧ Sm (k + ts.length * (m + 1)) (ts.foldl (· + ·) q)
  | [], k, q, y, L, _, hk, hq, _ => ⟨y, L, rfl, by simpa using hq⟩
  | t :: ts, k, q, y, L, ht, hk, hq, hb => by
    have hl : (t :: ts).length * (m + 1) = ts.length * (m + 1) + (m + 1) := by rw [List.length_cons, Nat.succ_mul]
    have p := plus_ok hq (ht t (.head _)) hk hm (by omega)
    obtain ⟨y', L', e, s⟩ := total_go hm x0 ts (k + m + 1) (q + t) (some (rt t)) ((L.set 2 0).set 1 0) (fun t' h => ht t' (.tail _ h)) (by omega) p.2 (by omega)
    refine ⟨y', L', ?_, ?_⟩
    · unfold forGo
      have hs : sSet 1 0 (eCall 2 den_plus (aCons (eVar 1) (aCons (eVar 2) aNil))) ([(1, 0)] ++ ([(2, 0)] ++ [])) ([x0, some (rt q), some (rt t)], L.set 2 0) = .next ([x0, some (rt (q + t)), some (rt t)], (L.set 2 0).set 1 0) := by
        rw [sSet_next (d := rt (q + t)) (by simp only [eCall_2, eVar_0, eVar_s, o1_s, p.1])]
        rw [if_pos (flat_rt _)]
        rfl
      simp only [List.map_cons, Tg.go]
      show (match sSet 1 0 (eCall 2 den_plus (aCons (eVar 1) (aCons (eVar 2) aNil))) ([(1, 0)] ++ ([(2, 0)] ++ [])) ([x0, some (rt q), some (rt t)], L.set 2 0) with
        | .next s' => forGo (.nm 2) (sSet 1 0 (eCall 2 den_plus (aCons (eVar 1) (aCons (eVar 2) aNil))) ([(1, 0)] ++ ([(2, 0)] ++ []))) (ts.map rt) s'
        | .cont s' => forGo (.nm 2) (sSet 1 0 (eCall 2 den_plus (aCons (eVar 1) (aCons (eVar 2) aNil))) ([(1, 0)] ++ ([(2, 0)] ++ []))) (ts.map rt) s'
        | .brk s' => .next s'
        | .ret d => .ret d
        | .stuck => .stuck) = _
      rw [hs]
      exact e
    · rw [hl]
      have e2 : k + (ts.length * (m + 1) + (m + 1)) = k + m + 1 + ts.length * (m + 1) := by omega
      rw [e2]
      exact s
theorem total_ok {m : Nat} {ts : List Rat} (hm : 0 < m) (ht : ∀ t ∈ ts, Sm m t) (hb : 1 + ts.length * (m + 1) ≤ 7000) :
    den_total [.list (ts.map rt)] = some (rt (ts.foldl (· + ·) 0)) ∧ Sm (1 + ts.length * (m + 1)) (ts.foldl (· + ·) 0) := by
  obtain ⟨y', L', e, s⟩ := total_go hm (some (.list (ts.map rt))) ts 1 0 none [0, 0, 0] ht (by omega) (Sm.zero (by omega)) hb
  refine ⟨?_, s⟩
  unfold den_total dfun
  simp only [List.length_cons, List.length_nil, Nat.zero_add, Nat.reduceAdd, if_true, List.map_cons, List.map_nil]
  rw [sSeq_next (s' := ([some (.list (ts.map rt)), some (rt 0), none], [0, 0, 0])) (by
    rw [sSet_next (d := rt 0) (by simp [eTup, sz]; rfl)]
    rfl)]
  rw [sSeq_next (s' := _) (by
    rw [sFor_go (ds := ts.map rt) (by simp)]
    exact e)]
  rw [sRet_ok (d := rt (ts.foldl (· + ·) 0)) (by simp)]
/-- weights and ratios -/
def wp (p : Int × Rat) : D := .tuple [.int p.1, rt p.2]
theorem lc_wp {fe : FE} {ρ : PEnv} {i j : Nat} (g : Int × Rat → D) {ps : List (Int × Rat)} (h : ∀ p ∈ ps, fe ((ρ.set i (some (.int p.1))).set j (some (rt p.2))) = some (g p)) :
    lcGo (.tp [(.nm i), (.nm j)]) tTrue fe ρ (ps.map wp) = some (ps.map g) := by
  induction ps with
  | nil => rfl
  | cons p ps ih =>
    have h1 := h p (.head _)
    have h2 := ih fun q hq => h q (.tail _ hq)
    simp only [List.map_cons]
    unfold lcGo
    have e : Tg.go (.tp [(.nm i), (.nm j)]) (wp p) = some [(i, .int p.1), (j, rt p.2)] := rfl
    rw [e]
    simp only [tTrue_a]
    show (match fe ((ρ.set i (some (.int p.1))).set j (some (rt p.2))) with
      | none => none
      | some y => match lcGo (.tp [(.nm i), (.nm j)]) tTrue fe ρ (ps.map wp) with
        | none => none
        | some ys => some (y :: ys)) = _
    rw [h1, h2]
theorem intsD_map (l : List Int) : intsD (l.map PyData.int) = some l := by
  induction l with
  | nil => rfl
  | cons a l ih => simp [intsD, ih]
theorem dSum_ok (l : List Int) : dSum (.list (l.map PyData.int)) = some (.int l.sum) := by
  simp [dSum, intsD_map]
/-- the mean of weighted ratios -/
def mean (ps : List (Int × Rat)) : Rat := (ps.map fun p : Int × Rat => p.2 * Rat.divInt p.1 (ps.map (fun q : Int × Rat => q.1)).sum).foldl (· + ·) 0
theorem mean_ok {m : Nat} {ps : List (Int × Rat)} (hm : 0 < m) (hq : ∀ p ∈ ps, Sm m p.2) (hw : ∀ p ∈ ps, p.1.natAbs < 2 ^ m) (h0 : 0 < (ps.map (fun q : Int × Rat => q.1)).sum) (hs : (ps.map (fun q : Int × Rat => q.1)).sum.natAbs < 2 ^ m) (hb : 1 + ps.length * (m + m + 1) ≤ 7000) :
    den_mean_of [.list (ps.map wp)] = some (rt (mean ps)) ∧ Sm (1 + ps.length * (m + m + 1)) (mean ps) := by
  have hl : ps.length ≤ 7000 := by
    have := Nat.le_mul_of_pos_right ps.length (show 0 < m + m + 1 by omega)
    omega
  have ht : ∀ t ∈ ps.map (fun p : Int × Rat => p.2 * Rat.divInt p.1 (ps.map (fun q : Int × Rat => q.1)).sum), Sm (m + m) t := fun t h => by
    obtain ⟨p, hp, rfl⟩ := List.mem_map.mp h
    have hm4 : m + m ≤ 8000 := by
      have := Nat.le_mul_of_pos_left (m + m + 1) (List.length_pos_of_mem hp)
      omega
    exact (times_ok (hq p hp) (Sm.divInt (n := m) h0 (hw p hp) hs) hm hm hm4).2
  have tot := total_ok (m := m + m) (ts := ps.map (fun p : Int × Rat => p.2 * Rat.divInt p.1 (ps.map (fun q : Int × Rat => q.1)).sum)) (by omega) ht (by simpa using hb)
  rw [List.length_map] at tot
  refine ⟨?_, tot.2⟩
  refine dfun_ret [some (.list (ps.map wp)), none, none, none] [0, 0, 0, 0] rfl rfl rfl ?_
  have hsz : (ps.map wp).length ≤ sz := by rw [List.length_map]; show ps.length ≤ 16777216; omega
  rw [sSeq_next (s' := ([some (.list (ps.map wp)), some (.int (ps.map (fun q : Int × Rat => q.1)).sum), none, none], [0, 0, 0, 0])) (by
    rw [sSet_next (d := .int (ps.map (fun q : Int × Rat => q.1)).sum) (by
      have e := lc_wp (i := 2) (j := 3) (fe := eVar 2) (ρ := [some (.list (ps.map wp)), none, none, none]) (fun p => PyData.int p.1) (ps := ps) (fun p _ => rfl)
      simp only [eCB_a, aCons_a, aNil_a, eLc, iSeq_a, eVar_0, o1_s, seqOf_l, if_pos hsz]
      have w : wipeD [some (.list (ps.map wp)), none, none, none] [2, 3] = [some (.list (ps.map wp)), none, none, none] := rfl
      rw [w, e, o1_s, o2_ss, o1_s, d1_1]
      have := dSum_ok (ps.map (fun q : Int × Rat => q.1))
      rw [List.map_map] at this
      exact this)]
    rfl)]
  rw [sRet_ok (d := rt (mean ps)) (by
    have e := lc_wp (i := 2) (j := 3) (fe := eCall 2 den_times (aCons (eVar 3) (aCons (eCall 2 den_lowest (aCons (eVar 2) (aCons (eVar 1) aNil))) aNil))) (ρ := [some (.list (ps.map wp)), some (.int (ps.map (fun q : Int × Rat => q.1)).sum), none, none]) (fun p => rt (p.2 * Rat.divInt p.1 (ps.map (fun q : Int × Rat => q.1)).sum)) (ps := ps) (fun p hp => by
      have hm4 : m + m ≤ 8000 := by
        have := Nat.le_mul_of_pos_left (m + m + 1) (List.length_pos_of_mem hp)
        omega
      have l1 := lowest_ok (a := p.1) h0 hs (by omega)
      have t1 := (times_ok (hq p hp) (Sm.divInt (n := m) h0 (hw p hp) hs) hm hm hm4).1
      simp only [eCall_2, List.set_cons_zero, List.set_cons_succ, eVar_0, eVar_s, o1_s, l1, t1])
    have w : wipeD [some (.list (ps.map wp)), some (.int (ps.map (fun q : Int × Rat => q.1)).sum), none, none] [2, 3] = [some (.list (ps.map wp)), some (.int (ps.map (fun q : Int × Rat => q.1)).sum), none, none] := rfl
    have t1 := tot.1
    rw [List.map_map] at t1
    simp only [eCall_1, eLc, iSeq_a, eVar_0, o1_s, seqOf_l, if_pos hsz, w, e]
    exact t1)]
end Lib
end

section
set_option Elab.async false
set_option linter.all false
set_option maxRecDepth 10000
/-! The chance of enough wins: sums of Pascal's numbers, and the same by one point after another. -/
namespace Lib
open DS PySem
/-- Pascal's numbers -/
def C : Nat → Nat → Nat
  | _, 0 => 1
  | 0, _ + 1 => 0
  | n + 1, k + 1 => C n k + C n (k + 1)
theorem C_0 (n : Nat) : C n 0 = 1 := by cases n <;> rfl
theorem C_gt : ∀ {n k : Nat}, n < k → C n k = 0
  | 0, k + 1, _ => rfl
  | n + 1, k + 1, h => by
    show C n k + C n (k + 1) = 0
    rw [C_gt (by omega), C_gt (by omega)]
theorem C_pos : ∀ {n k : Nat}, k ≤ n → 0 < C n k
  | n, 0, _ => by rw [C_0]; omega
  | n + 1, k + 1, h => by
    show 0 < C n k + C n (k + 1)
    have := C_pos (n := n) (k := k) (by omega)
    omega
theorem C_step : ∀ (n k : Nat), C n (k + 1) * (k + 1) + C n k * k = C n k * n
  | 0, 0 => rfl
  | 0, k + 1 => by simp [C]
  | n + 1, 0 => by
    have := C_step n 0
    simp only [C, C_0] at *
    omega
  | n + 1, k + 1 => by
    have h1 := C_step n k
    have h2 := C_step n (k + 1)
    have e1 : C (n + 1) (k + 1 + 1) = C n (k + 1) + C n (k + 1 + 1) := rfl
    have e2 : C (n + 1) (k + 1) = C n k + C n (k + 1) := rfl
    rw [e1, e2]
    grind
/-- the way on in the row of Pascal's numbers -/
theorem C_next {n k : Nat} (h : k ≤ n) : ((C n k : Int) * ((n : Int) - k)) / ((k : Int) + 1) = C n (k + 1) := by
  have := C_step n k
  have e : (C n k : Int) * ((n : Int) - k) = C n (k + 1) * ((k : Int) + 1) := by
    have : ((C n (k + 1) * (k + 1) + C n k * k : Nat) : Int) = (C n k * n : Nat) := by rw [this]
    push_cast at this
    grind
  rw [e]
  exact Int.mul_ediv_cancel _ (by omega)
def rsum (g : Nat → Int) : Nat → Int
  | 0 => 0
  | m + 1 => rsum g m + g m
theorem rsum_front (g : Nat → Int) : ∀ m, rsum g (m + 1) = g 0 + rsum (fun j => g (j + 1)) m
  | 0 => by simp [rsum]
  | m + 1 => by
    have := rsum_front g m
    rw [show rsum g (m + 1 + 1) = rsum g (m + 1) + g (m + 1) from rfl, this]
    simp only [rsum]
    omega
theorem rsum_congr {g h : Nat → Int} : ∀ {m : Nat}, (∀ j, j < m → g j = h j) → rsum g m = rsum h m
  | 0, _ => rfl
  | m + 1, e => by
    simp only [rsum]
    rw [rsum_congr fun j hj => e j (by omega), e m (by omega)]
theorem rsum_lin (g h : Nat → Int) (x z : Int) : ∀ m, rsum (fun j => x * g j + z * h j) m = x * rsum g m + z * rsum h m
  | 0 => by simp [rsum]
  | m + 1 => by
    simp only [rsum]
    rw [rsum_lin g h x z m]
    grind
def trm (x z : Int) (n k : Nat) : Int := C n k * x ^ k * z ^ (n - k)
/-- k of n and more -/
def Tl (x z : Int) (n a : Nat) : Int := rsum (fun j => trm x z n (a + j)) (n + 1 - a)
theorem trm_gt {x z : Int} {n k : Nat} (h : n < k) : trm x z n k = 0 := by
  simp [trm, C_gt h]
theorem trm_step (x z : Int) {n k : Nat} (h : k ≤ n) : trm x z (n + 1) (k + 1) = x * trm x z n k + z * trm x z n (k + 1) := by
  unfold trm
  have e : C (n + 1) (k + 1) = C n k + C n (k + 1) := rfl
  rw [e]
  have e1 : n + 1 - (k + 1) = n - k := by omega
  rw [e1]
  by_cases hk : k = n
  · subst hk
    rw [C_gt (n := k) (k := k + 1) (by omega)]
    simp
    grind
  · have e2 : n - k = (n - (k + 1)) + 1 := by omega
    rw [e2]
    push_cast
    grind
theorem Tl_step (x z : Int) (n a : Nat) : Tl x z (n + 1) (a + 1) = x * Tl x z n a + z * Tl x z n (a + 1) := by
  unfold Tl
  have e1 : n + 1 + 1 - (a + 1) = n + 1 - a := by omega
  rw [e1]
  have e2 : rsum (fun j => trm x z (n + 1) (a + 1 + j)) (n + 1 - a) = rsum (fun j => x * trm x z n (a + j) + z * trm x z n (a + 1 + j)) (n + 1 - a) := rsum_congr fun j hj => by
    have := trm_step x z (n := n) (k := a + j) (by omega)
    have e3 : a + 1 + j = a + j + 1 := by omega
    rw [e3]
    exact this
  rw [e2, rsum_lin]
  congr 2
  by_cases h : a ≤ n
  · have e4 : n + 1 - a = (n + 1 - (a + 1)) + 1 := by omega
    rw [e4]
    show rsum _ (n + 1 - (a + 1)) + trm x z n (a + 1 + (n + 1 - (a + 1))) = _
    rw [trm_gt (by omega), Int.add_zero]
  · have e4 : n + 1 - a = 0 := by omega
    have e5 : n + 1 - (a + 1) = 0 := by omega
    rw [e4, e5]
theorem Tl_gt {x z : Int} {n a : Nat} (h : n < a) : Tl x z n a = 0 := by
  unfold Tl
  have : n + 1 - a = 0 := by omega
  rw [this]
  rfl
theorem Tl_0 (x z : Int) : ∀ n, Tl x z n 0 = (x + z) ^ n
  | 0 => by simp [Tl, rsum, trm, C_0]
  | n + 1 => by
    have ih := Tl_0 x z n
    have h := Tl_step x z n 0
    have f : Tl x z (n + 1) 0 = z ^ (n + 1) + Tl x z (n + 1) 1 := by
      unfold Tl
      show rsum _ (n + 1 + 1) = _
      rw [rsum_front]
      simp only [trm, C_0, Nat.zero_add]
      simp
      exact rsum_congr fun j hj => by
        have e : n + 1 - (j + 1) = n - j := by omega
        rw [Nat.add_comm 1 j, e]
    have g : Tl x z n 0 = z ^ n + Tl x z n 1 := by
      unfold Tl
      show rsum _ (n + 1) = _
      rw [rsum_front]
      simp only [trm, C_0, Nat.zero_add]
      simp
      exact rsum_congr fun j hj => by rw [Nat.add_comm 1 j]
    rw [f, h]
    rw [Int.pow_succ, Int.pow_succ, ← ih]
    simp only [Nat.zero_add]
    grind
/-- the chance, one point after another -/
def V (p : Rat) : Nat → Nat → Rat
  | 0, _ => 1
  | _ + 1, 0 => 0
  | a + 1, b + 1 => p * V p a (b + 1) + (1 - p) * V p (a + 1) b
theorem pow_ne {y : Int} {n : Nat} (hy : 0 < y) : (y : Rat) ^ n ≠ 0 := by
  have h : (0 : Rat) < y := by exact_mod_cast hy
  have := Rat.pow_pos (n := n) h
  grind
theorem V_Tl {x y : Int} (hy : 0 < y) : ∀ a b : Nat, 0 < a + b → V ((x : Rat) / y) a b = (Tl x (y - x) (a + b - 1) a : Rat) / (y : Rat) ^ (a + b - 1)
  | 0, b + 1, _ => by
    have : 0 + (b + 1) - 1 = b := by omega
    rw [this, Tl_0]
    have : x + (y - x) = y := by omega
    rw [this]
    simp only [V]
    rw [Rat.intCast_pow]
    have h := pow_ne (n := b) hy
    grind
  | a + 1, 0, _ => by
    rw [Tl_gt (by omega)]
    simp only [V]
    grind
  | a + 1, b + 1, _ => by
    have h1 := V_Tl (x := x) hy a (b + 1) (by omega)
    have h2 := V_Tl (x := x) hy (a + 1) b (by omega)
    have e0 : a + 1 + (b + 1) - 1 = (a + b) + 1 := by omega
    have e1 : a + (b + 1) - 1 = a + b := by omega
    have e2 : a + 1 + b - 1 = a + b := by omega
    rw [e1] at h1
    rw [e2] at h2
    rw [e0, Tl_step]
    simp only [V]
    rw [h1, h2, Rat.pow_succ]
    have h := pow_ne (n := a + b) hy
    have hy' := pow_ne (n := 1) hy
    rw [Rat.pow_one] at hy'
    push_cast
    generalize (y : Rat) ^ (a + b) = W at h ⊢
    generalize (y : Rat) = Y at hy' ⊢
    generalize (x : Rat) = X at ⊢
    generalize (Tl x (y - x) (a + b) a : Rat) = A at ⊢
    generalize (Tl x (y - x) (a + b) (a + 1) : Rat) = B at ⊢
    grind
end Lib
end

section
set_option Elab.async false
set_option linter.all false
/-! Plain: all orders of 0 .. n - 1, ascending; the first of the least. -/
namespace Lib
/-- first difference, else the shorter -/
def llt : List Nat → List Nat → Bool
  | [], [] => false
  | [], _ :: _ => true
  | _ :: _, [] => false
  | x :: xs, y :: ys => if x = y then llt xs ys else decide (x < y)
theorem llt_irrefl : ∀ o, llt o o = false
  | [] => rfl
  | x :: xs => by simp [llt, llt_irrefl xs]
theorem llt_trans : ∀ {a b c}, llt a b = true → llt b c = true → llt a c = true
  | [], [], _, h, _ => by cases h
  | [], _ :: _, [], _, h => by cases h
  | [], _ :: _, _ :: _, _, _ => rfl
  | _ :: _, [], _, h, _ => by cases h
  | _ :: _, _ :: _, [], _, h => by cases h
  | x :: xs, y :: ys, z :: zs, h, h' => by
    unfold llt at h h' ⊢
    split at h
    · rename_i e; subst e
      split at h'
      · rename_i e; subst e; rw [if_pos rfl]; exact llt_trans h h'
      · rename_i e; rw [if_neg e]; exact h'
    · split at h'
      · rename_i e; subst e; rename_i e; rw [if_neg e]; exact h
      · have h1 := of_decide_eq_true h
        have h2 := of_decide_eq_true h'
        rw [if_neg (by omega)]
        exact decide_eq_true (by omega)
theorem llt_tri : ∀ (a b : List Nat), llt a b = false → llt b a = false → a = b
  | [], [], _, _ => rfl
  | [], _ :: _, h, _ => by cases h
  | _ :: _, [], _, h => by cases h
  | x :: xs, y :: ys, h, h' => by
    unfold llt at h h'
    by_cases e : x = y
    · subst e
      rw [if_pos rfl] at h h'
      rw [llt_tri xs ys h h']
    · rw [if_neg e] at h
      rw [if_neg (fun q => e q.symm)] at h'
      have h1 := of_decide_eq_false h
      have h2 := of_decide_eq_false h'
      omega
theorem llt_app_l : ∀ {a b : List Nat} (x y : List Nat), a.length = b.length → llt a b = true → llt (a ++ x) (b ++ y) = true
  | [], [], _, _, _, h => by cases h
  | [], _ :: _, _, _, h, _ => by simp at h
  | _ :: _, [], _, _, h, _ => by simp at h
  | p :: a, q :: b, x, y, hl, h => by
    unfold llt at h
    show llt (p :: (a ++ x)) (q :: (b ++ y)) = true
    unfold llt
    split at h
    · rename_i e; rw [if_pos e]; exact llt_app_l x y (by simpa using hl) h
    · rename_i e; rw [if_neg e]; exact h
theorem llt_app_r : ∀ (a : List Nat) {x y : List Nat}, llt x y = true → llt (a ++ x) (a ++ y) = true
  | [], _, _, h => h
  | p :: a, x, y, h => by
    show llt (p :: (a ++ x)) (p :: (a ++ y)) = true
    unfold llt
    rw [if_pos rfl]
    exact llt_app_r a h
/-! orders -/
def grow (n : Nat) (rows : List (List Nat)) : List (List Nat) := rows.flatMap fun row => ((List.range n).filter fun i => !row.contains i).map fun i => row ++ [i]
def ords (n : Nat) : Nat → List (List Nat)
  | 0 => [[]]
  | k + 1 => grow n (ords n k)
theorem mem_grow {n : Nat} {rows : List (List Nat)} {o : List Nat} : o ∈ grow n rows ↔ ∃ row ∈ rows, ∃ i, i < n ∧ i ∉ row ∧ o = row ++ [i] := by
  unfold grow
  simp only [List.mem_flatMap, List.mem_map, List.mem_filter, List.mem_range, Bool.not_eq_true', List.contains_eq_mem, decide_eq_false_iff_not]
  constructor
  · rintro ⟨row, h, i, ⟨h1, h2⟩, rfl⟩; exact ⟨row, h, i, h1, h2, rfl⟩
  · rintro ⟨row, h, i, h1, h2, rfl⟩; exact ⟨row, h, i, ⟨h1, h2⟩, rfl⟩
/-- a row of k different numbers below n -/
structure IsRow (n k : Nat) (o : List Nat) : Prop where
  len : o.length = k
  nd : o.Nodup
  lt : ∀ x ∈ o, x < n
theorem mem_ords {n : Nat} : ∀ {k : Nat} {o : List Nat}, o ∈ ords n k ↔ IsRow n k o
  | 0, o => by
    constructor
    · intro h
      have : o = [] := by simpa [ords] using h
      subst this
      exact ⟨rfl, List.nodup_nil, by simp⟩
    · intro h
      have := h.len
      have : o = [] := List.length_eq_zero_iff.mp this
      simp [ords, this]
  | k + 1, o => by
    show o ∈ grow n (ords n k) ↔ _
    rw [mem_grow]
    constructor
    · rintro ⟨row, h, i, hi, hn, rfl⟩
      have r := mem_ords.mp h
      refine ⟨by simp [r.len], ?_, ?_⟩
      · rw [List.nodup_append]
        refine ⟨r.nd, by simp, ?_⟩
        intro a ha b hb
        simp at hb
        subst hb
        intro e; subst e; exact hn ha
      · intro x hx
        rcases List.mem_append.mp hx with h1 | h1
        · exact r.lt x h1
        · simp at h1; omega
    · intro h
      have hl := h.len
      have hne : o ≠ [] := by intro e; subst e; simp at hl
      have e := List.dropLast_concat_getLast hne
      have nd := h.nd
      rw [← e, List.nodup_append] at nd
      refine ⟨o.dropLast, mem_ords.mpr ⟨by simp [hl], nd.1, fun x hx => h.lt x ((List.dropLast_sublist o).subset hx)⟩, o.getLast hne, h.lt _ (List.getLast_mem hne), ?_, e.symm⟩
      intro hm
      exact nd.2.2 _ hm _ (.head _) rfl
theorem ords_sorted (n : Nat) : ∀ k, (ords n k).Pairwise fun a b => llt a b = true
  | 0 => by simp [ords]
  | k + 1 => by
    show (grow n (ords n k)).Pairwise _
    unfold grow
    rw [List.pairwise_flatMap]
    refine ⟨?_, ?_⟩
    · intro row _
      rw [List.pairwise_map]
      refine List.Pairwise.imp ?_ ((List.pairwise_lt_range (n := n)).filter _)
      intro a b hab
      refine llt_app_r row ?_
      unfold llt
      rw [if_neg (by omega)]
      exact decide_eq_true hab
    · refine List.Pairwise.imp_of_mem ?_ (ords_sorted n k)
      intro a b ha hb hab x hx y hy
      simp only [List.mem_map] at hx hy
      obtain ⟨i, _, rfl⟩ := hx
      obtain ⟨j, _, rfl⟩ := hy
      exact llt_app_l _ _ (by rw [(mem_ords.mp ha).len, (mem_ords.mp hb).len]) hab
theorem range_row (n : Nat) : IsRow n n (List.range n) := ⟨by simp, List.nodup_range, by simp⟩
theorem IsRow.perm {n : Nat} {o : List Nat} (h : IsRow n n o) : o.Perm (List.range n) := by
  have p1 : ((List.range n).filter fun i => o.contains i).Perm o := by
    refine (List.perm_ext_iff_of_nodup (List.nodup_range.filter _) h.nd).mpr ?_
    intro a
    simp only [List.mem_filter, List.mem_range, List.contains_eq_mem, decide_eq_true_eq]
    exact ⟨fun h => h.2, fun ha => ⟨h.lt a ha, ha⟩⟩
  have p2 := List.filter_append_perm (fun i => o.contains i) (List.range n)
  have hl := p2.length_eq
  have l1 := p1.length_eq
  rw [h.len] at l1
  rw [List.length_append, l1, List.length_range] at hl
  have e : ((List.range n).filter fun i => !o.contains i) = [] := List.length_eq_zero_iff.mp (by omega)
  rw [e, List.append_nil] at p2
  exact p1.symm.trans p2
theorem IsRow.of_perm {n : Nat} {o : List Nat} (h : o.Perm (List.range n)) : IsRow n n o :=
  ⟨by simpa using h.length_eq, h.nodup_iff.mpr List.nodup_range, fun x hx => List.mem_range.mp (h.mem_iff.mp hx)⟩
theorem IsRow.of_perm' {n : Nat} {o o' : List Nat} (h : IsRow n n o) (p : o'.Perm o) : IsRow n n o' := IsRow.of_perm (p.trans h.perm)
theorem ords_len : ∀ n, n ≤ 6 → (ords n n).length ≤ 720 := by
  intro n hn
  have : ∀ n, n < 7 → (ords n n).length ≤ 720 := by decide +kernel
  exact this n (by omega)
theorem ords_ne (n : Nat) : ords n n ≠ [] := List.ne_nil_of_mem (mem_ords.mpr (range_row n))
/-! the first of the least -/
def fmin {α : Type} (lt : α → α → Bool) (x : α) (xs : List α) : α := xs.foldl (fun a y => if lt y a = true then y else a) x
theorem fmin_map {α β : Type} {lt : α → α → Bool} {lt' : β → β → Bool} (f : α → β) : ∀ (xs : List α) (x : α), (∀ a b, lt' (f a) (f b) = lt a b) → fmin lt' (f x) (xs.map f) = f (fmin lt x xs)
  | [], x, _ => rfl
  | y :: ys, x, h => by
    show fmin lt' (if lt' (f y) (f x) = true then f y else f x) (ys.map f) = f (fmin lt (if lt y x = true then y else x) ys)
    rw [h, ← fmin_map f ys _ h]
    cases lt y x <;> rfl
theorem fmin_mem {α : Type} (lt : α → α → Bool) : ∀ (xs : List α) (x : α), fmin lt x xs ∈ x :: xs
  | [], x => .head _
  | y :: ys, x => by
    have := fmin_mem lt ys (if lt y x = true then y else x)
    show fmin lt (if lt y x = true then y else x) ys ∈ _
    rcases List.mem_cons.mp this with e | e
    · rw [e]; split
      · exact .tail _ (.head _)
      · exact .head _
    · exact .tail _ (.tail _ e)
/-- when later ones count as greater among equals, the first with the least key is the least of all -/
theorem fmin_key {α : Type} {lt : α → α → Bool} {c : α → Int} : ∀ (xs : List α) (x : α), (x :: xs).Pairwise (fun a b => lt b a = decide (c b < c a)) → fmin lt x xs = fmin (fun a b => decide (c a < c b)) x xs
  | [], _, _ => rfl
  | y :: ys, x, h => by
    have h1 := List.rel_of_pairwise_cons h (.head _)
    show fmin lt (if lt y x = true then y else x) ys = fmin _ (if decide (c y < c x) = true then y else x) ys
    rw [h1]
    refine fmin_key ys _ ?_
    split
    · exact (List.pairwise_cons.mp h).2
    · rw [List.pairwise_cons] at h ⊢
      exact ⟨fun a ha => h.1 a (.tail _ ha), (List.pairwise_cons.mp h.2).2⟩
/-- the least of a strict linear order is one, however it is sought -/
theorem fmin_le {α : Type} {lt : α → α → Bool} (tr : ∀ {a b c}, lt a b = true → lt b c = true → lt a c = true) (co : ∀ {a b c}, lt a b = true → lt a c = true ∨ lt c b = true) (ir : ∀ a, lt a a = false) : ∀ (xs : List α) (x : α), ∀ y ∈ x :: xs, lt y (fmin lt x xs) = false
  | [], x, y, hy => by
    simp at hy
    subst hy
    exact ir y
  | z :: zs, x, y, hy => by
    show lt y (fmin lt (if lt z x = true then z else x) zs) = false
    have ih := fmin_le (lt := lt) tr co ir zs (if lt z x = true then z else x)
    have h0 := ih _ (.head _)
    rcases List.mem_cons.mp hy with e | hy
    · subst e
      split at h0
      · rename_i hz
        rw [if_pos hz]
        cases q : lt y (fmin lt z zs) with
        | false => rfl
        | true => rw [tr hz q] at h0; cases h0
      · rename_i hz; rw [if_neg hz]; exact h0
    · rcases List.mem_cons.mp hy with e | hy
      · subst e
        split at h0
        · rename_i hz; rw [if_pos hz]; exact h0
        · rename_i hz; rw [if_neg hz]
          cases q : lt y (fmin lt x zs) with
          | false => rfl
          | true =>
            rcases co (c := x) q with h | h
            · exact absurd h hz
            · rw [h] at h0; cases h0
      · exact ih y (.tail _ hy)
end Lib
end

section
set_option Elab.async false
set_option linter.all false
/-! Plain: rising times falling is the least sum of products. -/
namespace Lib
def dot : List Int → List Int → Int
  | a :: as, b :: bs => a * b + dot as bs
  | _, _ => 0
def psum : List (Int × Int) → Int
  | [] => 0
  | p :: P => p.1 * p.2 + psum P
theorem psum_perm {P Q : List (Int × Int)} (h : P.Perm Q) : psum P = psum Q := by
  induction h with
  | nil => rfl
  | cons x _ ih => simp only [psum, ih]
  | swap x y l => simp only [psum]; omega
  | trans _ _ a b => exact a.trans b
theorem rearr : ∀ (A B : List Int) (P : List (Int × Int)), A.Pairwise (· ≤ ·) → B.Pairwise (fun a b => b ≤ a) → A.Perm (P.map Prod.fst) → B.Perm (P.map Prod.snd) → dot A B ≤ psum P
  | [], B, P, _, _, pa, pb => by
    have : P = [] := by
      have := pa.length_eq
      simpa using this.symm
    subst this
    simp [dot, psum]
  | a :: A, [], P, _, _, pa, pb => by
    have h1 := pa.length_eq
    have h2 := pb.length_eq
    simp at h1 h2
    omega
  | a :: A, b :: B, P, sa, sb, pa, pb => by
    have ha : a ∈ P.map Prod.fst := pa.mem_iff.mp (.head _)
    obtain ⟨⟨a', y⟩, hp, e⟩ := List.mem_map.mp ha
    simp at e; subst e
    have p1 := List.perm_cons_erase hp
    generalize P.erase (a', y) = P1 at p1
    have pa1 : A.Perm (P1.map Prod.fst) := (pa.trans (p1.map Prod.fst)).cons_inv
    have pb1 : (b :: B).Perm (y :: P1.map Prod.snd) := pb.trans (p1.map Prod.snd)
    rw [psum_perm p1]
    show a' * b + dot A B ≤ a' * y + psum P1
    rw [List.pairwise_cons] at sa sb
    by_cases e : b = y
    · subst e
      have := rearr A B P1 sa.2 sb.2 pa1 pb1.cons_inv
      omega
    · have hb : b ∈ P1.map Prod.snd := by
        rcases List.mem_cons.mp (pb1.mem_iff.mp (.head _)) with h | h
        · exact absurd h e
        · exact h
      obtain ⟨⟨x, b'⟩, hp', e'⟩ := List.mem_map.mp hb
      simp at e'; subst e'
      have p2 := List.perm_cons_erase hp'
      generalize P1.erase (x, b') = P2 at p2
      have pa2 : A.Perm (x :: P2.map Prod.fst) := pa1.trans (p2.map Prod.fst)
      have pb2 : B.Perm (y :: P2.map Prod.snd) := by
        have : (b' :: B).Perm (b' :: y :: P2.map Prod.snd) := (pb1.trans ((p2.map Prod.snd).cons y)).trans (.swap _ _ _)
        exact this.cons_inv
      have ih := rearr A B ((x, y) :: P2) sa.2 sb.2 pa2 pb2
      have hx : a' ≤ x := sa.1 x (pa2.mem_iff.mpr (.head _))
      have hy : y ≤ b' := sb.1 y (pb2.mem_iff.mpr (.head _))
      rw [psum_perm p2]
      simp only [psum] at ih ⊢
      have h0 := Int.mul_nonneg (show (0 : Int) ≤ x - a' by omega) (show (0 : Int) ≤ b' - y by omega)
      rw [Int.sub_mul, Int.mul_sub, Int.mul_sub] at h0
      omega
end Lib
end

section
set_option Elab.async false
set_option linter.all false
/-! Plain: exchanging the two that help most, as long as one helps. -/
namespace Lib
abbrev K3 := Int × Nat × Nat
def lt3 (a b : K3) : Bool := if a.1 = b.1 then (if a.2.1 = b.2.1 then decide (a.2.2 < b.2.2) else decide (a.2.1 < b.2.1)) else decide (a.1 < b.1)
theorem lt3_iff (a b : K3) : lt3 a b = true ↔ a.1 < b.1 ∨ (a.1 = b.1 ∧ (a.2.1 < b.2.1 ∨ (a.2.1 = b.2.1 ∧ a.2.2 < b.2.2))) := by
  unfold lt3
  split
  · split
    · rw [decide_eq_true_iff]; omega
    · rw [decide_eq_true_iff]; omega
  · rw [decide_eq_true_iff]; omega
theorem lt3_irrefl (a : K3) : lt3 a a = false := by
  cases h : lt3 a a with
  | false => rfl
  | true => rw [lt3_iff] at h; omega
theorem lt3_trans {a b c : K3} (h : lt3 a b = true) (h' : lt3 b c = true) : lt3 a c = true := by
  rw [lt3_iff] at *; omega
theorem lt3_co {a b c : K3} (h : lt3 a b = true) : lt3 a c = true ∨ lt3 c b = true := by
  rw [lt3_iff] at *; rw [lt3_iff]; omega
theorem lt3_tri {a b : K3} (h : lt3 a b = false) (h' : lt3 b a = false) : a = b := by
  have h1 : ¬ lt3 a b = true := by rw [h]; decide
  have h2 : ¬ lt3 b a = true := by rw [h']; decide
  rw [lt3_iff] at h1 h2
  obtain ⟨a1, a2, a3⟩ := a
  obtain ⟨b1, b2, b3⟩ := b
  simp only [Prod.mk.injEq]
  simp only at h1 h2
  omega
/-- the least of two lists with the same members -/
theorem fmin3_same {x y : K3} {xs ys : List K3} (h : ∀ a, a ∈ x :: xs ↔ a ∈ y :: ys) : fmin lt3 x xs = fmin lt3 y ys := by
  refine lt3_tri ?_ ?_
  · exact fmin_le (lt := lt3) lt3_trans lt3_co lt3_irrefl ys y _ ((h _).mp (fmin_mem lt3 xs x))
  · exact fmin_le (lt := lt3) lt3_trans lt3_co lt3_irrefl xs x _ ((h _).mpr (fmin_mem lt3 ys y))
/-- the first of the least from None on -/
def ofold {α : Type} (lt : α → α → Bool) (b : Option α) (l : List α) : Option α := l.foldl (fun b y => match b with | none => some y | some x => if lt y x = true then some y else some x) b
theorem ofold_some {α : Type} (lt : α → α → Bool) : ∀ (l : List α) (x : α), ofold lt (some x) l = some (fmin lt x l)
  | [], _ => rfl
  | y :: l, x => by
    show ofold lt (if lt y x = true then some y else some x) l = some (fmin lt (if lt y x = true then y else x) l)
    rw [← ofold_some]
    cases lt y x <;> rfl
theorem ofold_cons {α : Type} (lt : α → α → Bool) (x : α) (l : List α) : ofold lt none (x :: l) = some (fmin lt x l) := ofold_some lt l x
theorem ofold_app {α : Type} (lt : α → α → Bool) (b : Option α) (l l' : List α) : ofold lt b (l ++ l') = ofold lt (ofold lt b l) l' := List.foldl_append
theorem ofold_one {α : Type} (lt : α → α → Bool) (b : Option α) (y : α) : ofold lt b [y] = (match b with | none => some y | some x => if lt y x = true then some y else some x) := rfl
/-! exchanging -/
def exch (o : List Nat) (i j : Nat) : List Nat := (o.set i (o.getD j 0)).set j (o.getD i 0)
theorem exch_len (o : List Nat) (i j : Nat) : (exch o i j).length = o.length := by simp [exch]
theorem set_perm {o : List Nat} {i : Nat} (h : i < o.length) (x : Nat) : (o.getD i 0 :: o.set i x).Perm (x :: o) := by
  induction o generalizing i with
  | nil => simp at h
  | cons y o ih =>
    cases i with
    | zero => exact .swap _ _ _
    | succ i =>
      have := ih (i := i) (by simpa using h)
      show (o.getD i 0 :: y :: o.set i x).Perm (x :: y :: o)
      exact (List.Perm.swap _ _ _).trans ((this.cons y).trans (.swap _ _ _))
theorem exch_perm {o : List Nat} {i j : Nat} (hij : i < j) (hj : j < o.length) : (exch o i j).Perm o := by
  have p1 := set_perm (o := o) (i := i) (by omega) (o.getD j 0)
  have p2 := set_perm (o := o.set i (o.getD j 0)) (i := j) (by simpa using hj) (o.getD i 0)
  have e : (o.set i (o.getD j 0)).getD j 0 = o.getD j 0 := by
    simp [List.getD_eq_getElem?_getD, List.getElem?_set_ne (Nat.ne_of_lt hij)]
  rw [e] at p2
  have p3 : (o.getD j 0 :: exch o i j).Perm (o.getD j 0 :: o) := p2.trans p1
  exact p3.cons_inv
theorem exch_cut {o : List Nat} {i j : Nat} (hij : i < j) (hj : j < o.length) : o.take i ++ [o.getD j 0] ++ (o.take j).drop (i + 1) ++ [o.getD i 0] ++ o.drop (j + 1) = exch o i j := by
  refine List.ext_getElem? fun k => ?_
  simp only [exch, List.getD_eq_getElem?_getD]
  have e1 : (o.take i).length = i := by simp; omega
  have e2 : ((o.take j).drop (i + 1)).length = j - (i + 1) := by simp; omega
  simp only [List.append_assoc, List.getElem?_append, e1, e2, List.length_cons, List.length_nil, List.getElem?_set, List.length_set]
  by_cases h1 : k < i
  · rw [if_pos h1, if_neg (by omega), if_neg (by omega), List.getElem?_take, if_pos h1]
  · rw [if_neg h1]
    by_cases h2 : k = i
    · subst h2
      rw [if_pos (by omega), if_neg (by omega), if_pos rfl, if_pos (by omega)]
      simp
    · rw [if_neg (by omega)]
      by_cases h3 : k < j
      · rw [if_pos (by omega), if_neg (by omega), if_neg (by omega), List.getElem?_drop, List.getElem?_take, if_pos (by omega)]
        congr 1; omega
      · rw [if_neg (by omega)]
        by_cases h4 : k = j
        · subst h4
          rw [if_pos (by omega), if_pos rfl, if_pos (by omega)]
          have : k - i - (0 + 1) - (k - (i + 1)) = 0 := by omega
          rw [this]
          simp
        · rw [if_neg (by omega), if_neg (by omega), if_neg (by omega), List.getElem?_drop]
          congr 1; omega
/-! the pairs, in the program's order and in the law's -/
def key (c : List Nat → Int) (o : List Nat) (i j : Nat) : K3 := (c (exch o i j), i, j)
def keysP (c : List Nat → Int) (o : List Nat) (n : Nat) : List K3 := (List.range n).flatMap fun j => (List.range j).map fun i => key c o i j
def keysL (c : List Nat → Int) (o : List Nat) (n : Nat) : List K3 := (List.range n).flatMap fun i => (List.range (n - (i + 1))).map fun t => key c o i (i + 1 + t)
theorem mem_keysP {c : List Nat → Int} {o : List Nat} {n : Nat} {k : K3} : k ∈ keysP c o n ↔ ∃ i j, i < j ∧ j < n ∧ k = key c o i j := by
  unfold keysP
  simp only [List.mem_flatMap, List.mem_map, List.mem_range]
  constructor
  · rintro ⟨j, hj, i, hi, rfl⟩; exact ⟨i, j, hi, hj, rfl⟩
  · rintro ⟨i, j, hi, hj, rfl⟩; exact ⟨j, hj, i, hi, rfl⟩
theorem mem_keysL {c : List Nat → Int} {o : List Nat} {n : Nat} {k : K3} : k ∈ keysL c o n ↔ ∃ i j, i < j ∧ j < n ∧ k = key c o i j := by
  unfold keysL
  simp only [List.mem_flatMap, List.mem_map, List.mem_range]
  constructor
  · rintro ⟨i, hi, t, ht, rfl⟩; exact ⟨i, i + 1 + t, by omega, by omega, rfl⟩
  · rintro ⟨i, j, hi, hj, rfl⟩; exact ⟨i, by omega, j - (i + 1), by omega, by rw [show i + 1 + (j - (i + 1)) = j by omega]⟩
/-- the exchange that helps most -/
def bestK (c : List Nat → Int) (n : Nat) (o : List Nat) : K3 := match keysP c o n with
  | [] => (0, 0, 0)
  | x :: xs => fmin lt3 x xs
theorem bestK_p {c : List Nat → Int} {n : Nat} {o : List Nat} (hn : 2 ≤ n) : ∃ x xs, keysP c o n = x :: xs ∧ bestK c n o = fmin lt3 x xs := by
  cases h : keysP c o n with
  | nil =>
    have : key c o 0 1 ∈ keysP c o n := mem_keysP.mpr ⟨0, 1, by omega, by omega, rfl⟩
    rw [h] at this; cases this
  | cons x xs => exact ⟨x, xs, rfl, by unfold bestK; rw [h]⟩
theorem bestK_l {c : List Nat → Int} {n : Nat} {o : List Nat} (hn : 2 ≤ n) : ofold lt3 none (keysL c o n) = some (bestK c n o) := by
  obtain ⟨x, xs, h, e⟩ := bestK_p (c := c) (o := o) hn
  cases h' : keysL c o n with
  | nil =>
    have : key c o 0 1 ∈ keysL c o n := mem_keysL.mpr ⟨0, 1, by omega, by omega, rfl⟩
    rw [h'] at this; cases this
  | cons y ys =>
    rw [ofold_cons, e]
    congr 1
    refine fmin3_same fun a => ?_
    rw [← h, ← h', mem_keysP, mem_keysL]
theorem bestK_is {c : List Nat → Int} {n : Nat} {o : List Nat} (hn : 2 ≤ n) : ∃ i j, i < j ∧ j < n ∧ bestK c n o = key c o i j := by
  obtain ⟨x, xs, h, e⟩ := bestK_p (c := c) (o := o) hn
  have := fmin_mem lt3 xs x
  rw [← h, ← e] at this
  exact mem_keysP.mp this
def climb (c : List Nat → Int) (n : Nat) : Nat → List Nat → List Nat
  | 0, o => o
  | k + 1, o => if c o ≤ (bestK c n o).1 then o else climb c n k (exch o (bestK c n o).2.1 (bestK c n o).2.2)
def mu (c : List Nat → Int) (n : Nat) (o : List Nat) : Nat := (ords n n).countP fun x => decide (c x < c o)
theorem countP_lt {α : Type} {p q : α → Bool} {a : α} : ∀ {l : List α}, (∀ x, p x = true → q x = true) → a ∈ l → q a = true → p a = false → l.countP p < l.countP q
  | [], _, h, _, _ => by cases h
  | x :: l, hpq, h, hq, hp => by
    have le : l.countP p ≤ l.countP q := by
      induction l with
      | nil => exact Nat.le_refl _
      | cons y l ih =>
        rw [List.countP_cons, List.countP_cons]
        have := List.countP_mono_left (l := y :: l) (p := p) (q := q) (fun x _ => hpq x)
        rw [List.countP_cons, List.countP_cons] at this
        exact this
    rw [List.countP_cons, List.countP_cons]
    rcases List.mem_cons.mp h with e | h
    · subst e
      rw [if_pos hq, if_neg (by rw [hp]; decide)]
      omega
    · have ih := countP_lt (l := l) hpq h hq hp
      have : (if p x = true then 1 else 0) ≤ (if q x = true then 1 else 0) := by
        split
        · rename_i e; rw [if_pos (hpq x e)]; exact Nat.le_refl _
        · exact Nat.zero_le _
      omega
theorem mu_lt {c : List Nat → Int} {n : Nat} {o o' : List Nat} (h : IsRow n n o') (hc : c o' < c o) : mu c n o' < mu c n o := by
  refine countP_lt (a := o') (fun x hx => ?_) (mem_ords.mpr h) (decide_eq_true hc) (decide_eq_false (by omega))
  have := of_decide_eq_true hx
  exact decide_eq_true (by omega)
theorem mu_720 {c : List Nat → Int} {n : Nat} {o : List Nat} (h : IsRow n n o) (hn : n ≤ 6) : mu c n o < 720 := by
  have h1 := countP_lt (l := ords n n) (p := fun x => decide (c x < c o)) (q := fun _ => true) (a := o) (fun _ _ => rfl) (mem_ords.mpr h) rfl (decide_eq_false (by omega))
  have h2 := ords_len n hn
  have h3 : (ords n n).countP (fun _ => true) ≤ (ords n n).length := List.countP_le_length
  unfold mu
  omega
theorem exch_row {n : Nat} {o : List Nat} {i j : Nat} (h : IsRow n n o) (hij : i < j) (hj : j < n) : IsRow n n (exch o i j) := h.of_perm' (exch_perm hij (by rw [h.len]; exact hj))
theorem best_row {c : List Nat → Int} {n : Nat} {o : List Nat} (hn : 2 ≤ n) (h : IsRow n n o) : IsRow n n (exch o (bestK c n o).2.1 (bestK c n o).2.2) ∧ (bestK c n o).1 = c (exch o (bestK c n o).2.1 (bestK c n o).2.2) := by
  obtain ⟨i, j, hij, hj, e⟩ := bestK_is (c := c) (o := o) hn
  rw [e]
  exact ⟨exch_row h hij hj, rfl⟩
theorem climb_more {c : List Nat → Int} {n : Nat} (hn : 2 ≤ n) : ∀ (k k' : Nat) (o : List Nat), IsRow n n o → mu c n o < k → mu c n o < k' → climb c n k o = climb c n k' o
  | 0, _, _, _, h, _ => by omega
  | _ + 1, 0, _, _, _, h => by omega
  | k + 1, k' + 1, o, hr, h, h' => by
    unfold climb
    split
    · rfl
    · rename_i q
      obtain ⟨r, e⟩ := best_row (c := c) hn hr
      have := mu_lt (c := c) (o := o) r (by omega)
      exact climb_more hn k k' _ r (by omega) (by omega)
theorem climb_row {c : List Nat → Int} {n : Nat} (hn : 2 ≤ n) : ∀ (k : Nat) (o : List Nat), IsRow n n o → IsRow n n (climb c n k o)
  | 0, _, h => h
  | k + 1, o, h => by
    unfold climb
    split
    · exact h
    · exact climb_row hn k _ (best_row hn h).1
theorem climb_end {c : List Nat → Int} {n : Nat} (hn : 2 ≤ n) : ∀ (k : Nat) (o : List Nat), IsRow n n o → mu c n o < k → c (climb c n k o) ≤ (bestK c n (climb c n k o)).1
  | 0, _, _, h => by omega
  | k + 1, o, hr, h => by
    unfold climb
    split
    · rename_i q; exact q
    · rename_i q
      obtain ⟨r, e⟩ := best_row (c := c) hn hr
      have := mu_lt (c := c) (o := o) r (by omega)
      exact climb_end hn k _ r (by omega)
theorem climb_again {c : List Nat → Int} {n : Nat} (hn : 2 ≤ n) (k k' : Nat) (o : List Nat) (hr : IsRow n n o) (h : mu c n o < k) : climb c n k' (climb c n k o) = climb c n k o := by
  cases k' with
  | zero => rfl
  | succ k' =>
    have := climb_end hn k o hr h
    rw [climb, if_pos this]
end Lib
end

section
set_option Elab.async false
set_option linter.all false
set_option maxRecDepth 10000
/-! Shared: steps, comprehensions with tests and with two fors, tuples of naturals, tables, keys in order. -/
namespace Lib
open DS PySem
theorem sSet_deep {i l : Nat} {f : FE} {c : Esc} {ρ : PEnv} {L : List Nat} {d : D} (h : f ρ = some d) (hd : flat d = false) : sSet i l f c (ρ, L) = .next (ρ.set i (some d), (demote c L).set i l) := by
  rw [sSet_next (s := (ρ, L)) h, if_neg (by rw [hd]; decide)]
theorem sFor_at {fi : FA} {c : Esc} {t : Tg} {body : FS} {ρ : PEnv} {L : List Nat} {ds : List D} (h : fi ρ = some ds) : sFor fi c t body (ρ, L) = forGo t body ds (ρ, demote c L) := sFor_go (s := (ρ, L)) h
theorem sIf_tt {c : FT} {f g : FS} {ρ : PEnv} {L : List Nat} (h : c ρ = some true) : sIf c f g (ρ, L) = f (ρ, L) := sIf_t (s := (ρ, L)) h
theorem sIf_ff {c : FT} {f g : FS} {ρ : PEnv} {L : List Nat} (h : c ρ = some false) : sIf c f g (ρ, L) = g (ρ, L) := sIf_f (s := (ρ, L)) h
theorem tOr_t {f g : FT} {ρ : PEnv} (h : f ρ = some true) : tOrD f g ρ = some true := by
  unfold tOrD; rw [h]
theorem tOr_f {f g : FT} {ρ : PEnv} (h : f ρ = some false) : tOrD f g ρ = g ρ := by
  unfold tOrD; rw [h]
theorem forGo_next {t : Tg} {body : FS} {d : D} {ds : List D} {s s' : S} {l : List (Nat × D)} (h : t.go d = some l) (h' : body (setsD s.1 l, zeros s.2 l) = .next s') : forGo t body (d :: ds) s = forGo t body ds s' := by
  rw [forGo]; simp only [h, h']
theorem forGo_ret {t : Tg} {body : FS} {d e : D} {ds : List D} {s : S} {l : List (Nat × D)} (h : t.go d = some l) (h' : body (setsD s.1 l, zeros s.2 l) = .ret e) : forGo t body (d :: ds) s = .ret e := by
  rw [forGo]; simp only [h, h']
theorem rngD_succ (lo : Int) (k : Nat) : rngD lo (k + 1) = .int lo :: rngD (lo + 1) k := by
  unfold rngD
  rw [List.range_succ_eq_map, List.map_cons, List.map_map]
  congr 1
  · congr 1; omega
  · refine List.map_congr_left fun a _ => ?_
    show PyData.int _ = _
    congr 1
    push_cast
    omega
theorem flat_list (ds : List D) : flat (.list ds) = false := by simp [flat]
theorem sAug_next {i : Nat} {op : D → D → Option D} {f : FE} {ρ : PEnv} {L : List Nat} {x y d : D} (hi : eVar i ρ = some x) (hf : f ρ = some y) (ho : op x y = some d) : sAug i op f (ρ, L) = .next (ρ.set i (some d), L.set i 0) := by
  unfold sAug
  simp only [hi, hf, o2_ss, ho]
theorem sTup_flat {t : Tg} {f : FE} {c : Esc} {ρ : PEnv} {L : List Nat} {d : D} {l : List (Nat × D)} (h : f ρ = some d) (h' : t.go d = some l) (hd : flat d = true) : sTup t f c (ρ, L) = .next (setsD ρ l, zeros L l) := by
  unfold sTup
  simp only [h, h', hd, if_true]
theorem pass {f g : FE} {ρ : PEnv} {L : List Nat} {d : D} {n : Nat} (hf : f ρ = some d) (hg : g ρ = some d) (hp : pl n d = true) {G : Fn} (hG : G [d, d] = some (.bool true)) :
    sIf (tNotD (tTru (eCall 2 G (aCons f (aCons g aNil))))) (sRet (eC (.bool false))) sNil (ρ, L) = .next (ρ, L) := by
  rw [sIf_f (by simp only [tNotD_a, tTru_a, eCall_2, hf, hg, o1_s, hG, dTru_b]; rfl)]
  rfl
theorem sExt_ok {i : Nat} {f : FE} {c : Esc} {ρ : PEnv} {L : List Nat} {es ds : List D} (h : f ρ = some (.list es)) (hi : eVar i ρ = some (.list ds)) (hl : ds.length + es.length ≤ 16777216) (hL : lv (demote c L) i = 1) : sExt i f c (ρ, L) = .next (ρ.set i (some (.list (ds ++ es))), demote c L) := by
  unfold sExt
  simp only [h, hi]
  have : ds.length + es.length ≤ sz := hl
  rw [if_pos ⟨this, hL⟩]
/-! comprehensions -/
theorem lc_of {α : Type} {t : Tg} {fe : FE} {ρ : PEnv} (h g : α → D) : ∀ {l : List α}, (∀ a ∈ l, ∃ m, t.go (h a) = some m ∧ fe (setsD ρ m) = some (g a)) → lcGo t tTrue fe ρ (l.map h) = some (l.map g)
  | [], _ => rfl
  | a :: l, hh => by
    obtain ⟨m, e1, e2⟩ := hh a (.head _)
    have ih := lc_of h g (l := l) fun d' hd => hh d' (.tail _ hd)
    simp only [List.map_cons]
    unfold lcGo
    rw [e1]
    simp only [tTrue_a, e2, ih]
theorem eLc_of {α : Type} {fi : FA} {t : Tg} {fe : FE} {vs : List Nat} {ρ : PEnv} (h g : α → D) {l : List α} (hi : fi ρ = some (l.map h)) (hl : l.length ≤ 16777216) (hg : ∀ a ∈ l, ∃ m, t.go (h a) = some m ∧ fe (setsD (wipeD ρ vs) m) = some (g a)) :
    eLc fi t tTrue fe vs ρ = some (.list (l.map g)) := by
  unfold eLc
  rw [hi, o1_s]
  have : (l.map h).length ≤ sz := by rw [List.length_map]; exact hl
  rw [if_pos this, lc_of h g hg, o1_s]
theorem lc_if {α : Type} {t : Tg} {ft : FT} {fe : FE} {ρ : PEnv} (h g : α → D) (p : α → Bool) : ∀ {l : List α}, (∀ a ∈ l, ∃ m, t.go (h a) = some m ∧ ft (setsD ρ m) = some (p a) ∧ (p a = true → fe (setsD ρ m) = some (g a))) → lcGo t ft fe ρ (l.map h) = some ((l.filter p).map g)
  | [], _ => rfl
  | a :: l, hh => by
    obtain ⟨m, e1, e2, e3⟩ := hh a (.head _)
    have ih := lc_if h g p (l := l) fun d' hd => hh d' (.tail _ hd)
    simp only [List.map_cons]
    unfold lcGo
    rw [e1]
    cases hp : p a with
    | true => simp only [e2, hp, e3 hp, ih, List.filter_cons_of_pos, List.map_cons]
    | false => simp only [e2, hp, ih, List.filter_cons_of_neg, Bool.false_eq_true, not_false_eq_true]
theorem eLc_if {α : Type} {fi : FA} {t : Tg} {ft : FT} {fe : FE} {vs : List Nat} {ρ : PEnv} (h g : α → D) (p : α → Bool) {l : List α} (hi : fi ρ = some (l.map h)) (hl : l.length ≤ 16777216) (hg : ∀ a ∈ l, ∃ m, t.go (h a) = some m ∧ ft (setsD (wipeD ρ vs) m) = some (p a) ∧ (p a = true → fe (setsD (wipeD ρ vs) m) = some (g a))) :
    eLc fi t ft fe vs ρ = some (.list ((l.filter p).map g)) := by
  unfold eLc
  rw [hi, o1_s]
  have : (l.map h).length ≤ sz := by rw [List.length_map]; exact hl
  rw [if_pos this, lc_if h g p hg, o1_s]
theorem lc2_of {α : Type} {t : Tg} {inner : PEnv → Option (List D)} {ρ : PEnv} (h : α → D) (g : α → List D) : ∀ {l : List α}, (∀ a ∈ l, ∃ m, t.go (h a) = some m ∧ inner (setsD ρ m) = some (g a)) → lc2Go t tTrue inner ρ (l.map h) = some (l.flatMap g)
  | [], _ => rfl
  | a :: l, hh => by
    obtain ⟨m, e1, e2⟩ := hh a (.head _)
    have ih := lc2_of h g (l := l) fun d' hd => hh d' (.tail _ hd)
    simp only [List.map_cons]
    unfold lc2Go
    rw [e1]
    simp only [tTrue_a, e2, ih, List.flatMap_cons]
theorem eLc2_of {α : Type} {fi fi1 : FA} {t t1 : Tg} {ft1 : FT} {fe : FE} {vs vs1 : List Nat} {ρ : PEnv} (h : α → D) (g : α → List D) {l : List α} (hi : fi ρ = some (l.map h)) (hg : ∀ a ∈ l, ∃ m, t.go (h a) = some m ∧ inLc fi1 t1 ft1 fe vs1 (setsD (wipeD ρ vs) m) = some (g a)) (hl : (l.flatMap g).length ≤ 16777216) :
    eLc2 fi t tTrue fi1 t1 ft1 fe vs vs1 ρ = some (.list (l.flatMap g)) := by
  unfold eLc2
  rw [hi, o1_s, lc2_of h g hg, o1_s]
  have : (l.flatMap g).length ≤ sz := hl
  rw [if_pos this]
theorem inLc_of {α : Type} {fi : FA} {t : Tg} {fe : FE} {vs : List Nat} {ρ : PEnv} (h g : α → D) {l : List α} (hi : fi ρ = some (l.map h)) (hg : ∀ a ∈ l, ∃ m, t.go (h a) = some m ∧ fe (setsD (wipeD ρ vs) m) = some (g a)) :
    inLc fi t tTrue fe vs ρ = some (l.map g) := by
  unfold inLc
  rw [hi, o1_s, lc_of h g hg]
theorem inLc_if {α : Type} {fi : FA} {t : Tg} {ft : FT} {fe : FE} {vs : List Nat} {ρ : PEnv} (h g : α → D) (p : α → Bool) {l : List α} (hi : fi ρ = some (l.map h)) (hg : ∀ a ∈ l, ∃ m, t.go (h a) = some m ∧ ft (setsD (wipeD ρ vs) m) = some (p a) ∧ (p a = true → fe (setsD (wipeD ρ vs) m) = some (g a))) :
    inLc fi t ft fe vs ρ = some ((l.filter p).map g) := by
  unfold inLc
  rw [hi, o1_s, lc_if h g p hg]
def nat (k : Nat) : D := .int (k : Int)
theorem rngD_0 (n : Nat) : rngD 0 n = (List.range n).map nat := by
  unfold rngD nat
  simp
theorem range1_nat {f : FE} {ρ : PEnv} {n : Nat} (h : f ρ = some (.int n)) (hn : n < 4611686018427387904) : iRange1 f ρ = some ((List.range n).map nat) := by
  rw [range1_ok h hn, rngD_0]
/-! tuples of naturals -/
def nt (o : List Nat) : D := .tuple (o.map nat)
@[simp] theorem nt_len (o : List Nat) : dLen (nt o) = some (.int o.length) := by simp [nt]
theorem nt_flat (o : List Nat) : flat (nt o) = true := by
  have : ∀ o : List Nat, flats (o.map nat) = true := by
    intro o
    induction o with
    | nil => rfl
    | cons a o ih => simpa [flats, nat, flat] using ih
  simpa [nt, flat] using this o
theorem atI_mp {α : Type} {xs : List α} {f : α → D} {j : Nat} (h : j < xs.length) : L2.atI (xs.map f) (j : Int) = some (f xs[j]) := L2.atI_nat (by simp [h])
theorem nt_ix {o : List Nat} {i : Nat} (h : i < o.length) : dIx (nt o) (.int i) = some (nat (o.getD i 0)) := by
  show L2.atI (o.map nat) (i : Int) = _
  rw [atI_mp h]
  simp [List.getD_eq_getElem?_getD, List.getElem?_eq_getElem h]
theorem nt_seq (o : List Nat) : seqOf (nt o) = some (o.map nat) := rfl
theorem eqv_nat (i j : Nat) : PyData.eqv (nat i) (nat j) = decide (i = j) := by
  simp only [nat, PyData.eqv]
  rw [Bool.eq_iff_iff]
  simp
  omega
theorem nt_in (i : Nat) (o : List Nat) : dIn (nat i) (nt o) = some (o.contains i) := by
  have h : (o.map nat).all scal1 = true := by
    rw [List.all_eq_true]
    intro x hx
    obtain ⟨k, _, rfl⟩ := List.mem_map.mp hx
    rfl
  show (if (scal1 (nat i) && (o.map nat).all scal1) = true then _ else _) = _
  rw [if_pos (by rw [h]; rfl)]
  congr 1
  rw [List.any_map]
  induction o with
  | nil => rfl
  | cons a o ih =>
    have h' : (o.map nat).all scal1 = true := by
      rw [List.all_eq_true] at h ⊢
      exact fun x hx => h x (.tail _ hx)
    rw [List.any_cons, ih h', List.contains_cons]
    congr 1
    show PyData.eqv (nat a) (nat i) = (i == a)
    rw [eqv_nat]
    by_cases e : a = i
    · subst e; simp
    · have : ¬ i = a := fun q => e q.symm
      simp [e, this]
theorem nt_notin (i : Nat) (o : List Nat) : dNotIn (nat i) (nt o) = some (!o.contains i) := by
  unfold dNotIn
  rw [nt_in, o1_s]
theorem nt_snoc {o : List Nat} {i : Nat} (h : o.length < 16777216) : dAdd (nt o) (.tuple [nat i]) = some (nt (o ++ [i])) := by
  show (if (o.map nat).length + 1 ≤ sz then _ else _) = _
  rw [if_pos (by rw [List.length_map]; exact h)]
  simp [nt]
/-! tables -/
def trow (n : Nat) (f : Nat → Int) : D := .tuple ((List.range n).map fun v => .int (f v))
def tb (n : Nat) (W : Nat → Nat → Int) : D := .tuple ((List.range n).map fun u => trow n (W u))
@[simp] theorem trow_len (n : Nat) (f : Nat → Int) : dLen (trow n f) = some (.int n) := by simp [trow]
@[simp] theorem tb_len (n : Nat) (W : Nat → Nat → Int) : dLen (tb n W) = some (.int n) := by simp [tb]
theorem trow_ix {n v : Nat} {f : Nat → Int} (h : v < n) : dIx (trow n f) (.int v) = some (.int (f v)) := by
  show L2.atI ((List.range n).map _) (v : Int) = _
  rw [atI_mp (by simpa using h)]
  simp
theorem tb_ix {n u : Nat} {W : Nat → Nat → Int} (h : u < n) : dIx (tb n W) (.int u) = some (trow n (W u)) := by
  show L2.atI ((List.range n).map _) (u : Int) = _
  rw [atI_mp (by simpa using h)]
  simp
theorem trow_flat (n : Nat) (f : Nat → Int) : flat (trow n f) = true := by
  have : ∀ o : List Nat, flats (o.map fun v => PyData.int (f v)) = true := by
    intro o
    induction o with
    | nil => rfl
    | cons a o ih => simpa [flats, flat] using ih
  simpa [trow, flat] using this (List.range n)
theorem tb_flat (n : Nat) (W : Nat → Nat → Int) : flat (tb n W) = true := by
  have : ∀ o : List Nat, flats (o.map fun u => trow n (W u)) = true := by
    intro o
    induction o with
    | nil => rfl
    | cons a o ih => simpa [flats, trow_flat] using ih
  simpa [tb, flat] using this (List.range n)
/-! sums -/
theorem rsum_list (g : Nat → Int) : ∀ n, ((List.range n).map g).sum = rsum g n
  | 0 => rfl
  | n + 1 => by
    rw [List.range_succ, List.map_append, List.sum_append, rsum_list g n]
    simp [rsum]
theorem sum_flat (g : Nat → Nat → Int) (m : Nat → Nat) : ∀ n, ((List.range n).flatMap fun p => (List.range (m p)).map (g p)).sum = rsum (fun p => rsum (g p) (m p)) n
  | 0 => rfl
  | n + 1 => by
    rw [List.range_succ, List.flatMap_append, List.sum_append, sum_flat g m n]
    simp [rsum, rsum_list]
theorem enum_map {α : Type} (h : α → D) (l : List α) (d : α) : enumD (l.map h) = (List.range l.length).map fun p => .tuple [nat p, h (l.getD p d)] := by
  unfold enumD
  refine List.ext_getElem? fun k => ?_
  by_cases hk : k < l.length
  · simp [hk, nat, List.getD_eq_getElem?_getD]
  · rw [List.getElem?_eq_none (by simp; omega), List.getElem?_eq_none (by simp; omega)]
/-! the order of trees -/
theorem allCmp_map {α : Type} {h : α → D} {l : List α} (h1 : ∀ a ∈ l, (h a).canLay0 = true) (h2 : ∀ a ∈ l, (h a).depth ≤ 60) (h3 : ∀ a ∈ l, noneD (h a) = false) (h4 : ∀ a ∈ l, ∀ b ∈ l, PySem.W.alike (h a) (h b) = true) : allCmp (l.map h) = true := by
  have c1 : ∀ l : List α, (∀ a ∈ l, (h a).canLay0 = true) → PyData.canLayAll0 (l.map h) = true := by
    intro l
    induction l with
    | nil => intro _; rfl
    | cons a l ih => intro q; simp [PyData.canLayAll0, q a (.head _), ih fun b hb => q b (.tail _ hb)]
  have c2 : ∀ l : List α, (∀ a ∈ l, (h a).depth ≤ 60) → PyData.depthAll (l.map h) ≤ 60 := by
    intro l
    induction l with
    | nil => intro _; simp [PyData.depthAll]
    | cons a l ih =>
      intro q
      have := q a (.head _)
      have := ih fun b hb => q b (.tail _ hb)
      simp only [List.map_cons, PyData.depthAll]
      omega
  unfold allCmp
  simp only [Bool.and_eq_true, decide_eq_true_eq, List.all_eq_true, List.mem_map]
  refine ⟨⟨c1 l h1, c2 l h2⟩, ?_⟩
  rintro x ⟨a, ha, rfl⟩
  refine ⟨by rw [h3 a ha]; rfl, ?_⟩
  rintro y ⟨b, hb, rfl⟩
  exact h4 a ha b hb
theorem minD_fmin {α : Type} {lt : α → α → Bool} (h : α → D) (x : α) (xs : List α) (e : ∀ a b, PySem.W.dataLt (h a) (h b) = lt a b) : PySem.W.minD (h x) (xs.map h) = h (fmin lt x xs) := fmin_map (lt' := PySem.W.dataLt) h xs x e
theorem min_list {α : Type} {lt : α → α → Bool} {h : α → D} {x : α} {xs : List α} (ok : allCmp ((x :: xs).map h) = true) (fl : ∀ a, flat (h a) = true) (e : ∀ a b, PySem.W.dataLt (h a) (h b) = lt a b) : dMin1 (.list ((x :: xs).map h)) = some (h (fmin lt x xs)) := by
  have m := minD_fmin h x xs e
  show bestOf PySem.W.minD (h x :: xs.map h) = _
  unfold bestOf
  simp only [m]
  have ok' : allCmp (h x :: xs.map h) = true := ok
  rw [if_pos (by rw [ok', fl]; rfl)]
/-- the items of a tuple, one by one -/
def rowLt (xs ys : List D) : Bool := PySem.W.dataLt (.tuple xs) (.tuple ys)
theorem rowLt_int (x y : Int) (xs ys : List D) : rowLt (.int x :: xs) (.int y :: ys) = if x = y then rowLt xs ys else decide (x < y) := by
  unfold rowLt
  rw [PySem.W.dataLt_tuple, PySem.W.dataLt_cons (by simp [PySem.W.alike]), PySem.W.dataLt_int, PySem.W.dataLt_tuple]
  by_cases h : x = y
  · rw [if_pos h, if_pos (by simp [PyData.eqv, h])]
  · rw [if_neg h, if_neg (by simp [PyData.eqv, h])]
theorem rowLt_nil : rowLt [] [] = false := by
  unfold rowLt; rw [PySem.W.dataLt_tuple]; exact PyProof.Rows.lex_irrefl _
theorem dataLt_nt (a b : List Nat) : PySem.W.dataLt (nt a) (nt b) = llt a b := by
  have : ∀ a b : List Nat, rowLt (a.map nat) (b.map nat) = llt a b := by
    intro a
    induction a with
    | nil =>
      intro b
      cases b with
      | nil => exact rowLt_nil
      | cons y b => unfold rowLt; rw [PySem.W.dataLt_tuple]; rfl
    | cons x a ih =>
      intro b
      cases b with
      | nil => unfold rowLt; rw [PySem.W.dataLt_tuple]; rfl
      | cons y b =>
        show rowLt (.int x :: a.map nat) (.int y :: b.map nat) = _
        rw [rowLt_int, ih, llt]
        by_cases h : x = y
        · rw [if_pos h, if_pos (by omega)]
        · rw [if_neg h, if_neg (by omega), decide_eq_decide]; omega
  exact this a b
theorem rowLt_one (x y : D) (h : PySem.W.alike x y = true) (h' : PyData.eqv x y = true → PySem.W.dataLt x y = false) : rowLt [x] [y] = PySem.W.dataLt x y := by
  unfold rowLt
  rw [PySem.W.dataLt_tuple, PySem.W.dataLt_cons h]
  split
  · rename_i e
    rw [h' e]; exact PyProof.Rows.lex_irrefl _
  · rfl
theorem alike_nats : ∀ a b : List Nat, PySem.W.alikeAll (a.map nat) (b.map nat) = true
  | [], _ => by rw [List.map_nil, PySem.W.alikeAll]
  | _ :: _, [] => by rw [List.map_nil, List.map_cons, PySem.W.alikeAll]
  | x :: a, y :: b => by rw [List.map_cons, List.map_cons, PySem.W.alikeAll, alike_nats a b]; simp [nat, PySem.W.alike]
theorem alike_nt (a b : List Nat) : PySem.W.alike (nt a) (nt b) = true := by
  unfold nt
  rw [PySem.W.alike]
  exact alike_nats a b
theorem lay_nats : ∀ a : List Nat, PyData.canLayAll0 (a.map nat) = true
  | [] => rfl
  | _ :: a => by simp [PyData.canLayAll0, nat, PyData.canLay0, lay_nats a]
theorem depth_nats : ∀ a : List Nat, PyData.depthAll (a.map nat) ≤ 1
  | [] => by simp [PyData.depthAll]
  | _ :: a => by
    have := depth_nats a
    simp only [List.map_cons, PyData.depthAll, nat, PyData.depth]
    omega
theorem lay_nt (a : List Nat) : (nt a).canLay0 = true := by
  unfold nt
  rw [PyData.canLay0]
  exact lay_nats a
theorem depth_nt (a : List Nat) : (nt a).depth ≤ 2 := by
  have := depth_nats a
  unfold nt
  simp only [PyData.depth]
  omega
end Lib
end

section
set_option Elab.async false
set_option linter.all false
set_option maxRecDepth 10000
/-! All orders: the program's list and the laws. -/
namespace Lib
open DS PySem
def den_all_orders : Fn := dfun 5 1 (sSeq (sSet 1 0 (eLst (aCons (eTup aNil) aNil)) ([] ++ []))
  (sSeq (sFor (iRange1 (eVar 0)) [] (.nm 2)
  (sSet 1 0 (eLc2 (iSeq (eVar 1)) (.nm 3) tTrue (iRange1 (eVar 0)) (.nm 4) (tCmp dNotIn (eVar 4) (eVar 3)) (eOp dAdd (eVar 3) (eTup (aCons (eVar 4) aNil))) [3, 4] [4]) ([(1, 1)] ++ ([] ++ ([(3, 1)] ++ ([(4, 0)] ++ []))))))
  (sRet (eVar 1))))
def den__law_orders : Fn := dfun 6 1 (sSeq (sSet 1 0 (eLst (aCons (eTup aNil) aNil)) ([] ++ []))
  (sSeq (sFor (iRange1 (eVar 0)) [] (.nm 2)
  (sSeq (sSet 3 1 (eLst aNil) [])
  (sSeq (sFor (iSeq (eVar 1)) [(1, 0)] (.nm 4)
  (sExt 3 (eLc (iRange1 (eVar 0)) (.nm 5) (tCmp dNotIn (eVar 5) (eVar 4)) (eOp dAdd (eVar 4) (eTup (aCons (eVar 5) aNil))) [5]) ([] ++ ([(4, 1)] ++ ([(5, 0)] ++ [])))))
  (sSet 1 0 (eVar 3) [(3, 0)]))))
  (sRet (eVar 1))))
def ol (rows : List (List Nat)) : D := .list (rows.map nt)
theorem ords_len' {n k : Nat} (hn : n ≤ 6) (hk : k ≤ n) : (ords n k).length ≤ 720 := by
  have : ∀ n, n < 7 → ∀ k, k < n + 1 → (ords n k).length ≤ 720 := by decide +kernel
  exact this n (by omega) k (by omega)
theorem grow_map (n : Nat) (rows : List (List Nat)) : (rows.flatMap fun row => ((List.range n).filter fun i => !row.contains i).map fun i => nt (row ++ [i])) = (grow n rows).map nt := by
  unfold grow
  rw [List.map_flatMap]
  simp only [List.map_map, Function.comp_def]
theorem all_orders_ok {n : Nat} (hn : n ≤ 6) : den_all_orders [.int n] = some (ol (ords n n)) := by
  refine dfun_ret [some (.int n), none, none, none, none] [0, 0, 0, 0, 0] rfl rfl rfl ?_
  rw [sSeq_next (s' := ([some (.int n), some (ol (ords n 0)), none, none, none], [0, 0, 0, 0, 0])) (by rfl)]
  obtain ⟨s', e, x, rfl⟩ := for_rng (i := 2) (n := n) (lo := 0) (body := sSet 1 0 (eLc2 (iSeq (eVar 1)) (.nm 3) tTrue (iRange1 (eVar 0)) (.nm 4) (tCmp dNotIn (eVar 4) (eVar 3)) (eOp dAdd (eVar 3) (eTup (aCons (eVar 4) aNil))) [3, 4] [4]) ([(1, 1)] ++ ([] ++ ([(3, 1)] ++ ([(4, 0)] ++ [])))))
    (fun k s => ∃ x, s = ([some (.int n), some (ol (ords n k)), x, none, none], [0, 0, 0, 0, 0])) _ ⟨none, rfl⟩ (by
      rintro k _ hk ⟨x, rfl⟩
      have l1 := ords_len' (n := n) (k := k + 1) hn (by omega)
      have hl : eLc2 (iSeq (eVar 1)) (.nm 3) tTrue (iRange1 (eVar 0)) (.nm 4) (tCmp dNotIn (eVar 4) (eVar 3)) (eOp dAdd (eVar 3) (eTup (aCons (eVar 4) aNil))) [3, 4] [4] [some (.int n), some (ol (ords n k)), some (.int (0 + k)), none, none] = some (ol (ords n (k + 1))) := by
        rw [eLc2_of nt (fun row => ((List.range n).filter fun i => !row.contains i).map fun i => nt (row ++ [i])) (l := ords n k) rfl]
        · rw [grow_map]; rfl
        · intro row hr
          refine ⟨_, rfl, ?_⟩
          refine inLc_if nat (fun i => nt (row ++ [i])) (fun i => !row.contains i) (range1_nat rfl (by omega)) ?_
          intro i hi
          refine ⟨_, rfl, nt_notin i row, fun _ => ?_⟩
          have hl := (mem_ords.mp hr).len
          exact nt_snoc (by omega)
        · rw [grow_map, List.length_map]
          show (ords n (k + 1)).length ≤ _
          omega
      refine ⟨_, ?_, some (.int (0 + k)), rfl⟩
      rw [sSet_next hl]
      rfl)
  rw [sSeq_next (s' := ([some (.int n), some (ol (ords n n)), x, none, none], [0, 0, 0, 0, 0])) (by
    rw [sFor_go (range1_ok (n := n) rfl (by omega))]
    exact e)]
  exact sRet_ok rfl
theorem ords_succ (n k : Nat) : grow n (ords n k) = ords n (k + 1) := rfl
theorem grow_take {n : Nat} {rows : List (List Nat)} {row : List Nat} {j : Nat} (h : rows[j]? = some row) : grow n (rows.take (j + 1)) = grow n (rows.take j) ++ ((List.range n).filter fun i => !row.contains i).map fun i => row ++ [i] := by
  rw [List.take_add_one, h]
  unfold grow
  simp
theorem grow_take_len (n : Nat) (rows : List (List Nat)) (j : Nat) : (grow n (rows.take j)).length ≤ (grow n rows).length := by
  conv => rhs; rw [← List.take_append_drop j rows]
  unfold grow
  rw [List.flatMap_append, List.length_append]
  omega
theorem law_orders_in {n k : Nat} (hn : n ≤ 6) (hk : k < n) (x2 x4 : Option D) : ∃ y, sFor (iSeq (eVar 1)) [(1, 0)] (.nm 4)
  (sExt 3 (eLc (iRange1 (eVar 0)) (.nm 5) (tCmp dNotIn (eVar 5) (eVar 4)) (eOp dAdd (eVar 4) (eTup (aCons (eVar 5) aNil))) [5]) ([] ++ ([(4, 1)] ++ ([(5, 0)] ++ [])))) ([some (.int n), some (ol (ords n k)), x2, some (.list []), x4, none], [0, 0, 0, 1, 0, 0]) = .next ([some (.int n), some (ol (ords n k)), x2, some (ol (ords n (k + 1))), y, none], [0, 0, 0, 1, 0, 0]) := by
  have l1 := ords_len' (n := n) (k := k + 1) hn (by omega)
  obtain ⟨s', e, y, rfl⟩ := for_inv (t := .nm 4) (body := sExt 3 (eLc (iRange1 (eVar 0)) (.nm 5) (tCmp dNotIn (eVar 5) (eVar 4)) (eOp dAdd (eVar 4) (eTup (aCons (eVar 5) aNil))) [5]) ([] ++ ([(4, 1)] ++ ([(5, 0)] ++ []))))
    (fun j s => ∃ y, s = ([some (.int n), some (ol (ords n k)), x2, some (ol (grow n ((ords n k).take j))), y, none], [0, 0, 0, 1, 0, 0])) ((ords n k).map nt) 0 ([some (.int n), some (ol (ords n k)), x2, some (.list []), x4, none], [0, 0, 0, 1, 0, 0]) ⟨x4, by rw [List.take_zero]; rfl⟩ (by
      rintro j d _ hd ⟨y, rfl⟩
      rw [List.getElem?_map] at hd
      obtain ⟨row, hr, rfl⟩ := Option.map_eq_some_iff.mp hd
      have hl := (mem_ords.mp (List.mem_of_getElem? hr)).len
      rw [Nat.zero_add]
      have hc : eLc (iRange1 (eVar 0)) (.nm 5) (tCmp dNotIn (eVar 5) (eVar 4)) (eOp dAdd (eVar 4) (eTup (aCons (eVar 5) aNil))) [5] [some (.int n), some (ol (ords n k)), x2, some (ol (grow n ((ords n k).take j))), some (nt row), none] = some (.list (((List.range n).filter fun i => !row.contains i).map fun i => nt (row ++ [i]))) := by
        refine eLc_if nat (fun i => nt (row ++ [i])) (fun i => !row.contains i) (range1_nat rfl (by omega)) (by rw [List.length_range]; omega) ?_
        intro i hi
        exact ⟨_, rfl, nt_notin i row, fun _ => nt_snoc (by omega)⟩
      have eg := grow_take (n := n) hr
      have lg := Nat.le_trans (grow_take_len n (ords n k) (j + 1)) l1
      rw [eg, List.length_append, List.length_map] at lg
      refine ⟨[(4, nt row)], _, rfl, ?_, some (nt row), rfl⟩
      show sExt 3 _ _ ([some (.int n), some (ol (ords n k)), x2, some (ol (grow n ((ords n k).take j))), some (nt row), none], [0, 0, 0, 1, 0, 0]) = _
      rw [sExt_ok (ds := (grow n ((ords n k).take j)).map nt) hc rfl (by rw [List.length_map, List.length_map]; omega) rfl, eg]
      have e4 : ol (grow n (List.take j (ords n k)) ++ List.map (fun i => row ++ [i]) (List.filter (fun i => !row.contains i) (List.range n))) = .list (List.map nt (grow n (List.take j (ords n k))) ++ List.map (fun i => nt (row ++ [i])) (List.filter (fun i => !row.contains i) (List.range n))) := by
        unfold ol
        rw [List.map_append, List.map_map]
        rfl
      rw [e4]
      rfl)
  refine ⟨y, ?_⟩
  rw [sFor_go (ds := (ords n k).map nt) rfl]
  rw [Nat.zero_add, List.length_map, List.take_length, ords_succ] at e
  exact e
theorem law_orders_ok {n : Nat} (hn : n ≤ 6) : den__law_orders [.int n] = some (ol (ords n n)) := by
  refine dfun_ret [some (.int n), none, none, none, none, none] [0, 0, 0, 0, 0, 0] rfl rfl rfl ?_
  rw [sSeq_next (s' := ([some (.int n), some (ol (ords n 0)), none, none, none, none], [0, 0, 0, 0, 0, 0])) (by rfl)]
  obtain ⟨s', e, x2, x3, x4, rfl⟩ := for_rng (i := 2) (n := n) (lo := 0) (body := (sSeq (sSet 3 1 (eLst aNil) [])
  (sSeq (sFor (iSeq (eVar 1)) [(1, 0)] (.nm 4)
  (sExt 3 (eLc (iRange1 (eVar 0)) (.nm 5) (tCmp dNotIn (eVar 5) (eVar 4)) (eOp dAdd (eVar 4) (eTup (aCons (eVar 5) aNil))) [5]) ([] ++ ([(4, 1)] ++ ([(5, 0)] ++ [])))))
  (sSet 1 0 (eVar 3) [(3, 0)]))))
    (fun k s => ∃ x2 x3 x4, s = ([some (.int n), some (ol (ords n k)), x2, x3, x4, none], [0, 0, 0, 0, 0, 0])) _ ⟨none, none, none, rfl⟩ (by
      rintro k _ hk ⟨x2, x3, x4, rfl⟩
      obtain ⟨y, e⟩ := law_orders_in hn hk (some (.int (0 + k))) x4
      refine ⟨_, ?_, some (.int (0 + k)), some (ol (ords n (k + 1))), y, rfl⟩
      rw [sSeq_next (s' := ([some (.int n), some (ol (ords n k)), some (.int (0 + k)), some (.list []), x4, none], [0, 0, 0, 1, 0, 0])) (by rfl)]
      rw [sSeq_next e]
      rw [sSet_next (d := ol (ords n (k + 1))) (by rfl), if_neg (by simp [ol, flat])]
      rfl)
  rw [sSeq_next (s' := ([some (.int n), some (ol (ords n n)), x2, x3, x4, none], [0, 0, 0, 0, 0, 0])) (by
    rw [sFor_go (range1_ok (n := n) rfl (by omega))]
    exact e)]
  exact sRet_ok rfl
end Lib
end

section
set_option Elab.async false
set_option linter.all false
set_option maxRecDepth 10000
/-! A calculus of what holds behind a statement: short steps for walking a def. -/
namespace Lib
open DS PySem
/-- f ends in s so that N holds (goes on), R (returns), B (break), C (continue) -/
@[irreducible] def WP (f : FS) (s : S) (N : S → Prop) (R : D → Prop) (B C : S → Prop) : Prop := match f s with
  | .stuck => False
  | .next s' => N s'
  | .ret d => R d
  | .brk s' => B s'
  | .cont s' => C s'
abbrev No : S → Prop := fun _ => False
section
variable {N B C : S → Prop} {R : D → Prop} {ρ : PEnv} {L : List Nat} {s : S} {f g h fe : FE} {a b body : FS} {c : Esc} {d e d' : D} {i j k l n : Nat}
theorem dfun_wp {N n : Nat} {ds : List D} (hn : ds.length = n) (h : WP body (ds.map some ++ List.replicate (N - n) none, List.replicate N 0) No (fun x => x = d) No No) : dfun N n body ds = some d := by
  unfold dfun
  rw [if_pos hn]
  unfold WP at h
  split at h <;> first | exact h.elim | (rename_i q; rw [q]; rw [h])
theorem dfun_wpE {N n : Nat} {ds : List D} {Q : D → Prop} (hn : ds.length = n) (h : WP body (ds.map some ++ List.replicate (N - n) none, List.replicate N 0) No Q No No) : ∃ d, dfun N n body ds = some d ∧ Q d := by
  unfold dfun
  rw [if_pos hn]
  unfold WP at h
  split at h <;> first | exact h.elim | (rename_i q; rw [q]; exact ⟨_, rfl, h⟩)
theorem wp_imp {N' B' C' : S → Prop} {R' : D → Prop} (h : WP a s N R B C) (hN : ∀ s, N s → N' s) (hR : ∀ d, R d → R' d) (hB : ∀ s, B s → B' s) (hC : ∀ s, C s → C' s) : WP a s N' R' B' C' := by
  unfold WP at h ⊢
  split <;> rename_i q <;> rw [q] at h
  · exact h
  · exact hN _ h
  · exact hR _ h
  · exact hB _ h
  · exact hC _ h
theorem wp_seq (h : WP a s (fun s' => WP b s' N R B C) R B C) : WP (sSeq a b) s N R B C := by
  unfold WP sSeq at *
  split at h <;> rename_i q <;> simp only [q] <;> exact h
theorem wp_nil (h : N s) : WP sNil s N R B C := by
  unfold WP
  exact h
theorem wp_break (h : B s) : WP sBreak s N R B C := by
  unfold WP
  exact h
theorem wp_cont (h : C s) : WP sCont s N R B C := by
  unfold WP
  exact h
theorem wp_ret (h : f ρ = some d) (q : R d) : WP (sRet f) (ρ, L) N R B C := by
  unfold WP
  rw [sRet_ok (s := (ρ, L)) h]
  exact q
theorem wp_retN (q : R .none) : WP (fun _ => .ret .none) (ρ, L) N R B C := by
  unfold WP
  exact q
theorem wp_set (h : f ρ = some d) (hd : flat d = true) (q : N (ρ.set i (some d), L.set i 0)) : WP (sSet i l f c) (ρ, L) N R B C := by
  unfold WP
  rw [sSet_flat h hd]
  exact q
theorem wp_setD (h : f ρ = some d) (hd : flat d = false) (q : N (ρ.set i (some d), (demote c L).set i l)) : WP (sSet i l f c) (ρ, L) N R B C := by
  unfold WP
  rw [sSet_next (s := (ρ, L)) h, if_neg (by simp [hd])]
  exact q
theorem wp_tup {t : Tg} {m : List (Nat × D)} (h : f ρ = some d) (ht : t.go d = some m) (hd : flat d = true) (q : N (setsD ρ m, zeros L m)) : WP (sTup t f c) (ρ, L) N R B C := by
  unfold WP sTup
  simp only [h, ht, hd, if_true]
  exact q
theorem wp_tupD {t : Tg} {m : List (Nat × D)} (h : f ρ = some d) (ht : t.go d = some m) (hd : flat d = false) (q : N (setsD ρ m, zeros (demote c L) m)) : WP (sTup t f c) (ρ, L) N R B C := by
  unfold WP sTup
  simp only [h, ht, hd, Bool.false_eq_true, if_false]
  exact q
theorem wp_par (h : f ρ = some d) (h' : g ρ = some e) (hd : flat d = true) (he : flat e = true) (q : N ((ρ.set i (some d)).set j (some e), (L.set i 0).set j 0)) : WP (sPar i j f g c) (ρ, L) N R B C := by
  unfold WP
  rw [sPar_flat h h' hd he]
  exact q
theorem wp_parD (h : f ρ = some d) (h' : g ρ = some e) (hd : (flat d && flat e) = false) (q : N ((ρ.set i (some d)).set j (some e), ((demote c L).set i 0).set j 0)) : WP (sPar i j f g c) (ρ, L) N R B C := by
  unfold WP sPar
  simp only [h, h', hd, Bool.false_eq_true, if_false]
  exact q
theorem wp_par3 {h : FE} {x y z : D} (h1 : f ρ = some x) (h2 : g ρ = some y) (h3 : h ρ = some z) (f1 : flat x = true) (f2 : flat y = true) (f3 : flat z = true) (q : N (((ρ.set i (some x)).set j (some y)).set k (some z), (((demote c L).set i 0).set j 0).set k 0)) : WP (sPar3 i j k f g h c) (ρ, L) N R B C := by
  unfold WP sPar3
  simp only [h1, h2, h3, f1, f2, f3, Bool.and_self, if_true]
  exact q
theorem wp_aug {op : D → D → Option D} {x y : D} (hi : eVar i ρ = some x) (hf : f ρ = some y) (ho : op x y = some d) (q : N (ρ.set i (some d), L.set i 0)) : WP (sAug i op f) (ρ, L) N R B C := by
  unfold WP
  rw [sAug_next hi hf ho]
  exact q
theorem wp_app {ds : List D} (h : f ρ = some d) (hi : eVar i ρ = some (.list ds)) (hd : flat d = true) (hl : ds.length < 16777216) (hL : lv L i = 1) (q : N (ρ.set i (some (.list (ds ++ [d]))), L)) : WP (sApp i f c) (ρ, L) N R B C := by
  unfold WP
  rw [sApp_flat h hd hi hl hL]
  exact q
theorem wp_appD {ds : List D} (h : f ρ = some d) (hi : eVar i ρ = some (.list ds)) (hd : flat d = false) (hl : ds.length < 16777216) (hL : lv (demote c L) i = 1) (q : N (ρ.set i (some (.list (ds ++ [d]))), demote c L)) : WP (sApp i f c) (ρ, L) N R B C := by
  unfold WP
  rw [sApp_deep h hd hi hl hL]
  exact q
theorem wp_ext {es ds : List D} (h : f ρ = some (.list es)) (hi : eVar i ρ = some (.list ds)) (hl : ds.length + es.length ≤ 16777216) (hL : lv (demote c L) i = 1) (q : N (ρ.set i (some (.list (ds ++ es))), demote c L)) : WP (sExt i f c) (ρ, L) N R B C := by
  unfold WP
  rw [sExt_ok h hi hl hL]
  exact q
theorem wp_put {ds : List D} {x : Int} {m : Nat} {jj : FE} (h : f ρ = some d) (hi : eVar i ρ = some (.list ds)) (hj : jj ρ = some (.int x)) (hm : L2.ixN ds.length x = some m) (hd : flat d = true) (hL : lv L i = 1) (q : N (ρ.set i (some (.list (ds.set m d))), L)) : WP (sPut i jj f c) (ρ, L) N R B C := by
  unfold WP sPut
  simp only [h, hi, hj, hm, hd, hL, if_true]
  exact q
theorem wp_putD {ds : List D} {x : Int} {m : Nat} {jj : FE} (h : f ρ = some d) (hi : eVar i ρ = some (.list ds)) (hj : jj ρ = some (.int x)) (hm : L2.ixN ds.length x = some m) (hd : flat d = false) (hL : lv (demote c L) i = 1) (q : N (ρ.set i (some (.list (ds.set m d))), demote c L)) : WP (sPut i jj f c) (ρ, L) N R B C := by
  unfold WP sPut
  simp only [h, hi, hj, hm, hd, hL, if_true, Bool.false_eq_true, if_false]
  exact q
theorem wp_if {ct : FT} {t : Bool} (h : ct ρ = some t) (q1 : t = true → WP a (ρ, L) N R B C) (q2 : t = false → WP b (ρ, L) N R B C) : WP (sIf ct a b) (ρ, L) N R B C := by
  cases t with
  | true =>
    unfold WP
    rw [sIf_t (s := (ρ, L)) h]
    have := q1 rfl
    unfold WP at this
    exact this
  | false =>
    unfold WP
    rw [sIf_f (s := (ρ, L)) h]
    have := q2 rfl
    unfold WP at this
    exact this
theorem wp_ift {ct : FT} (h : ct ρ = some true) (q : WP a (ρ, L) N R B C) : WP (sIf ct a b) (ρ, L) N R B C := wp_if h (fun _ => q) (fun z => by cases z)
theorem wp_iff {ct : FT} (h : ct ρ = some false) (q : WP b (ρ, L) N R B C) : WP (sIf ct a b) (ρ, L) N R B C := wp_if h (fun z => by cases z) (fun _ => q)
/-- if c: return x, c false -/
theorem wp_pass {ct : FT} (h : ct ρ = some false) (q : N (ρ, L)) : WP (sIf ct a sNil) (ρ, L) N R B C := wp_iff h (wp_nil q)
/-- for -/
theorem wp_for {fi : FA} {t : Tg} {ds : List D} (P : Nat → S → Prop) (hi : fi ρ = some ds) (h0 : P 0 (ρ, demote c L))
    (st : ∀ k d s, ds[k]? = some d → P k s → ∃ m, t.go d = some m ∧ WP body (setsD s.1 m, zeros s.2 m) (P (k + 1)) R N (P (k + 1))) (hN : ∀ s, P ds.length s → N s) : WP (sFor fi c t body) (ρ, L) N R B C := by
  unfold WP
  rw [sFor_go (s := (ρ, L)) hi]
  have go : ∀ (es : List D) (k : Nat) (s : S), (∀ i d, es[i]? = some d → ds[k + i]? = some d) → k + es.length = ds.length → P k s → (match forGo t body es s with
      | .stuck => False
      | .next s' => N s'
      | .ret d => R d
      | .brk s' => B s'
      | .cont s' => C s') := by
    intro es
    induction es with
    | nil =>
      intro k s _ hl hp
      have e : k = ds.length := by simpa using hl
      rw [e] at hp
      exact hN s hp
    | cons x es ih =>
      intro k s he hl hp
      obtain ⟨m, e1, w⟩ := st k x s (by simpa using he 0 x rfl) hp
      have next : ∀ s', P (k + 1) s' → _ := fun s' h => ih (k + 1) s' (fun i d hd => by
        have := he (i + 1) d (by simpa using hd)
        rw [← this]
        congr 1
        omega) (by rw [List.length_cons] at hl; omega) h
      unfold forGo
      rw [e1]
      unfold WP at w
      show (match (match body (setsD s.1 m, zeros s.2 m) with
        | .next s' => forGo t body es s'
        | .cont s' => forGo t body es s'
        | .brk s' => .next s'
        | .ret d => .ret d
        | .stuck => .stuck) with
        | .stuck => False
        | .next s' => N s'
        | .ret d => R d
        | .brk s' => B s'
        | .cont s' => C s')
      split at w <;> rename_i q <;> simp only [q]
      · exact w
      · exact next _ w
      · exact w
      · exact w
      · exact next _ w
  exact go ds 0 _ (fun i d h => by simpa using h) (by simp) h0
/-- while: P holds at each look, μ falls -/
theorem wp_while {fuel : Nat} {ct : FT} (P : S → Prop) (μ : S → Nat) (h0 : P s) (hμ : μ s < fuel)
    (st : ∀ s, P s → ∃ b, ct s.1 = some b ∧ (b = true → WP body s (fun s' => P s' ∧ μ s' < μ s) R N (fun s' => P s' ∧ μ s' < μ s)) ∧ (b = false → N s)) : WP (sWhile fuel ct body) s N R B C := by
  unfold sWhile
  induction fuel generalizing s with
  | zero => omega
  | succ n ih =>
    obtain ⟨b, e, ht, hf⟩ := st s h0
    unfold WP
    rw [whGo]
    cases b with
    | false =>
      simp only [e]
      exact hf rfl
    | true =>
      have w := ht rfl
      unfold WP at w
      simp only [e]
      split at w <;> rename_i q <;> simp only [q]
      · exact w
      · have := ih w.1 (by omega)
        unfold WP at this
        exact this
      · exact w
      · exact w
      · have := ih w.1 (by omega)
        unfold WP at this
        exact this
end
/-! environments -/
def setsO (ρ : PEnv) (l : List (Nat × D)) : PEnv := l.foldl (fun ρ p => ρ.set p.1 (some p.2)) ρ
def setsJ (ρ : PEnv) (J : List Nat) (xs : Nat → Option D) : PEnv := J.foldl (fun ρ j => ρ.set j (xs j)) ρ
/-- ρ with anything at J, and A -/
def stt (ρ : PEnv) (J : List Nat) (A : List (Nat × D)) (xs : Nat → Option D) : PEnv := setsO (setsJ ρ J xs) A
theorem set_self {ρ : PEnv} {j : Nat} : ρ.set j (ρ.getD j none) = ρ := by
  refine List.ext_getElem? fun k => ?_
  by_cases h : j = k
  · subst h
    by_cases hj : j < ρ.length
    · rw [List.getElem?_set_self hj, List.getD_eq_getElem?_getD, List.getElem?_eq_getElem hj]; rfl
    · rw [List.getElem?_eq_none (by simpa using hj), List.getElem?_eq_none (by omega)]
  · rw [List.getElem?_set_ne h]
theorem setsJ_self {ρ : PEnv} : ∀ {J : List Nat}, setsJ ρ J (fun j => ρ.getD j none) = ρ
  | [] => rfl
  | j :: J => by
    unfold setsJ
    rw [List.foldl_cons, set_self]
    exact setsJ_self (J := J)
theorem setsO_self {ρ : PEnv} : ∀ {A : List (Nat × D)}, (∀ p ∈ A, ρ[p.1]? = some (some p.2)) → setsO ρ A = ρ
  | [], _ => rfl
  | p :: A, h => by
    unfold setsO
    rw [List.foldl_cons]
    have e : ρ.set p.1 (some p.2) = ρ := by
      have := h p (.head _)
      have q := set_self (ρ := ρ) (j := p.1)
      rw [List.getD_eq_getElem?_getD, this] at q
      exact q
    rw [e]
    exact setsO_self (A := A) fun q hq => h q (.tail _ hq)
theorem stt_self {ρ : PEnv} {J : List Nat} {A : List (Nat × D)} (h : ∀ p ∈ A, ρ[p.1]? = some (some p.2)) : ρ = stt ρ J A fun j => ρ.getD j none := by
  unfold stt
  rw [setsJ_self, setsO_self h]
section
variable {N B C : S → Prop} {R : D → Prop} {ρ : PEnv} {L L' : List Nat} {body : FS} {c : Esc}
/-- at a turn's end -/
def Cl (ρ : PEnv) (J : List Nat) (A : List (Nat × D)) (L : List Nat) (s : S) : Prop := ∃ xs, s = (stt ρ J A xs, L)
theorem cl {ρ ρ' : PEnv} {J : List Nat} {A : List (Nat × D)} {L : List Nat} (h : ρ' = stt ρ J A fun j => ρ'.getD j none) : Cl ρ J A L (ρ', L) := ⟨_, by rw [← h]⟩
/-- for over ds: the names of A k hold what A k says, those of J anything; the others stay -/
theorem wp_forV {fi : FA} {t : Tg} {ds : List D} (J : List Nat) (A : Nat → List (Nat × D)) (hi : fi ρ = some ds) (h0 : ∀ p ∈ A 0, ρ[p.1]? = some (some p.2))
    (st : ∀ k d xs, ds[k]? = some d → ∃ m, t.go d = some m ∧ WP body (setsD (stt ρ J (A k) xs) m, zeros (demote c L) m) (Cl ρ J (A (k + 1)) (demote c L)) R N (Cl ρ J (A (k + 1)) (demote c L)))
    (hN : ∀ xs, N (stt ρ J (A ds.length) xs, demote c L)) : WP (sFor fi c t body) (ρ, L) N R B C := by
  refine wp_for (P := fun k s' => ∃ xs, s' = (stt ρ J (A k) xs, demote c L)) hi ⟨_, by rw [← stt_self h0]⟩ (fun k d s hd hp => ?_) fun s ⟨xs, e⟩ => by rw [e]; exact hN xs
  obtain ⟨xs, rfl⟩ := hp
  exact st k d xs hd
/-- over 0, 1, .. -/
theorem wp_forN {f : FE} {i n : Nat} (J : List Nat) (A : Nat → List (Nat × D)) (hf : f ρ = some (.int n)) (hn : n < 4611686018427387904) (h0 : ∀ p ∈ A 0, ρ[p.1]? = some (some p.2))
    (st : ∀ k xs, k < n → WP body ((stt ρ J (A k) xs).set i (some (nat k)), (demote c L).set i 0) (Cl ρ J (A (k + 1)) (demote c L)) R N (Cl ρ J (A (k + 1)) (demote c L)))
    (hN : ∀ xs, N (stt ρ J (A n) xs, demote c L)) : WP (sFor (iRange1 f) c (.nm i) body) (ρ, L) N R B C := by
  refine wp_forV (ds := (List.range n).map nat) J A (range1_nat hf hn) h0 (fun k d xs hd => ?_) fun xs => by rw [List.length_map, List.length_range]; exact hN xs
  rw [List.getElem?_map] at hd
  obtain ⟨k', hk, rfl⟩ := Option.map_eq_some_iff.mp hd
  obtain ⟨hlt, e⟩ := List.getElem?_eq_some_iff.mp hk
  rw [List.getElem_range] at e
  subst e
  refine ⟨[(i, nat k)], rfl, ?_⟩
  exact st k xs (by simpa using hlt)
/-- over the items of l -/
theorem wp_forL {α : Type} {fi : FA} {t : Tg} {h : α → D} {l : List α} (J : List Nat) (A : Nat → List (Nat × D)) (hi : fi ρ = some (l.map h)) (h0 : ∀ p ∈ A 0, ρ[p.1]? = some (some p.2))
    (st : ∀ k a xs, l[k]? = some a → ∃ m, t.go (h a) = some m ∧ WP body (setsD (stt ρ J (A k) xs) m, zeros (demote c L) m) (Cl ρ J (A (k + 1)) (demote c L)) R N (Cl ρ J (A (k + 1)) (demote c L)))
    (hN : ∀ xs, N (stt ρ J (A l.length) xs, demote c L)) : WP (sFor fi c t body) (ρ, L) N R B C := by
  refine wp_forV (ds := l.map h) J A hi h0 (fun k d xs hd => ?_) fun xs => by rw [List.length_map]; exact hN xs
  rw [List.getElem?_map] at hd
  obtain ⟨a, ha, rfl⟩ := Option.map_eq_some_iff.mp hd
  exact st k a xs ha
end
end Lib
end

section
set_option Elab.async false
set_option linter.all false
/-! Plain: all sets of 0 .. n - 1 as ascending rows, in ascending order. -/
namespace Lib
def stp (i : Nat) (F : List (List Nat)) : List (List Nat) := [[]] ++ F.map (i :: ·) ++ F.filter fun x => !x.isEmpty
/-- the sets of i .. i + k - 1 -/
def asl : Nat → Nat → List (List Nat)
  | _, 0 => [[]]
  | i, k + 1 => stp i (asl (i + 1) k)
def aset (n : Nat) : List (List Nat) := asl 0 n
structure Asc (i j : Nat) (x : List Nat) : Prop where
  up : x.Pairwise (· < ·)
  mem : ∀ a ∈ x, i ≤ a ∧ a < j
theorem mem_asl : ∀ {k i : Nat} {x : List Nat}, x ∈ asl i k ↔ Asc i (i + k) x
  | 0, i, x => by
    simp only [asl, List.mem_singleton, Nat.add_zero]
    constructor
    · rintro rfl; exact ⟨.nil, by simp⟩
    · rintro ⟨_, h⟩
      cases x with
      | nil => rfl
      | cons a x =>
        have := h a (.head _)
        omega
  | k + 1, i, x => by
    simp only [asl, stp, List.mem_append, List.mem_singleton, List.mem_map, List.mem_filter]
    constructor
    · rintro ((rfl | ⟨y, hy, rfl⟩) | ⟨hx, _⟩)
      · exact ⟨.nil, by simp⟩
      · have q := mem_asl.mp hy
        refine ⟨List.pairwise_cons.mpr ⟨fun a ha => ?_, q.up⟩, fun a ha => ?_⟩
        · have := q.mem a ha; omega
        · rcases List.mem_cons.mp ha with rfl | ha
          · omega
          · have := q.mem a ha; omega
      · have q := mem_asl.mp hx
        exact ⟨q.up, fun a ha => by have := q.mem a ha; omega⟩
    · rintro ⟨u, m⟩
      cases x with
      | nil => exact .inl (.inl rfl)
      | cons a x =>
        obtain ⟨u1, u2⟩ := List.pairwise_cons.mp u
        have ma := m a (.head _)
        by_cases e : a = i
        · subst e
          refine .inl (.inr ⟨x, mem_asl.mpr ⟨u2, fun b hb => ?_⟩, rfl⟩)
          have := u1 b hb
          have := m b (.tail _ hb)
          omega
        · refine .inr ⟨mem_asl.mpr ⟨u, fun b hb => ?_⟩, rfl⟩
          have mb := m b hb
          rcases List.mem_cons.mp hb with rfl | hb
          · omega
          · have := u1 b hb
            omega
theorem asl_sorted : ∀ (k i : Nat), (asl i k).Pairwise fun a b => llt a b = true
  | 0, i => by simp [asl]
  | k + 1, i => by
    have ih := asl_sorted k (i + 1)
    simp only [asl, stp]
    rw [List.append_assoc, List.singleton_append, List.pairwise_cons, List.pairwise_append]
    refine ⟨fun b hb => ?_, ?_, ?_, ?_⟩
    · rcases List.mem_append.mp hb with h | h
      · obtain ⟨y, _, rfl⟩ := List.mem_map.mp h; rfl
      · have := (List.mem_filter.mp h).2
        cases b with
        | nil => simp at this
        | cons a b => rfl
    · rw [List.pairwise_map]
      exact ih.imp fun h => by unfold llt; rw [if_pos rfl]; exact h
    · exact ih.filter _
    · intro a ha b hb
      obtain ⟨y, _, rfl⟩ := List.mem_map.mp ha
      obtain ⟨h1, h2⟩ := List.mem_filter.mp hb
      cases b with
      | nil => simp at h2
      | cons c b =>
        have := (mem_asl.mp h1).mem c (.head _)
        unfold llt
        rw [if_neg (by omega)]
        exact decide_eq_true (by omega)
theorem asl_len : ∀ (k i : Nat), (asl i k).length ≤ 2 ^ k
  | 0, i => by simp [asl]
  | k + 1, i => by
    have ih := asl_len k (i + 1)
    have h1 : ((asl (i + 1) k).filter fun x => !x.isEmpty).length + 1 ≤ (asl (i + 1) k).length := by
      have hm : [] ∈ asl (i + 1) k := mem_asl.mpr ⟨.nil, by simp⟩
      have : ∀ {l : List (List Nat)}, [] ∈ l → (l.filter fun x => !x.isEmpty).length + 1 ≤ l.length := by
        intro l hl
        induction l with
        | nil => simp at hl
        | cons a l ih =>
          rcases List.mem_cons.mp hl with e | h
          · subst e
            rw [List.filter_cons_of_neg (by simp), List.length_cons]
            exact Nat.succ_le_succ (List.length_filter_le _ _)
          · have := ih h
            have := List.length_filter_le (fun x : List Nat => !x.isEmpty) [a]
            rw [List.filter_cons, List.length_cons]
            split
            · rw [List.length_cons]; omega
            · omega
      exact this hm
    simp only [asl, stp, List.length_append, List.length_map, List.length_singleton]
    rw [Nat.pow_succ]
    omega
theorem mem_aset {n : Nat} {x : List Nat} : x ∈ aset n ↔ Asc 0 n x := by
  unfold aset
  rw [mem_asl, Nat.zero_add]
theorem aset_sorted (n : Nat) : (aset n).Pairwise fun a b => llt a b = true := asl_sorted n 0
theorem llt_nodup {l : List (List Nat)} (h : l.Pairwise fun a b => llt a b = true) : l.Nodup := h.imp fun {a b} q e => by
  subst e
  rw [llt_irrefl] at q
  cases q
theorem aset_nodup (n : Nat) : (aset n).Nodup := llt_nodup (aset_sorted n)
theorem aset_len (n : Nat) : (aset n).length ≤ 2 ^ n := asl_len n 0
/-- sets grown by the greatest -/
def lset : Nat → List (List Nat)
  | 0 => [[]]
  | n + 1 => lset n ++ (lset n).map (· ++ [n])
theorem lset_len : ∀ n, (lset n).length = 2 ^ n
  | 0 => rfl
  | n + 1 => by
    have := lset_len n
    simp only [lset, List.length_append, List.length_map, Nat.pow_succ]
    omega
theorem asc_snoc {n : Nat} {x : List Nat} : Asc 0 (n + 1) x ↔ Asc 0 n x ∨ ∃ y, Asc 0 n y ∧ x = y ++ [n] := by
  constructor
  · rintro ⟨u, m⟩
    by_cases h : n ∈ x
    · obtain ⟨y, z, rfl⟩ := List.append_of_mem h
      rw [List.pairwise_append] at u
      have z0 : z = [] := by
        cases z with
        | nil => rfl
        | cons c z =>
          have h1 := (List.pairwise_cons.mp u.2.1).1 c (.head _)
          have := m c (by simp)
          omega
      subst z0
      refine .inr ⟨y, ⟨u.1, fun a ha => ⟨Nat.zero_le _, u.2.2 a ha n (.head _)⟩⟩, rfl⟩
    · refine .inl ⟨u, fun a ha => ?_⟩
      have := m a ha
      have : a ≠ n := fun e => h (e ▸ ha)
      omega
  · rintro (⟨u, m⟩ | ⟨y, ⟨u, m⟩, rfl⟩)
    · exact ⟨u, fun a ha => by have := m a ha; omega⟩
    · refine ⟨List.pairwise_append.mpr ⟨u, by simp, fun a ha b hb => ?_⟩, fun a ha => ?_⟩
      · rw [List.mem_singleton] at hb
        subst hb
        exact (m a ha).2
      · rcases List.mem_append.mp ha with h | h
        · have := m a h; omega
        · rw [List.mem_singleton] at h
          omega
theorem mem_lset : ∀ {n : Nat} {x : List Nat}, x ∈ lset n ↔ Asc 0 n x
  | 0, x => by
    simp only [lset, List.mem_singleton]
    constructor
    · rintro rfl; exact ⟨.nil, by simp⟩
    · rintro ⟨_, h⟩
      cases x with
      | nil => rfl
      | cons a x =>
        have := h a (.head _)
        omega
  | n + 1, x => by
    rw [asc_snoc]
    simp only [lset, List.mem_append, List.mem_map]
    rw [mem_lset (n := n)]
    constructor
    · rintro (h | ⟨y, hy, rfl⟩)
      · exact .inl h
      · exact .inr ⟨y, mem_lset.mp hy, rfl⟩
    · rintro (h | ⟨y, hy, rfl⟩)
      · exact .inl h
      · exact .inr ⟨y, mem_lset.mpr hy, rfl⟩
theorem lset_nodup : ∀ n, (lset n).Nodup
  | 0 => by simp [lset]
  | n + 1 => by
    have ih := lset_nodup n
    simp only [lset]
    rw [List.nodup_append]
    refine ⟨ih, ?_, fun a ha b hb e => ?_⟩
    · exact List.Pairwise.map _ (fun a b (h : a ≠ b) => fun e => h (List.append_cancel_right e)) ih
    · obtain ⟨y, _, rfl⟩ := List.mem_map.mp hb
      subst e
      have := (mem_lset.mp ha).mem n (by simp)
      omega
theorem lset_perm (n : Nat) : (lset n).Perm (aset n) := (List.perm_ext_iff_of_nodup (lset_nodup n) (aset_nodup n)).mpr fun a => by rw [mem_lset, mem_aset]
/-- no greater row before -/
def lle (a b : List Nat) : Bool := !llt b a
theorem lle_total (a b : List Nat) : (lle a b || lle b a) = true := by
  unfold lle
  cases h1 : llt b a with
  | false => rfl
  | true =>
    cases h2 : llt a b with
    | false => rfl
    | true =>
      have := llt_trans h1 h2
      rw [llt_irrefl] at this
      cases this
theorem lle_anti {a b : List Nat} (h : lle a b = true) (h' : lle b a = true) : a = b := by
  unfold lle at h h'
  exact llt_tri a b (by simpa using h') (by simpa using h)
theorem llt_lle {a b : List Nat} (h : llt a b = true) : lle a b = true := by
  unfold lle
  cases h2 : llt b a with
  | false => rfl
  | true =>
    have := llt_trans h h2
    rw [llt_irrefl] at this
    cases this
theorem lle_trans {a b c : List Nat} (h : lle a b = true) (h' : lle b c = true) : lle a c = true := by
  by_cases e1 : a = b
  · subst e1; exact h'
  · by_cases e2 : b = c
    · subst e2; exact h
    · have l1 : llt a b = true := by
        cases q : llt a b with
        | true => rfl
        | false => exact absurd (llt_tri a b q (by unfold lle at h; simpa using h)) e1
      have l2 : llt b c = true := by
        cases q : llt b c with
        | true => rfl
        | false => exact absurd (llt_tri b c q (by unfold lle at h'; simpa using h')) e2
      exact llt_lle (llt_trans l1 l2)
theorem sort_eq {l l' : List (List Nat)} (p : l.Perm l') (s : l'.Pairwise fun a b => llt a b = true) : l.mergeSort lle = l' :=
  List.Perm.eq_of_pairwise (le := fun a b => lle a b = true) (fun a b _ _ h h' => lle_anti h h') (List.pairwise_mergeSort (le := lle) (fun a b c h h' => lle_trans h h') (fun a b => lle_total a b) l) (s.imp fun h => llt_lle h) ((List.mergeSort_perm l lle).trans p)
end Lib
end

section
set_option Elab.async false
set_option linter.all false
set_option maxRecDepth 10000
/-! The laws' own sums, products, comparisons of ratios. -/
namespace Lib
open DS PySem
def den__law_times : Fn := dfun 2 2 (sRet (eCall 2 den__law_ratio (aCons (eOp dMul (eIx (eVar 0) (eC (.int 0))) (eIx (eVar 1) (eC (.int 0)))) (aCons (eOp dMul (eIx (eVar 0) (eC (.int 1))) (eIx (eVar 1) (eC (.int 1)))) aNil))))
def den__law_add : Fn := dfun 2 2 (sRet (eCall 2 den__law_ratio (aCons (eOp dAdd (eOp dMul (eIx (eVar 0) (eC (.int 0))) (eIx (eVar 1) (eC (.int 1)))) (eOp dMul (eIx (eVar 1) (eC (.int 0))) (eIx (eVar 0) (eC (.int 1))))) (aCons (eOp dMul (eIx (eVar 0) (eC (.int 1))) (eIx (eVar 1) (eC (.int 1)))) aNil))))
def den__law_less : Fn := dfun 2 2 (sRet (eB (tCmp dLt (eOp dMul (eIx (eVar 0) (eC (.int 0))) (eIx (eVar 1) (eC (.int 1)))) (eOp dMul (eIx (eVar 1) (eC (.int 0))) (eIx (eVar 0) (eC (.int 1)))))))
theorem rat_mul_eq (p q : Rat) : p * q = Rat.divInt (p.num * q.num) (p.den * q.den) := by
  conv => lhs; rw [← Rat.num_divInt_den p, ← Rat.num_divInt_den q]
  exact Rat.divInt_mul_divInt _ _
theorem rat_add_eq (p q : Rat) : p + q = Rat.divInt (p.num * q.den + q.num * p.den) (p.den * q.den) := by
  conv => lhs; rw [← Rat.num_divInt_den p, ← Rat.num_divInt_den q]
  exact Rat.divInt_add_divInt _ _ (by have := den_pos p; omega) (by have := den_pos q; omega)
theorem Sm.natN {m : Nat} {p : Rat} (h : Sm m p) : p.num.natAbs < 2 ^ m := h.1
theorem Sm.natD {m : Nat} {p : Rat} (h : Sm m p) : ((p.den : Int)).natAbs < 2 ^ m := by simpa using h.2
theorem ltimes_ok {p q : Rat} {m n : Nat} (hp : Sm m p) (hq : Sm n q) (h0 : 0 < m) (h1 : 0 < n) (h : m + n ≤ 8000) : den__law_times [rt p, rt q] = some (rt (p * q)) := by
  have m1 : mulOk p.num q.num = true := mulOk_big hp.natN hq.natN h0 h1 (by omega)
  have m2 : mulOk p.den q.den = true := mulOk_big hp.natD hq.natD h0 h1 (by omega)
  have hd : (0 : Int) < p.den * q.den := Int.mul_pos (den_pos p) (den_pos q)
  have r := ratio_ok (a := p.num * q.num) hd (natAbs_mul_lt hp.natD hq.natD) (by omega)
  refine dfun_wp rfl ?_
  simp only [List.map_cons, List.map_nil, List.replicate_succ, List.replicate_zero, List.nil_append, List.cons_append, List.append_nil, Nat.reduceSub, Nat.reduceAdd, setsD, zeros, stt, setsO, setsJ, List.foldl_cons, List.foldl_nil, List.set_cons_zero, List.set_cons_succ, demote]
  refine wp_ret (d := rt (p * q)) ?_ rfl
  rw [rat_mul_eq]
  (first | rfl | (simp only [eOp_a, eUn_a, eCB_a, aCons_a, aNil_a, eIx_a, eC_a, eVar_0, eVar_s, o2_ss, o1_s, d1_1, d2_2, eB_a, tCmp_a, tTru_a, tNotD_a, tIsND_a, tNotND_a, eIsN_a, eNotN_a, tTrue_a, iSeq_a, seqOf_l, seqOf_t, dAdd_i, dAddI_i, dSub_i, dNeg_i, dLt_i, dLe_i, dGt_i, dGe_i, dEq_i, dNe_i, dTru_b, dTru_i, dTru_l, dTru_t, dTru_n, isNon_n, isNon_b, isNon_i, isNon_s, isNon_l, isNon_t, dLen_l, dLen_t, dInt_i, dInt_b, dTuple_l, dTuple_t, dList_l, dList_t, eCall_1, eCall_2, eCall_3, eCall_4, eCall_5, eCall_6, eCall_7, rt_0, rt_1, dMul_i m1, dMul_i m2, r] <;> rfl))
theorem ladd_ok' {p q : Rat} {m n : Nat} (hp : Sm m p) (hq : Sm n q) (h0 : 0 < m) (h1 : 0 < n) (h : m + n ≤ 8000) : den__law_add [rt p, rt q] = some (rt (p + q)) := by
  have m1 : mulOk p.num q.den = true := mulOk_big hp.natN hq.natD h0 h1 (by omega)
  have m2 : mulOk p.den q.den = true := mulOk_big hp.natD hq.natD h0 h1 (by omega)
  have m3 : mulOk q.num p.den = true := mulOk_big hq.natN hp.natD h1 h0 (by omega)
  have hd : (0 : Int) < p.den * q.den := Int.mul_pos (den_pos p) (den_pos q)
  have r := ratio_ok (a := p.num * q.den + q.num * p.den) hd (natAbs_mul_lt hp.natD hq.natD) (by omega)
  refine dfun_wp rfl ?_
  simp only [List.map_cons, List.map_nil, List.replicate_succ, List.replicate_zero, List.nil_append, List.cons_append, List.append_nil, Nat.reduceSub, Nat.reduceAdd, setsD, zeros, stt, setsO, setsJ, List.foldl_cons, List.foldl_nil, List.set_cons_zero, List.set_cons_succ, demote]
  refine wp_ret (d := rt (p + q)) ?_ rfl
  rw [rat_add_eq]
  (first | rfl | (simp only [eOp_a, eUn_a, eCB_a, aCons_a, aNil_a, eIx_a, eC_a, eVar_0, eVar_s, o2_ss, o1_s, d1_1, d2_2, eB_a, tCmp_a, tTru_a, tNotD_a, tIsND_a, tNotND_a, eIsN_a, eNotN_a, tTrue_a, iSeq_a, seqOf_l, seqOf_t, dAdd_i, dAddI_i, dSub_i, dNeg_i, dLt_i, dLe_i, dGt_i, dGe_i, dEq_i, dNe_i, dTru_b, dTru_i, dTru_l, dTru_t, dTru_n, isNon_n, isNon_b, isNon_i, isNon_s, isNon_l, isNon_t, dLen_l, dLen_t, dInt_i, dInt_b, dTuple_l, dTuple_t, dList_l, dList_t, eCall_1, eCall_2, eCall_3, eCall_4, eCall_5, eCall_6, eCall_7, rt_0, rt_1, dMul_i m1, dMul_i m2, dMul_i m3, r] <;> rfl))
theorem lless_ok {p q : Rat} {m n : Nat} (hp : Sm m p) (hq : Sm n q) (h0 : 0 < m) (h1 : 0 < n) (h : m + n ≤ 8000) : den__law_less [rt p, rt q] = some (.bool (decide (p < q))) := by
  have := is_less_ok hp hq h0 h1 h
  exact this
theorem Sm.mul {p q : Rat} {m n : Nat} (hp : Sm m p) (hq : Sm n q) (h0 : 0 < m) (h1 : 0 < n) (h : m + n ≤ 8000) : Sm (m + n) (p * q) := (times_ok hp hq h0 h1 h).2
theorem Sm.add {p q : Rat} {m n : Nat} (hp : Sm m p) (hq : Sm n q) (h0 : 0 < m) (h1 : 0 < n) (h : m + n ≤ 8000) : Sm (m + n + 1) (p + q) := (plus_ok hp hq h0 h1 h).2
theorem Sm.sub {p q : Rat} {m n : Nat} (hp : Sm m p) (hq : Sm n q) (h0 : 0 < m) (h1 : 0 < n) (h : m + n ≤ 8000) : Sm (m + n + 1) (p - q) := (minus_ok hp hq h0 h1 h).2
end Lib
end

section
set_option Elab.async false
set_option linter.all false
set_option maxRecDepth 10000
/-! all_sets, the laws' _law_sets, size_key; sorting of rows of naturals. -/
namespace Lib
open DS PySem
def den_size_key : Fn := dfun 1 1 (sRet (eTup (aCons (eCB (d1 dLen) (aCons (eVar 0) aNil)) (aCons (eVar 0) aNil))))
def den_all_sets : Fn := dfun 4 1 (sSeq (sSet 1 0 (eLst (aCons (eTup aNil) aNil)) ([] ++ []))
  (sSeq (sFor (iRange3 (eOp dSub (eVar 0) (eC (.int 1))) (eUn dNeg (eC (.int 1))) (eUn dNeg (eC (.int 1)))) [] (.nm 2)
  (sSet 1 0 (eOp dAdd (eOp dAdd (eLst (aCons (eTup aNil) aNil)) (eLc (iSeq (eVar 1)) (.nm 3) tTrue (eOp dAdd (eTup (aCons (eVar 2) aNil)) (eVar 3)) [3])) (eLc (iSeq (eVar 1)) (.nm 3) (tTru (eVar 3)) (eVar 3) [3])) ((([] ++ []) ++ ([(1, 1)] ++ (([(2, 0)] ++ []) ++ [(3, 1)]))) ++ ([(1, 1)] ++ [(3, 0)]))))
  (sRet (eVar 1))))
def den__law_sets : Fn := dfun 4 1 (sSeq (sSet 1 0 (eLst (aCons (eTup aNil) aNil)) ([] ++ []))
  (sSeq (sFor (iRange1 (eVar 0)) [] (.nm 2)
  (sSet 1 0 (eOp dAdd (eVar 1) (eLc (iSeq (eVar 1)) (.nm 3) tTrue (eOp dAdd (eVar 3) (eTup (aCons (eVar 2) aNil))) [3])) ([(1, 1)] ++ ([(1, 1)] ++ ([(3, 1)] ++ ([(2, 0)] ++ []))))))
  (sRet (eCB (d1 dSorted) (aCons (eVar 1) aNil)))))
/-- rows as a list -/
def rl (l : List (List Nat)) : D := .list (l.map nt)
theorem rl_flat (l : List (List Nat)) : flat (rl l) = false := rfl
theorem dAdd_ll {xs ys : List D} (h : xs.length + ys.length ≤ 16777216) : dAdd (.list xs) (.list ys) = some (.list (xs ++ ys)) := by
  show (if xs.length + ys.length ≤ sz then _ else _) = _
  rw [if_pos (show _ ≤ sz from h)]
theorem dAdd_tt {xs ys : List D} (h : xs.length + ys.length ≤ 16777216) : dAdd (.tuple xs) (.tuple ys) = some (.tuple (xs ++ ys)) := by
  show (if xs.length + ys.length ≤ sz then _ else _) = _
  rw [if_pos (show _ ≤ sz from h)]
theorem eTup_1 {f : FE} {ρ : PEnv} {x : D} (h : f ρ = some x) : eTup (aCons f aNil) ρ = some (.tuple [x]) := by
  unfold eTup; rw [aCons_a, h, aNil_a]; rfl
theorem eTup_2 {f g : FE} {ρ : PEnv} {x y : D} (h : f ρ = some x) (h' : g ρ = some y) : eTup (aCons f (aCons g aNil)) ρ = some (.tuple [x, y]) := by
  unfold eTup; rw [aCons_a, aCons_a, h, h', aNil_a]; rfl
theorem eTup_3 {f g k : FE} {ρ : PEnv} {x y z : D} (h : f ρ = some x) (h' : g ρ = some y) (h'' : k ρ = some z) : eTup (aCons f (aCons g (aCons k aNil))) ρ = some (.tuple [x, y, z]) := by
  unfold eTup; rw [aCons_a, aCons_a, aCons_a, h, h', h'', aNil_a]; rfl
theorem eLst_1 {f : FE} {ρ : PEnv} {x : D} (h : f ρ = some x) : eLst (aCons f aNil) ρ = some (.list [x]) := by
  unfold eLst; rw [aCons_a, h, aNil_a]; rfl
theorem asc_len {i k : Nat} {x : List Nat} (h : Asc i (i + k) x) : x.length ≤ k := by
  have p : x.Nodup := h.up.imp fun h => by omega
  have s : x ⊆ (List.range k).map (· + i) := fun a ha => by
    have := h.mem a ha
    exact List.mem_map.mpr ⟨a - i, List.mem_range.mpr (by omega), by omega⟩
  have := p.length_le_of_subset s
  simpa using this
/-! sorted of rows of naturals -/
theorem allCmp_nt (l : List (List Nat)) : allCmp (l.map nt) = true := allCmp_map (fun a _ => lay_nt a) (fun a _ => by have := depth_nt a; omega) (fun a _ => rfl) fun a _ b _ => alike_nt a b
theorem leD_nt (a b : List Nat) : leD (nt a) (nt b) = lle a b := by
  unfold leD lle
  rw [dataLt_nt]
theorem dSorted_nt (l : List (List Nat)) : dSorted (rl l) = some (rl (l.mergeSort lle)) := by
  show (if allCmp (l.map nt) = true then some (PyData.list ((l.map nt).mergeSort leD)) else none) = _
  rw [if_pos (allCmp_nt l), ← PySem.W.sort_maps (r := lle) (s := leD) nt fun a _ b _ => (leD_nt a b).symm]
  rfl
theorem dSorted_eq {l l' : List (List Nat)} (p : l.Perm l') (s : l'.Pairwise fun a b => llt a b = true) : dSorted (rl l) = some (rl l') := by
  rw [dSorted_nt, sort_eq p s]
theorem size_key_ok (x : List Nat) : den_size_key [nt x] = some (.tuple [nat x.length, nt x]) := by
  refine dfun_wp rfl ?_
  simp only [List.map_cons, List.map_nil, List.replicate_succ, List.replicate_zero, List.nil_append, List.cons_append, List.append_nil, Nat.reduceSub, Nat.reduceAdd, setsD, zeros, stt, setsO, setsJ, List.foldl_cons, List.foldl_nil, List.set_cons_zero, List.set_cons_succ, demote]
  exact wp_ret (eTup_2 (by (first | rfl | (simp only [eOp_a, eUn_a, eCB_a, aCons_a, aNil_a, eIx_a, eC_a, eVar_0, eVar_s, o2_ss, o1_s, d1_1, d2_2, eB_a, tCmp_a, tTru_a, tNotD_a, tIsND_a, tNotND_a, eIsN_a, eNotN_a, tTrue_a, iSeq_a, seqOf_l, seqOf_t, dAdd_i, dAddI_i, dSub_i, dNeg_i, dLt_i, dLe_i, dGt_i, dGe_i, dEq_i, dNe_i, dTru_b, dTru_i, dTru_l, dTru_t, dTru_n, isNon_n, isNon_b, isNon_i, isNon_s, isNon_l, isNon_t, dLen_l, dLen_t, dInt_i, dInt_b, dTuple_l, dTuple_t, dList_l, dList_t, eCall_1, eCall_2, eCall_3, eCall_4, eCall_5, eCall_6, eCall_7, nt_len] <;> rfl))) (by (first | rfl | (simp only [eOp_a, eUn_a, eCB_a, aCons_a, aNil_a, eIx_a, eC_a, eVar_0, eVar_s, o2_ss, o1_s, d1_1, d2_2, eB_a, tCmp_a, tTru_a, tNotD_a, tIsND_a, tNotND_a, eIsN_a, eNotN_a, tTrue_a, iSeq_a, seqOf_l, seqOf_t, dAdd_i, dAddI_i, dSub_i, dNeg_i, dLt_i, dLe_i, dGt_i, dGe_i, dEq_i, dNe_i, dTru_b, dTru_i, dTru_l, dTru_t, dTru_n, isNon_n, isNon_b, isNon_i, isNon_s, isNon_l, isNon_t, dLen_l, dLen_t, dInt_i, dInt_b, dTuple_l, dTuple_t, dList_l, dList_t, eCall_1, eCall_2, eCall_3, eCall_4, eCall_5, eCall_6, eCall_7] <;> rfl)))) rfl
theorem all_sets_ok {n : Nat} (hn : n ≤ 20) : den_all_sets [.int n] = some (rl (aset n)) := by
  refine dfun_wp rfl ?_
  simp only [List.map_cons, List.map_nil, List.replicate_succ, List.replicate_zero, List.nil_append, List.cons_append, List.append_nil, Nat.reduceSub, Nat.reduceAdd, setsD, zeros, stt, setsO, setsJ, List.foldl_cons, List.foldl_nil, List.set_cons_zero, List.set_cons_succ, demote]
  refine wp_seq (wp_setD (d := rl [[]]) (eLst_1 rfl) rfl ?_)
  simp only [List.map_cons, List.map_nil, List.replicate_succ, List.replicate_zero, List.nil_append, List.cons_append, List.append_nil, Nat.reduceSub, Nat.reduceAdd, setsD, zeros, stt, setsO, setsJ, List.foldl_cons, List.foldl_nil, List.set_cons_zero, List.set_cons_succ, demote]
  refine wp_seq (wp_forV (ds := rngDn ((n : Int) - 1) n) [2] (fun k => [(1, rl (asl (n - k) k))]) (by
    unfold iRange3
    simp only [eOp_a, eUn_a, eVar_0, eC_a, o2_ss, o1_s, dSub_i, dNeg_i]
    have r1 : rngOk ((n : Int) - 1) (-1) = true := by
      unfold rngOk
      simp only [Bool.and_eq_true, decide_eq_true_eq]
      refine ⟨⟨⟨?_, ?_⟩, ?_⟩, ?_⟩ <;> omega
    rw [if_pos (by rw [r1]; rfl)]
    congr 2
    omega) (fun p hp => ?_) (fun k d xs hd => ?_) fun xs => ?_)
  · simp only [List.mem_singleton] at hp
    subst hp
    rfl
  · have hk : k < n := by
      have := (List.getElem?_eq_some_iff.mp hd).1
      simpa [rngDn] using this
    have e : d = .int ((n - (k + 1) : Nat) : Int) := by
      unfold rngDn at hd
      rw [List.getElem?_map, List.getElem?_range hk] at hd
      rw [← (Option.some.inj hd)]
      show PyData.int ((n : Int) - 1 - (k : Int)) = _
      have c : ((n : Int) - 1 - (k : Int)) = ((n - (k + 1) : Nat) : Int) := by omega
      rw [c]
    subst e
    refine ⟨[(2, nat (n - (k + 1)))], rfl, ?_⟩
    simp only [List.map_cons, List.map_nil, List.replicate_succ, List.replicate_zero, List.nil_append, List.cons_append, List.append_nil, Nat.reduceSub, Nat.reduceAdd, setsD, zeros, stt, setsO, setsJ, List.foldl_cons, List.foldl_nil, List.set_cons_zero, List.set_cons_succ, demote]
    have hs : n - (k + 1) + 1 = n - k := by omega
    have el : asl (n - (k + 1)) (k + 1) = stp (n - (k + 1)) (asl (n - k) k) := by rw [asl, hs]
    have hlen := asl_len k (n - k)
    have hlen2 := asl_len (k + 1) (n - (k + 1))
    have h20 : 2 ^ (k + 1) ≤ 2 ^ 20 := Nat.pow_le_pow_right (by omega) (by omega)
    have h20' : 2 ^ k ≤ 2 ^ 20 := Nat.pow_le_pow_right (by omega) (by omega)
    have c1 := eLc_of (fi := iSeq (eVar 1)) (t := .nm 3) (vs := [3]) (fe := eOp dAdd (eTup (aCons (eVar 2) aNil)) (eVar 3)) (ρ := [some (.int n), some (rl (asl (n - k) k)), some (nat (n - (k + 1))), none]) nt (fun x => nt ((n - (k + 1)) :: x)) (l := asl (n - k) k) (by (first | rfl | (simp only [eOp_a, eUn_a, eCB_a, aCons_a, aNil_a, eIx_a, eC_a, eVar_0, eVar_s, o2_ss, o1_s, d1_1, d2_2, eB_a, tCmp_a, tTru_a, tNotD_a, tIsND_a, tNotND_a, eIsN_a, eNotN_a, tTrue_a, iSeq_a, seqOf_l, seqOf_t, dAdd_i, dAddI_i, dSub_i, dNeg_i, dLt_i, dLe_i, dGt_i, dGe_i, dEq_i, dNe_i, dTru_b, dTru_i, dTru_l, dTru_t, dTru_n, isNon_n, isNon_b, isNon_i, isNon_s, isNon_l, isNon_t, dLen_l, dLen_t, dInt_i, dInt_b, dTuple_l, dTuple_t, dList_l, dList_t, eCall_1, eCall_2, eCall_3, eCall_4, eCall_5, eCall_6, eCall_7] <;> rfl))) (by omega) (fun x hx => ⟨[(3, nt x)], rfl, by
      have := asc_len (mem_asl.mp hx)
      rw [eOp_a, eTup_1 (x := nat (n - (k + 1))) rfl]
      exact dAdd_tt (by simp only [List.length_map, List.length_cons, List.length_nil]; omega)⟩)
    have c2 := eLc_if (fi := iSeq (eVar 1)) (t := .nm 3) (vs := [3]) (ft := tTru (eVar 3)) (fe := eVar 3) (ρ := [some (.int n), some (rl (asl (n - k) k)), some (nat (n - (k + 1))), none]) nt nt (fun x => !x.isEmpty) (l := asl (n - k) k) (by (first | rfl | (simp only [eOp_a, eUn_a, eCB_a, aCons_a, aNil_a, eIx_a, eC_a, eVar_0, eVar_s, o2_ss, o1_s, d1_1, d2_2, eB_a, tCmp_a, tTru_a, tNotD_a, tIsND_a, tNotND_a, eIsN_a, eNotN_a, tTrue_a, iSeq_a, seqOf_l, seqOf_t, dAdd_i, dAddI_i, dSub_i, dNeg_i, dLt_i, dLe_i, dGt_i, dGe_i, dEq_i, dNe_i, dTru_b, dTru_i, dTru_l, dTru_t, dTru_n, isNon_n, isNon_b, isNon_i, isNon_s, isNon_l, isNon_t, dLen_l, dLen_t, dInt_i, dInt_b, dTuple_l, dTuple_t, dList_l, dList_t, eCall_1, eCall_2, eCall_3, eCall_4, eCall_5, eCall_6, eCall_7] <;> rfl))) (by omega) (fun x hx => ⟨[(3, nt x)], rfl, by cases x <;> rfl, fun _ => rfl⟩)
    refine wp_setD (d := rl (asl (n - (k + 1)) (k + 1))) ?_ rfl ?_
    · rw [eOp_a, eOp_a, c1, c2, eLst_1 (x := nt []) rfl, o2_ss, dAdd_ll (by simp only [List.length_map, List.length_cons, List.length_nil]; omega), o2_ss]
      refine Eq.trans (dAdd_ll ?_) ?_
      · have := List.length_filter_le (fun x : List Nat => !x.isEmpty) (asl (n - k) k)
        simp only [List.length_append, List.length_map, List.length_cons, List.length_nil]
        have : 2 ^ 20 = 1048576 := by decide
        omega
      · rw [el]
        simp [rl, stp]
    · simp only [List.map_cons, List.map_nil, List.replicate_succ, List.replicate_zero, List.nil_append, List.cons_append, List.append_nil, Nat.reduceSub, Nat.reduceAdd, setsD, zeros, stt, setsO, setsJ, List.foldl_cons, List.foldl_nil, List.set_cons_zero, List.set_cons_succ, demote]
      exact cl rfl
  · simp only [List.map_cons, List.map_nil, List.replicate_succ, List.replicate_zero, List.nil_append, List.cons_append, List.append_nil, Nat.reduceSub, Nat.reduceAdd, setsD, zeros, stt, setsO, setsJ, List.foldl_cons, List.foldl_nil, List.set_cons_zero, List.set_cons_succ, demote]
    refine wp_ret rfl ?_
    simp [rngDn, aset]
theorem law_sets_ok {n : Nat} (hn : n ≤ 20) : den__law_sets [.int n] = some (rl (aset n)) := by
  refine dfun_wp rfl ?_
  simp only [List.map_cons, List.map_nil, List.replicate_succ, List.replicate_zero, List.nil_append, List.cons_append, List.append_nil, Nat.reduceSub, Nat.reduceAdd, setsD, zeros, stt, setsO, setsJ, List.foldl_cons, List.foldl_nil, List.set_cons_zero, List.set_cons_succ, demote]
  refine wp_seq ?_
  refine wp_setD (d := rl [[]]) ?_ ?_ ?_
  · exact eLst_1 (x := nt []) rfl
  · rfl
  simp only [List.map_cons, List.map_nil, List.replicate_succ, List.replicate_zero, List.nil_append, List.cons_append, List.append_nil, Nat.reduceSub, Nat.reduceAdd, setsD, zeros, stt, setsO, setsJ, List.foldl_cons, List.foldl_nil, List.set_cons_zero, List.set_cons_succ, demote]
  refine wp_seq ?_
  refine wp_forN (n := n) [2] (fun k => [(1, rl (lset k))]) ?_ ?_ (fun p hp => ?_) (fun k xs hk => ?_) fun xs => ?_
  · rfl
  · omega
  · simp only [List.mem_singleton] at hp
    subst hp
    rfl
  · simp only [List.map_cons, List.map_nil, List.replicate_succ, List.replicate_zero, List.nil_append, List.cons_append, List.append_nil, Nat.reduceSub, Nat.reduceAdd, setsD, zeros, stt, setsO, setsJ, List.foldl_cons, List.foldl_nil, List.set_cons_zero, List.set_cons_succ, demote]
    have hlen := lset_len k
    have hlen2 := lset_len (k + 1)
    have h20 : 2 ^ (k + 1) ≤ 2 ^ 20 := Nat.pow_le_pow_right (by omega) (by omega)
    have h20' : 2 ^ k ≤ 2 ^ 20 := Nat.pow_le_pow_right (by omega) (by omega)
    have c1 := fun x3 => eLc_of (fi := iSeq (eVar 1)) (t := .nm 3) (vs := [3]) (fe := eOp dAdd (eVar 3) (eTup (aCons (eVar 2) aNil))) (ρ := [some (.int n), some (rl (lset k)), some (nat k), x3]) nt (fun x => nt (x ++ [k])) (l := lset k) (by (first | rfl | (simp only [eOp_a, eUn_a, eCB_a, aCons_a, aNil_a, eIx_a, eC_a, eVar_0, eVar_s, o2_ss, o1_s, d1_1, d2_2, eB_a, tCmp_a, tTru_a, tNotD_a, tIsND_a, tNotND_a, eIsN_a, eNotN_a, tTrue_a, iSeq_a, seqOf_l, seqOf_t, dAdd_i, dAddI_i, dSub_i, dNeg_i, dLt_i, dLe_i, dGt_i, dGe_i, dEq_i, dNe_i, dTru_b, dTru_i, dTru_l, dTru_t, dTru_n, isNon_n, isNon_b, isNon_i, isNon_s, isNon_l, isNon_t, dLen_l, dLen_t, dInt_i, dInt_b, dTuple_l, dTuple_t, dList_l, dList_t, eCall_1, eCall_2, eCall_3, eCall_4, eCall_5, eCall_6, eCall_7] <;> rfl))) (by omega) (fun x hx => ⟨[(3, nt x)], rfl, by
      have := asc_len (by have := mem_lset.mp hx; rw [← Nat.zero_add k] at this; exact this)
      rw [eOp_a, eTup_1 (x := nat k) rfl]
      exact nt_snoc (by omega)⟩)
    refine wp_setD (d := rl (lset (k + 1))) ?_ rfl ?_
    · rw [eOp_a, c1]
      refine Eq.trans (dAdd_ll ?_) ?_
      · simp; omega
      · simp [rl, lset]
    · simp only [List.map_cons, List.map_nil, List.replicate_succ, List.replicate_zero, List.nil_append, List.cons_append, List.append_nil, Nat.reduceSub, Nat.reduceAdd, setsD, zeros, stt, setsO, setsJ, List.foldl_cons, List.foldl_nil, List.set_cons_zero, List.set_cons_succ, demote]
      exact cl rfl
  · simp only [List.map_cons, List.map_nil, List.replicate_succ, List.replicate_zero, List.nil_append, List.cons_append, List.append_nil, Nat.reduceSub, Nat.reduceAdd, setsD, zeros, stt, setsO, setsJ, List.foldl_cons, List.foldl_nil, List.set_cons_zero, List.set_cons_succ, demote]
    refine wp_ret (d := rl (aset n)) ?_ rfl
    rw [eCB_a, aCons_a, aNil_a]
    show dSorted (rl (lset n)) = _
    exact dSorted_eq (lset_perm n) (aset_sorted n)
end Lib
end

section
set_option Elab.async false
set_option linter.all false
set_option maxRecDepth 10000
/-! Short lemmas that many laws want. -/
namespace Lib
open DS PySem
/-! equal rows -/
theorem eqvAll_nats : ∀ a b : List Nat, PyData.eqvAll (a.map nat) (b.map nat) = decide (a = b)
  | [], [] => by simp [PyData.eqvAll]
  | [], y :: b => by simp [PyData.eqvAll]
  | x :: a, [] => by simp [PyData.eqvAll]
  | x :: a, y :: b => by
    rw [List.map_cons, List.map_cons, PyData.eqvAll, eqvAll_nats a b, eqv_nat]
    by_cases h : x = y
    · by_cases h' : a = b <;> simp [h, h']
    · simp [h]
theorem eqv_nt (a b : List Nat) : PyData.eqv (nt a) (nt b) = decide (a = b) := by
  unfold nt
  rw [PyData.eqv, eqvAll_nats]
theorem nt_shaped (o : List Nat) : SeqAt.shaped (nt o) = true := by
  have h1 := lay_nats o
  have h2 := depth_nats o
  unfold SeqAt.shaped nt
  rw [PyData.canLay0, h1, Bool.true_and]
  refine decide_eq_true ?_
  simp only [PyData.depth]
  omega
theorem dEq_nt (a b : List Nat) : dEq (nt a) (nt b) = some (decide (a = b)) := by
  unfold dEq
  rw [nt_shaped, nt_shaped, if_pos (by rfl), eqv_nt]
theorem dNe_nt (a b : List Nat) : dNe (nt a) (nt b) = some (!decide (a = b)) := by
  unfold dNe
  rw [nt_shaped, nt_shaped, if_pos (by rfl), eqv_nt]
/-! slices -/
theorem dSlice_to {ds : List D} {k : Nat} (h : k ≤ ds.length) : dSlice none (some (k : Int)) (.tuple ds) = some (.tuple (ds.take k)) := by
  show some (PyData.tuple (cutD ds none (some (k : Int)))) = _
  unfold cutD
  rw [HT.sIx_none, HT.sIx_nat, Nat.min_eq_left h, List.drop_zero, Nat.sub_zero]
theorem dSlice_from {ds : List D} {k : Nat} (h : k ≤ ds.length) : dSlice (some (k : Int)) none (.tuple ds) = some (.tuple (ds.drop k)) := by
  show some (PyData.tuple (cutD ds (some (k : Int)) none)) = _
  unfold cutD
  rw [HT.sIx_none, HT.sIx_nat, Nat.min_eq_left h, List.take_of_length_le (by simp)]
theorem dSliceL_to {ds : List D} {k : Nat} (h : k ≤ ds.length) : dSlice none (some (k : Int)) (.list ds) = some (.list (ds.take k)) := by
  show some (PyData.list (cutD ds none (some (k : Int)))) = _
  unfold cutD
  rw [HT.sIx_none, HT.sIx_nat, Nat.min_eq_left h, List.drop_zero, Nat.sub_zero]
theorem dSliceL_from {ds : List D} {k : Nat} (h : k ≤ ds.length) : dSlice (some (k : Int)) none (.list ds) = some (.list (ds.drop k)) := by
  show some (PyData.list (cutD ds (some (k : Int)) none)) = _
  unfold cutD
  rw [HT.sIx_none, HT.sIx_nat, Nat.min_eq_left h, List.take_of_length_le (by simp)]
theorem eSl_to {f g : FE} {ρ : PEnv} {ds : List D} {k : Nat} (h : f ρ = some (.tuple ds)) (hg : g ρ = some (.int k)) (hk : k ≤ ds.length) : eSl f oNone (oSome g) ρ = some (.tuple (ds.take k)) := by
  unfold eSl oNone oSome
  rw [h, hg]
  exact dSlice_to hk
theorem eSl_from {f g : FE} {ρ : PEnv} {ds : List D} {k : Nat} (h : f ρ = some (.tuple ds)) (hg : g ρ = some (.int k)) (hk : k ≤ ds.length) : eSl f (oSome g) oNone ρ = some (.tuple (ds.drop k)) := by
  unfold eSl oNone oSome
  rw [h, hg]
  exact dSlice_from hk
/-! all, any of truth values -/
theorem bools_map {α : Type} (p : α → Bool) : ∀ l : List α, bools (l.map fun a => .bool (p a)) = some (l.map p)
  | [] => rfl
  | a :: l => by
    rw [List.map_cons, List.map_cons]
    unfold bools
    rw [bools_map p l, o1_s]
theorem dAll_map {α : Type} (p : α → Bool) (l : List α) : dAll (.list (l.map fun a => .bool (p a))) = some (.bool (l.all p)) := by
  show o1 (bools _) _ = _
  rw [bools_map, o1_s, List.all_map]
  rfl
theorem dAny_map {α : Type} (p : α → Bool) (l : List α) : dAny (.list (l.map fun a => .bool (p a))) = some (.bool (l.any p)) := by
  show o1 (bools _) _ = _
  rw [bools_map, o1_s, List.any_map]
  rfl
theorem eAnd_b {f g : FE} {ρ : PEnv} {a b : Bool} (h : f ρ = some (.bool a)) (h' : a = true → g ρ = some (.bool b)) (h0 : a = false → b = false) : eAndD f g ρ = some (.bool b) := by
  unfold eAndD
  rw [h]
  cases a with
  | true => simpa using h' rfl
  | false => simp [h0 rfl]
theorem tTru_b {f : FE} {ρ : PEnv} {b : Bool} (h : f ρ = some (.bool b)) : tTru f ρ = some b := by
  rw [tTru_a, h]; rfl
theorem tNot_b {f : FT} {ρ : PEnv} {b : Bool} (h : f ρ = some b) : tNotD f ρ = some (!b) := by
  rw [tNotD_a, h]; rfl
theorem eB_b {f : FT} {ρ : PEnv} {b : Bool} (h : f ρ = some b) : eB f ρ = some (.bool b) := by
  rw [eB_a, h]; rfl
theorem all_of {f : FE} {ρ : PEnv} {α : Type} {p : α → Bool} {l : List α} (h : f ρ = some (.list (l.map fun a => .bool (p a)))) : eCB (d1 dAll) (aCons f aNil) ρ = some (.bool (l.all p)) := by
  rw [eCB_a, aCons_a, h, aNil_a, o2_ss, o1_s, d1_1, dAll_map]
theorem any_of {f : FE} {ρ : PEnv} {α : Type} {p : α → Bool} {l : List α} (h : f ρ = some (.list (l.map fun a => .bool (p a)))) : eCB (d1 dAny) (aCons f aNil) ρ = some (.bool (l.any p)) := by
  rw [eCB_a, aCons_a, h, aNil_a, o2_ss, o1_s, d1_1, dAny_map]
theorem tup_of {f : FE} {ρ : PEnv} {ds : List D} (h : f ρ = some (.list ds)) : eCB (d1 dTuple) (aCons f aNil) ρ = some (.tuple ds) := by
  rw [eCB_a, aCons_a, h, aNil_a, o2_ss, o1_s, d1_1, dTuple_l]
/-! sets by size -/
def skey (x : List Nat) : D := .tuple [nat x.length, nt x]
theorem keys_size : ∀ l : List (List Nat), keyLs den_size_key (l.map nt) = some (l.map skey)
  | [] => rfl
  | x :: l => by
    rw [List.map_cons, List.map_cons]
    unfold keyLs
    rw [size_key_ok, keys_size l]
    rfl
theorem allCmp_skey (l : List (List Nat)) : allCmp (l.map skey) = true := allCmp_map (fun a _ => by unfold skey; rw [PyData.canLay0, PyData.canLayAll0, PyData.canLayAll0, lay_nt]; rfl) (fun a _ => by
    have := depth_nt a
    simp only [skey, PyData.depth, PyData.depthAll, nat]
    omega) (fun a _ => rfl) fun a _ b _ => by
    unfold skey
    rw [PySem.W.alike, PySem.W.alikeAll, PySem.W.alikeAll, alike_nt, PySem.W.alikeAll]
    simp [nat, PySem.W.alike]
/-- a smaller set first, else the lesser row -/
def slt (a b : List Nat) : Bool := if a.length = b.length then llt a b else decide (a.length < b.length)
def sle (a b : List Nat) : Bool := !slt b a
theorem dataLt_skey (a b : List Nat) : PySem.W.dataLt (skey a) (skey b) = slt a b := by
  show rowLt [.int a.length, nt a] [.int b.length, nt b] = _
  rw [rowLt_int, rowLt_one _ _ (alike_nt a b) (fun h => by
    rw [eqv_nt] at h
    have e := of_decide_eq_true h
    subst e
    rw [dataLt_nt, llt_irrefl]), dataLt_nt]
  unfold slt
  by_cases h : a.length = b.length
  · rw [if_pos h, if_pos (by omega)]
  · rw [if_neg h, if_neg (by omega), decide_eq_decide]; omega
theorem zip_self_map {α β γ : Type} (f : α → β) (g : α → γ) : ∀ l : List α, (l.map f).zip (l.map g) = l.map fun a => (f a, g a)
  | [] => rfl
  | a :: l => by simp [zip_self_map f g l]
theorem sortK_size (l : List (List Nat)) : dSortK den_size_key (rl l) = some (rl (l.mergeSort sle)) := by
  have hk := keys_size l
  show (match keyLs den_size_key (l.map nt) with
    | some ks => if allCmp ks = true then some (PyData.list ((((l.map nt).zip ks).mergeSort (fun u v : D × D => leD u.2 v.2)).map (fun u : D × D => u.1))) else none
    | none => none) = _
  rw [hk]
  show (if allCmp (l.map skey) = true then some (PyData.list ((((l.map nt).zip (l.map skey)).mergeSort (fun u v : D × D => leD u.2 v.2)).map (fun u : D × D => u.1))) else none) = _
  rw [if_pos (allCmp_skey l), zip_self_map]
  have := PySem.W.sort_maps (r := sle) (s := fun u v : D × D => leD u.2 v.2) (fun a => (nt a, skey a)) (l := l) fun a _ b _ => by
    show sle a b = leD (skey a) (skey b)
    unfold leD sle
    rw [dataLt_skey]
  rw [← this, List.map_map]
  rfl
theorem sorted_size_perm (l : List (List Nat)) : (l.mergeSort sle).Perm l := List.mergeSort_perm _ _
end Lib
end

section
set_option Elab.async false
set_option linter.all false
set_option maxRecDepth 10000
/-! max and index of ints. -/
namespace Lib
open DS PySem
def imx (x : Int) (xs : List Int) : Int := xs.foldl (fun a y => if a < y then y else a) x
theorem imx_spec : ∀ (xs : List Int) (x : Int), imx x xs ∈ x :: xs ∧ ∀ y ∈ x :: xs, y ≤ imx x xs
  | [], x => ⟨by simp [imx], by simp [imx]⟩
  | y :: xs, x => by
    have e : imx x (y :: xs) = imx (if x < y then y else x) xs := rfl
    rw [e]
    obtain ⟨a, b⟩ := imx_spec xs (if x < y then y else x)
    refine ⟨?_, fun z hz => ?_⟩
    · rcases List.mem_cons.mp a with h | h
      · rw [h]; split <;> simp
      · simp [h]
    · have b0 := b (if x < y then y else x) (.head _)
      generalize imx (if x < y then y else x) xs = M at b0 b ⊢
      rcases List.mem_cons.mp hz with h | h
      · subst h; split at b0 <;> omega
      · rcases List.mem_cons.mp h with h | h
        · subst h; split at b0 <;> omega
        · exact b z (.tail _ h)
theorem maxD_int : ∀ (xs : List Int) (x : Int), PySem.W.maxD (.int x) (xs.map PyData.int) = .int (imx x xs)
  | [], _ => rfl
  | y :: xs, x => by
    show PySem.W.maxD (if PySem.W.dataLt (.int x) (.int y) = true then .int y else .int x) (xs.map PyData.int) = .int (imx (if x < y then y else x) xs)
    rw [PySem.W.dataLt_int]
    by_cases h : x < y
    · rw [if_pos h, if_pos (decide_eq_true h)]; exact maxD_int xs y
    · rw [if_neg h, if_neg (by simpa using h)]; exact maxD_int xs x
theorem allCmp_in (l : List Int) : allCmp (l.map PyData.int) = true := by
  refine allCmp_map ?_ ?_ ?_ ?_
  · intro a _; simp [PyData.canLay0]
  · intro a _; simp [PyData.depth]
  · intro a _; rfl
  · intro a _ b _; simp [PySem.W.alike]
theorem dMax1_in (x : Int) (xs : List Int) : dMax1 (.list ((x :: xs).map PyData.int)) = some (.int (imx x xs)) := by
  have m := maxD_int xs x
  have ok : allCmp (.int x :: xs.map PyData.int) = true := allCmp_in (x :: xs)
  show bestOf PySem.W.maxD (.int x :: xs.map PyData.int) = _
  unfold bestOf
  simp only [m, ok]
  rfl
theorem dMax1_tin (x : Int) (xs : List Int) : dMax1 (.tuple ((x :: xs).map PyData.int)) = some (.int (imx x xs)) := dMax1_in x xs
theorem ints_shaped (o : List Int) : SeqAt.shaped (.list (o.map PyData.int)) = true := by
  have h1 : ∀ o : List Int, PyData.canLayAll0 (o.map PyData.int) = true := fun o => by
    induction o with
    | nil => rfl
    | cons a o ih => simp [PyData.canLayAll0, PyData.canLay0, ih]
  have h2 : ∀ o : List Int, PyData.depthAll (o.map PyData.int) ≤ 1 := fun o => by
    induction o with
    | nil => simp [PyData.depthAll]
    | cons a o ih => simp only [List.map_cons, PyData.depthAll, PyData.depth]; omega
  unfold SeqAt.shaped
  rw [PyData.canLay0, h1, Bool.true_and]
  refine decide_eq_true ?_
  have := h2 o
  simp only [PyData.depth]
  omega
theorem dIndex_in {o : List Int} {v : Int} {i : Nat} (hi : i < o.length) (h : o[i] = v) (h' : ∀ j (hj : j < o.length), j < i → o[j] ≠ v) : dIndex (.list (o.map PyData.int)) (.int v) = some (nat i) := by
  show (if (SeqAt.shaped (.list (o.map PyData.int)) && SeqAt.shaped (.int v)) = true then (match (o.map PyData.int).findIdx? fun z => PyData.eqv z (.int v) with
    | some j => some (PyData.int (j : Nat))
    | none => none) else none) = _
  rw [ints_shaped, if_pos (by rfl)]
  have : (o.map PyData.int).findIdx? (fun z => PyData.eqv z (.int v)) = some i := by
    rw [List.findIdx?_eq_some_iff_getElem]
    refine ⟨by simpa using hi, by simp [PyData.eqv, h], fun j hj => ?_⟩
    have hj' : j < o.length := by omega
    have := h' j hj' hj
    simp [PyData.eqv, this]
  rw [this]
  rfl
/-- i is the first place of the greatest -/
structure FMax (o : List Int) (i : Nat) : Prop where
  lt : i < o.length
  ge : ∀ j (hj : j < o.length), o[j] ≤ o[i]
  fst : ∀ j (hj : j < o.length), j < i → o[j] < o[i]
theorem FMax.index {o : List Int} {i : Nat} (h : FMax o i) : ∃ M, dMax1 (.list (o.map PyData.int)) = some (.int M) ∧ dIndex (.list (o.map PyData.int)) (.int M) = some (nat i) := by
  match o, h with
  | [], h => exact absurd h.lt (Nat.not_lt_zero _)
  | x :: xs, h =>
    obtain ⟨a, b⟩ := imx_spec xs x
    refine ⟨imx x xs, dMax1_in x xs, ?_⟩
    have e : (x :: xs)[i]'h.lt = imx x xs := by
      have h1 := b _ (List.getElem_mem h.lt)
      obtain ⟨j, hj, e⟩ := List.getElem_of_mem a
      have h2 := h.ge j hj
      omega
    exact dIndex_in h.lt e fun j hj hji q => by
      have := h.fst j hj hji
      omega
theorem FMax.zero (x : Int) : FMax [x] 0 := ⟨by simp, fun j hj => by
  have : j = 0 := by simpa using hj
  subst this; exact Int.le_refl _, fun j _ h => absurd h (Nat.not_lt_zero _)⟩
theorem FMax.more {o : List Int} {i : Nat} {y : Int} (h : FMax o i) : FMax (o ++ [y]) (if o[i]'h.lt < y then o.length else i) := by
  have hl := h.lt
  split
  · rename_i c
    refine ⟨by simp, fun j hj => ?_, fun j hj hji => ?_⟩
    · rw [List.getElem_append_right (Nat.le_refl _)]
      simp only [Nat.sub_self, List.getElem_cons_zero]
      by_cases hjo : j < o.length
      · rw [List.getElem_append_left hjo]
        have := h.ge j hjo
        omega
      · have : j = o.length := by simp at hj; omega
        subst this
        simp
    · rw [List.getElem_append_right (Nat.le_refl _), List.getElem_append_left hji]
      simp only [Nat.sub_self, List.getElem_cons_zero]
      have := h.ge j hji
      omega
  · rename_i c
    refine ⟨by simp; omega, fun j hj => ?_, fun j hj hji => ?_⟩
    · rw [List.getElem_append_left hl]
      by_cases hjo : j < o.length
      · rw [List.getElem_append_left hjo]
        exact h.ge j hjo
      · have : j = o.length := by simp at hj; omega
        subst this
        simp
        omega
    · rw [List.getElem_append_left hl, List.getElem_append_left (by omega)]
      exact h.fst j (by omega) hji
end Lib
end

section
set_option Elab.async false
set_option linter.all false
set_option maxRecDepth 10000
/-! k12, part a: what links join. -/
namespace Lib
open DS PySem
/-- a link: its ends and its chance -/
abbrev Lk := Nat × Nat × Rat
def lk (l : Lk) : D := .tuple [nat l.1, nat l.2.1, rt l.2.2]
def Adj (E : List Lk) (x y : Nat) : Prop := ∃ l ∈ E, (l.1 = x ∧ l.2.1 = y) ∨ (l.2.1 = x ∧ l.1 = y)
inductive Conn (E : List Lk) (u : Nat) : Nat → Prop
  | refl : Conn E u u
  | step {x y : Nat} : Conn E u x → Adj E x y → Conn E u y
theorem Conn.mono {E F : List Lk} {u w : Nat} (h : Conn E u w) (s : ∀ l ∈ E, l ∈ F) : Conn F u w := by
  induction h with
  | refl => exact .refl
  | step _ a ih =>
    obtain ⟨l, hl, q⟩ := a
    exact .step ih ⟨l, s l hl, q⟩
theorem Conn.closed {E : List Lk} {u w : Nat} {L : List Nat} (h : Conn E u w) (hu : u ∈ L) (c : ∀ x ∈ L, ∀ y, Adj E x y → y ∈ L) : w ∈ L := by
  induction h with
  | refl => exact hu
  | step _ a ih => exact c _ ih _ a
/-- a row without doubles of just what is joined to u -/
structure IsComp (E : List Lk) (u : Nat) (L : List Nat) : Prop where
  nd : L.Nodup
  mem : ∀ w, w ∈ L ↔ Conn E u w
def Ends (E : List Lk) (n : Nat) : Prop := ∀ l ∈ E, l.1 < n ∧ l.2.1 < n ∧ l.1 ≠ l.2.1
theorem nodup_lt_len {L : List Nat} {n : Nat} (nd : L.Nodup) (h : ∀ x ∈ L, x < n) : L.length ≤ n := by
  have := nd.length_le_of_subset (l₂ := List.range n) fun x hx => List.mem_range.mpr (h x hx)
  simpa using this
/-- x in a list of naturals -/
def nl (o : List Nat) : D := .list (o.map nat)
theorem nl_len (o : List Nat) : dLen (nl o) = some (.int o.length) := by simp [nl]
theorem nl_shaped (o : List Nat) : SeqAt.shaped (nl o) = true := by
  have h1 := lay_nats o
  have h2 := depth_nats o
  unfold SeqAt.shaped nl
  rw [PyData.canLay0, h1, Bool.true_and]
  refine decide_eq_true ?_
  simp only [PyData.depth]
  omega
theorem nl_in (i : Nat) (o : List Nat) : dIn (nat i) (nl o) = some (o.contains i) := by
  show (if (SeqAt.shaped (nat i) && SeqAt.shaped (nl o)) = true then some ((o.map nat).any fun z => PyData.eqv z (nat i)) else none) = _
  rw [nl_shaped, if_pos (by rfl)]
  have := nt_in i o
  have h : (o.map nat).all scal1 = true := by
    rw [List.all_eq_true]
    intro x hx
    obtain ⟨k, _, rfl⟩ := List.mem_map.mp hx
    rfl
  have e : dIn (nat i) (nt o) = (if (scal1 (nat i) && (o.map nat).all scal1) = true then some ((o.map nat).any fun z => PyData.eqv z (nat i)) else none) := rfl
  rw [e, if_pos (by rw [h]; rfl)] at this
  exact this
def atInt (s : S) (i : Nat) : Int := match s.1[i]? with
  | some (some (PyData.int a)) => a
  | _ => 0
theorem nl_notin (i : Nat) (o : List Nat) : dNotIn (nat i) (nl o) = some (!o.contains i) := by
  unfold dNotIn
  rw [nl_in, o1_s]
theorem nl_ix {o : List Nat} {i : Nat} (h : i < o.length) : dIx (nl o) (.int i) = some (nat (o[i])) := by
  show L2.atI (o.map nat) (i : Int) = _
  rw [atI_mp h]
theorem nt_2 (a b : Nat) : (.tuple [nat a, nat b] : D) = nt [a, b] := rfl
def den_reached : Fn := dfun 8 3 (sSeq (sSet 3 1 (eLst (aCons (eVar 2) aNil)) ([(2, 0)] ++ []))
  (sSeq (sSet 4 0 (eC (.int 0)) [])
  (sSeq (sWhile 100000 (tCmp dLt (eVar 4) (eCB (d1 dLen) (aCons (eVar 3) aNil)))
  (sSeq (sFor (iSeq (eVar 1)) [(1, 0)] (.tp [(.nm 5), (.nm 6), (.nm 7)])
  (sIf (tAndD (tCmp dIn (eIx (eVar 3) (eVar 4)) (eTup (aCons (eVar 5) (aCons (eVar 6) aNil)))) (tCmp dNotIn (eOp dSub (eOp dAdd (eVar 5) (eVar 6)) (eIx (eVar 3) (eVar 4))) (eVar 3)))
  (sApp 3 (eOp dSub (eOp dAdd (eVar 5) (eVar 6)) (eIx (eVar 3) (eVar 4))) (([(5, 1)] ++ [(6, 1)]) ++ [(3, 2)]))
  sNil))
  (sAug 4 dAddI (eC (.int 1)))))
  (sRet (eVar 3)))))
def den__law_joined : Fn := dfun 8 3 (sSeq (sSet 3 1 (eLst (aCons (eVar 2) aNil)) ([(2, 0)] ++ []))
  (sSeq (sFor (iRange1 (eVar 0)) [] (.nm 4)
  (sFor (iSeq (eVar 1)) [(1, 0)] (.tp [(.nm 5), (.nm 6), (.nm 7)])
  (sIf (tAndD (tCmp dIn (eVar 5) (eVar 3)) (tCmp dNotIn (eVar 6) (eVar 3)))
  (sApp 3 (eVar 6) [(6, 0)])
  (sIf (tAndD (tCmp dIn (eVar 6) (eVar 3)) (tCmp dNotIn (eVar 5) (eVar 3)))
  (sApp 3 (eVar 5) [(5, 0)])
  sNil))))
  (sRet (eVar 3))))
theorem tAnd_b {f g : FT} {ρ : PEnv} {a b : Bool} (h : f ρ = some a) (h' : g ρ = some b) : tAndD f g ρ = some (a && b) := by
  unfold tAndD
  rw [h]
  cases a with
  | false => rfl
  | true => rw [h']; rfl
/-- what the rows hold while they grow -/
structure Grow (E : List Lk) (n u : Nat) (L : List Nat) : Prop where
  nd : L.Nodup
  lt : ∀ x ∈ L, x < n
  cn : ∀ x ∈ L, Conn E u x
  hu : u ∈ L
theorem Grow.snoc {E : List Lk} {n u y x : Nat} {L : List Nat} (g : Grow E n u L) (hx : x ∈ L) (a : Adj E x y) (hy : y ∉ L) (hn : y < n) : Grow E n u (L ++ [y]) := by
  refine ⟨List.nodup_append.mpr ⟨g.nd, by simp, fun a ha b hb e => ?_⟩, fun z hz => ?_, fun z hz => ?_, by simp [g.hu]⟩
  · simp at hb; subst hb; subst e; exact hy ha
  · rcases List.mem_append.mp hz with h | h
    · exact g.lt z h
    · simp at h; subst h; exact hn
  · rcases List.mem_append.mp hz with h | h
    · exact g.cn z h
    · simp at h; subst h; exact .step (g.cn x hx) a
theorem Grow.comp {E : List Lk} {n u : Nat} {L : List Nat} (g : Grow E n u L) (c : ∀ x ∈ L, ∀ y, Adj E x y → y ∈ L) : IsComp E u L := ⟨g.nd, fun w => ⟨g.cn w, fun h => h.closed g.hu c⟩⟩
theorem reached_ok {E : List Lk} {n u : Nat} (he : Ends E n) (hu : u < n) (hn : n ≤ 1000) (links : D) (hl : seqOf links = some (E.map lk)) : ∃ d, den_reached [nat n, links, nat u] = some d ∧ ∃ L, d = nl L ∧ IsComp E u L ∧ L.length ≤ n := by
  refine dfun_wpE rfl ?_
  simp only [List.map_cons, List.map_nil, List.replicate_succ, List.replicate_zero, List.nil_append, List.cons_append, List.append_nil, Nat.reduceSub, Nat.reduceAdd, setsD, zeros, stt, setsO, setsJ, List.foldl_cons, List.foldl_nil, List.set_cons_zero, List.set_cons_succ, demote]
  refine wp_seq (wp_setD (d := nl [u]) (eLst_1 rfl) rfl ?_)
  simp only [List.map_cons, List.map_nil, List.replicate_succ, List.replicate_zero, List.nil_append, List.cons_append, List.append_nil, Nat.reduceSub, Nat.reduceAdd, setsD, zeros, stt, setsO, setsJ, List.foldl_cons, List.foldl_nil, List.set_cons_zero, List.set_cons_succ, demote]
  refine wp_seq (wp_set (d := nat 0) rfl rfl ?_)
  simp only [List.map_cons, List.map_nil, List.replicate_succ, List.replicate_zero, List.nil_append, List.cons_append, List.append_nil, Nat.reduceSub, Nat.reduceAdd, setsD, zeros, stt, setsO, setsJ, List.foldl_cons, List.foldl_nil, List.set_cons_zero, List.set_cons_succ, demote]
  refine wp_seq ?_
  refine wp_while (P := fun s => ∃ L a x5 x6 x7, s = ([some (nat n), some links, some (nat u), some (nl L), some (nat a), x5, x6, x7], [0, 0, 0, 1, 0, 0, 0, 0]) ∧ Grow E n u L ∧ a ≤ L.length ∧ ∀ i (h : i < L.length), i < a → ∀ y, Adj E L[i] y → y ∈ L) (μ := fun s => n - (atInt s 4).toNat)
    ⟨[u], 0, none, none, none, rfl, ⟨by simp, by simpa using hu, fun x hx => by simp at hx; subst hx; exact .refl, by simp⟩, Nat.zero_le _, fun i _ h => absurd h (Nat.not_lt_zero _)⟩ ?_ ?_
  · show n - _ < 100000
    omega
  · rintro _ ⟨L, a, x5, x6, x7, rfl, g, ha, hd⟩
    have hlen := nodup_lt_len g.nd g.lt
    refine ⟨decide (a < L.length), ?_, fun hb => ?_, fun hb => ?_⟩
    · simp only [tCmp_a, eCB_a, aCons_a, aNil_a, eVar_0, eVar_s, o2_ss, o1_s, d1_1, nl_len, nat, dLt_i]
      congr 1
      exact decide_eq_decide.mpr (by omega)
    · have hb := of_decide_eq_true hb
      refine wp_seq ?_
      refine wp_for (ds := E.map lk) (P := fun k s => ∃ L' x5 x6 x7, s = ([some (nat n), some links, some (nat u), some (nl L'), some (nat a), x5, x6, x7], [0, 0, 0, 1, 0, 0, 0, 0]) ∧ Grow E n u L' ∧ L <+: L' ∧ ∀ j l, j < k → E[j]? = some l → (l.1 = L[a] → l.2.1 ∈ L') ∧ (l.2.1 = L[a] → l.1 ∈ L')) (by simp only [iSeq_a, eVar_0, eVar_s, o1_s, hl]) ⟨L, x5, x6, x7, rfl, g, List.prefix_refl _, fun j l h => absurd h (Nat.not_lt_zero _)⟩ ?_ ?_
      · rintro k d _ hdk ⟨L', y5, y6, y7, rfl, g', pf, hc⟩
        rw [List.getElem?_map] at hdk
        obtain ⟨l, hlk, rfl⟩ := Option.map_eq_some_iff.mp hdk
        have hmem := List.mem_of_getElem? hlk
        obtain ⟨e1, e2, e3⟩ := he l hmem
        refine ⟨[(5, nat l.1), (6, nat l.2.1), (7, rt l.2.2)], rfl, ?_⟩
        simp only [List.map_cons, List.map_nil, List.replicate_succ, List.replicate_zero, List.nil_append, List.cons_append, List.append_nil, Nat.reduceSub, Nat.reduceAdd, setsD, zeros, stt, setsO, setsJ, List.foldl_cons, List.foldl_nil, List.set_cons_zero, List.set_cons_succ, demote]
        have hal : a < L'.length := Nat.lt_of_lt_of_le hb pf.length_le
        have hLa : L'[a] = L[a] := by
          obtain ⟨t, rfl⟩ := pf
          exact List.getElem_append_left hb
        have hxin : L[a] ∈ L' := pf.subset (List.getElem_mem hb)
        have ix : ∀ (r5 r6 r7 : Option D), (eIx (eVar 3) (eVar 4)) [some (nat n), some links, some (nat u), some (nl L'), some (nat a), r5, r6, r7] = some (nat L[a]) := fun r5 r6 r7 => by
          simp only [eIx_a, eVar_0, eVar_s, o2_ss]
          show dIx (nl L') (.int (a : Int)) = _
          rw [nl_ix hal, hLa]
        have t1 : tCmp dIn (eIx (eVar 3) (eVar 4)) (eTup (aCons (eVar 5) (aCons (eVar 6) aNil))) [some (nat n), some links, some (nat u), some (nl L'), some (nat a), some (nat l.1), some (nat l.2.1), some (rt l.2.2)] = some ([l.1, l.2.1].contains L[a]) := by
          rw [tCmp_a, ix, eTup_2 (x := nat l.1) (y := nat l.2.1) rfl rfl, o2_ss, nt_2, nt_in]
        by_cases hin : L[a] = l.1 ∨ L[a] = l.2.1
        · have c1 : [l.1, l.2.1].contains L[a] = true := by
            rcases hin with h | h <;> simp [h]
          obtain ⟨y, hy, hyv⟩ : ∃ y, (y = l.1 ∨ y = l.2.1) ∧ (l.1 : Int) + (l.2.1 : Int) - (L[a] : Int) = (y : Nat) := by
            rcases hin with h | h
            · exact ⟨l.2.1, .inr rfl, by omega⟩
            · exact ⟨l.1, .inl rfl, by omega⟩
          have oth : (eOp dSub (eOp dAdd (eVar 5) (eVar 6)) (eIx (eVar 3) (eVar 4))) [some (nat n), some links, some (nat u), some (nl L'), some (nat a), some (nat l.1), some (nat l.2.1), some (rt l.2.2)] = some (nat y) := by
            rw [eOp_a, ix, eOp_a]
            simp only [eVar_0, eVar_s, o2_ss, nat, dAdd_i, dSub_i, hyv]
          have t2 : tCmp dNotIn (eOp dSub (eOp dAdd (eVar 5) (eVar 6)) (eIx (eVar 3) (eVar 4))) (eVar 3) [some (nat n), some links, some (nat u), some (nl L'), some (nat a), some (nat l.1), some (nat l.2.1), some (rt l.2.2)] = some (!L'.contains y) := by
            rw [tCmp_a, oth]
            simp only [eVar_0, eVar_s, o2_ss, nl_notin]
          have adj : Adj E L[a] y := by
            refine ⟨l, hmem, ?_⟩
            rcases hin with h | h <;> rcases hy with q | q
            · omega
            · exact .inl ⟨h.symm, q.symm⟩
            · exact .inr ⟨h.symm, q.symm⟩
            · omega
          refine wp_if (tAnd_b t1 t2) (fun hc1 => ?_) fun hc1 => ?_
          · rw [c1, Bool.true_and] at hc1
            have hny : y ∉ L' := by simpa using hc1
            have gl := nodup_lt_len g'.nd g'.lt
            refine wp_app (ds := L'.map nat) oth rfl rfl (by rw [List.length_map]; omega) rfl ?_
            simp only [List.map_cons, List.map_nil, List.replicate_succ, List.replicate_zero, List.nil_append, List.cons_append, List.append_nil, Nat.reduceSub, Nat.reduceAdd, setsD, zeros, stt, setsO, setsJ, List.foldl_cons, List.foldl_nil, List.set_cons_zero, List.set_cons_succ, demote]
            have eL : L'.map nat ++ [nat y] = (L' ++ [y]).map nat := by simp
            rw [eL]
            refine ⟨L' ++ [y], _, _, _, rfl, g'.snoc hxin adj hny (by rcases hy with q | q <;> omega), pf.trans (List.prefix_append _ _), fun j l' hj hl' => ?_⟩
            by_cases hjk : j < k
            · have := hc j l' hjk hl'
              exact ⟨fun h => List.mem_append_left _ (this.1 h), fun h => List.mem_append_left _ (this.2 h)⟩
            · have : j = k := by omega
              subst this
              rw [hlk] at hl'
              cases hl'
              refine ⟨fun h => ?_, fun h => ?_⟩
              · have : y = l.2.1 := by rcases hy with q | q <;> omega
                rw [← this]; simp
              · have : y = l.1 := by rcases hy with q | q <;> omega
                rw [← this]; simp
          · rw [c1, Bool.true_and] at hc1
            have hyin : y ∈ L' := by simpa using hc1
            refine wp_nil ⟨L', _, _, _, rfl, g', pf, fun j l' hj hl' => ?_⟩
            by_cases hjk : j < k
            · exact hc j l' hjk hl'
            · have : j = k := by omega
              subst this
              rw [hlk] at hl'
              cases hl'
              refine ⟨fun h => ?_, fun h => ?_⟩
              · have : y = l.2.1 := by rcases hy with q | q <;> omega
                rw [← this]; exact hyin
              · have : y = l.1 := by rcases hy with q | q <;> omega
                rw [← this]; exact hyin
        · have c1 : [l.1, l.2.1].contains L[a] = false := by
            rw [not_or] at hin
            simp [hin.1, hin.2]
          rw [c1] at t1
          have t3 : tAndD (tCmp dIn (eIx (eVar 3) (eVar 4)) (eTup (aCons (eVar 5) (aCons (eVar 6) aNil)))) (tCmp dNotIn (eOp dSub (eOp dAdd (eVar 5) (eVar 6)) (eIx (eVar 3) (eVar 4))) (eVar 3)) [some (nat n), some links, some (nat u), some (nl L'), some (nat a), some (nat l.1), some (nat l.2.1), some (rt l.2.2)] = some false := by
            unfold tAndD
            rw [t1]
          refine wp_pass t3 ⟨L', _, _, _, rfl, g', pf, fun j l' hj hl' => ?_⟩
          by_cases hjk : j < k
          · exact hc j l' hjk hl'
          · have : j = k := by omega
            subst this
            rw [hlk] at hl'
            cases hl'
            exact ⟨fun h => absurd h.symm fun q => hin (.inl q), fun h => absurd h.symm fun q => hin (.inr q)⟩
      · rintro _ ⟨L', y5, y6, y7, rfl, g', pf, hc⟩
        refine wp_aug (d := nat (a + 1)) (x := nat a) (y := nat 1) rfl rfl (by show some _ = some _; simp [nat]) ?_
        simp only [List.map_cons, List.map_nil, List.replicate_succ, List.replicate_zero, List.nil_append, List.cons_append, List.append_nil, Nat.reduceSub, Nat.reduceAdd, setsD, zeros, stt, setsO, setsJ, List.foldl_cons, List.foldl_nil, List.set_cons_zero, List.set_cons_succ, demote]
        refine ⟨⟨L', a + 1, _, _, _, rfl, g', ?_, fun i hi hia y hy => ?_⟩, ?_⟩
        · have := pf.length_le
          omega
        · by_cases hlt : i < a
          · have hil : i < L.length := by omega
            have : L'[i] = L[i] := by
              obtain ⟨t, rfl⟩ := pf
              exact List.getElem_append_left hil
            rw [this] at hy
            exact pf.subset (hd i hil hlt y hy)
          · have : i = a := by omega
            subst this
            have hLa : L'[i] = L[i] := by
              obtain ⟨t, rfl⟩ := pf
              exact List.getElem_append_left hb
            rw [hLa] at hy
            obtain ⟨l, hl', q⟩ := hy
            obtain ⟨j, hj⟩ := List.getElem?_of_mem hl'
            have hjl : j < (E.map lk).length := by rw [List.length_map]; exact (List.getElem?_eq_some_iff.mp hj).1
            have := hc j l hjl hj
            rcases q with ⟨q1, q2⟩ | ⟨q1, q2⟩
            · rw [← q2]; exact this.1 q1
            · rw [← q2]; exact this.2 q1
        · show n - ((a + 1 : Nat) : Int).toNat < n - ((a : Nat) : Int).toNat
          omega
    · have hb := of_decide_eq_false hb
      have : a = L.length := by omega
      refine wp_ret rfl ⟨L, rfl, g.comp fun x hx y hy => ?_, hlen⟩
      obtain ⟨i, hi, rfl⟩ := List.getElem_of_mem hx
      exact hd i hi (by omega) y hy

theorem law_joined_ok {E : List Lk} {n u : Nat} (he : Ends E n) (hu : u < n) (hn : n ≤ 1000) (links : D) (hl : seqOf links = some (E.map lk)) : ∃ d, den__law_joined [nat n, links, nat u] = some d ∧ ∃ L, d = nl L ∧ IsComp E u L ∧ L.length ≤ n := by
  refine dfun_wpE rfl ?_
  simp only [List.map_cons, List.map_nil, List.replicate_succ, List.replicate_zero, List.nil_append, List.cons_append, List.append_nil, Nat.reduceSub, Nat.reduceAdd, setsD, zeros, stt, setsO, setsJ, List.foldl_cons, List.foldl_nil, List.set_cons_zero, List.set_cons_succ, demote]
  refine wp_seq (wp_setD (d := nl [u]) (eLst_1 rfl) rfl ?_)
  simp only [List.map_cons, List.map_nil, List.replicate_succ, List.replicate_zero, List.nil_append, List.cons_append, List.append_nil, Nat.reduceSub, Nat.reduceAdd, setsD, zeros, stt, setsO, setsJ, List.foldl_cons, List.foldl_nil, List.set_cons_zero, List.set_cons_succ, demote]
  refine wp_seq ?_
  let C (L : List Nat) : Prop := ∀ l ∈ E, l.1 ∈ L ↔ l.2.1 ∈ L
  refine wp_for (ds := (List.range n).map nat) (P := fun k s => ∃ L x4 x5 x6 x7, s = ([some (nat n), some links, some (nat u), some (nl L), x4, x5, x6, x7], [0, 0, 0, 1, 0, 0, 0, 0]) ∧ Grow E n u L ∧ (C L ∨ k + 1 ≤ L.length)) (range1_nat rfl (by omega))
    ⟨[u], none, none, none, none, rfl, ⟨by simp, by simpa using hu, fun x hx => by simp at hx; subst hx; exact .refl, by simp⟩, .inr (by simp)⟩ ?_ ?_
  · rintro k d _ hdk ⟨L, x4, x5, x6, x7, rfl, g, hc⟩
    rw [List.getElem?_map] at hdk
    obtain ⟨k', hk', rfl⟩ := Option.map_eq_some_iff.mp hdk
    refine ⟨[(4, nat k')], rfl, ?_⟩
    simp only [List.map_cons, List.map_nil, List.replicate_succ, List.replicate_zero, List.nil_append, List.cons_append, List.append_nil, Nat.reduceSub, Nat.reduceAdd, setsD, zeros, stt, setsO, setsJ, List.foldl_cons, List.foldl_nil, List.set_cons_zero, List.set_cons_succ, demote]
    refine wp_for (ds := E.map lk) (P := fun j s => ∃ L' x5 x6 x7, s = ([some (nat n), some links, some (nat u), some (nl L'), some (nat k'), x5, x6, x7], [0, 0, 0, 1, 0, 0, 0, 0]) ∧ Grow E n u L' ∧ ((L' = L ∧ ∀ i l, i < j → E[i]? = some l → (l.1 ∈ L ↔ l.2.1 ∈ L)) ∨ (¬ C L ∧ L.length < L'.length))) (by simp only [iSeq_a, eVar_0, eVar_s, o1_s, hl]) ⟨L, x5, x6, x7, rfl, g, .inl ⟨rfl, fun i l h => absurd h (Nat.not_lt_zero _)⟩⟩ ?_ ?_
    · rintro j d _ hdj ⟨L', y5, y6, y7, rfl, g', hc'⟩
      rw [List.getElem?_map] at hdj
      obtain ⟨l, hlj, rfl⟩ := Option.map_eq_some_iff.mp hdj
      have hmem := List.mem_of_getElem? hlj
      obtain ⟨e1, e2, e3⟩ := he l hmem
      refine ⟨[(5, nat l.1), (6, nat l.2.1), (7, rt l.2.2)], rfl, ?_⟩
      simp only [List.map_cons, List.map_nil, List.replicate_succ, List.replicate_zero, List.nil_append, List.cons_append, List.append_nil, Nat.reduceSub, Nat.reduceAdd, setsD, zeros, stt, setsO, setsJ, List.foldl_cons, List.foldl_nil, List.set_cons_zero, List.set_cons_succ, demote]
      have gl := nodup_lt_len g'.nd g'.lt
      have t1 : tAndD (tCmp dIn (eVar 5) (eVar 3)) (tCmp dNotIn (eVar 6) (eVar 3)) [some (nat n), some links, some (nat u), some (nl L'), some (nat k'), some (nat l.1), some (nat l.2.1), some (rt l.2.2)] = some (L'.contains l.1 && !L'.contains l.2.1) :=
        tAnd_b (by simp only [tCmp_a, eVar_0, eVar_s, o2_ss, nl_in]) (by simp only [tCmp_a, eVar_0, eVar_s, o2_ss, nl_notin])
      have t2 : tAndD (tCmp dIn (eVar 6) (eVar 3)) (tCmp dNotIn (eVar 5) (eVar 3)) [some (nat n), some links, some (nat u), some (nl L'), some (nat k'), some (nat l.1), some (nat l.2.1), some (rt l.2.2)] = some (L'.contains l.2.1 && !L'.contains l.1) :=
        tAnd_b (by simp only [tCmp_a, eVar_0, eVar_s, o2_ss, nl_in]) (by simp only [tCmp_a, eVar_0, eVar_s, o2_ss, nl_notin])
      have grown : ∀ y, y ∉ L' → (l.1 ∈ L' ↔ ¬ l.2.1 ∈ L') → ¬ C L ∧ L.length < (L' ++ [y]).length := fun y hy hx => by
        rcases hc' with ⟨rfl, _⟩ | ⟨h1, h2⟩
        · refine ⟨fun c => ?_, by simp⟩
          have := c l hmem
          by_cases q : l.1 ∈ L'
          · exact (hx.mp q) (this.mp q)
          · exact q (this.mpr (by
              by_cases z : l.2.1 ∈ L'
              · exact z
              · exact absurd (hx.mpr z) q))
        · exact ⟨h1, by simp; omega⟩
      refine wp_if t1 (fun h => ?_) fun h => ?_
      · rw [Bool.and_eq_true] at h
        have h1 : l.1 ∈ L' := by simpa using h.1
        have h2 : l.2.1 ∉ L' := by simpa using h.2
        refine wp_app (d := nat l.2.1) (ds := L'.map nat) rfl rfl rfl (by rw [List.length_map]; omega) rfl ?_
        simp only [List.map_cons, List.map_nil, List.replicate_succ, List.replicate_zero, List.nil_append, List.cons_append, List.append_nil, Nat.reduceSub, Nat.reduceAdd, setsD, zeros, stt, setsO, setsJ, List.foldl_cons, List.foldl_nil, List.set_cons_zero, List.set_cons_succ, demote]
        have eL : L'.map nat ++ [nat l.2.1] = (L' ++ [l.2.1]).map nat := by simp
        rw [eL]
        exact ⟨L' ++ [l.2.1], _, _, _, rfl, g'.snoc h1 ⟨l, hmem, .inl ⟨rfl, rfl⟩⟩ h2 e2, .inr (grown _ h2 ⟨fun _ => h2, fun _ => h1⟩)⟩
      · refine wp_if t2 (fun h' => ?_) fun h' => ?_
        · rw [Bool.and_eq_true] at h'
          have h1 : l.2.1 ∈ L' := by simpa using h'.1
          have h2 : l.1 ∉ L' := by simpa using h'.2
          refine wp_app (d := nat l.1) (ds := L'.map nat) rfl rfl rfl (by rw [List.length_map]; omega) rfl ?_
          simp only [List.map_cons, List.map_nil, List.replicate_succ, List.replicate_zero, List.nil_append, List.cons_append, List.append_nil, Nat.reduceSub, Nat.reduceAdd, setsD, zeros, stt, setsO, setsJ, List.foldl_cons, List.foldl_nil, List.set_cons_zero, List.set_cons_succ, demote]
          have eL : L'.map nat ++ [nat l.1] = (L' ++ [l.1]).map nat := by simp
          rw [eL]
          exact ⟨L' ++ [l.1], _, _, _, rfl, g'.snoc h1 ⟨l, hmem, .inr ⟨rfl, rfl⟩⟩ h2 e1, .inr (grown _ h2 ⟨fun q => absurd q h2, fun q => absurd h1 q⟩)⟩
        · refine wp_nil ⟨L', _, _, _, rfl, g', ?_⟩
          have both : l.1 ∈ L' ↔ l.2.1 ∈ L' := by
            simp only [Bool.and_eq_false_iff, List.contains_eq_mem, decide_eq_false_iff_not, Bool.not_eq_false', decide_eq_true_eq] at h h'
            constructor
            · intro q
              rcases h with z | z
              · exact absurd q z
              · exact z
            · intro q
              rcases h' with z | z
              · exact absurd q z
              · exact z
          rcases hc' with ⟨rfl, h1⟩ | h1
          · refine .inl ⟨rfl, fun i l' hi hl' => ?_⟩
            by_cases hij : i < j
            · exact h1 i l' hij hl'
            · have : i = j := by omega
              subst this
              rw [hlj] at hl'
              cases hl'
              exact both
          · exact .inr h1
    · rintro _ ⟨L', y5, y6, y7, rfl, g', hc'⟩
      refine ⟨L', _, _, _, _, rfl, g', ?_⟩
      rcases hc' with ⟨rfl, h1⟩ | ⟨h1, h2⟩
      · refine .inl fun l hl' => ?_
        obtain ⟨i, hi⟩ := List.getElem?_of_mem hl'
        exact h1 i l (by rw [List.length_map]; exact (List.getElem?_eq_some_iff.mp hi).1) hi
      · rcases hc with c | c
        · exact absurd c h1
        · exact .inr (by omega)
  · rintro _ ⟨L, x4, x5, x6, x7, rfl, g, hc⟩
    have gl := nodup_lt_len g.nd g.lt
    have c : C L := by
      rcases hc with c | c
      · exact c
      · rw [List.length_map, List.length_range] at c
        omega
    refine wp_ret rfl ⟨L, rfl, g.comp fun x hx y ⟨l, hl', q⟩ => ?_, gl⟩
    rcases q with ⟨q1, q2⟩ | ⟨q1, q2⟩
    · rw [← q2]; exact (c l hl').mp (by rw [q1]; exact hx)
    · rw [← q2]; exact (c l hl').mpr (by rw [q1]; exact hx)
end Lib
end

section
set_option Elab.async false
set_option linter.all false
set_option maxRecDepth 10000
/-! k12, part b: sets of links, their chances. -/
namespace Lib
open DS PySem
def den_chosen : Fn := dfun 3 2 (sRet (eLc (iSeq (eVar 1)) (.nm 2) tTrue (eIx (eIx (eVar 0) (eC (.int 1))) (eVar 2)) [2]))
def den_chance_of : Fn := dfun 7 2 (sSeq (sSet 2 0 (eTup (aCons (eC (.int 1)) (aCons (eC (.int 1)) aNil))) ([] ++ ([] ++ [])))
  (sSeq (sFor (iEnumD (eIx (eVar 0) (eC (.int 1)))) [(0, 1)] (.tp [(.nm 3), (.tp [(.nm 4), (.nm 5), (.nm 6)])])
  (sSet 2 0 (eCall 2 den_times (aCons (eVar 2) (aCons (eIfD (tCmp dIn (eVar 3) (eVar 1)) (eVar 6) (eCall 2 den_minus (aCons (eTup (aCons (eC (.int 1)) (aCons (eC (.int 1)) aNil))) (aCons (eVar 6) aNil)))) aNil))) ([(2, 0)] ++ (([(6, 0)] ++ (([] ++ ([] ++ [])) ++ ([(6, 0)] ++ []))) ++ []))))
  (sRet (eVar 2))))
def den_joining_sets : Fn := dfun 4 3 (sRet (eLc (iSeq (eCall 1 den_all_sets (aCons (eCB (d1 dLen) (aCons (eIx (eVar 0) (eC (.int 1))) aNil)) aNil))) (.nm 3) (tCmp dIn (eVar 2) (eCall 3 den_reached (aCons (eIx (eVar 0) (eC (.int 0))) (aCons (eCall 2 den_chosen (aCons (eVar 0) (aCons (eVar 3) aNil))) (aCons (eVar 1) aNil))))) (eVar 3) [3]))
def den_sum_of_chances : Fn := dfun 4 2 (sSeq (sSet 2 0 (eTup (aCons (eC (.int 0)) (aCons (eC (.int 1)) aNil))) ([] ++ ([] ++ [])))
  (sSeq (sFor (iSeq (eVar 1)) [(1, 0)] (.nm 3)
  (sSet 2 0 (eCall 2 den_plus (aCons (eVar 2) (aCons (eCall 2 den_chance_of (aCons (eVar 0) (aCons (eVar 3) aNil))) aNil))) ([(2, 0)] ++ (([(0, 0)] ++ ([(3, 0)] ++ [])) ++ []))))
  (sRet (eVar 2))))
def den_chance_joined : Fn := dfun 3 3 (sRet (eCall 2 den_sum_of_chances (aCons (eVar 0) (aCons (eCall 3 den_joining_sets (aCons (eVar 0) (aCons (eVar 1) (aCons (eVar 2) aNil)))) aNil))))
def den_chance_whole : Fn := dfun 3 1 (sSeq (sSet 1 0 (eLc (iSeq (eCall 1 den_all_sets (aCons (eCB (d1 dLen) (aCons (eIx (eVar 0) (eC (.int 1))) aNil)) aNil))) (.nm 2) (tCmp dEq (eCB (d1 dLen) (aCons (eCall 3 den_reached (aCons (eIx (eVar 0) (eC (.int 0))) (aCons (eCall 2 den_chosen (aCons (eVar 0) (aCons (eVar 2) aNil))) (aCons (eC (.int 0)) aNil)))) aNil)) (eIx (eVar 0) (eC (.int 0)))) (eVar 2) [2]) (([] ++ []) ++ [(2, 0)]))
  (sRet (eCall 2 den_sum_of_chances (aCons (eVar 0) (aCons (eVar 1) aNil)))))
def den_with_weight : Fn := dfun 8 3 (sSeq (sTup (.tp [(.nm 3), (.nm 4)]) (eVar 0) [(0, 0)])
  (sSeq (sTup (.tp [(.nm 5), (.nm 6), (.nm 7)]) (eIx (eVar 4) (eVar 1)) [(4, 1)])
  (sRet (eTup (aCons (eVar 3) (aCons (eOp dAdd (eOp dAdd (eSl (eVar 4) oNone (oSome (eVar 1))) (eTup (aCons (eTup (aCons (eVar 5) (aCons (eVar 6) (aCons (eVar 2) aNil)))) aNil))) (eSl (eVar 4) (oSome (eOp dAdd (eVar 1) (eC (.int 1)))) oNone)) aNil))))))
def den_weight_of_link : Fn := dfun 4 4 (sRet (eCall 2 den_minus (aCons (eCall 3 den_chance_joined (aCons (eCall 3 den_with_weight (aCons (eVar 0) (aCons (eVar 3) (aCons (eTup (aCons (eC (.int 1)) (aCons (eC (.int 1)) aNil))) aNil)))) (aCons (eVar 1) (aCons (eVar 2) aNil)))) (aCons (eCall 3 den_chance_joined (aCons (eCall 3 den_with_weight (aCons (eVar 0) (aCons (eVar 3) (aCons (eTup (aCons (eC (.int 0)) (aCons (eC (.int 1)) aNil))) aNil)))) (aCons (eVar 1) (aCons (eVar 2) aNil)))) aNil))))
def den_hold_poly : Fn := dfun 6 3 (sSeq (sSet 3 0 (eLc (iSeq (eCall 3 den_joining_sets (aCons (eVar 0) (aCons (eVar 1) (aCons (eVar 2) aNil))))) (.nm 4) tTrue (eCB (d1 dLen) (aCons (eVar 4) aNil)) [4]) (([(0, 0)] ++ ([(1, 0)] ++ ([(2, 0)] ++ []))) ++ []))
  (sRet (eCB (d1 dTuple) (aCons (eLc (iRange1 (eOp dAdd (eCB (d1 dLen) (aCons (eIx (eVar 0) (eC (.int 1))) aNil)) (eC (.int 1)))) (.nm 5) tTrue (eOp dCount (eVar 3) (eVar 5)) [5]) aNil))))
def den_without_greater : Fn := dfun 4 1 (sRet (eCB (d1 dTuple) (aCons (eCB (d1 dSorted) (aCons (eLc (iSeq (eVar 0)) (.nm 1) (tNotD (tTru (eCB (d1 dAny) (aCons (eLc (iSeq (eVar 0)) (.nm 2) tTrue (eAndD (eB (tCmp dNe (eVar 2) (eVar 1))) (eCB (d1 dAll) (aCons (eLc (iSeq (eVar 2)) (.nm 3) tTrue (eB (tCmp dIn (eVar 3) (eVar 1))) [3]) aNil))) [2]) aNil)))) (eVar 1) [1]) aNil)) aNil)))
def den_least_ways : Fn := dfun 3 3 (sRet (eCall 1 den_without_greater (aCons (eCall 3 den_joining_sets (aCons (eVar 0) (aCons (eVar 1) (aCons (eVar 2) aNil)))) aNil)))
def den_least_blocks : Fn := dfun 8 3 (sSeq (sSet 3 0 (eCall 3 den_joining_sets (aCons (eVar 0) (aCons (eVar 1) (aCons (eVar 2) aNil)))) ([(0, 0)] ++ ([(1, 0)] ++ ([(2, 0)] ++ []))))
  (sSeq (sSet 4 0 (eLc (iSeq (eSortK den_size_key (eCall 1 den_all_sets (aCons (eCB (d1 dLen) (aCons (eIx (eVar 0) (eC (.int 1))) aNil)) aNil)))) (.nm 5) (tNotD (tTru (eCB (d1 dAny) (aCons (eLc (iSeq (eVar 3)) (.nm 6) tTrue (eB (tNotD (tTru (eCB (d1 dAny) (aCons (eLc (iSeq (eVar 6)) (.nm 7) tTrue (eB (tCmp dIn (eVar 7) (eVar 5))) [7]) aNil))))) [6]) aNil)))) (eVar 5) [5]) (([] ++ []) ++ [(5, 0)]))
  (sRet (eCall 1 den_without_greater (aCons (eVar 4) aNil)))))
def den_cover_product : Fn := dfun 12 3 (sSeq (sTup (.tp [(.tp [(.nm 3), (.nm 4)]), (.nm 5)]) (eVar 2) [(2, 0)])
  (sSeq (sTup (.tp [(.nm 6), (.nm 7)]) (eTup (aCons (eC (.int 1)) (aCons (eC (.int 1)) aNil))) ([] ++ ([] ++ [])))
  (sSeq (sFor (iSeq (eVar 0)) [(0, 0)] (.tp [(.nm 8), (.nm 9)])
  (sSeq (sSet 10 0 (eCall 2 den_lowest (aCons (eOp dSub (eOp dMul (eOp dSub (eVar 1) (eVar 5)) (eVar 4)) (eOp dMul (eVar 8) (eOp dSub (eVar 4) (eVar 3)))) (aCons (eVar 4) aNil))) (((([(1, 1)] ++ [(5, 1)]) ++ [(4, 1)]) ++ ([(8, 1)] ++ ([(4, 1)] ++ [(3, 1)]))) ++ ([(4, 0)] ++ [])))
  (sFor (iRange1 (eVar 9)) [] (.nm 11)
  (sPar 6 7 (eOp dMul (eVar 6) (eIx (eVar 10) (eC (.int 0)))) (eOp dMul (eVar 7) (eIx (eVar 10) (eC (.int 1)))) (([(6, 1)] ++ [(10, 2)]) ++ ([(7, 1)] ++ [(10, 2)]))))))
  (sRet (eTup (aCons (eVar 6) (aCons (eVar 7) aNil)))))))
def den_best_insure : Fn := dfun 7 3 (sSeq (sSet 3 0 (eTup (aCons (eCall 3 den_cover_product (aCons (eVar 0) (aCons (eVar 1) (aCons (eTup (aCons (eTup (aCons (eC (.int 0)) (aCons (eC (.int 1)) aNil))) (aCons (eC (.int 0)) aNil))) aNil)))) (aCons (eUn dNeg (eC (.int 1))) aNil))) (([(0, 0)] ++ ([(1, 0)] ++ ((([] ++ ([] ++ [])) ++ ([] ++ [])) ++ []))) ++ ([] ++ [])))
  (sSeq (sFor (iEnumD (eVar 2)) [(2, 0)] (.tp [(.nm 4), (.nm 5)])
  (sSeq (sSet 6 0 (eCall 3 den_cover_product (aCons (eVar 0) (aCons (eVar 1) (aCons (eVar 5) aNil)))) ([(0, 0)] ++ ([(1, 0)] ++ ([(5, 0)] ++ []))))
  (sIf (tCmp dGt (eOp dMul (eIx (eVar 6) (eC (.int 0))) (eIx (eIx (eVar 3) (eC (.int 0))) (eC (.int 1)))) (eOp dMul (eIx (eIx (eVar 3) (eC (.int 0))) (eC (.int 0))) (eIx (eVar 6) (eC (.int 1)))))
  (sSet 3 0 (eTup (aCons (eVar 6) (aCons (eVar 4) aNil))) ([(6, 0)] ++ ([(4, 0)] ++ [])))
  sNil)))
  (sRet (eIx (eVar 3) (eC (.int 1))))))
def den_bold_share : Fn := dfun 1 1 (sRet (eCall 2 den_lowest (aCons (eOp dSub (eOp dMul (eC (.int 2)) (eIx (eVar 0) (eC (.int 0)))) (eIx (eVar 0) (eC (.int 1)))) (aCons (eIx (eVar 0) (eC (.int 1))) aNil))))
def den__law_insure : Fn := dfun 13 1 (sSeq (sSet 1 0 (eCB (d1 dTuple) (aCons (eLc (iRange1 (eOp dAdd (eC (.int 1)) (eOp dMod (eCB (d1 dInt) (aCons (eIx (eVar 0) (eC (.int 29))) aNil)) (eC (.int 3))))) (.nm 12) tTrue (eTup (aCons (eOp dMod (eCB (d1 dInt) (aCons (eIx (eVar 0) (eOp dAdd (eC (.int 30)) (eVar 12))) aNil)) (eC (.int 20))) (aCons (eOp dAdd (eC (.int 1)) (eOp dMod (eOp dFdiv (eCB (d1 dInt) (aCons (eIx (eVar 0) (eOp dAdd (eC (.int 30)) (eVar 12))) aNil)) (eC (.int 20))) (eC (.int 3)))) aNil))) [12]) aNil)) (([] ++ (([] ++ []) ++ (([] ++ (([] ++ []) ++ [])) ++ []))) ++ []))
  (sSeq (sSet 2 0 (eOp dAdd (eC (.int 41)) (eOp dMod (eCB (d1 dInt) (aCons (eIx (eVar 0) (eC (.int 33))) aNil)) (eC (.int 20)))) ([] ++ ([] ++ [])))
  (sSeq (sSet 3 0 (eCB (d1 dTuple) (aCons (eLc (iRange1 (eOp dMod (eCB (d1 dInt) (aCons (eIx (eVar 0) (eC (.int 34))) aNil)) (eC (.int 4)))) (.nm 12) tTrue (eTup (aCons (eCall 2 den__law_ratio (aCons (eOp dMod (eCB (d1 dInt) (aCons (eIx (eVar 0) (eOp dAdd (eC (.int 35)) (eVar 12))) aNil)) (eC (.int 4))) (aCons (eC (.int 3)) aNil))) (aCons (eOp dMod (eOp dFdiv (eCB (d1 dInt) (aCons (eIx (eVar 0) (eOp dAdd (eC (.int 35)) (eVar 12))) aNil)) (eC (.int 4))) (eC (.int 20))) aNil))) [12]) aNil)) (([] ++ ((([] ++ []) ++ ([] ++ [])) ++ ((([] ++ []) ++ []) ++ []))) ++ []))
  (sSeq (sSet 4 1 (eLst aNil) [])
  (sSeq (sFor (iSeq (eOp dAdd (eTup (aCons (eTup (aCons (eTup (aCons (eC (.int 0)) (aCons (eC (.int 1)) aNil))) (aCons (eC (.int 0)) aNil))) aNil)) (eVar 3))) (((([] ++ ([] ++ [])) ++ ([] ++ [])) ++ []) ++ [(3, 1)]) (.tp [(.tp [(.nm 5), (.nm 6)]), (.nm 7)])
  (sSeq (sSet 8 0 (eC (.int 1)) [])
  (sSeq (sFor (iSeq (eVar 1)) [(1, 0)] (.tp [(.nm 9), (.nm 10)])
  (sFor (iRange1 (eVar 10)) [] (.nm 11)
  (sSet 8 0 (eOp dMul (eVar 8) (eOp dSub (eOp dMul (eOp dSub (eVar 2) (eVar 7)) (eC (.int 3))) (eOp dFdiv (eOp dMul (eOp dMul (eVar 9) (eC (.int 3))) (eOp dSub (eVar 6) (eVar 5))) (eVar 6)))) ([(8, 1)] ++ ((([(2, 1)] ++ [(7, 1)]) ++ []) ++ ((([(9, 1)] ++ []) ++ ([(6, 1)] ++ [(5, 1)])) ++ [(6, 1)]))))))
  (sApp 4 (eVar 8) [(8, 0)]))))
  (sRet (eCall 2 (den__law_like 30) (aCons (eCall 3 den_best_insure (aCons (eVar 1) (aCons (eVar 2) (aCons (eVar 3) aNil)))) (aCons (eOp dSub (eOp dIndex (eVar 4) (eCB (d1 dMax1) (aCons (eVar 4) aNil))) (eC (.int 1))) aNil)))))))))
def net (n : Nat) (E : List Lk) : D := .tuple [nat n, .tuple (E.map lk)]
theorem net_0 (n : Nat) (E : List Lk) : dIx (net n E) (.int 0) = some (nat n) := atI_0
theorem net_1 (n : Nat) (E : List Lk) : dIx (net n E) (.int 1) = some (.tuple (E.map lk)) := atI_1
theorem lk_flat (l : Lk) : flat (lk l) = true := rfl
theorem lks_flat : ∀ E : List Lk, flats (E.map lk) = true
  | [] => rfl
  | l :: E => by rw [List.map_cons]; unfold flats; rw [lk_flat, lks_flat E]; rfl
theorem net_flat (n : Nat) (E : List Lk) : flat (net n E) = true := by
  unfold net
  simp only [flat, flats, nat, lks_flat]
  rfl
def Lk0 : Lk := (0, 0, 0)
def pick (E : List Lk) (s : List Nat) : List Lk := s.map fun k => E.getD k Lk0
def WE (E : List Lk) : Prop := ∀ l ∈ E, Sm 3 l.2.2 ∧ Sm 3 (1 - l.2.2)
theorem Ends.pick {E : List Lk} {n : Nat} (h : Ends E n) {s : List Nat} (hs : ∀ k ∈ s, k < E.length) : Ends (pick E s) n := fun l hl => by
  obtain ⟨k, hk, rfl⟩ := List.mem_map.mp hl
  have hk' := hs k hk
  rw [List.getD_eq_getElem?_getD, List.getElem?_eq_getElem hk']
  exact h _ (List.getElem_mem hk')
theorem chosen_ok {n : Nat} {E : List Lk} {s : List Nat} (hs : ∀ k ∈ s, k < E.length) (hl : s.length ≤ 1000) : den_chosen [net n E, nt s] = some (.list ((pick E s).map lk)) := by
  refine dfun_wp rfl ?_
  simp only [List.map_cons, List.map_nil, List.replicate_succ, List.replicate_zero, List.nil_append, List.cons_append, List.append_nil, Nat.reduceSub, Nat.reduceAdd, setsD, zeros, stt, setsO, setsJ, List.foldl_cons, List.foldl_nil, List.set_cons_zero, List.set_cons_succ, demote]
  have e : (pick E s).map lk = s.map fun k => lk (E.getD k Lk0) := by unfold pick; rw [List.map_map]; rfl
  rw [e]
  refine wp_ret (eLc_of nat (fun k => lk (E.getD k Lk0)) (l := s) (by (first | rfl | (simp only [eOp_a, eUn_a, eCB_a, aCons_a, aNil_a, eIx_a, eC_a, eVar_0, eVar_s, o2_ss, o1_s, d1_1, d2_2, eB_a, tCmp_a, tTru_a, tNotD_a, tIsND_a, tNotND_a, eIsN_a, eNotN_a, tTrue_a, iSeq_a, seqOf_l, seqOf_t, dAdd_i, dAddI_i, dSub_i, dNeg_i, dLt_i, dLe_i, dGt_i, dGe_i, dEq_i, dNe_i, dTru_b, dTru_i, dTru_l, dTru_t, dTru_n, isNon_n, isNon_b, isNon_i, isNon_s, isNon_l, isNon_t, dLen_l, dLen_t, dInt_i, dInt_b, dTuple_l, dTuple_t, dList_l, dList_t, eCall_1, eCall_2, eCall_3, eCall_4, eCall_5, eCall_6, eCall_7, nt_seq] <;> rfl))) (by omega) fun k hk => ⟨[(2, nat k)], rfl, ?_⟩) rfl
  have hk' := hs k hk
  have : dIx (.tuple (E.map lk)) (.int (k : Int)) = some (lk (E.getD k Lk0)) := by
    show L2.atI (E.map lk) (k : Int) = _
    rw [atI_mp hk', List.getD_eq_getElem?_getD, List.getElem?_eq_getElem hk']
    rfl
  simp only [setsD, wipeD, List.foldl_cons, List.foldl_nil, List.set_cons_zero, List.set_cons_succ, eIx_a, eVar_0, eVar_s, eC_a, o2_ss, net_1]
  exact this
/-- the chance of just the links of s, of the first k -/
def chn (E : List Lk) (s : List Nat) : Nat → Rat
  | 0 => 1
  | k + 1 => chn E s k * (if k ∈ s then (E.getD k Lk0).2.2 else 1 - (E.getD k Lk0).2.2)
theorem WE.at {E : List Lk} (h : WE E) {k : Nat} (hk : k < E.length) : Sm 3 (E.getD k Lk0).2.2 ∧ Sm 3 (1 - (E.getD k Lk0).2.2) := by
  rw [List.getD_eq_getElem?_getD, List.getElem?_eq_getElem hk]
  exact h _ (List.getElem_mem hk)
theorem chn_sm {E : List Lk} (h : WE E) (s : List Nat) : ∀ {k : Nat}, k ≤ E.length → k ≤ 100 → Sm (3 * k + 1) (chn E s k)
  | 0, _, _ => Sm.one (by omega)
  | k + 1, hk, h1 => by
    have ih := chn_sm h s (k := k) (by omega) (by omega)
    obtain ⟨a, b⟩ := h.at (k := k) (by omega)
    have e : 3 * (k + 1) + 1 = 3 * k + 1 + 3 := by omega
    rw [e, chn]
    split
    · exact ih.mul a (by omega) (by omega) (by omega)
    · exact ih.mul b (by omega) (by omega) (by omega)
theorem enum_lk {E : List Lk} (l : List Lk) : enumD (l.map lk) = (List.range l.length).map fun k => .tuple [nat k, lk (l.getD k Lk0)] := enum_map lk l Lk0
theorem chance_ok {n : Nat} {E : List Lk} {s : List Nat} (h : WE E) (hm : E.length ≤ 20) : den_chance_of [net n E, nt s] = some (rt (chn E s E.length)) := by
  refine dfun_wp rfl ?_
  simp only [List.map_cons, List.map_nil, List.replicate_succ, List.replicate_zero, List.nil_append, List.cons_append, List.append_nil, Nat.reduceSub, Nat.reduceAdd, setsD, zeros, stt, setsO, setsJ, List.foldl_cons, List.foldl_nil, List.set_cons_zero, List.set_cons_succ, demote]
  refine wp_seq (wp_set (d := rt 1) (eTup_2 rfl rfl) rfl ?_)
  simp only [List.map_cons, List.map_nil, List.replicate_succ, List.replicate_zero, List.nil_append, List.cons_append, List.append_nil, Nat.reduceSub, Nat.reduceAdd, setsD, zeros, stt, setsO, setsJ, List.foldl_cons, List.foldl_nil, List.set_cons_zero, List.set_cons_succ, demote]
  refine wp_seq ?_
  refine wp_forV (ds := (List.range E.length).map fun k => .tuple [nat k, lk (E.getD k Lk0)]) [3, 4, 5, 6] (fun k => [(2, rt (chn E s k))]) ?_ (fun p hp => ?_) (fun k d xs hd => ?_) fun xs => ?_
  · unfold iEnumD
    simp only [eIx_a, eVar_0, eVar_s, eC_a, o2_ss, net_1, o1_s, seqOf_t]
    rw [enum_map lk E Lk0]
  · simp only [List.mem_singleton] at hp
    subst hp
    rfl
  · rw [List.getElem?_map] at hd
    obtain ⟨k', hk, rfl⟩ := Option.map_eq_some_iff.mp hd
    obtain ⟨hlt, e⟩ := List.getElem?_eq_some_iff.mp hk
    rw [List.getElem_range] at e
    subst e
    have hk : k < E.length := by simpa using hlt
    refine ⟨[(3, nat k), (4, nat (E.getD k Lk0).1), (5, nat (E.getD k Lk0).2.1), (6, rt (E.getD k Lk0).2.2)], rfl, ?_⟩
    obtain ⟨a, b⟩ := h.at hk
    have c := chn_sm h s (k := k) (by omega) (by omega)
    simp only [List.map_cons, List.map_nil, List.replicate_succ, List.replicate_zero, List.nil_append, List.cons_append, List.append_nil, Nat.reduceSub, Nat.reduceAdd, setsD, zeros, stt, setsO, setsJ, List.foldl_cons, List.foldl_nil, List.set_cons_zero, List.set_cons_succ, demote]
    have mi := (minus_ok (p := 1) (q := (E.getD k Lk0).2.2) (m := 3) (n := 3) (Sm.one (by omega)) a (by omega) (by omega) (by omega)).1
    have t1 : ∀ ρ : PEnv, eTup (aCons (eC (.int 1)) (aCons (eC (.int 1)) aNil)) ρ = some (rt 1) := fun ρ => eTup_2 rfl rfl
    have hin : tCmp dIn (eVar 3) (eVar 1) [some (net n E), some (nt s), some (rt (chn E s k)), some (nat k), some (nat (E.getD k Lk0).1), some (nat (E.getD k Lk0).2.1), some (rt (E.getD k Lk0).2.2)] = some (s.contains k) := by
      simp only [tCmp_a, eVar_0, eVar_s, o2_ss, nt_in]
    by_cases hc : k ∈ s
    · have ti := (times_ok c a (by omega) (by omega) (by omega)).1
      refine wp_set (d := rt (chn E s k * (E.getD k Lk0).2.2)) ?_ rfl ?_
      · rw [eCall_2]
        unfold eIfD
        rw [hin, show s.contains k = true by simpa using hc]
        simp only [eVar_0, eVar_s, o1_s]
        exact ti
      · simp only [List.map_cons, List.map_nil, List.replicate_succ, List.replicate_zero, List.nil_append, List.cons_append, List.append_nil, Nat.reduceSub, Nat.reduceAdd, setsD, zeros, stt, setsO, setsJ, List.foldl_cons, List.foldl_nil, List.set_cons_zero, List.set_cons_succ, demote]
        rw [show chn E s (k + 1) = chn E s k * (E.getD k Lk0).2.2 by rw [chn, if_pos hc]]
        exact cl rfl
    · have ti := (times_ok c b (by omega) (by omega) (by omega)).1
      refine wp_set (d := rt (chn E s k * (1 - (E.getD k Lk0).2.2))) ?_ rfl ?_
      · rw [eCall_2]
        unfold eIfD
        rw [hin, show s.contains k = false by simpa using hc]
        simp only [eVar_0, eVar_s, o1_s, eCall_2, t1, mi]
        exact ti
      · simp only [List.map_cons, List.map_nil, List.replicate_succ, List.replicate_zero, List.nil_append, List.cons_append, List.append_nil, Nat.reduceSub, Nat.reduceAdd, setsD, zeros, stt, setsO, setsJ, List.foldl_cons, List.foldl_nil, List.set_cons_zero, List.set_cons_succ, demote]
        rw [show chn E s (k + 1) = chn E s k * (1 - (E.getD k Lk0).2.2) by rw [chn, if_neg hc]]
        exact cl rfl
  · simp only [List.map_cons, List.map_nil, List.replicate_succ, List.replicate_zero, List.nil_append, List.cons_append, List.append_nil, Nat.reduceSub, Nat.reduceAdd, setsD, zeros, stt, setsO, setsJ, List.foldl_cons, List.foldl_nil, List.set_cons_zero, List.set_cons_succ, demote]
    refine wp_ret rfl ?_
    simp

/-! joining sets -/
open Classical in
noncomputable def jn (E : List Lk) (u v : Nat) (s : List Nat) : Bool := decide (Conn (pick E s) u v)
open Classical in
noncomputable def wh (E : List Lk) (n : Nat) (s : List Nat) : Bool := decide (∀ w, w < n → Conn (pick E s) 0 w)
theorem asc_lt {m : Nat} {s : List Nat} (h : s ∈ aset m) : (∀ k ∈ s, k < m) ∧ s.length ≤ m := by
  have := mem_aset.mp h
  refine ⟨fun k hk => (this.mem k hk).2, ?_⟩
  have q := asc_len (i := 0) (k := m) (by rw [Nat.zero_add]; exact this)
  exact q
theorem conn_lt {E : List Lk} {n u w : Nat} (he : Ends E n) (hu : u < n) (h : Conn E u w) : w < n := by
  induction h with
  | refl => exact hu
  | step _ a ih =>
    obtain ⟨l, hl, q⟩ := a
    obtain ⟨e1, e2, _⟩ := he l hl
    rcases q with ⟨_, q⟩ | ⟨_, q⟩ <;> omega
theorem comp_has {E : List Lk} {u v : Nat} {L : List Nat} (h : IsComp E u L) [Decidable (Conn E u v)] : L.contains v = decide (Conn E u v) := by
  rw [Bool.eq_iff_iff]
  simp only [List.contains_eq_mem, decide_eq_true_eq]
  exact h.mem v
theorem comp_all {E : List Lk} {n u : Nat} {L : List Nat} (he : Ends E n) (hu : u < n) (h : IsComp E u L) : L.length = n ↔ ∀ w, w < n → Conn E u w := by
  have lt : ∀ x ∈ L, x < n := fun x hx => conn_lt he hu ((h.mem x).mp hx)
  constructor
  · intro e w hw
    refine (h.mem w).mp ?_
    by_cases hin : w ∈ L
    · exact hin
    · have : (w :: L).Nodup := List.nodup_cons.mpr ⟨hin, h.nd⟩
      have := nodup_lt_len this fun x hx => by
        rcases List.mem_cons.mp hx with rfl | hx
        · exact hw
        · exact lt x hx
      simp at this
      omega
  · intro c
    have a := nodup_lt_len h.nd lt
    have b := (List.nodup_range (n := n)).length_le_of_subset (l₂ := L) fun x hx => (h.mem x).mpr (c x (List.mem_range.mp hx))
    rw [List.length_range] at b
    omega
section
variable {n : Nat} {E : List Lk} (he : Ends E n) (hn : n ≤ 1000) (hm : E.length ≤ 10)
include he hn hm
theorem reached_pick {u : Nat} (hu : u < n) {s : List Nat} (hs : s ∈ aset E.length) : ∃ L, den_reached [nat n, .list ((pick E s).map lk), nat u] = some (nl L) ∧ IsComp (pick E s) u L := by
  obtain ⟨a, b⟩ := asc_lt hs
  obtain ⟨d, h1, L, rfl, h2, _⟩ := reached_ok (he.pick a) hu hn (.list ((pick E s).map lk)) rfl
  exact ⟨L, h1, h2⟩
theorem joining_ok {u v : Nat} (hu : u < n) : den_joining_sets [net n E, nat u, nat v] = some (rl ((aset E.length).filter (jn E u v))) := by
  have h10 : 2 ^ E.length ≤ 2 ^ 10 := Nat.pow_le_pow_right (by omega) hm
  have al := aset_len E.length
  refine dfun_wp rfl ?_
  simp only [List.map_cons, List.map_nil, List.replicate_succ, List.replicate_zero, List.nil_append, List.cons_append, List.append_nil, Nat.reduceSub, Nat.reduceAdd, setsD, zeros, stt, setsO, setsJ, List.foldl_cons, List.foldl_nil, List.set_cons_zero, List.set_cons_succ, demote]
  refine wp_ret ?_ rfl
  refine eLc_if nt nt (jn E u v) (l := aset E.length) ?_ (by omega) fun s hs => ⟨[(3, nt s)], rfl, ?_, fun _ => rfl⟩
  · simp only [iSeq_a, eCall_1, eCB_a, aCons_a, aNil_a, eIx_a, eVar_0, eC_a, o2_ss, o1_s, net_1, d1_1, dLen_t, List.length_map]
    rw [all_sets_ok (by omega)]
    rfl
  · obtain ⟨a, b⟩ := asc_lt hs
    obtain ⟨L, h1, h2⟩ := reached_pick he hn hm hu hs
    have ch := chosen_ok (n := n) a (by omega)
    simp only [setsD, wipeD, List.foldl_cons, List.foldl_nil, List.set_cons_zero, List.set_cons_succ, tCmp_a, eCall_3, eCall_2, eIx_a, eVar_0, eVar_s, eC_a, o2_ss, o1_s, net_0, ch, h1, nl_in]
    unfold jn
    rw [@comp_has _ _ v _ h2 (Classical.propDecidable _)]
theorem whole_sets {x : D} : eLc (iSeq (eCall 1 den_all_sets (aCons (eCB (d1 dLen) (aCons (eIx (eVar 0) (eC (.int 1))) aNil)) aNil))) (.nm 2) (tCmp dEq (eCB (d1 dLen) (aCons (eCall 3 den_reached (aCons (eIx (eVar 0) (eC (.int 0))) (aCons (eCall 2 den_chosen (aCons (eVar 0) (aCons (eVar 2) aNil))) (aCons (eC (.int 0)) aNil)))) aNil)) (eIx (eVar 0) (eC (.int 0)))) (eVar 2) [2] [some (net n E), none, none] = some (rl ((aset E.length).filter (wh E n))) ∨ n = 0 := by
  by_cases h0 : n = 0
  · exact .inr h0
  refine .inl ?_
  have h10 : 2 ^ E.length ≤ 2 ^ 10 := Nat.pow_le_pow_right (by omega) hm
  have al := aset_len E.length
  refine eLc_if nt nt (wh E n) (l := aset E.length) ?_ (by omega) fun s hs => ⟨[(2, nt s)], rfl, ?_, fun _ => rfl⟩
  · simp only [iSeq_a, eCall_1, eCB_a, aCons_a, aNil_a, eIx_a, eVar_0, eC_a, o2_ss, o1_s, net_1, d1_1, dLen_t, List.length_map]
    rw [all_sets_ok (by omega)]
    rfl
  · obtain ⟨a, b⟩ := asc_lt hs
    obtain ⟨L, h1, h2⟩ := reached_pick he hn hm (u := 0) (by omega) hs
    have ch := chosen_ok (n := n) a (by omega)
    have h1' : den_reached [nat n, .list ((pick E s).map lk), .int 0] = some (nl L) := h1
    simp only [setsD, wipeD, List.foldl_cons, List.foldl_nil, List.set_cons_zero, List.set_cons_succ, tCmp_a, eCB_a, aCons_a, aNil_a, eCall_3, eCall_2, eIx_a, eVar_0, eVar_s, eC_a, o2_ss, o1_s, d1_1, net_0, ch, h1', nl_len]
    unfold wh
    show dEq (.int (L.length : Int)) (.int (n : Int)) = _
    rw [dEq_i]
    congr 1
    exact decide_eq_decide.mpr ⟨fun h => (comp_all (he.pick a) (by omega) h2).mp (by omega), fun h => by have := (comp_all (he.pick a) (by omega) h2).mpr h; omega⟩
end
/-- the sum of the chances of the sets of l -/
def sumc (E : List Lk) (l : List (List Nat)) : Rat := l.foldl (fun q s => q + chn E s E.length) 0
theorem sumc_take (E : List Lk) {l : List (List Nat)} {k : Nat} {s : List Nat} (h : l[k]? = some s) : sumc E (l.take (k + 1)) = sumc E (l.take k) + chn E s E.length := by
  unfold sumc
  rw [List.take_add_one, h, List.foldl_append]
  rfl
theorem sumc_sm {E : List Lk} (h : WE E) (hm : E.length ≤ 10) (l : List (List Nat)) : ∀ {k : Nat}, k ≤ 100 → Sm (40 * k + 1) (sumc E (l.take k))
  | 0, _ => Sm.zero (by omega)
  | k + 1, hk => by
    have ih := sumc_sm h hm l (k := k) (by omega)
    by_cases hl : k < l.length
    · have hs : l[k]? = some l[k] := List.getElem?_eq_getElem hl
      rw [sumc_take E hs]
      have c := chn_sm h l[k] (k := E.length) (Nat.le_refl _) (by omega)
      exact (ih.add (c.mono (show 3 * E.length + 1 ≤ 31 by omega)) (by omega) (by omega) (by omega)).mono (by omega)
    · have e1 : l.take (k + 1) = l := List.take_of_length_le (by omega)
      have e2 : l.take k = l := List.take_of_length_le (by omega)
      rw [e1, ← e2]
      exact ih.mono (by omega)
theorem sum_ok {n : Nat} {E : List Lk} (h : WE E) (hm : E.length ≤ 10) {l : List (List Nat)} (hl : l.length ≤ 100) : den_sum_of_chances [net n E, rl l] = some (rt (sumc E l)) := by
  refine dfun_wp rfl ?_
  simp only [List.map_cons, List.map_nil, List.replicate_succ, List.replicate_zero, List.nil_append, List.cons_append, List.append_nil, Nat.reduceSub, Nat.reduceAdd, setsD, zeros, stt, setsO, setsJ, List.foldl_cons, List.foldl_nil, List.set_cons_zero, List.set_cons_succ, demote]
  refine wp_seq (wp_set (d := rt 0) (eTup_2 rfl rfl) rfl ?_)
  simp only [List.map_cons, List.map_nil, List.replicate_succ, List.replicate_zero, List.nil_append, List.cons_append, List.append_nil, Nat.reduceSub, Nat.reduceAdd, setsD, zeros, stt, setsO, setsJ, List.foldl_cons, List.foldl_nil, List.set_cons_zero, List.set_cons_succ, demote]
  refine wp_seq ?_
  refine wp_forL (l := l) (h := nt) [3] (fun k => [(2, rt (sumc E (l.take k)))]) (by (first | rfl | (simp only [eOp_a, eUn_a, eCB_a, aCons_a, aNil_a, eIx_a, eC_a, eVar_0, eVar_s, o2_ss, o1_s, d1_1, d2_2, eB_a, tCmp_a, tTru_a, tNotD_a, tIsND_a, tNotND_a, eIsN_a, eNotN_a, tTrue_a, iSeq_a, seqOf_l, seqOf_t, dAdd_i, dAddI_i, dSub_i, dNeg_i, dLt_i, dLe_i, dGt_i, dGe_i, dEq_i, dNe_i, dTru_b, dTru_i, dTru_l, dTru_t, dTru_n, isNon_n, isNon_b, isNon_i, isNon_s, isNon_l, isNon_t, dLen_l, dLen_t, dInt_i, dInt_b, dTuple_l, dTuple_t, dList_l, dList_t, eCall_1, eCall_2, eCall_3, eCall_4, eCall_5, eCall_6, eCall_7] <;> rfl))) (fun p hp => ?_) (fun k s xs hs => ?_) fun xs => ?_
  · simp only [List.mem_singleton] at hp
    subst hp
    rfl
  · refine ⟨[(3, nt s)], rfl, ?_⟩
    simp only [List.map_cons, List.map_nil, List.replicate_succ, List.replicate_zero, List.nil_append, List.cons_append, List.append_nil, Nat.reduceSub, Nat.reduceAdd, setsD, zeros, stt, setsO, setsJ, List.foldl_cons, List.foldl_nil, List.set_cons_zero, List.set_cons_succ, demote]
    have hk : k < l.length := (List.getElem?_eq_some_iff.mp hs).1
    have c := chn_sm h s (k := E.length) (Nat.le_refl _) (by omega)
    have ch := chance_ok (n := n) (s := s) h (by omega)
    have p := (plus_ok (sumc_sm h hm l (k := k) (by omega)) c (by omega) (by omega) (by omega)).1
    refine wp_set (d := rt (sumc E (l.take (k + 1)))) ?_ rfl ?_
    · rw [sumc_take E hs]
      (first | rfl | (simp only [eOp_a, eUn_a, eCB_a, aCons_a, aNil_a, eIx_a, eC_a, eVar_0, eVar_s, o2_ss, o1_s, d1_1, d2_2, eB_a, tCmp_a, tTru_a, tNotD_a, tIsND_a, tNotND_a, eIsN_a, eNotN_a, tTrue_a, iSeq_a, seqOf_l, seqOf_t, dAdd_i, dAddI_i, dSub_i, dNeg_i, dLt_i, dLe_i, dGt_i, dGe_i, dEq_i, dNe_i, dTru_b, dTru_i, dTru_l, dTru_t, dTru_n, isNon_n, isNon_b, isNon_i, isNon_s, isNon_l, isNon_t, dLen_l, dLen_t, dInt_i, dInt_b, dTuple_l, dTuple_t, dList_l, dList_t, eCall_1, eCall_2, eCall_3, eCall_4, eCall_5, eCall_6, eCall_7, ch, p] <;> rfl))
    · simp only [List.map_cons, List.map_nil, List.replicate_succ, List.replicate_zero, List.nil_append, List.cons_append, List.append_nil, Nat.reduceSub, Nat.reduceAdd, setsD, zeros, stt, setsO, setsJ, List.foldl_cons, List.foldl_nil, List.set_cons_zero, List.set_cons_succ, demote]
      exact cl rfl
  · simp only [List.map_cons, List.map_nil, List.replicate_succ, List.replicate_zero, List.nil_append, List.cons_append, List.append_nil, Nat.reduceSub, Nat.reduceAdd, setsD, zeros, stt, setsO, setsJ, List.foldl_cons, List.foldl_nil, List.set_cons_zero, List.set_cons_succ, demote]
    refine wp_ret rfl ?_
    rw [List.take_of_length_le (Nat.le_refl _)]
section
variable {n : Nat} {E : List Lk} (he : Ends E n) (hn : n ≤ 1000) (hm : E.length ≤ 6)
include he hn hm
theorem filter_len (p : List Nat → Bool) : ((aset E.length).filter p).length ≤ 100 := by
  have h6 : 2 ^ E.length ≤ 2 ^ 6 := Nat.pow_le_pow_right (by omega) hm
  have al := aset_len E.length
  have := List.length_filter_le p (aset E.length)
  have : 2 ^ 6 = 64 := by decide
  omega
theorem joined_ok (hw : WE E) {u v : Nat} (hu : u < n) : den_chance_joined [net n E, nat u, nat v] = some (rt (sumc E ((aset E.length).filter (jn E u v)))) := by
  have j := joining_ok (v := v) he hn (by omega) hu
  have s := sum_ok (n := n) hw (by omega) (filter_len he hn hm (jn E u v))
  refine dfun_wp rfl ?_
  simp only [List.map_cons, List.map_nil, List.replicate_succ, List.replicate_zero, List.nil_append, List.cons_append, List.append_nil, Nat.reduceSub, Nat.reduceAdd, setsD, zeros, stt, setsO, setsJ, List.foldl_cons, List.foldl_nil, List.set_cons_zero, List.set_cons_succ, demote]
  exact wp_ret (by (first | rfl | (simp only [eOp_a, eUn_a, eCB_a, aCons_a, aNil_a, eIx_a, eC_a, eVar_0, eVar_s, o2_ss, o1_s, d1_1, d2_2, eB_a, tCmp_a, tTru_a, tNotD_a, tIsND_a, tNotND_a, eIsN_a, eNotN_a, tTrue_a, iSeq_a, seqOf_l, seqOf_t, dAdd_i, dAddI_i, dSub_i, dNeg_i, dLt_i, dLe_i, dGt_i, dGe_i, dEq_i, dNe_i, dTru_b, dTru_i, dTru_l, dTru_t, dTru_n, isNon_n, isNon_b, isNon_i, isNon_s, isNon_l, isNon_t, dLen_l, dLen_t, dInt_i, dInt_b, dTuple_l, dTuple_t, dList_l, dList_t, eCall_1, eCall_2, eCall_3, eCall_4, eCall_5, eCall_6, eCall_7, j, s] <;> rfl))) rfl
theorem whole_ok (hw : WE E) (h0 : 0 < n) : den_chance_whole [net n E] = some (rt (sumc E ((aset E.length).filter (wh E n)))) := by
  have j := (whole_sets (x := .none) he hn (by omega)).resolve_right (by omega)
  have s := sum_ok (n := n) hw (by omega) (filter_len he hn hm (wh E n))
  refine dfun_wp rfl ?_
  simp only [List.map_cons, List.map_nil, List.replicate_succ, List.replicate_zero, List.nil_append, List.cons_append, List.append_nil, Nat.reduceSub, Nat.reduceAdd, setsD, zeros, stt, setsO, setsJ, List.foldl_cons, List.foldl_nil, List.set_cons_zero, List.set_cons_succ, demote]
  refine wp_seq (wp_setD j rfl ?_)
  simp only [List.map_cons, List.map_nil, List.replicate_succ, List.replicate_zero, List.nil_append, List.cons_append, List.append_nil, Nat.reduceSub, Nat.reduceAdd, setsD, zeros, stt, setsO, setsJ, List.foldl_cons, List.foldl_nil, List.set_cons_zero, List.set_cons_succ, demote]
  exact wp_ret (by (first | rfl | (simp only [eOp_a, eUn_a, eCB_a, aCons_a, aNil_a, eIx_a, eC_a, eVar_0, eVar_s, o2_ss, o1_s, d1_1, d2_2, eB_a, tCmp_a, tTru_a, tNotD_a, tIsND_a, tNotND_a, eIsN_a, eNotN_a, tTrue_a, iSeq_a, seqOf_l, seqOf_t, dAdd_i, dAddI_i, dSub_i, dNeg_i, dLt_i, dLe_i, dGt_i, dGe_i, dEq_i, dNe_i, dTru_b, dTru_i, dTru_l, dTru_t, dTru_n, isNon_n, isNon_b, isNon_i, isNon_s, isNon_l, isNon_t, dLen_l, dLen_t, dInt_i, dInt_b, dTuple_l, dTuple_t, dList_l, dList_t, eCall_1, eCall_2, eCall_3, eCall_4, eCall_5, eCall_6, eCall_7, s] <;> rfl))) rfl
end
end Lib
end

section
set_option Elab.async false
set_option linter.all false
set_option maxRecDepth 10000
/-! k12, part c: changed weights, numbers of sets, least ways and blocks. -/
namespace Lib
open DS PySem
def wset (E : List Lk) (k : Nat) (w : Rat) : List Lk := E.set k ((E.getD k Lk0).1, (E.getD k Lk0).2.1, w)
theorem wset_len (E : List Lk) (k : Nat) (w : Rat) : (wset E k w).length = E.length := by simp [wset]
theorem wset_at {E : List Lk} {k : Nat} {w : Rat} (j : Nat) (hj : j < E.length) : (wset E k w).getD j Lk0 = if j = k then ((E.getD k Lk0).1, (E.getD k Lk0).2.1, w) else E.getD j Lk0 := by
  unfold wset
  rw [List.getD_eq_getElem?_getD]
  by_cases h : k = j
  · subst h
    rw [List.getElem?_set_self hj, if_pos rfl]
    rfl
  · rw [List.getElem?_set_ne h, if_neg (Ne.symm h), List.getD_eq_getElem?_getD]
theorem wset_mem {E : List Lk} {k : Nat} {w : Rat} {l : Lk} (hk : k < E.length) (h : l ∈ wset E k w) : (l ∈ E) ∨ (l = ((E.getD k Lk0).1, (E.getD k Lk0).2.1, w) ∧ E.getD k Lk0 ∈ E) := by
  obtain ⟨j, hj, rfl⟩ := List.getElem_of_mem h
  have hj' : j < E.length := by rw [wset_len] at hj; exact hj
  have e := wset_at (E := E) (k := k) (w := w) j hj'
  rw [List.getD_eq_getElem?_getD, List.getElem?_eq_getElem hj] at e
  have e : (wset E k w)[j] = _ := e
  have mem : ∀ i, i < E.length → E.getD i Lk0 ∈ E := fun i hi => by
    rw [List.getD_eq_getElem?_getD, List.getElem?_eq_getElem hi]
    exact List.getElem_mem hi
  rw [e]
  by_cases q : j = k
  · rw [if_pos q]; exact .inr ⟨rfl, mem k hk⟩
  · rw [if_neg q]; exact .inl (mem j hj')
theorem wset_ends {E : List Lk} {n k : Nat} {w : Rat} (h : Ends E n) (hk : k < E.length) : Ends (wset E k w) n := fun l hl => by
  rcases wset_mem hk hl with q | ⟨q, q2⟩
  · exact h l q
  · rw [q]; have z := h _ q2; exact ⟨z.1, z.2.1, z.2.2⟩
theorem wset_we {E : List Lk} {k : Nat} {w : Rat} (h : WE E) (hk : k < E.length) (hw : Sm 3 w ∧ Sm 3 (1 - w)) : WE (wset E k w) := fun l hl => by
  rcases wset_mem hk hl with q | ⟨q, _⟩
  · exact h l q
  · rw [q]; exact hw
theorem adj_wset {E : List Lk} {k : Nat} {w : Rat} {s : List Nat} (hs : ∀ j ∈ s, j < E.length) (x y : Nat) : Adj (pick (wset E k w) s) x y ↔ Adj (pick E s) x y := by
  have e : ∀ j ∈ s, ((wset E k w).getD j Lk0).1 = (E.getD j Lk0).1 ∧ ((wset E k w).getD j Lk0).2.1 = (E.getD j Lk0).2.1 := fun j hj => by
    rw [wset_at j (hs j hj)]
    by_cases q : j = k
    · subst q; rw [if_pos rfl]; exact ⟨rfl, rfl⟩
    · rw [if_neg q]; exact ⟨rfl, rfl⟩
  constructor
  · rintro ⟨l, hl, q⟩
    obtain ⟨j, hj, rfl⟩ := List.mem_map.mp hl
    obtain ⟨a, b⟩ := e j hj
    rw [a, b] at q
    exact ⟨_, List.mem_map.mpr ⟨j, hj, rfl⟩, q⟩
  · rintro ⟨l, hl, q⟩
    obtain ⟨j, hj, rfl⟩ := List.mem_map.mp hl
    obtain ⟨a, b⟩ := e j hj
    rw [← a, ← b] at q
    exact ⟨_, List.mem_map.mpr ⟨j, hj, rfl⟩, q⟩
theorem conn_congr {E F : List Lk} {u w : Nat} (h : ∀ x y, Adj E x y ↔ Adj F x y) : Conn E u w ↔ Conn F u w := by
  constructor
  · intro c
    induction c with
    | refl => exact .refl
    | step _ a ih => exact .step ih ((h _ _).mp a)
  · intro c
    induction c with
    | refl => exact .refl
    | step _ a ih => exact .step ih ((h _ _).mpr a)
theorem jn_wset {E : List Lk} {k : Nat} {w : Rat} {u v : Nat} {s : List Nat} (hs : s ∈ aset E.length) : jn (wset E k w) u v s = jn E u v s := by
  unfold jn
  exact decide_eq_decide.mpr (conn_congr (adj_wset (asc_lt hs).1))
theorem filter_wset {E : List Lk} {k : Nat} {w : Rat} {u v : Nat} : (aset (wset E k w).length).filter (jn (wset E k w) u v) = (aset E.length).filter (jn E u v) := by
  rw [wset_len]
  exact List.filter_congr fun s hs => jn_wset hs
theorem with_weight_ok {n : Nat} {E : List Lk} {k : Nat} {w : Rat} (hk : k < E.length) (hl : E.length ≤ 1000) : den_with_weight [net n E, nat k, rt w] = some (net n (wset E k w)) := by
  refine dfun_wp rfl ?_
  simp only [List.map_cons, List.map_nil, List.replicate_succ, List.replicate_zero, List.nil_append, List.cons_append, List.append_nil, Nat.reduceSub, Nat.reduceAdd, setsD, zeros, stt, setsO, setsJ, List.foldl_cons, List.foldl_nil, List.set_cons_zero, List.set_cons_succ, demote]
  refine wp_seq (wp_tup (d := net n E) (m := [(3, nat n), (4, .tuple (E.map lk))]) rfl rfl (net_flat n E) ?_)
  simp only [List.map_cons, List.map_nil, List.replicate_succ, List.replicate_zero, List.nil_append, List.cons_append, List.append_nil, Nat.reduceSub, Nat.reduceAdd, setsD, zeros, stt, setsO, setsJ, List.foldl_cons, List.foldl_nil, List.set_cons_zero, List.set_cons_succ, demote]
  have ix : dIx (.tuple (E.map lk)) (nat k) = some (lk (E.getD k Lk0)) := by
    show L2.atI (E.map lk) (k : Int) = _
    rw [atI_mp hk, List.getD_eq_getElem?_getD, List.getElem?_eq_getElem hk]
    rfl
  refine wp_seq (wp_tup (d := lk (E.getD k Lk0)) (m := [(5, nat (E.getD k Lk0).1), (6, nat (E.getD k Lk0).2.1), (7, rt (E.getD k Lk0).2.2)]) (by (first | rfl | (simp only [eOp_a, eUn_a, eCB_a, aCons_a, aNil_a, eIx_a, eC_a, eVar_0, eVar_s, o2_ss, o1_s, d1_1, d2_2, eB_a, tCmp_a, tTru_a, tNotD_a, tIsND_a, tNotND_a, eIsN_a, eNotN_a, tTrue_a, iSeq_a, seqOf_l, seqOf_t, dAdd_i, dAddI_i, dSub_i, dNeg_i, dLt_i, dLe_i, dGt_i, dGe_i, dEq_i, dNe_i, dTru_b, dTru_i, dTru_l, dTru_t, dTru_n, isNon_n, isNon_b, isNon_i, isNon_s, isNon_l, isNon_t, dLen_l, dLen_t, dInt_i, dInt_b, dTuple_l, dTuple_t, dList_l, dList_t, eCall_1, eCall_2, eCall_3, eCall_4, eCall_5, eCall_6, eCall_7, ix] <;> rfl))) rfl rfl ?_)
  simp only [List.map_cons, List.map_nil, List.replicate_succ, List.replicate_zero, List.nil_append, List.cons_append, List.append_nil, Nat.reduceSub, Nat.reduceAdd, setsD, zeros, stt, setsO, setsJ, List.foldl_cons, List.foldl_nil, List.set_cons_zero, List.set_cons_succ, demote]
  refine wp_ret (d := net n (wset E k w)) ?_ rfl
  refine eTup_2 rfl ?_
  have hkm : k ≤ (E.map lk).length := by rw [List.length_map]; omega
  rw [eOp_a, eOp_a, eSl_to (ds := E.map lk) rfl rfl hkm, eTup_1 (x := lk ((E.getD k Lk0).1, (E.getD k Lk0).2.1, w)) (eTup_3 rfl rfl rfl), o2_ss, dAdd_tt (by simp; omega), eSl_from (ds := E.map lk) (k := k + 1) rfl (by show some (PyData.int _) = some (PyData.int _); rfl) (by rw [List.length_map]; omega), o2_ss, dAdd_tt (by simp; omega)]
  unfold wset
  rw [List.set_eq_take_append_cons_drop, if_pos hk]
  simp
section
variable {n : Nat} {E : List Lk} (he : Ends E n) (hn : n ≤ 1000) (hm : E.length ≤ 6) (hw : WE E)
include he hn hm hw
/-- the sum of the chances of joining sets -/
noncomputable abbrev cj (E : List Lk) (u v : Nat) : Rat := sumc E ((aset E.length).filter (jn E u v))
theorem Sm.r1 : Sm 3 1 ∧ Sm 3 (1 - 1) := ⟨Sm.one (by omega), by decide +kernel, by decide +kernel⟩
theorem Sm.r0 : Sm 3 0 ∧ Sm 3 (1 - 0) := ⟨Sm.zero (by omega), by decide +kernel, by decide +kernel⟩
theorem joined_w {u v k : Nat} {w : Rat} (hu : u < n) (hk : k < E.length) (h3 : Sm 3 w ∧ Sm 3 (1 - w)) : den_chance_joined [net n (wset E k w), nat u, nat v] = some (rt (cj (wset E k w) u v)) :=
  joined_ok (wset_ends he hk) hn (by rw [wset_len]; exact hm) (wset_we hw hk h3) hu
theorem cj_sm (u v : Nat) : Sm 4001 (cj E u v) := by
  have l := filter_len he hn hm (jn E u v)
  have := sumc_sm hw (by omega) ((aset E.length).filter (jn E u v)) (k := 100) (by omega)
  rw [List.take_of_length_le l] at this
  exact this
end
end Lib
end

section
set_option Elab.async false
set_option linter.all false
set_option maxRecDepth 10000
/-! k12, part d: the mean by a link, halves; hold_poly, least_ways, least_blocks. -/
namespace Lib
open DS PySem
theorem chn_wset {E : List Lk} {k : Nat} {w : Rat} (s : List Nat) : ∀ K, K ≤ E.length → chn (wset E k w) s K = (if K ≤ k then chn E s K else chn (wset E k w) s K)
  | 0, _ => by simp [chn]
  | K + 1, hK => by
    split
    · rename_i h
      have ih := chn_wset (E := E) (k := k) (w := w) s K (by omega)
      rw [if_pos (by omega)] at ih
      rw [chn, chn, ih, wset_at (E := E) K (by omega), if_neg (show ¬ K = k by omega)]
    · rfl
theorem chn_lin {E : List Lk} {k : Nat} (s : List Nat) : ∀ K, K ≤ E.length → k < K → chn E s K = (1 - (E.getD k Lk0).2.2) * chn (wset E k 0) s K + (E.getD k Lk0).2.2 * chn (wset E k 1) s K
  | 0, _, h => absurd h (Nat.not_lt_zero _)
  | K + 1, hK, hk => by
    rw [chn, chn, chn, wset_at K (by omega), wset_at K (by omega)]
    by_cases e : K = k
    · subst e
      have a0 := chn_wset (E := E) (k := K) (w := 0) s K (by omega)
      have a1 := chn_wset (E := E) (k := K) (w := 1) s K (by omega)
      rw [if_pos (Nat.le_refl _)] at a0 a1
      rw [a0, a1, if_pos rfl, if_pos rfl]
      split
      · show _ * _ = (1 - _) * (_ * (0 : Rat)) + _ * (_ * (1 : Rat))
        grind
      · show _ * _ = (1 - _) * (_ * (1 - (0 : Rat))) + _ * (_ * (1 - (1 : Rat)))
        grind
    · rw [if_neg e, if_neg e]
      have ih := chn_lin s K (by omega) (by omega) (E := E) (k := k)
      rw [ih]
      split <;> grind
theorem sumc_cons (E : List Lk) (q : Rat) : ∀ l : List (List Nat), l.foldl (fun q s => q + chn E s E.length) q = q + sumc E l
  | [] => by simp [sumc]; grind
  | s :: l => by
    unfold sumc
    rw [List.foldl_cons, List.foldl_cons, sumc_cons E _ l, sumc_cons E (0 + _) l]
    grind
theorem sumc_s (E : List Lk) (s : List Nat) (l : List (List Nat)) : sumc E (s :: l) = chn E s E.length + sumc E l := by
  have := sumc_cons E 0 (s :: l)
  unfold sumc at this ⊢
  rw [List.foldl_cons, sumc_cons E (0 + _) l]
  show 0 + chn E s E.length + sumc E l = _ + sumc E l
  grind
theorem sumc_lin {E : List Lk} {k : Nat} (hk : k < E.length) : ∀ l : List (List Nat), sumc E l = (1 - (E.getD k Lk0).2.2) * sumc (wset E k 0) l + (E.getD k Lk0).2.2 * sumc (wset E k 1) l
  | [] => by simp only [sumc, List.foldl_nil]; grind
  | s :: l => by
    rw [sumc_s, sumc_s, sumc_s, wset_len, wset_len, sumc_lin hk l, chn_lin s E.length (Nat.le_refl _) hk]
    grind
/-! halves -/
def half (E : List Lk) : List Lk := E.map fun l => (l.1, l.2.1, (1 : Rat) / 2)
theorem half_len (E : List Lk) : (half E).length = E.length := by simp [half]
theorem half_at {E : List Lk} {j : Nat} (hj : j < E.length) : (half E).getD j Lk0 = ((E.getD j Lk0).1, (E.getD j Lk0).2.1, (1 : Rat) / 2) := by
  unfold half
  rw [List.getD_eq_getElem?_getD, List.getElem?_map, List.getD_eq_getElem?_getD, List.getElem?_eq_getElem hj]
  rfl
theorem half_ends {E : List Lk} {n : Nat} (h : Ends E n) : Ends (half E) n := fun l hl => by
  obtain ⟨l', h', rfl⟩ := List.mem_map.mp hl
  exact h l' h'
theorem half_we (E : List Lk) : WE (half E) := fun l hl => by
  obtain ⟨l', h', rfl⟩ := List.mem_map.mp hl
  have a : Sm 3 ((1 : Rat) / 2) ∧ Sm 3 (1 - (1 : Rat) / 2) := ⟨⟨by decide +kernel, by decide +kernel⟩, ⟨by decide +kernel, by decide +kernel⟩⟩
  exact a
theorem chn_half {E : List Lk} (s : List Nat) : ∀ K, K ≤ E.length → chn (half E) s K * (2 : Rat) ^ K = 1
  | 0, _ => by simp [chn]
  | K + 1, h => by
    have ih := chn_half s K (by omega) (E := E)
    rw [chn, half_at (by omega)]
    show chn (half E) s K * (if K ∈ s then (1 : Rat) / 2 else 1 - (1 : Rat) / 2) * _ = _
    have e : (if K ∈ s then (1 : Rat) / 2 else 1 - (1 : Rat) / 2) = 1 / 2 := by split <;> grind
    rw [e, Rat.pow_succ]
    grind
theorem sumc_half {E : List Lk} : ∀ l : List (List Nat), sumc (half E) l * (2 : Rat) ^ E.length = ((l.length : Nat) : Rat)
  | [] => by simp [sumc]
  | s :: l => by
    have ih := sumc_half l (E := E)
    have c := chn_half s E.length (Nat.le_refl _) (E := E)
    rw [sumc_s, half_len, List.length_cons, Rat.natCast_add]
    grind
theorem adj_half {E : List Lk} {s : List Nat} (hs : ∀ j ∈ s, j < E.length) (x y : Nat) : Adj (pick (half E) s) x y ↔ Adj (pick E s) x y := by
  have e : ∀ j ∈ s, ((half E).getD j Lk0).1 = (E.getD j Lk0).1 ∧ ((half E).getD j Lk0).2.1 = (E.getD j Lk0).2.1 := fun j hj => by
    rw [half_at (hs j hj)]
    exact ⟨rfl, rfl⟩
  constructor
  · rintro ⟨l, hl, q⟩
    obtain ⟨j, hj, rfl⟩ := List.mem_map.mp hl
    obtain ⟨a, b⟩ := e j hj
    rw [a, b] at q
    exact ⟨_, List.mem_map.mpr ⟨j, hj, rfl⟩, q⟩
  · rintro ⟨l, hl, q⟩
    obtain ⟨j, hj, rfl⟩ := List.mem_map.mp hl
    obtain ⟨a, b⟩ := e j hj
    rw [← a, ← b] at q
    exact ⟨_, List.mem_map.mpr ⟨j, hj, rfl⟩, q⟩
theorem filter_half {E : List Lk} {u v : Nat} : (aset (half E).length).filter (jn (half E) u v) = (aset E.length).filter (jn E u v) := by
  rw [half_len]
  refine List.filter_congr fun s hs => ?_
  unfold jn
  exact decide_eq_decide.mpr (conn_congr (adj_half (asc_lt hs).1))
/-! numbers of sets -/
def cnt (J : List (List Nat)) (k : Nat) : Nat := J.countP fun s => s.length == k
theorem count_lens (J : List (List Nat)) (k : Nat) : (J.map fun s => ((s.length : Nat) : Int)).count (k : Int) = cnt J k := by
  unfold cnt List.count
  rw [List.countP_map]
  refine List.countP_congr fun s _ => ?_
  simp
  omega
theorem lens_ok (J : List (List Nat)) : intsD (J.map fun s => nat s.length) = some (J.map fun s => ((s.length : Nat) : Int)) := by
  have := intsD_map (J.map fun s => ((s.length : Nat) : Int))
  rw [List.map_map] at this
  exact this
section
variable {n : Nat} {E : List Lk} (he : Ends E n) (hn : n ≤ 1000) (hm : E.length ≤ 6)
include he hn hm
theorem hold_ok {u v : Nat} (hu : u < n) : den_hold_poly [net n E, nat u, nat v] = some (.tuple ((List.range (E.length + 1)).map fun k => nat (cnt ((aset E.length).filter (jn E u v)) k))) := by
  have j := joining_ok (v := v) he hn (by omega) hu
  have fl := filter_len he hn hm (jn E u v)
  generalize (aset E.length).filter (jn E u v) = J at j fl
  refine dfun_wp rfl ?_
  simp only [List.map_cons, List.map_nil, List.replicate_succ, List.replicate_zero, List.nil_append, List.cons_append, List.append_nil, Nat.reduceSub, Nat.reduceAdd, setsD, zeros, stt, setsO, setsJ, List.foldl_cons, List.foldl_nil, List.set_cons_zero, List.set_cons_succ, demote]
  refine wp_seq (wp_setD (d := .list (J.map fun s => nat s.length)) (eLc_of nt (fun s => nat s.length) (l := J) (by
    simp only [iSeq_a, eCall_3, eVar_0, eVar_s, o1_s, j]; rfl) (by omega) fun s hs => ⟨[(4, nt s)], rfl, by
      simp only [setsD, wipeD, List.foldl_cons, List.foldl_nil, List.set_cons_zero, List.set_cons_succ]
      (first | rfl | (simp only [eOp_a, eUn_a, eCB_a, aCons_a, aNil_a, eIx_a, eC_a, eVar_0, eVar_s, o2_ss, o1_s, d1_1, d2_2, eB_a, tCmp_a, tTru_a, tNotD_a, tIsND_a, tNotND_a, eIsN_a, eNotN_a, tTrue_a, iSeq_a, seqOf_l, seqOf_t, dAdd_i, dAddI_i, dSub_i, dNeg_i, dLt_i, dLe_i, dGt_i, dGe_i, dEq_i, dNe_i, dTru_b, dTru_i, dTru_l, dTru_t, dTru_n, isNon_n, isNon_b, isNon_i, isNon_s, isNon_l, isNon_t, dLen_l, dLen_t, dInt_i, dInt_b, dTuple_l, dTuple_t, dList_l, dList_t, eCall_1, eCall_2, eCall_3, eCall_4, eCall_5, eCall_6, eCall_7, nt_len] <;> rfl))⟩) rfl ?_)
  simp only [List.map_cons, List.map_nil, List.replicate_succ, List.replicate_zero, List.nil_append, List.cons_append, List.append_nil, Nat.reduceSub, Nat.reduceAdd, setsD, zeros, stt, setsO, setsJ, List.foldl_cons, List.foldl_nil, List.set_cons_zero, List.set_cons_succ, demote]
  refine wp_ret (tup_of (eLc_of nat (fun k => nat (cnt J k)) (l := List.range (E.length + 1)) (range1_nat (by
    (first | rfl | (simp only [eOp_a, eUn_a, eCB_a, aCons_a, aNil_a, eIx_a, eC_a, eVar_0, eVar_s, o2_ss, o1_s, d1_1, d2_2, eB_a, tCmp_a, tTru_a, tNotD_a, tIsND_a, tNotND_a, eIsN_a, eNotN_a, tTrue_a, iSeq_a, seqOf_l, seqOf_t, dAdd_i, dAddI_i, dSub_i, dNeg_i, dLt_i, dLe_i, dGt_i, dGe_i, dEq_i, dNe_i, dTru_b, dTru_i, dTru_l, dTru_t, dTru_n, isNon_n, isNon_b, isNon_i, isNon_s, isNon_l, isNon_t, dLen_l, dLen_t, dInt_i, dInt_b, dTuple_l, dTuple_t, dList_l, dList_t, eCall_1, eCall_2, eCall_3, eCall_4, eCall_5, eCall_6, eCall_7, net_1, List.length_map] <;> rfl))) (by omega)) (by rw [List.length_range]; omega) fun k hk => ⟨[(5, nat k)], rfl, ?_⟩)) rfl
  simp only [setsD, wipeD, List.foldl_cons, List.foldl_nil, List.set_cons_zero, List.set_cons_succ, eOp_a, eVar_0, eVar_s, o2_ss]
  show o1 (intsD (J.map fun s => nat s.length)) (fun is => some (PyData.int (is.count (k : Int) : Nat))) = _
  rw [lens_ok, o1_s, count_lens]
  rfl
end
/-! sets that hold no other one -/
def isMin (J : List (List Nat)) (one : List Nat) : Bool := !J.any fun other => !decide (other = one) && other.all fun k => one.contains k
def mins (J : List (List Nat)) : List (List Nat) := J.filter (isMin J)
theorem any_perm {α : Type} {l l' : List α} (p : l.Perm l') (f : α → Bool) : l.any f = l'.any f := by
  rw [Bool.eq_iff_iff, List.any_eq_true, List.any_eq_true]
  exact ⟨fun ⟨x, h, q⟩ => ⟨x, p.mem_iff.mp h, q⟩, fun ⟨x, h, q⟩ => ⟨x, p.mem_iff.mpr h, q⟩⟩
theorem mins_perm {J J' : List (List Nat)} (p : J.Perm J') : (mins J).Perm (mins J') := by
  unfold mins
  have e : isMin J = isMin J' := by
    funext one
    unfold isMin
    rw [any_perm p]
  rw [e]
  exact p.filter _
theorem min_test {J : List (List Nat)} {one : List Nat} (hJ : J.length ≤ 1000) (hl : ∀ s ∈ J, s.length ≤ 1000) {ρ : PEnv} (h0 : eVar 0 ρ = some (rl J)) (h1 : eVar 1 ρ = some (nt one)) (h2 : ρ.length = 4) :
    tNotD (tTru (eCB (d1 dAny) (aCons (eLc (iSeq (eVar 0)) (.nm 2) tTrue (eAndD (eB (tCmp dNe (eVar 2) (eVar 1))) (eCB (d1 dAll) (aCons (eLc (iSeq (eVar 2)) (.nm 3) tTrue (eB (tCmp dIn (eVar 3) (eVar 1))) [3]) aNil))) [2]) aNil))) ρ = some (isMin J one) := by
  match ρ, h2 with
  | [a, b, c, d], _ =>
    have ha : a = some (rl J) := by have := eVar_some h0; simpa using this
    have hb : b = some (nt one) := by have := eVar_some h1; simpa using this
    subst ha hb
    refine tNot_b (tTru_b (any_of (eLc_of nt (fun other => .bool (!decide (other = one) && other.all fun k => one.contains k)) (l := J) (by (first | rfl | (simp only [eOp_a, eUn_a, eCB_a, aCons_a, aNil_a, eIx_a, eC_a, eVar_0, eVar_s, o2_ss, o1_s, d1_1, d2_2, eB_a, tCmp_a, tTru_a, tNotD_a, tIsND_a, tNotND_a, eIsN_a, eNotN_a, tTrue_a, iSeq_a, seqOf_l, seqOf_t, dAdd_i, dAddI_i, dSub_i, dNeg_i, dLt_i, dLe_i, dGt_i, dGe_i, dEq_i, dNe_i, dTru_b, dTru_i, dTru_l, dTru_t, dTru_n, isNon_n, isNon_b, isNon_i, isNon_s, isNon_l, isNon_t, dLen_l, dLen_t, dInt_i, dInt_b, dTuple_l, dTuple_t, dList_l, dList_t, eCall_1, eCall_2, eCall_3, eCall_4, eCall_5, eCall_6, eCall_7] <;> rfl))) (by omega) fun other ho => ⟨[(2, nt other)], rfl, ?_⟩)))
    simp only [setsD, wipeD, List.foldl_cons, List.foldl_nil, List.set_cons_zero, List.set_cons_succ]
    have hlo := hl other ho
    have al := all_of (f := eLc (iSeq (eVar 2)) (.nm 3) tTrue (eB (tCmp dIn (eVar 3) (eVar 1))) [3]) (ρ := [some (rl J), some (nt one), some (nt other), d]) (p := fun k => one.contains k) (l := other) (eLc_of nat (fun k => .bool (one.contains k)) (l := other) (by (first | rfl | (simp only [eOp_a, eUn_a, eCB_a, aCons_a, aNil_a, eIx_a, eC_a, eVar_0, eVar_s, o2_ss, o1_s, d1_1, d2_2, eB_a, tCmp_a, tTru_a, tNotD_a, tIsND_a, tNotND_a, eIsN_a, eNotN_a, tTrue_a, iSeq_a, seqOf_l, seqOf_t, dAdd_i, dAddI_i, dSub_i, dNeg_i, dLt_i, dLe_i, dGt_i, dGe_i, dEq_i, dNe_i, dTru_b, dTru_i, dTru_l, dTru_t, dTru_n, isNon_n, isNon_b, isNon_i, isNon_s, isNon_l, isNon_t, dLen_l, dLen_t, dInt_i, dInt_b, dTuple_l, dTuple_t, dList_l, dList_t, eCall_1, eCall_2, eCall_3, eCall_4, eCall_5, eCall_6, eCall_7, nt_seq] <;> rfl))) (by omega) fun k hk => ⟨[(3, nat k)], rfl, by
      simp only [setsD, wipeD, List.foldl_cons, List.foldl_nil, List.set_cons_zero, List.set_cons_succ]
      exact eB_b (by simp only [tCmp_a, eVar_0, eVar_s, o2_ss, nt_in])⟩)
    refine eAnd_b (a := !decide (other = one)) (eB_b (by simp only [tCmp_a, eVar_0, eVar_s, o2_ss, dNe_nt])) (fun h => ?_) fun h => by rw [h]; rfl
    rw [al, h, Bool.true_and]
theorem without_ok {J J' : List (List Nat)} (hJ : J.length ≤ 1000) (hl : ∀ s ∈ J, s.length ≤ 1000) (p : J.Perm J') (hs : J'.Pairwise fun a b => llt a b = true) : den_without_greater [rl J] = some (.tuple ((mins J').map nt)) := by
  refine dfun_wp rfl ?_
  simp only [List.map_cons, List.map_nil, List.replicate_succ, List.replicate_zero, List.nil_append, List.cons_append, List.append_nil, Nat.reduceSub, Nat.reduceAdd, setsD, zeros, stt, setsO, setsJ, List.foldl_cons, List.foldl_nil, List.set_cons_zero, List.set_cons_succ, demote]
  refine wp_ret (tup_of ?_) rfl
  have c := eLc_if (fi := iSeq (eVar 0)) (t := .nm 1) (vs := [1]) (ft := tNotD (tTru (eCB (d1 dAny) (aCons (eLc (iSeq (eVar 0)) (.nm 2) tTrue (eAndD (eB (tCmp dNe (eVar 2) (eVar 1))) (eCB (d1 dAll) (aCons (eLc (iSeq (eVar 2)) (.nm 3) tTrue (eB (tCmp dIn (eVar 3) (eVar 1))) [3]) aNil))) [2]) aNil)))) (fe := eVar 1) (ρ := [some (rl J), none, none, none]) nt nt (isMin J) (l := J) (by (first | rfl | (simp only [eOp_a, eUn_a, eCB_a, aCons_a, aNil_a, eIx_a, eC_a, eVar_0, eVar_s, o2_ss, o1_s, d1_1, d2_2, eB_a, tCmp_a, tTru_a, tNotD_a, tIsND_a, tNotND_a, eIsN_a, eNotN_a, tTrue_a, iSeq_a, seqOf_l, seqOf_t, dAdd_i, dAddI_i, dSub_i, dNeg_i, dLt_i, dLe_i, dGt_i, dGe_i, dEq_i, dNe_i, dTru_b, dTru_i, dTru_l, dTru_t, dTru_n, isNon_n, isNon_b, isNon_i, isNon_s, isNon_l, isNon_t, dLen_l, dLen_t, dInt_i, dInt_b, dTuple_l, dTuple_t, dList_l, dList_t, eCall_1, eCall_2, eCall_3, eCall_4, eCall_5, eCall_6, eCall_7] <;> rfl))) (by omega) fun s hs => ⟨[(1, nt s)], rfl, min_test hJ hl rfl rfl rfl, fun _ => rfl⟩
  rw [eCB_a, aCons_a, c, aNil_a, o2_ss, o1_s, d1_1]
  exact dSorted_eq (mins_perm p) (hs.filter _)
theorem nt_tuple_mem {m : Nat} {p : List Nat → Bool} : ∀ s ∈ (aset m).filter p, s.length ≤ m := fun s hs => (asc_lt (List.mem_filter.mp hs).1).2
section
variable {n : Nat} {E : List Lk} (he : Ends E n) (hn : n ≤ 1000) (hm : E.length ≤ 6)
include he hn hm
theorem ways_ok {u v : Nat} (hu : u < n) : den_least_ways [net n E, nat u, nat v] = some (.tuple ((mins ((aset E.length).filter (jn E u v))).map nt)) := by
  have j := joining_ok (v := v) he hn (by omega) hu
  have fl := filter_len he hn hm (jn E u v)
  have w := without_ok (J := (aset E.length).filter (jn E u v)) (by omega) (fun s hs => by have := nt_tuple_mem s hs; omega) (List.Perm.refl _) ((aset_sorted E.length).filter _)
  refine dfun_wp rfl ?_
  simp only [List.map_cons, List.map_nil, List.replicate_succ, List.replicate_zero, List.nil_append, List.cons_append, List.append_nil, Nat.reduceSub, Nat.reduceAdd, setsD, zeros, stt, setsO, setsJ, List.foldl_cons, List.foldl_nil, List.set_cons_zero, List.set_cons_succ, demote]
  exact wp_ret (by (first | rfl | (simp only [eOp_a, eUn_a, eCB_a, aCons_a, aNil_a, eIx_a, eC_a, eVar_0, eVar_s, o2_ss, o1_s, d1_1, d2_2, eB_a, tCmp_a, tTru_a, tNotD_a, tIsND_a, tNotND_a, eIsN_a, eNotN_a, tTrue_a, iSeq_a, seqOf_l, seqOf_t, dAdd_i, dAddI_i, dSub_i, dNeg_i, dLt_i, dLe_i, dGt_i, dGe_i, dEq_i, dNe_i, dTru_b, dTru_i, dTru_l, dTru_t, dTru_n, isNon_n, isNon_b, isNon_i, isNon_s, isNon_l, isNon_t, dLen_l, dLen_t, dInt_i, dInt_b, dTuple_l, dTuple_t, dList_l, dList_t, eCall_1, eCall_2, eCall_3, eCall_4, eCall_5, eCall_6, eCall_7, j, w] <;> rfl))) rfl
/-- s meets each of J -/
def hits (J : List (List Nat)) (s : List Nat) : Bool := !J.any fun way => !way.any fun k => s.contains k
theorem blocks_ok {u v : Nat} (hu : u < n) : den_least_blocks [net n E, nat u, nat v] = some (.tuple ((mins ((aset E.length).filter (hits ((aset E.length).filter (jn E u v))))).map nt)) := by
  have j := joining_ok (v := v) he hn (by omega) hu
  have fl := filter_len he hn hm (jn E u v)
  have jl : ∀ s ∈ (aset E.length).filter (jn E u v), s.length ≤ E.length := nt_tuple_mem
  generalize (aset E.length).filter (jn E u v) = J at j fl jl
  have as_ := all_sets_ok (n := E.length) (by omega)
  have p := sorted_size_perm (aset E.length)
  have so := sortK_size (aset E.length)
  generalize (aset E.length).mergeSort sle = A at p so
  have al : A.length ≤ 100 := by
    have := filter_len he hn hm (fun _ => true)
    rw [List.filter_eq_self.mpr (fun _ _ => rfl)] at this
    rw [p.length_eq]; exact this
  have w := without_ok (J := A.filter (hits J)) (J' := (aset E.length).filter (hits J)) (by have := List.length_filter_le (hits J) A; omega) (fun s hs => by
    have := asc_lt (p.mem_iff.mp (List.mem_filter.mp hs).1)
    omega) (p.filter _) ((aset_sorted E.length).filter _)
  refine dfun_wp rfl ?_
  simp only [List.map_cons, List.map_nil, List.replicate_succ, List.replicate_zero, List.nil_append, List.cons_append, List.append_nil, Nat.reduceSub, Nat.reduceAdd, setsD, zeros, stt, setsO, setsJ, List.foldl_cons, List.foldl_nil, List.set_cons_zero, List.set_cons_succ, demote]
  refine wp_seq (wp_setD (d := rl J) (by (first | rfl | (simp only [eOp_a, eUn_a, eCB_a, aCons_a, aNil_a, eIx_a, eC_a, eVar_0, eVar_s, o2_ss, o1_s, d1_1, d2_2, eB_a, tCmp_a, tTru_a, tNotD_a, tIsND_a, tNotND_a, eIsN_a, eNotN_a, tTrue_a, iSeq_a, seqOf_l, seqOf_t, dAdd_i, dAddI_i, dSub_i, dNeg_i, dLt_i, dLe_i, dGt_i, dGe_i, dEq_i, dNe_i, dTru_b, dTru_i, dTru_l, dTru_t, dTru_n, isNon_n, isNon_b, isNon_i, isNon_s, isNon_l, isNon_t, dLen_l, dLen_t, dInt_i, dInt_b, dTuple_l, dTuple_t, dList_l, dList_t, eCall_1, eCall_2, eCall_3, eCall_4, eCall_5, eCall_6, eCall_7, j] <;> rfl))) rfl ?_)
  simp only [List.map_cons, List.map_nil, List.replicate_succ, List.replicate_zero, List.nil_append, List.cons_append, List.append_nil, Nat.reduceSub, Nat.reduceAdd, setsD, zeros, stt, setsO, setsJ, List.foldl_cons, List.foldl_nil, List.set_cons_zero, List.set_cons_succ, demote]
  refine wp_seq (wp_setD (d := rl (A.filter (hits J))) (eLc_if nt nt (hits J) (l := A) ?_ (by omega) fun s hs => ⟨[(5, nt s)], rfl, ?_, fun _ => rfl⟩) rfl ?_)
  · simp only [iSeq_a, eSortK_a, eCall_1, eCB_a, aCons_a, aNil_a, eIx_a, eVar_0, eC_a, o2_ss, o1_s, net_1, d1_1, dLen_t, List.length_map, as_, so]
    rfl
  · simp only [setsD, wipeD, List.foldl_cons, List.foldl_nil, List.set_cons_zero, List.set_cons_succ]
    refine tNot_b (tTru_b (any_of (eLc_of nt (fun way => .bool (!way.any fun k => s.contains k)) (l := J) (by (first | rfl | (simp only [eOp_a, eUn_a, eCB_a, aCons_a, aNil_a, eIx_a, eC_a, eVar_0, eVar_s, o2_ss, o1_s, d1_1, d2_2, eB_a, tCmp_a, tTru_a, tNotD_a, tIsND_a, tNotND_a, eIsN_a, eNotN_a, tTrue_a, iSeq_a, seqOf_l, seqOf_t, dAdd_i, dAddI_i, dSub_i, dNeg_i, dLt_i, dLe_i, dGt_i, dGe_i, dEq_i, dNe_i, dTru_b, dTru_i, dTru_l, dTru_t, dTru_n, isNon_n, isNon_b, isNon_i, isNon_s, isNon_l, isNon_t, dLen_l, dLen_t, dInt_i, dInt_b, dTuple_l, dTuple_t, dList_l, dList_t, eCall_1, eCall_2, eCall_3, eCall_4, eCall_5, eCall_6, eCall_7] <;> rfl))) (by omega) fun way hw => ⟨[(6, nt way)], rfl, ?_⟩)))
    simp only [setsD, wipeD, List.foldl_cons, List.foldl_nil, List.set_cons_zero, List.set_cons_succ]
    have hlw := jl way hw
    refine eB_b (tNot_b (tTru_b (any_of (eLc_of nat (fun k => .bool (s.contains k)) (l := way) (by (first | rfl | (simp only [eOp_a, eUn_a, eCB_a, aCons_a, aNil_a, eIx_a, eC_a, eVar_0, eVar_s, o2_ss, o1_s, d1_1, d2_2, eB_a, tCmp_a, tTru_a, tNotD_a, tIsND_a, tNotND_a, eIsN_a, eNotN_a, tTrue_a, iSeq_a, seqOf_l, seqOf_t, dAdd_i, dAddI_i, dSub_i, dNeg_i, dLt_i, dLe_i, dGt_i, dGe_i, dEq_i, dNe_i, dTru_b, dTru_i, dTru_l, dTru_t, dTru_n, isNon_n, isNon_b, isNon_i, isNon_s, isNon_l, isNon_t, dLen_l, dLen_t, dInt_i, dInt_b, dTuple_l, dTuple_t, dList_l, dList_t, eCall_1, eCall_2, eCall_3, eCall_4, eCall_5, eCall_6, eCall_7, nt_seq] <;> rfl))) (by omega) fun k hk => ⟨[(7, nat k)], rfl, ?_⟩))))
    simp only [setsD, wipeD, List.foldl_cons, List.foldl_nil, List.set_cons_zero, List.set_cons_succ]
    exact eB_b (by simp only [tCmp_a, eVar_0, eVar_s, o2_ss, nt_in])
  · simp only [List.map_cons, List.map_nil, List.replicate_succ, List.replicate_zero, List.nil_append, List.cons_append, List.append_nil, Nat.reduceSub, Nat.reduceAdd, setsD, zeros, stt, setsO, setsJ, List.foldl_cons, List.foldl_nil, List.set_cons_zero, List.set_cons_succ, demote]
    exact wp_ret (by (first | rfl | (simp only [eOp_a, eUn_a, eCB_a, aCons_a, aNil_a, eIx_a, eC_a, eVar_0, eVar_s, o2_ss, o1_s, d1_1, d2_2, eB_a, tCmp_a, tTru_a, tNotD_a, tIsND_a, tNotND_a, eIsN_a, eNotN_a, tTrue_a, iSeq_a, seqOf_l, seqOf_t, dAdd_i, dAddI_i, dSub_i, dNeg_i, dLt_i, dLe_i, dGt_i, dGe_i, dEq_i, dNe_i, dTru_b, dTru_i, dTru_l, dTru_t, dTru_n, isNon_n, isNon_b, isNon_i, isNon_s, isNon_l, isNon_t, dLen_l, dLen_t, dInt_i, dInt_b, dTuple_l, dTuple_t, dList_l, dList_t, eCall_1, eCall_2, eCall_3, eCall_4, eCall_5, eCall_6, eCall_7, w] <;> rfl))) rfl
end
end Lib
end

section
set_option Elab.async false
set_option linter.all false
set_option maxRecDepth 10000
/-! k12, part e: covers. -/
namespace Lib
open DS PySem
/-- a cover: x thirds, a price -/
abbrev Cv := Nat × Nat
def cvq (c : Cv) : Rat := Rat.divInt c.1 3
def cv (c : Cv) : D := .tuple [rt (cvq c), nat c.2]
abbrev Ls := Nat × Nat
def ls (l : Ls) : D := .tuple [nat l.1, nat l.2]
/-- what is left, in thirds -/
def tl (w : Int) (c : Cv) (l : Nat) : Int := (w - c.2) * 3 - (l : Int) * (3 - c.1)
def kp12 (w : Int) (c : Cv) (L : List Ls) : Int := L.foldl (fun a l => a * tl w c l.1 ^ l.2) 1
def wsum (L : List Ls) : Nat := (L.map (·.2)).sum
theorem cvq_den {c : Cv} (h : c.1 < 4) : ((cvq c).den = 1 ∨ (cvq c).den = 3) ∧ (3 : Int) * (cvq c).num = c.1 * (cvq c).den := by
  obtain ⟨x, p⟩ := c
  have h : x < 4 := h
  have : x = 0 ∨ x = 1 ∨ x = 2 ∨ x = 3 := by omega
  unfold cvq
  dsimp only
  clear h
  rcases this with rfl | rfl | rfl | rfl <;> exact ⟨by decide +kernel, by decide +kernel⟩
/-- the quotient that is left -/
theorem left_eq {w : Int} {c : Cv} (h : c.1 < 4) (l : Nat) : ∃ v : Rat, Rat.divInt ((w - c.2) * (cvq c).den - l * ((cvq c).den - (cvq c).num)) (cvq c).den = v ∧ 3 * v.num = tl w c l * v.den ∧ v.den ≤ 3 ∧ v.num.natAbs ≤ ((w - c.2) * (cvq c).den - l * ((cvq c).den - (cvq c).num)).natAbs := by
  obtain ⟨hd, hn⟩ := cvq_den h
  refine ⟨_, rfl, ?_, ?_, ?_⟩
  · have hb : (0 : Int) < (cvq c).den := den_pos _
    generalize (cvq c).den = b at hd hn hb
    generalize (cvq c).num = a at hn
    generalize hX : (w - c.2) * (b : Int) - l * (b - a) = X
    have e : 3 * X = tl w c l * b := by
      subst hX
      unfold tl
      rcases hd with rfl | rfl
      · have : (c.1 : Int) = 3 * a := by simpa using hn.symm
        rw [this]
        push_cast
        grind
      · have : (c.1 : Int) = a := by push_cast at hn; omega
        rw [this]
        push_cast
        grind
    have r : (Rat.divInt X b).num * b = X * (Rat.divInt X b).den := by
      have h2 : Rat.divInt (Rat.divInt X b).num (Rat.divInt X b).den = Rat.divInt X b := Rat.num_divInt_den _
      exact (Rat.divInt_eq_divInt_iff (by have := den_pos (Rat.divInt X b); omega) (by omega)).mp h2
    have hbne : (b : Int) ≠ 0 := by omega
    refine Int.eq_of_mul_eq_mul_right hbne ?_
    calc 3 * (Rat.divInt X b).num * b = 3 * ((Rat.divInt X b).num * b) := by grind
      _ = 3 * X * (Rat.divInt X b).den := by rw [r]; grind
      _ = tl w c l * (Rat.divInt X b).den * b := by rw [e]; grind
  · have hb : (0 : Int) < (cvq c).den := den_pos _
    rw [Rat.den_divInt, if_neg (by omega)]
    refine Nat.le_trans (Nat.div_le_self _ _) ?_
    rcases hd with h | h <;> rw [h] <;> simp
  · have hb : (0 : Int) < (cvq c).den := den_pos _
    have hnum : (Rat.divInt ((w - c.2) * (cvq c).den - l * ((cvq c).den - (cvq c).num)) (cvq c).den).num = ((w - c.2) * (cvq c).den - l * ((cvq c).den - (cvq c).num)) / (Int.gcd ((w - c.2) * (cvq c).den - l * ((cvq c).den - (cvq c).num)) (cvq c).den : Int) := by rw [Rat.num_divInt, Int.gcd_comm, Int.sign_eq_one_of_pos hb, Int.one_mul]
    rw [hnum]
    have hdv : (Int.gcd ((w - c.2) * (cvq c).den - l * ((cvq c).den - (cvq c).num)) (cvq c).den : Int) ∣ ((w - c.2) * (cvq c).den - l * ((cvq c).den - (cvq c).num)) := Int.gcd_dvd_left _ _
    rw [Int.natAbs_ediv_of_dvd hdv]
    exact Nat.div_le_self _ _

theorem dMul_s {i j : Int} (h : j.natAbs < 18446744073709551616) : dMul (.int i) (.int j) = some (.int (i * j)) := dMul_i (mulOk_r h)
theorem wsum_snoc (L : List Ls) (l : Ls) : wsum (L ++ [l]) = wsum L + l.2 := by simp [wsum]
theorem kp_snoc (w : Int) (c : Cv) (L : List Ls) (l : Ls) : kp12 w c (L ++ [l]) = kp12 w c L * tl w c l.1 ^ l.2 := by simp [kp12]
theorem take_snoc {α : Type} {L : List α} {k : Nat} {l : α} (h : L[k]? = some l) : L.take (k + 1) = L.take k ++ [l] := by
  rw [List.take_add_one, h]; rfl
theorem cover_ok {w : Int} {c : Cv} {L : List Ls} (hw : 0 ≤ w ∧ w ≤ 1000) (hc : c.1 < 4 ∧ c.2 ≤ 1000) (hL : ∀ l ∈ L, l.1 ≤ 1000 ∧ l.2 ≤ 1000) (lt : D) (hs : seqOf lt = some (L.map ls)) :
    ∃ d, den_cover_product [lt, .int w, cv c] = some d ∧ ∃ top under : Int, d = .tuple [.int top, .int under] ∧ top * 3 ^ wsum L = kp12 w c L * under ∧ 0 < under ∧ under ≤ 3 ^ wsum L := by
  refine dfun_wpE rfl ?_
  simp only [List.map_cons, List.map_nil, List.replicate_succ, List.replicate_zero, List.nil_append, List.cons_append, List.append_nil, Nat.reduceSub, Nat.reduceAdd, setsD, zeros, stt, setsO, setsJ, List.foldl_cons, List.foldl_nil, List.set_cons_zero, List.set_cons_succ, demote]
  have hb : (0 : Int) < (cvq c).den := den_pos _
  obtain ⟨hd, hn⟩ := cvq_den hc.1
  have b3 : (cvq c).den ≤ 3 := by rcases hd with h | h <;> omega
  have a9 : (cvq c).num ≤ 9 ∧ 0 ≤ (cvq c).num := by
    have := hc.1
    rcases hd with h | h <;> rw [h] at hn <;> constructor <;> omega
  refine wp_seq (wp_tup (d := cv c) (m := [(3, .int (cvq c).num), (4, .int (cvq c).den), (5, nat c.2)]) rfl rfl rfl ?_)
  simp only [List.map_cons, List.map_nil, List.replicate_succ, List.replicate_zero, List.nil_append, List.cons_append, List.append_nil, Nat.reduceSub, Nat.reduceAdd, setsD, zeros, stt, setsO, setsJ, List.foldl_cons, List.foldl_nil, List.set_cons_zero, List.set_cons_succ, demote]
  refine wp_seq (wp_tup (d := .tuple [.int 1, .int 1]) (m := [(6, .int 1), (7, .int 1)]) (eTup_2 rfl rfl) rfl rfl ?_)
  simp only [List.map_cons, List.map_nil, List.replicate_succ, List.replicate_zero, List.nil_append, List.cons_append, List.append_nil, Nat.reduceSub, Nat.reduceAdd, setsD, zeros, stt, setsO, setsJ, List.foldl_cons, List.foldl_nil, List.set_cons_zero, List.set_cons_succ, demote]
  refine wp_seq ?_
  refine wp_for (ds := L.map ls) (P := fun k s => ∃ top under x8 x9 x10 x11, s = ([some lt, some (.int w), some (cv c), some (.int (cvq c).num), some (.int (cvq c).den), some (nat c.2), some (.int top), some (.int under), x8, x9, x10, x11], [0, 0, 0, 0, 0, 0, 0, 0, 0, 0, 0, 0]) ∧ top * 3 ^ wsum (L.take k) = kp12 w c (L.take k) * under ∧ 0 < under ∧ under ≤ 3 ^ wsum (L.take k)) (by simp only [iSeq_a, eVar_0, eVar_s, o1_s, hs])
    ⟨1, 1, none, none, none, none, rfl, by simp [wsum, kp12], by omega, by simp [wsum]⟩ ?_ ?_
  · rintro k d _ hdk ⟨top, under, x8, x9, x10, x11, rfl, h1, h2, h3⟩
    rw [List.getElem?_map] at hdk
    obtain ⟨l, hl, rfl⟩ := Option.map_eq_some_iff.mp hdk
    have hll := hL l (List.mem_of_getElem? hl)
    refine ⟨[(8, nat l.1), (9, nat l.2)], rfl, ?_⟩
    simp only [List.map_cons, List.map_nil, List.replicate_succ, List.replicate_zero, List.nil_append, List.cons_append, List.append_nil, Nat.reduceSub, Nat.reduceAdd, setsD, zeros, stt, setsO, setsJ, List.foldl_cons, List.foldl_nil, List.set_cons_zero, List.set_cons_succ, demote]
    obtain ⟨v, hv, v1, v2, v3⟩ := left_eq (w := w) hc.1 l.1
    have vb : v.num.natAbs < 18446744073709551616 := by
      refine Nat.lt_of_le_of_lt v3 ?_
      have e1 : ((w - c.2) * ((cvq c).den : Int)).natAbs ≤ 2000 * 3 := by
        rw [Int.natAbs_mul]
        exact Nat.mul_le_mul (by omega) (by omega)
      have e2 : ((l.1 : Int) * ((cvq c).den - (cvq c).num)).natAbs ≤ 1000 * 12 := by
        rw [Int.natAbs_mul]
        exact Nat.mul_le_mul (by omega) (by omega)
      omega
    have lo := lowest_ok (a := (w - c.2) * (cvq c).den - l.1 * ((cvq c).den - (cvq c).num)) (b := (cvq c).den) (k := 64) hb (by
      have : ((cvq c).den : Int).natAbs ≤ 3 := by omega
      have : (3 : Nat) < 2 ^ 64 := by decide
      omega) (by omega)
    rw [hv] at lo
    refine wp_seq (wp_set (d := rt v) ?_ rfl ?_)
    · have m1 : mulOk (w - c.2) (cvq c).den = true := mulOk_r (by omega)
      have m2 : mulOk (l.1 : Int) ((cvq c).den - (cvq c).num) = true := mulOk_r (by omega)
      (first | rfl | (simp only [eOp_a, eUn_a, eCB_a, aCons_a, aNil_a, eIx_a, eC_a, eVar_0, eVar_s, o2_ss, o1_s, d1_1, d2_2, eB_a, tCmp_a, tTru_a, tNotD_a, tIsND_a, tNotND_a, eIsN_a, eNotN_a, tTrue_a, iSeq_a, seqOf_l, seqOf_t, dAdd_i, dAddI_i, dSub_i, dNeg_i, dLt_i, dLe_i, dGt_i, dGe_i, dEq_i, dNe_i, dTru_b, dTru_i, dTru_l, dTru_t, dTru_n, isNon_n, isNon_b, isNon_i, isNon_s, isNon_l, isNon_t, dLen_l, dLen_t, dInt_i, dInt_b, dTuple_l, dTuple_t, dList_l, dList_t, eCall_1, eCall_2, eCall_3, eCall_4, eCall_5, eCall_6, eCall_7, nat, dMul_i m1, dMul_i m2, lo] <;> rfl))
    simp only [List.map_cons, List.map_nil, List.replicate_succ, List.replicate_zero, List.nil_append, List.cons_append, List.append_nil, Nat.reduceSub, Nat.reduceAdd, setsD, zeros, stt, setsO, setsJ, List.foldl_cons, List.foldl_nil, List.set_cons_zero, List.set_cons_succ, demote]
    refine wp_forN (n := l.2) [11] (fun j => [(6, .int (top * v.num ^ j)), (7, .int (under * (v.den : Int) ^ j))]) rfl (by omega) (fun p hp => ?_) (fun j xs hj => ?_) fun xs => ?_
    · simp only [List.mem_cons, List.not_mem_nil, or_false] at hp
      rcases hp with rfl | rfl <;> simp
    · simp only [List.map_cons, List.map_nil, List.replicate_succ, List.replicate_zero, List.nil_append, List.cons_append, List.append_nil, Nat.reduceSub, Nat.reduceAdd, setsD, zeros, stt, setsO, setsJ, List.foldl_cons, List.foldl_nil, List.set_cons_zero, List.set_cons_succ, demote]
      refine wp_par (d := .int (top * v.num ^ (j + 1))) (e := .int (under * (v.den : Int) ^ (j + 1))) ?_ ?_ rfl rfl ?_
      · have : top * v.num ^ (j + 1) = top * v.num ^ j * v.num := by rw [Int.pow_succ]; grind
        rw [this]
        (first | rfl | (simp only [eOp_a, eUn_a, eCB_a, aCons_a, aNil_a, eIx_a, eC_a, eVar_0, eVar_s, o2_ss, o1_s, d1_1, d2_2, eB_a, tCmp_a, tTru_a, tNotD_a, tIsND_a, tNotND_a, eIsN_a, eNotN_a, tTrue_a, iSeq_a, seqOf_l, seqOf_t, dAdd_i, dAddI_i, dSub_i, dNeg_i, dLt_i, dLe_i, dGt_i, dGe_i, dEq_i, dNe_i, dTru_b, dTru_i, dTru_l, dTru_t, dTru_n, isNon_n, isNon_b, isNon_i, isNon_s, isNon_l, isNon_t, dLen_l, dLen_t, dInt_i, dInt_b, dTuple_l, dTuple_t, dList_l, dList_t, eCall_1, eCall_2, eCall_3, eCall_4, eCall_5, eCall_6, eCall_7, rt_0, dMul_s vb] <;> rfl))
      · have : under * (v.den : Int) ^ (j + 1) = under * (v.den : Int) ^ j * v.den := by rw [Int.pow_succ]; grind
        rw [this]
        have vd : ((v.den : Int)).natAbs < 18446744073709551616 := by omega
        (first | rfl | (simp only [eOp_a, eUn_a, eCB_a, aCons_a, aNil_a, eIx_a, eC_a, eVar_0, eVar_s, o2_ss, o1_s, d1_1, d2_2, eB_a, tCmp_a, tTru_a, tNotD_a, tIsND_a, tNotND_a, eIsN_a, eNotN_a, tTrue_a, iSeq_a, seqOf_l, seqOf_t, dAdd_i, dAddI_i, dSub_i, dNeg_i, dLt_i, dLe_i, dGt_i, dGe_i, dEq_i, dNe_i, dTru_b, dTru_i, dTru_l, dTru_t, dTru_n, isNon_n, isNon_b, isNon_i, isNon_s, isNon_l, isNon_t, dLen_l, dLen_t, dInt_i, dInt_b, dTuple_l, dTuple_t, dList_l, dList_t, eCall_1, eCall_2, eCall_3, eCall_4, eCall_5, eCall_6, eCall_7, rt_1, dMul_s vd] <;> rfl))
      · simp only [List.map_cons, List.map_nil, List.replicate_succ, List.replicate_zero, List.nil_append, List.cons_append, List.append_nil, Nat.reduceSub, Nat.reduceAdd, setsD, zeros, stt, setsO, setsJ, List.foldl_cons, List.foldl_nil, List.set_cons_zero, List.set_cons_succ, demote]
        exact cl rfl
    · simp only [List.map_cons, List.map_nil, List.replicate_succ, List.replicate_zero, List.nil_append, List.cons_append, List.append_nil, Nat.reduceSub, Nat.reduceAdd, setsD, zeros, stt, setsO, setsJ, List.foldl_cons, List.foldl_nil, List.set_cons_zero, List.set_cons_succ, demote]
      refine ⟨_, _, _, _, _, _, rfl, ?_, ?_, ?_⟩
      · rw [take_snoc hl, wsum_snoc, kp_snoc, Int.pow_add]
        have pw : ∀ j : Nat, v.num ^ j * 3 ^ j = tl w c l.1 ^ j * (v.den : Int) ^ j := fun j => by
          induction j with
          | zero => simp
          | succ j ih =>
            rw [Int.pow_succ, Int.pow_succ, Int.pow_succ, Int.pow_succ]
            calc v.num ^ j * v.num * (3 ^ j * 3) = (v.num ^ j * 3 ^ j) * (3 * v.num) := by grind
              _ = _ := by rw [ih, v1]; grind
        calc top * v.num ^ l.2 * (3 ^ wsum (L.take k) * 3 ^ l.2) = (top * 3 ^ wsum (L.take k)) * (v.num ^ l.2 * 3 ^ l.2) := by grind
          _ = _ := by rw [h1, pw]; grind
      · exact Int.mul_pos h2 (Int.pow_pos (den_pos v))
      · rw [take_snoc hl, wsum_snoc, Int.pow_add]
        have pd : ∀ j : Nat, (v.den : Int) ^ j ≤ 3 ^ j ∧ 0 ≤ (v.den : Int) ^ j := fun j => by
          induction j with
          | zero => simp
          | succ j ih =>
            rw [Int.pow_succ, Int.pow_succ]
            have := den_pos v
            exact ⟨Int.mul_le_mul ih.1 (by omega) (by omega) (by have : (0 : Int) < 3 ^ j := Int.pow_pos (by decide); omega), Int.mul_nonneg ih.2 (by omega)⟩
        exact Int.mul_le_mul h3 (pd l.2).1 (pd l.2).2 (by have : (0 : Int) < 3 ^ wsum (L.take k) := Int.pow_pos (by decide); omega)
  · rintro _ ⟨top, under, x8, x9, x10, x11, rfl, h1, h2, h3⟩
    rw [List.take_of_length_le (by simp)] at h1 h3
    exact wp_ret (eTup_2 rfl rfl) ⟨top, under, rfl, h1, h2, h3⟩
end Lib
end

section
set_option Elab.async false
set_option linter.all false
set_option maxRecDepth 10000
/-! k12, part f: the best cover. -/
namespace Lib
open DS PySem
theorem cv00 : cv (0, 0) = .tuple [.tuple [.int 0, .int 1], .int 0] := by
  have : cvq (0, 0) = 0 := by decide +kernel
  unfold cv
  rw [this]
  rfl
theorem key_lt {t1 u1 t2 u2 T k1 k2 : Int} (hT : 0 < T) (h1 : t1 * T = k1 * u1) (h2 : t2 * T = k2 * u2) (p1 : 0 < u1) (p2 : 0 < u2) : t2 * u1 < t1 * u2 ↔ k2 < k1 := by
  have e1 : t2 * u1 * T = k2 * (u1 * u2) := by
    calc t2 * u1 * T = (t2 * T) * u1 := by grind
      _ = _ := by rw [h2]; grind
  have e2 : t1 * u2 * T = k1 * (u1 * u2) := by
    calc t1 * u2 * T = (t1 * T) * u2 := by grind
      _ = _ := by rw [h1]; grind
  have pu : 0 < u1 * u2 := Int.mul_pos p1 p2
  constructor
  · intro h
    have := Int.mul_lt_mul_of_pos_right h hT
    rw [e1, e2] at this
    exact Int.lt_of_mul_lt_mul_right this (by omega)
  · intro h
    have := Int.mul_lt_mul_of_pos_right h pu
    rw [← e1, ← e2] at this
    exact Int.lt_of_mul_lt_mul_right this (by omega)
/-- the keys of no cover, and of each -/
def kys (w : Int) (L : List Ls) (cs : List Cv) : List Int := ((0, 0) :: cs).map fun c => kp12 w c L
theorem kys_snoc (w : Int) (L : List Ls) (cs : List Cv) (c : Cv) : kys w L (cs ++ [c]) = kys w L cs ++ [kp12 w c L] := by simp [kys]
theorem kys_len (w : Int) (L : List Ls) (cs : List Cv) : (kys w L cs).length = cs.length + 1 := by simp [kys]
theorem best_ok {w : Int} {L : List Ls} {cs : List Cv} (hw : 0 ≤ w ∧ w ≤ 1000) (hc : ∀ c ∈ cs, c.1 < 4 ∧ c.2 ≤ 1000) (hL : ∀ l ∈ L, l.1 ≤ 1000 ∧ l.2 ≤ 1000) (hW : wsum L ≤ 30) (lt : D) (hs : seqOf lt = some (L.map ls)) :
    ∃ d, den_best_insure [lt, .int w, .tuple (cs.map cv)] = some d ∧ ∃ i : Nat, d = .int ((i : Int) - 1) ∧ FMax (kys w L cs) i := by
  have cov := fun c (h : c.1 < 4 ∧ c.2 ≤ 1000) => cover_ok (c := c) hw h hL lt hs
  have T0 : (0 : Int) < 3 ^ wsum L := Int.pow_pos (by decide)
  have T1 : (3 : Int) ^ wsum L ≤ 205891132094649 := by
    have t := Nat.pow_le_pow_right (show 0 < 3 by decide) hW
    have e : (3 : Nat) ^ 30 = 205891132094649 := by decide +kernel
    rw [e] at t
    have q : ((3 ^ wsum L : Nat) : Int) ≤ 205891132094649 := by omega
    rw [Int.natCast_pow] at q
    exact q
  refine dfun_wpE rfl ?_
  simp only [List.map_cons, List.map_nil, List.replicate_succ, List.replicate_zero, List.nil_append, List.cons_append, List.append_nil, Nat.reduceSub, Nat.reduceAdd, setsD, zeros, stt, setsO, setsJ, List.foldl_cons, List.foldl_nil, List.set_cons_zero, List.set_cons_succ, demote]
  obtain ⟨d0, h0, t0, u0, rfl, a0, b0, c0⟩ := cov (0, 0) (by decide)
  rw [cv00] at h0
  refine wp_seq (wp_set (d := .tuple [.tuple [.int t0, .int u0], .int (-1)]) ?_ rfl ?_)
  · refine eTup_2 ?_ rfl
    rw [eCall_3]
    rw [eTup_2 (x := .tuple [.int 0, .int 1]) (y := .int 0) (eTup_2 rfl rfl) rfl]
    simp only [eVar_0, eVar_s, o1_s]
    exact h0
  simp only [List.map_cons, List.map_nil, List.replicate_succ, List.replicate_zero, List.nil_append, List.cons_append, List.append_nil, Nat.reduceSub, Nat.reduceAdd, setsD, zeros, stt, setsO, setsJ, List.foldl_cons, List.foldl_nil, List.set_cons_zero, List.set_cons_succ, demote]
  refine wp_seq ?_
  refine wp_for (ds := (List.range cs.length).map fun k => .tuple [nat k, cv (cs.getD k (0, 0))]) (P := fun k s => ∃ top under i x4 x5 x6, s = ([some lt, some (.int w), some (.tuple (cs.map cv)), some (.tuple [.tuple [.int top, .int under], .int ((i : Nat) - 1)]), x4, x5, x6], [0, 0, 0, 0, 0, 0, 0]) ∧ ∃ hm : FMax (kys w L (cs.take k)) i, top * 3 ^ wsum L = (kys w L (cs.take k))[i]'hm.lt * under ∧ 0 < under ∧ under ≤ 3 ^ wsum L) ?_
    ⟨t0, u0, 0, none, none, none, rfl, FMax.zero _, a0, b0, c0⟩ ?_ ?_
  · unfold iEnumD
    simp only [eVar_0, eVar_s, o1_s, seqOf_t]
    rw [enum_map cv cs (0, 0)]
  · rintro k d _ hdk ⟨top, under, i, x4, x5, x6, rfl, hm, h1, h2, h3⟩
    rw [List.getElem?_map] at hdk
    obtain ⟨k', hk, rfl⟩ := Option.map_eq_some_iff.mp hdk
    obtain ⟨hlt, e⟩ := List.getElem?_eq_some_iff.mp hk
    rw [List.getElem_range] at e
    subst e
    have hk : k < cs.length := by simpa using hlt
    have hg : cs[k]? = some cs[k] := List.getElem?_eq_getElem hk
    have eg : cs.getD k (0, 0) = cs[k] := by rw [List.getD_eq_getElem?_getD, hg]; rfl
    refine ⟨[(4, nat k), (5, cv (cs.getD k (0, 0)))], rfl, ?_⟩
    rw [eg]
    simp only [List.map_cons, List.map_nil, List.replicate_succ, List.replicate_zero, List.nil_append, List.cons_append, List.append_nil, Nat.reduceSub, Nat.reduceAdd, setsD, zeros, stt, setsO, setsJ, List.foldl_cons, List.foldl_nil, List.set_cons_zero, List.set_cons_succ, demote]
    obtain ⟨d1, g0, t1, u1, rfl, a1, b1, c1⟩ := cov cs[k] (hc _ (List.getElem_mem hk))
    refine wp_seq (wp_set (d := .tuple [.int t1, .int u1]) (by (first | rfl | (simp only [eOp_a, eUn_a, eCB_a, aCons_a, aNil_a, eIx_a, eC_a, eVar_0, eVar_s, o2_ss, o1_s, d1_1, d2_2, eB_a, tCmp_a, tTru_a, tNotD_a, tIsND_a, tNotND_a, eIsN_a, eNotN_a, tTrue_a, iSeq_a, seqOf_l, seqOf_t, dAdd_i, dAddI_i, dSub_i, dNeg_i, dLt_i, dLe_i, dGt_i, dGe_i, dEq_i, dNe_i, dTru_b, dTru_i, dTru_l, dTru_t, dTru_n, isNon_n, isNon_b, isNon_i, isNon_s, isNon_l, isNon_t, dLen_l, dLen_t, dInt_i, dInt_b, dTuple_l, dTuple_t, dList_l, dList_t, eCall_1, eCall_2, eCall_3, eCall_4, eCall_5, eCall_6, eCall_7, g0] <;> rfl))) rfl ?_)
    simp only [List.map_cons, List.map_nil, List.replicate_succ, List.replicate_zero, List.nil_append, List.cons_append, List.append_nil, Nat.reduceSub, Nat.reduceAdd, setsD, zeros, stt, setsO, setsJ, List.foldl_cons, List.foldl_nil, List.set_cons_zero, List.set_cons_succ, demote]
    have m1 : under.natAbs < 18446744073709551616 := by omega
    have m2 : u1.natAbs < 18446744073709551616 := by omega
    have ht : tCmp dGt (eOp dMul (eIx (eVar 6) (eC (.int 0))) (eIx (eIx (eVar 3) (eC (.int 0))) (eC (.int 1)))) (eOp dMul (eIx (eIx (eVar 3) (eC (.int 0))) (eC (.int 0))) (eIx (eVar 6) (eC (.int 1)))) [some lt, some (.int w), some (.tuple (cs.map cv)), some (.tuple [.tuple [.int top, .int under], .int ((i : Int) - 1)]), some (nat k), some (cv cs[k]), some (.tuple [.int t1, .int u1])] = some (decide (top * u1 < t1 * under)) := by
      have q0 : ∀ x y : D, dIx (.tuple [x, y]) (.int 0) = some x := fun x y => atI_0
      have q1 : ∀ x y : D, dIx (.tuple [x, y]) (.int 1) = some y := fun x y => atI_1
      simp only [tCmp_a, eOp_a, eIx_a, eVar_0, eVar_s, eC_a, o2_ss, q0, q1, dMul_s m1, dMul_s m2, dGt_i]
    have key := key_lt (k1 := kp12 w cs[k] L) (k2 := (kys w L (cs.take k))[i]'hm.lt) T0 a1 h1 b1 h2
    have et : kys w L (cs.take (k + 1)) = kys w L (cs.take k) ++ [kp12 w cs[k] L] := by rw [take_snoc hg, kys_snoc]
    have ln : (kys w L (cs.take k)).length = k + 1 := by rw [kys_len, List.length_take]; omega
    have mo := hm.more (y := kp12 w cs[k] L)
    refine wp_if ht (fun hb => ?_) fun hb => ?_
    · have hb := of_decide_eq_true hb
      rw [if_pos (key.mp hb), ln] at mo
      refine wp_set (d := .tuple [.tuple [.int t1, .int u1], nat k]) (eTup_2 rfl rfl) rfl ?_
      simp only [List.map_cons, List.map_nil, List.replicate_succ, List.replicate_zero, List.nil_append, List.cons_append, List.append_nil, Nat.reduceSub, Nat.reduceAdd, setsD, zeros, stt, setsO, setsJ, List.foldl_cons, List.foldl_nil, List.set_cons_zero, List.set_cons_succ, demote]
      have ek : nat k = .int (((k + 1 : Nat) : Int) - 1) := by
        show PyData.int _ = _
        congr 1
        omega
      rw [ek]
      rw [← et] at mo
      refine ⟨t1, u1, k + 1, _, _, _, rfl, mo, ?_, b1, c1⟩
      rw [a1]
      congr 1
      simp only [et]
      rw [List.getElem_append_right (by omega)]
      simp [ln]
    · have hb := of_decide_eq_false hb
      rw [if_neg (fun q => hb (key.mpr q))] at mo
      rw [← et] at mo
      refine wp_nil ⟨top, under, i, _, _, _, rfl, mo, ?_, h2, h3⟩
      rw [h1]
      congr 1
      simp only [et]
      rw [List.getElem_append_left hm.lt]
  · rintro _ ⟨top, under, i, x4, x5, x6, rfl, hm, h1, h2, h3⟩
    rw [List.length_map, List.length_range, List.take_length] at hm
    exact wp_ret (by
      simp only [eIx_a, eVar_0, eVar_s, eC_a, o2_ss]
      exact atI_1) ⟨i, rfl, hm⟩
end Lib
end

section
set_option Elab.async false
set_option linter.all false
set_option maxRecDepth 10000
/-! k12, part g: the law of covers. -/
namespace Lib
open DS PySem
def mdN (x : Int) (q : Nat) : Nat := (x % (q : Int)).toNat
theorem mdN_ok {x : Int} {q : Nat} (h : 0 < q) : x % (q : Int) = (mdN x q : Int) ∧ mdN x q < q := by
  have a1 := Int.emod_nonneg x (show (q : Int) ≠ 0 by omega)
  have a2 := Int.emod_lt_of_pos x (show (0 : Int) < q by omega)
  unfold mdN
  omega
abbrev rowD (r : Nat → Int) (n : Nat) : D := .list ((List.range n).map fun k => .int (r k))
theorem ix_row {r : Nat → Int} {n k : Nat} (h : k < n) : dIx (rowD r n) (.int k) = some (.int (r k)) := map_ix (g := fun k => (.int (r k) : D)) h
theorem cvs_flat : ∀ l : List Cv, flats (l.map cv) = true
  | [] => rfl
  | l :: E => by rw [List.map_cons]; unfold flats; rw [cvs_flat E]; rfl
theorem lss_flat : ∀ l : List Ls, flats (l.map ls) = true
  | [] => rfl
  | l :: E => by rw [List.map_cons]; unfold flats; rw [lss_flat E]; rfl
theorem fdiv_cut {w l : Int} {c : Cv} (h : c.1 < 4) : l * 3 * ((cvq c).den - (cvq c).num) / (cvq c).den = l * (3 - c.1) := by
  obtain ⟨hd, hn⟩ := cvq_den h
  generalize (cvq c).den = b at hd hn ⊢
  generalize (cvq c).num = a at hn ⊢
  have hb : (b : Int) ≠ 0 := by omega
  refine Int.ediv_eq_of_eq_mul_left hb ?_
  rcases hd with rfl | rfl
  · have : (c.1 : Int) = 3 * a := by simpa using hn.symm
    rw [this]
    push_cast
    grind
  · have : (c.1 : Int) = a := by push_cast at hn; omega
    rw [this]
    push_cast
    grind
theorem insure_ok (r : Nat → Int) : den__law_insure [rowD r 40] = some (.bool true) := by
  have ix : ∀ k : Nat, k < 40 → dIx (rowD r 40) (.int k) = some (.int (r k)) := fun k h => ix_row h
  have ixp : ∀ b j : Nat, b + j < 40 → dIx (rowD r 40) (.int ((b : Int) + j)) = some (.int (r (b + j))) := fun b j h => by
    have := ix (b + j) h
    rw [Int.natCast_add] at this
    exact this
  refine dfun_wp rfl ?_
  simp only [List.map_cons, List.map_nil, List.replicate_succ, List.replicate_zero, List.nil_append, List.cons_append, List.append_nil, Nat.reduceSub, Nat.reduceAdd, setsD, zeros, stt, setsO, setsJ, List.foldl_cons, List.foldl_nil, List.set_cons_zero, List.set_cons_succ, demote]
  obtain ⟨e29, b29⟩ := mdN_ok (x := r 29) (q := 3) (by decide)
  obtain ⟨e33, b33⟩ := mdN_ok (x := r 33) (q := 20) (by decide)
  obtain ⟨e34, b34⟩ := mdN_ok (x := r 34) (q := 4) (by decide)
  have ix29 : dIx (rowD r 40) (.int 29) = some (.int (r 29)) := ix 29 (by decide)
  have ix33 : dIx (rowD r 40) (.int 33) = some (.int (r 33)) := ix 33 (by decide)
  have ix34 : dIx (rowD r 40) (.int 34) = some (.int (r 34)) := ix 34 (by decide)
  obtain ⟨L, hL⟩ : ∃ L : List Ls, L = (List.range (1 + mdN (r 29) 3)).map fun j => (mdN (r (30 + j)) 20, 1 + mdN (r (30 + j) / 20) 3) := ⟨_, rfl⟩
  obtain ⟨cs, hcs⟩ : ∃ cs : List Cv, cs = (List.range (mdN (r 34) 4)).map fun j => (mdN (r (35 + j)) 4, mdN (r (35 + j) / 4) 20) := ⟨_, rfl⟩
  have Lb : ∀ l ∈ L, l.1 ≤ 1000 ∧ l.2 ≤ 1000 ∧ l.2 ≤ 3 := fun l hl => by
    rw [hL] at hl
    obtain ⟨j, _, rfl⟩ := List.mem_map.mp hl
    have h1 := (mdN_ok (x := r (30 + j)) (q := 20) (by decide)).2
    have h2 := (mdN_ok (x := r (30 + j) / 20) (q := 3) (by decide)).2
    dsimp only
    omega
  have Ll : L.length ≤ 3 := by rw [hL]; simp; omega
  have Lw : wsum L ≤ 30 := by
    have : ∀ l : List Ls, (∀ x ∈ l, x.2 ≤ 3) → wsum l ≤ 3 * l.length := fun l => by
      induction l with
      | nil => intro _; simp [wsum]
      | cons a l ih =>
        intro h
        have h1 := ih fun x hx => h x (.tail _ hx)
        have h2 := h a (.head _)
        simp only [wsum, List.map_cons, List.sum_cons, List.length_cons] at h1 ⊢
        omega
    have := this L fun x hx => (Lb x hx).2.2
    omega
  have Cb : ∀ c ∈ cs, c.1 < 4 ∧ c.2 ≤ 1000 := fun c hc => by
    rw [hcs] at hc
    obtain ⟨j, _, rfl⟩ := List.mem_map.mp hc
    have h1 := (mdN_ok (x := r (35 + j)) (q := 4) (by decide)).2
    have h2 := (mdN_ok (x := r (35 + j) / 4) (q := 20) (by decide)).2
    dsimp only
    omega
  have Cl_ : cs.length ≤ 4 := by rw [hcs]; simp; omega
  refine wp_seq (wp_set (d := .tuple (L.map ls)) (tup_of ?_) (by simp only [flat, lss_flat]) ?_)
  · rw [hL, List.map_map]
    refine eLc_of nat _ (l := List.range (1 + mdN (r 29) 3)) (range1_nat ?_ (by omega)) (by rw [List.length_range]; omega) fun j hj => ⟨[(12, nat j)], rfl, ?_⟩
    · simp only [eOp_a, eCB_a, aCons_a, aNil_a, eIx_a, eC_a, eVar_0, eVar_s, o2_ss, o1_s, d1_1, ix29, dInt_i, dMod_i (show (0 : Int) < 3 by decide), dAdd_i]
      have e : r 29 % 3 = (mdN (r 29) 3 : Int) := e29
      rw [e]
      rfl
    · have hj := List.mem_range.mp hj
      have i30 : dIx (rowD r 40) (.int (30 + (j : Int))) = _ := ixp 30 j (by omega)
      have m1 : r (30 + j) % 20 = (mdN (r (30 + j)) 20 : Int) := (mdN_ok (q := 20) (by decide)).1
      have m2 : r (30 + j) / 20 % 3 = (mdN (r (30 + j) / 20) 3 : Int) := (mdN_ok (q := 3) (by decide)).1
      simp only [setsD, wipeD, List.foldl_cons, List.foldl_nil, List.set_cons_zero, List.set_cons_succ]
      refine eTup_2 ?_ ?_
      · simp only [nat, eOp_a, eCB_a, aCons_a, aNil_a, eIx_a, eC_a, eVar_0, eVar_s, o2_ss, o1_s, d1_1, dAdd_i, i30, dInt_i, dMod_i (show (0 : Int) < 20 by decide), m1]
      · simp only [nat, eOp_a, eCB_a, aCons_a, aNil_a, eIx_a, eC_a, eVar_0, eVar_s, o2_ss, o1_s, d1_1, dAdd_i, i30, dInt_i, dFdiv_i (show fdivOk 20 = true by decide), dMod_i (show (0 : Int) < 3 by decide), m2]
        rfl
  simp only [List.map_cons, List.map_nil, List.replicate_succ, List.replicate_zero, List.nil_append, List.cons_append, List.append_nil, Nat.reduceSub, Nat.reduceAdd, setsD, zeros, stt, setsO, setsJ, List.foldl_cons, List.foldl_nil, List.set_cons_zero, List.set_cons_succ, demote]
  obtain ⟨w, hw⟩ : ∃ w : Int, w = 41 + (mdN (r 33) 20 : Int) := ⟨_, rfl⟩
  refine wp_seq (wp_set (d := .int w) ?_ rfl ?_)
  · simp only [eOp_a, eCB_a, aCons_a, aNil_a, eIx_a, eC_a, eVar_0, eVar_s, o2_ss, o1_s, d1_1, ix33, dInt_i, dMod_i (show (0 : Int) < 20 by decide), dAdd_i]
    have e : r 33 % 20 = (mdN (r 33) 20 : Int) := e33
    rw [e, hw]
  simp only [List.map_cons, List.map_nil, List.replicate_succ, List.replicate_zero, List.nil_append, List.cons_append, List.append_nil, Nat.reduceSub, Nat.reduceAdd, setsD, zeros, stt, setsO, setsJ, List.foldl_cons, List.foldl_nil, List.set_cons_zero, List.set_cons_succ, demote]
  refine wp_seq (wp_set (d := .tuple (cs.map cv)) (tup_of ?_) (by simp only [flat, cvs_flat]) ?_)
  · rw [hcs, List.map_map]
    refine eLc_of nat _ (l := List.range (mdN (r 34) 4)) (range1_nat ?_ (by omega)) (by rw [List.length_range]; omega) fun j hj => ⟨[(12, nat j)], rfl, ?_⟩
    · simp only [eOp_a, eCB_a, aCons_a, aNil_a, eIx_a, eC_a, eVar_0, eVar_s, o2_ss, o1_s, d1_1, ix34, dInt_i, dMod_i (show (0 : Int) < 4 by decide), dAdd_i]
      have e : r 34 % 4 = (mdN (r 34) 4 : Int) := e34
      rw [e]
    · have hj := List.mem_range.mp hj
      have i35 : dIx (rowD r 40) (.int (35 + (j : Int))) = _ := ixp 35 j (by omega)
      have m1 : r (35 + j) % 4 = (mdN (r (35 + j)) 4 : Int) := (mdN_ok (q := 4) (by decide)).1
      have m2 : r (35 + j) / 4 % 20 = (mdN (r (35 + j) / 4) 20 : Int) := (mdN_ok (q := 20) (by decide)).1
      have ra := ratio_ok (a := (mdN (r (35 + j)) 4 : Int)) (b := 3) (k := 2) (by decide) (by decide) (by decide)
      simp only [setsD, wipeD, List.foldl_cons, List.foldl_nil, List.set_cons_zero, List.set_cons_succ]
      refine eTup_2 ?_ ?_
      · simp only [nat, eOp_a, eCB_a, aCons_a, aNil_a, eIx_a, eC_a, eVar_0, eVar_s, o2_ss, o1_s, d1_1, dAdd_i, i35, dInt_i, dMod_i (show (0 : Int) < 4 by decide), m1, eCall_2, ra]
        rfl
      · simp only [nat, eOp_a, eCB_a, aCons_a, aNil_a, eIx_a, eC_a, eVar_0, eVar_s, o2_ss, o1_s, d1_1, dAdd_i, i35, dInt_i, dFdiv_i (show fdivOk 4 = true by decide), dMod_i (show (0 : Int) < 20 by decide), m2]
  simp only [List.map_cons, List.map_nil, List.replicate_succ, List.replicate_zero, List.nil_append, List.cons_append, List.append_nil, Nat.reduceSub, Nat.reduceAdd, setsD, zeros, stt, setsO, setsJ, List.foldl_cons, List.foldl_nil, List.set_cons_zero, List.set_cons_succ, demote]
  have wb : 0 ≤ w ∧ w ≤ 1000 := by omega
  have bo := best_ok (w := w) (L := L) (cs := cs) wb Cb (fun l hl => ⟨(Lb l hl).1, (Lb l hl).2.1⟩) Lw (.tuple (L.map ls)) rfl
  clear hL hcs hw ix ixp ix29 ix33 ix34 e29 e33 e34
  refine wp_seq (wp_setD (d := .list []) rfl rfl ?_)
  simp only [List.map_cons, List.map_nil, List.replicate_succ, List.replicate_zero, List.nil_append, List.cons_append, List.append_nil, Nat.reduceSub, Nat.reduceAdd, setsD, zeros, stt, setsO, setsJ, List.foldl_cons, List.foldl_nil, List.set_cons_zero, List.set_cons_succ, demote]
  refine wp_seq ?_
  refine wp_for (ds := ((0, 0) :: cs).map cv) (P := fun k s => ∃ x5 x6 x7 x8 x9 x10 x11 x12, s = ([some (rowD r 40), some (.tuple (L.map ls)), some (.int w), some (.tuple (cs.map cv)), some (.list (((kys w L cs).take k).map PyData.int)), x5, x6, x7, x8, x9, x10, x11, x12], [0, 0, 0, 0, 1, 0, 0, 0, 0, 0, 0, 0, 0])) ?_ ⟨none, none, none, none, none, none, none, none, rfl⟩ ?_ ?_
  · rw [List.map_cons, cv00]
    unfold iSeq
    rw [eOp_a, eTup_1 (eTup_2 (eTup_2 rfl rfl) rfl)]
    simp only [eVar_0, eVar_s, o2_ss]
    rw [dAdd_tt (by simp; omega), o1_s, seqOf_t]
    rfl
  · rintro k d _ hdk ⟨x5, x6, x7, x8, x9, x10, x11, x12, rfl⟩
    rw [List.getElem?_map] at hdk
    obtain ⟨c, hk, rfl⟩ := Option.map_eq_some_iff.mp hdk
    have hc4 : c.1 < 4 ∧ c.2 ≤ 1000 := by
      rcases List.mem_cons.mp (List.mem_of_getElem? hk) with h | h
      · rw [h]; decide
      · exact Cb c h
    have hkl := (List.getElem?_eq_some_iff.mp hk).1
    refine ⟨[(5, .int (cvq c).num), (6, .int (cvq c).den), (7, nat c.2)], rfl, ?_⟩
    simp only [List.map_cons, List.map_nil, List.replicate_succ, List.replicate_zero, List.nil_append, List.cons_append, List.append_nil, Nat.reduceSub, Nat.reduceAdd, setsD, zeros, stt, setsO, setsJ, List.foldl_cons, List.foldl_nil, List.set_cons_zero, List.set_cons_succ, demote]
    refine wp_seq (wp_set (d := .int 1) rfl rfl ?_)
    simp only [List.map_cons, List.map_nil, List.replicate_succ, List.replicate_zero, List.nil_append, List.cons_append, List.append_nil, Nat.reduceSub, Nat.reduceAdd, setsD, zeros, stt, setsO, setsJ, List.foldl_cons, List.foldl_nil, List.set_cons_zero, List.set_cons_succ, demote]
    refine wp_seq ?_
    refine wp_forL (l := L) (h := ls) [9, 10, 11] (fun j => [(8, .int (kp12 w c (L.take j)))]) (by (first | rfl | (simp only [eOp_a, eUn_a, eCB_a, aCons_a, aNil_a, eIx_a, eC_a, eVar_0, eVar_s, o2_ss, o1_s, d1_1, d2_2, eB_a, tCmp_a, tTru_a, tNotD_a, tIsND_a, tNotND_a, eIsN_a, eNotN_a, tTrue_a, iSeq_a, seqOf_l, seqOf_t, dAdd_i, dAddI_i, dSub_i, dNeg_i, dLt_i, dLe_i, dGt_i, dGe_i, dEq_i, dNe_i, dTru_b, dTru_i, dTru_l, dTru_t, dTru_n, isNon_n, isNon_b, isNon_i, isNon_s, isNon_l, isNon_t, dLen_l, dLen_t, dInt_i, dInt_b, dTuple_l, dTuple_t, dList_l, dList_t, eCall_1, eCall_2, eCall_3, eCall_4, eCall_5, eCall_6, eCall_7] <;> rfl))) (fun p hp => ?_) (fun j l xs hl => ?_) fun xs => ?_
    · simp only [List.mem_singleton] at hp
      subst hp
      rfl
    · refine ⟨[(9, nat l.1), (10, nat l.2)], rfl, ?_⟩
      have hlb := Lb l (List.mem_of_getElem? hl)
      simp only [List.map_cons, List.map_nil, List.replicate_succ, List.replicate_zero, List.nil_append, List.cons_append, List.append_nil, Nat.reduceSub, Nat.reduceAdd, setsD, zeros, stt, setsO, setsJ, List.foldl_cons, List.foldl_nil, List.set_cons_zero, List.set_cons_succ, demote]
      refine wp_forN (n := l.2) [11] (fun i => [(8, .int (kp12 w c (L.take j) * tl w c l.1 ^ i))]) rfl (by omega) (fun p hp => ?_) (fun i ys hi => ?_) fun ys => ?_
      · simp only [List.mem_singleton] at hp
        subst hp
        simp
      · simp only [List.map_cons, List.map_nil, List.replicate_succ, List.replicate_zero, List.nil_append, List.cons_append, List.append_nil, Nat.reduceSub, Nat.reduceAdd, setsD, zeros, stt, setsO, setsJ, List.foldl_cons, List.foldl_nil, List.set_cons_zero, List.set_cons_succ, demote]
        obtain ⟨hd, hn⟩ := cvq_den hc4.1
        have f1 : fdivOk ((cvq c).den : Int) = true := by rcases hd with h | h <;> rw [h] <;> decide
        have tb : (tl w c l.1).natAbs < 18446744073709551616 := by
          unfold tl
          have e2 : ((l.1 : Int) * (3 - c.1)).natAbs ≤ 1000 * 3 := by
            rw [Int.natAbs_mul]
            exact Nat.mul_le_mul (by omega) (by omega)
          omega
        have m3 : mulOk (w - c.2) 3 = true := mulOk_r (by decide)
        have m4 : mulOk (l.1 : Int) 3 = true := mulOk_r (by decide)
        have m5 : mulOk ((l.1 : Int) * 3) ((cvq c).den - (cvq c).num) = true := mulOk_r (by
          have := hc4.1
          rcases hd with h | h <;> rw [h] at hn ⊢ <;> omega)
        have fc := fdiv_cut (w := w) (l := (l.1 : Int)) hc4.1
        refine wp_set (d := .int (kp12 w c (L.take j) * tl w c l.1 ^ (i + 1))) ?_ rfl ?_
        · have e : kp12 w c (L.take j) * tl w c l.1 ^ (i + 1) = kp12 w c (L.take j) * tl w c l.1 ^ i * tl w c l.1 := by rw [Int.pow_succ]; grind
          rw [e]
          simp only [nat, eOp_a, eC_a, eVar_0, eVar_s, o2_ss, dSub_i, dMul_i m3, dMul_i m4, dMul_i m5, dFdiv_i f1, fc]
          exact dMul_s tb
        · simp only [List.map_cons, List.map_nil, List.replicate_succ, List.replicate_zero, List.nil_append, List.cons_append, List.append_nil, Nat.reduceSub, Nat.reduceAdd, setsD, zeros, stt, setsO, setsJ, List.foldl_cons, List.foldl_nil, List.set_cons_zero, List.set_cons_succ, demote]
          exact cl rfl
      · simp only [List.map_cons, List.map_nil, List.replicate_succ, List.replicate_zero, List.nil_append, List.cons_append, List.append_nil, Nat.reduceSub, Nat.reduceAdd, setsD, zeros, stt, setsO, setsJ, List.foldl_cons, List.foldl_nil, List.set_cons_zero, List.set_cons_succ, demote]
        rw [show kp12 w c (L.take (j + 1)) = kp12 w c (L.take j) * tl w c l.1 ^ l.2 by rw [take_snoc hl, kp_snoc]]
        exact cl rfl
    · simp only [List.map_cons, List.map_nil, List.replicate_succ, List.replicate_zero, List.nil_append, List.cons_append, List.append_nil, Nat.reduceSub, Nat.reduceAdd, setsD, zeros, stt, setsO, setsJ, List.foldl_cons, List.foldl_nil, List.set_cons_zero, List.set_cons_succ, demote]
      rw [List.take_length]
      have e : (kys w L cs)[k]? = some (kp12 w c L) := by
        unfold kys
        rw [List.getElem?_map, hk]
        rfl
      refine wp_app (d := .int (kp12 w c L)) (ds := ((kys w L cs).take k).map PyData.int) rfl rfl rfl (by
        have := kys_len w L cs
        rw [List.length_map, List.length_take]
        omega) rfl ?_
      simp only [List.map_cons, List.map_nil, List.replicate_succ, List.replicate_zero, List.nil_append, List.cons_append, List.append_nil, Nat.reduceSub, Nat.reduceAdd, setsD, zeros, stt, setsO, setsJ, List.foldl_cons, List.foldl_nil, List.set_cons_zero, List.set_cons_succ, demote]
      have e2 : ((kys w L cs).take k).map PyData.int ++ [.int (kp12 w c L)] = ((kys w L cs).take (k + 1)).map PyData.int := by
        rw [take_snoc e, List.map_append]
        rfl
      rw [e2]
      exact ⟨_, _, _, _, _, _, _, _, rfl⟩
  · rintro _ ⟨x5, x6, x7, x8, x9, x10, x11, x12, rfl⟩
    have e3 : (kys w L cs).take (((0, 0) :: cs).map cv).length = kys w L cs := List.take_of_length_le (by rw [kys_len]; simp)
    rw [e3]
    obtain ⟨d, hb, i, rfl, hm⟩ := bo
    obtain ⟨M, k1, k2⟩ := hm.index
    refine wp_ret (d := .bool true) ?_ rfl
    have li := like_ok 30 (.int ((i : Int) - 1)) rfl
    simp only [eCall_2, eCall_3, eOp_a, eCB_a, aCons_a, aNil_a, eVar_0, eVar_s, eC_a, o2_ss, o1_s, d1_1, k1, k2, hb, nat, dSub_i]
    exact li
end Lib
end

section
set_option Elab.async false
set_option linter.all false
set_option maxRecDepth 10000
/-! k12, part h: what the law needs. -/
namespace Lib
open DS PySem
theorem eqv_rt (p q : Rat) : PyData.eqv (rt p) (rt q) = decide (p = q) := by
  by_cases h : p = q
  · subst h
    simp [rt, PyData.eqv, PyData.eqvAll]
  · rw [decide_eq_false h]
    have : ¬ (p.num = q.num ∧ p.den = q.den) := fun ⟨a, b⟩ => h (Rat.ext a b)
    simp only [rt, PyData.eqv, PyData.eqvAll]
    by_cases a : p.num = q.num
    · have b : p.den ≠ q.den := fun b => this ⟨a, b⟩
      simp [a]
      omega
    · simp [a]
theorem dEq_rt (p q : Rat) : dEq (rt p) (rt q) = some (decide (p = q)) := by
  unfold dEq
  have hs : (SeqAt.shaped (rt p) && SeqAt.shaped (rt q)) = true := rfl
  rw [if_pos hs, eqv_rt]
theorem dNe_rt (p q : Rat) : dNe (rt p) (rt q) = some (!decide (p = q)) := by
  unfold dNe
  have hs : (SeqAt.shaped (rt p) && SeqAt.shaped (rt q)) = true := rfl
  rw [if_pos hs, eqv_rt]
theorem rat_sub_eq (p q : Rat) : p - q = Rat.divInt (p.num * q.den - q.num * p.den) (p.den * q.den) := by
  conv => lhs; rw [← Rat.num_divInt_den p, ← Rat.num_divInt_den q]
  exact Rat.divInt_sub_divInt _ _ (by have := den_pos p; omega) (by have := den_pos q; omega)
/-! the links that are not in s -/
def cpl (m : Nat) (s : List Nat) : List Nat := (List.range m).filter fun k => !s.contains k
theorem asc_of : ∀ {m i : Nat} {l : List Nat}, l.Pairwise (· < ·) → (∀ x ∈ l, i ≤ x ∧ x < m) → Asc i m l := by
  intro m i l p h
  exact ⟨p, h⟩
theorem cpl_in (m : Nat) (s : List Nat) : cpl m s ∈ aset m := by
  refine mem_aset.mpr (asc_of ((List.pairwise_lt_range (n := m)).filter _) fun x hx => ⟨Nat.zero_le _, ?_⟩)
  exact List.mem_range.mp (List.mem_filter.mp hx).1
theorem jn_iff {E : List Lk} {u v : Nat} {s : List Nat} : jn E u v s = true ↔ Conn (pick E s) u v := by
  unfold jn
  exact @decide_eq_true_iff _ (Classical.propDecidable _)
theorem wr1 : Sm 3 1 ∧ Sm 3 (1 - 1) := ⟨Sm.one (by omega), by decide +kernel, by decide +kernel⟩
theorem wr0 : Sm 3 0 ∧ Sm 3 (1 - 0) := ⟨Sm.zero (by omega), by decide +kernel, by decide +kernel⟩
theorem hits_cpl {E : List Lk} {u v : Nat} {s : List Nat} : hits ((aset E.length).filter (jn E u v)) s = !jn E u v (cpl E.length s) := by
  unfold hits
  congr 1
  rw [Bool.eq_iff_iff, List.any_eq_true]
  constructor
  · rintro ⟨way, hw, q⟩
    obtain ⟨h1, h2⟩ := List.mem_filter.mp hw
    refine jn_iff.mpr ((jn_iff.mp h2).mono fun l hl => ?_)
    obtain ⟨j, hj, rfl⟩ := List.mem_map.mp hl
    refine List.mem_map.mpr ⟨j, List.mem_filter.mpr ⟨List.mem_range.mpr ((asc_lt h1).1 j hj), ?_⟩, rfl⟩
    by_cases c : s.contains j = true
    · have : way.any (fun k => s.contains k) = true := List.any_eq_true.mpr ⟨j, hj, c⟩
      rw [this] at q
      exact absurd q (by decide)
    · simpa using c
  · intro h
    refine ⟨cpl E.length s, List.mem_filter.mpr ⟨cpl_in _ _, h⟩, ?_⟩
    rw [Bool.not_eq_true', List.any_eq_false]
    intro k hk
    have := (List.mem_filter.mp hk).2
    simpa using this
/-- the blocks -/
theorem blocks_eq {E : List Lk} {u v : Nat} : (aset E.length).filter (hits ((aset E.length).filter (jn E u v))) = (aset E.length).filter fun s => !jn E u v (cpl E.length s) := List.filter_congr fun s _ => hits_cpl
/-- each way meets each block -/
theorem meet {E : List Lk} {u v : Nat} {a b : List Nat} (ha : a ∈ mins ((aset E.length).filter (jn E u v))) (hb : b ∈ mins ((aset E.length).filter fun s => !jn E u v (cpl E.length s))) : b.any (fun k => a.contains k) = true := by
  rw [← blocks_eq] at hb
  have h1 := (List.mem_filter.mp ha).1
  have h2 := (List.mem_filter.mp (List.mem_filter.mp hb).1).2
  unfold hits at h2
  rw [Bool.not_eq_true', List.any_eq_false] at h2
  have h3 := h2 a h1
  rw [Bool.not_eq_true, Bool.not_eq_false', List.any_eq_true] at h3
  obtain ⟨k, hk, hc⟩ := h3
  exact List.any_eq_true.mpr ⟨k, by simpa using hc, by simpa using hk⟩
/-! numbers of sets -/
theorem cnt_snoc (J : List (List Nat)) (s : List Nat) (k : Nat) : cnt (J ++ [s]) k = cnt J k + (if s.length = k then 1 else 0) := by
  unfold cnt
  rw [List.countP_append]
  by_cases h : s.length = k <;> simp [h]
theorem sum_zero (n : Nat) : ((List.range n).map fun _ => (0 : Int)).sum = 0 := by
  induction n with
  | zero => rfl
  | succ n ih => rw [List.range_succ, List.map_append, List.sum_append, ih]; rfl
theorem sum_one : ∀ (n a : Nat), ((List.range n).map fun k => (if a = k then (1 : Int) else 0)).sum = if a < n then 1 else 0
  | 0, a => by simp
  | n + 1, a => by
    rw [List.range_succ, List.map_append, List.sum_append, sum_one n a]
    simp only [List.map_cons, List.map_nil, List.sum_cons, List.sum_nil]
    by_cases h1 : a < n
    · rw [if_pos h1, if_neg (by omega), if_pos (by omega)]; rfl
    · by_cases h2 : a = n
      · rw [if_neg h1, if_pos h2, if_pos (by omega)]; rfl
      · rw [if_neg h1, if_neg h2, if_neg (by omega)]; rfl
theorem sum_addf (f g : Nat → Int) : ∀ n, ((List.range n).map fun k => f k + g k).sum = ((List.range n).map f).sum + ((List.range n).map g).sum
  | 0 => rfl
  | n + 1 => by
    rw [List.range_succ, List.map_append, List.map_append, List.map_append, List.sum_append, List.sum_append, List.sum_append, sum_addf f g n]
    simp only [List.map_cons, List.map_nil, List.sum_cons, List.sum_nil]
    omega
theorem cnt_sum (n : Nat) : ∀ J : List (List Nat), (∀ s ∈ J, s.length < n) → ((List.range n).map fun k => (cnt J k : Int)).sum = J.length
  | [], _ => by
    have : (fun k => ((cnt [] k : Nat) : Int)) = fun _ => 0 := by funext k; rfl
    rw [this, sum_zero]
    rfl
  | s :: J, h => by
    have e : ∀ k, ((cnt (s :: J) k : Nat) : Int) = (cnt J k : Int) + (if s.length = k then (1 : Int) else 0) := fun k => by
      unfold cnt
      rw [List.countP_cons]
      by_cases q : s.length = k <;> simp [q]
    have : (fun k => ((cnt (s :: J) k : Nat) : Int)) = fun k => (cnt J k : Int) + (if s.length = k then (1 : Int) else 0) := funext e
    rw [this, sum_addf, cnt_sum n J fun x hx => h x (.tail _ hx), sum_one, if_pos (h s (.head _))]
    simp
/-! weights in quarters -/
def W5 (E : List Lk) : Prop := ∀ l ∈ E, ∃ c : Nat, c < 5 ∧ l.2.2 = Rat.divInt c 4
theorem w5_all {w : Rat} (h : ∃ c : Nat, c < 5 ∧ w = Rat.divInt c 4) : (Sm 3 w ∧ Sm 3 (1 - w)) ∧ (1 - w).num = w.den - w.num ∧ (1 - w).den = w.den := by
  obtain ⟨c, hc, rfl⟩ := h
  have : c = 0 ∨ c = 1 ∨ c = 2 ∨ c = 3 ∨ c = 4 := by omega
  clear hc
  rcases this with rfl | rfl | rfl | rfl | rfl <;> exact ⟨⟨⟨by decide +kernel, by decide +kernel⟩, ⟨by decide +kernel, by decide +kernel⟩⟩, by decide +kernel, by decide +kernel⟩
theorem rt_cut {w : Rat} (h : ∃ c : Nat, c < 5 ∧ w = Rat.divInt c 4) : (.tuple [.int (w.den - w.num), .int w.den] : D) = rt (1 - w) := by
  obtain ⟨_, a, b⟩ := w5_all h
  unfold rt
  rw [a, b]
theorem W5.we {E : List Lk} (h : W5 E) : WE E := fun l hl => (w5_all (h l hl)).1
theorem W5.at {E : List Lk} (h : W5 E) {k : Nat} (hk : k < E.length) : ∃ c : Nat, c < 5 ∧ (E.getD k Lk0).2.2 = Rat.divInt c 4 := by
  rw [List.getD_eq_getElem?_getD, List.getElem?_eq_getElem hk]
  exact h _ (List.getElem_mem hk)
/-! what a link brings -/
section
variable {n : Nat} {E : List Lk} (he : Ends E n) (hn : n ≤ 1000) (hm : E.length ≤ 5) (hw : WE E)
include he hn hm hw
theorem filter_len5 (p : List Nat → Bool) : ((aset E.length).filter p).length ≤ 32 := by
  have h6 : 2 ^ E.length ≤ 2 ^ 5 := Nat.pow_le_pow_right (by omega) hm
  have al := aset_len E.length
  have := List.length_filter_le p (aset E.length)
  have : 2 ^ 5 = 32 := by decide
  omega
theorem cj_sm5 (u v : Nat) : Sm 1300 (cj E u v) := by
  have l := filter_len5 he hn hm hw (jn E u v)
  have := sumc_sm hw (by omega) ((aset E.length).filter (jn E u v)) (k := 32) (by omega)
  rw [List.take_of_length_le l] at this
  exact this.mono (by omega)
theorem weight_ok {u v k : Nat} (hu : u < n) (hk : k < E.length) : den_weight_of_link [net n E, nat u, nat v, nat k] = some (rt (cj (wset E k 1) u v - cj (wset E k 0) u v)) := by
  have j1 := joined_w (v := v) he hn (by omega) hw hu hk wr1
  have j0 := joined_w (v := v) he hn (by omega) hw hu hk wr0
  have s1 := cj_sm5 (n := n) (E := wset E k 1) (wset_ends he hk) hn (by rw [wset_len]; exact hm) (wset_we hw hk wr1) u v
  have s0 := cj_sm5 (n := n) (E := wset E k 0) (wset_ends he hk) hn (by rw [wset_len]; exact hm) (wset_we hw hk wr0) u v
  have w1 := with_weight_ok (n := n) (E := E) (w := 1) hk (by omega)
  have w0 := with_weight_ok (n := n) (E := E) (w := 0) hk (by omega)
  have mi := (minus_ok s1 s0 (by omega) (by omega) (by omega)).1
  have t1 : ∀ ρ : PEnv, eTup (aCons (eC (.int 1)) (aCons (eC (.int 1)) aNil)) ρ = some (rt 1) := fun ρ => eTup_2 rfl rfl
  have t0 : ∀ ρ : PEnv, eTup (aCons (eC (.int 0)) (aCons (eC (.int 1)) aNil)) ρ = some (rt 0) := fun ρ => eTup_2 rfl rfl
  refine dfun_wp rfl ?_
  simp only [List.map_cons, List.map_nil, List.replicate_succ, List.replicate_zero, List.nil_append, List.cons_append, List.append_nil, Nat.reduceSub, Nat.reduceAdd, setsD, zeros, stt, setsO, setsJ, List.foldl_cons, List.foldl_nil, List.set_cons_zero, List.set_cons_succ, demote]
  refine wp_ret (d := rt (cj (wset E k 1) u v - cj (wset E k 0) u v)) ?_ rfl
  simp only [eCall_2, eCall_3, eVar_0, eVar_s, t1, t0, w1, w0, j1, j0, o1_s, o2_ss]
  exact mi
end
theorem bold_ok (c : Nat) (h : c < 5) : den_bold_share [rt (Rat.divInt (6 + c) 10)] = some (rt (Rat.divInt (2 * (6 + c) - 10) 10)) := by
  have a : (2 * (Rat.divInt (6 + c : Int) 10).num - (Rat.divInt (6 + c : Int) 10).den).natAbs < 2 ^ 6 ∧ ((Rat.divInt (6 + c : Int) 10).den : Int).natAbs < 2 ^ 6 ∧ Rat.divInt (2 * (Rat.divInt (6 + c : Int) 10).num - (Rat.divInt (6 + c : Int) 10).den) (Rat.divInt (6 + c : Int) 10).den = Rat.divInt (2 * (6 + c) - 10) 10 := by
    have : c = 0 ∨ c = 1 ∨ c = 2 ∨ c = 3 ∨ c = 4 := by omega
    clear h
    rcases this with rfl | rfl | rfl | rfl | rfl <;> exact ⟨by decide +kernel, by decide +kernel, by decide +kernel⟩
  have lo := lowest_ok (a := 2 * (Rat.divInt (6 + c : Int) 10).num - (Rat.divInt (6 + c : Int) 10).den) (den_pos _) a.2.1 (by omega)
  rw [a.2.2] at lo
  have m2 : mulOk 2 (Rat.divInt (6 + c : Int) 10).num = true := mulOk_l (by decide)
  refine dfun_wp rfl ?_
  simp only [List.map_cons, List.map_nil, List.replicate_succ, List.replicate_zero, List.nil_append, List.cons_append, List.append_nil, Nat.reduceSub, Nat.reduceAdd, setsD, zeros, stt, setsO, setsJ, List.foldl_cons, List.foldl_nil, List.set_cons_zero, List.set_cons_succ, demote]
  refine wp_ret ?_ rfl
  simp only [eCall_2, eOp_a, eIx_a, eC_a, eVar_0, o2_ss, rt_0, rt_1, dMul_i m2, dSub_i]
  exact lo
/-! the least sets, anywhere -/
theorem eVar_set {i : Nat} {ρ : PEnv} {d : D} (h : i < ρ.length) : eVar i (ρ.set i (some d)) = some d := by
  unfold eVar
  rw [List.getElem?_set_self h]
theorem eVar_ne {i j : Nat} {ρ : PEnv} {x : Option D} (h : j ≠ i) : eVar i (ρ.set j x) = eVar i ρ := by
  unfold eVar
  rw [List.getElem?_set_ne h]
theorem least_test {J : List (List Nat)} {one : List Nat} {g o i k : Nat} (hJ : J.length ≤ 1000) (hl : ∀ s ∈ J, s.length ≤ 1000) {ρ : PEnv} (h0 : eVar g ρ = some (rl J)) (h1 : eVar o ρ = some (nt one)) (hi : i < ρ.length) (hk : k < ρ.length) (n1 : i ≠ o) (n2 : k ≠ o) (n3 : k ≠ i) :
    tNotD (tTru (eCB (d1 dAny) (aCons (eLc (iSeq (eVar g)) (.nm i) tTrue (eAndD (eB (tCmp dNe (eVar i) (eVar o))) (eCB (d1 dAll) (aCons (eLc (iSeq (eVar i)) (.nm k) tTrue (eB (tCmp dIn (eVar k) (eVar o))) [k]) aNil))) [i]) aNil))) ρ = some (isMin J one) := by
  refine tNot_b (tTru_b (any_of (eLc_of nt (fun other => .bool (!decide (other = one) && other.all fun k => one.contains k)) (l := J) (by unfold iSeq; rw [h0]; rfl) (by omega) fun other ho => ⟨[(i, nt other)], rfl, ?_⟩)))
  simp only [setsD, wipeD, List.foldl_cons, List.foldl_nil, List.set_set]
  have hlo := hl other ho
  have vi : eVar i (ρ.set i (some (nt other))) = some (nt other) := eVar_set hi
  have vo : eVar o (ρ.set i (some (nt other))) = some (nt one) := by rw [eVar_ne n1]; exact h1
  have al := all_of (f := eLc (iSeq (eVar i)) (.nm k) tTrue (eB (tCmp dIn (eVar k) (eVar o))) [k]) (ρ := ρ.set i (some (nt other))) (p := fun k => one.contains k) (l := other) (eLc_of nat (fun k => .bool (one.contains k)) (l := other) (by unfold iSeq; rw [vi]; exact nt_seq _) (by omega) fun x hx => ⟨[(k, nat x)], rfl, by
    simp only [setsD, wipeD, List.foldl_cons, List.foldl_nil, List.set_set]
    refine eB_b ?_
    rw [tCmp_a, eVar_set (by rw [List.length_set]; exact hk), eVar_ne n2, vo, o2_ss, nt_in]⟩)
  refine eAnd_b (a := !decide (other = one)) (eB_b (by rw [tCmp_a, vi, vo, o2_ss, dNe_nt])) (fun h => ?_) fun h => by rw [h]; rfl
  rw [al, h, Bool.true_and]
theorem least_ok {J : List (List Nat)} {g o i k : Nat} (hJ : J.length ≤ 1000) (hl : ∀ s ∈ J, s.length ≤ 1000) {ρ : PEnv} (h0 : eVar g ρ = some (rl J)) (ho : o < ρ.length) (hi : i < ρ.length) (hk : k < ρ.length) (n0 : o ≠ g) (n1 : i ≠ o) (n2 : k ≠ o) (n3 : k ≠ i) :
    eLc (iSeq (eVar g)) (.nm o) (tNotD (tTru (eCB (d1 dAny) (aCons (eLc (iSeq (eVar g)) (.nm i) tTrue (eAndD (eB (tCmp dNe (eVar i) (eVar o))) (eCB (d1 dAll) (aCons (eLc (iSeq (eVar i)) (.nm k) tTrue (eB (tCmp dIn (eVar k) (eVar o))) [k]) aNil))) [i]) aNil)))) (eVar o) [o] ρ = some (rl (mins J)) := by
  refine eLc_if nt nt (isMin J) (l := J) (by unfold iSeq; rw [h0]; rfl) (by omega) fun s hs => ⟨[(o, nt s)], rfl, ?_, fun _ => ?_⟩
  · simp only [setsD, wipeD, List.foldl_cons, List.foldl_nil, List.set_set]
    exact least_test hJ hl (by rw [eVar_ne n0]; exact h0) (eVar_set ho) (by rw [List.length_set]; exact hi) (by rw [List.length_set]; exact hk) n1 n2 n3
  · simp only [setsD, wipeD, List.foldl_cons, List.foldl_nil, List.set_set]
    exact eVar_set ho
end Lib
end

section
set_option Elab.async false
set_option linter.all false
set_option maxRecDepth 10000
/-! k12, part i: the law's loops. -/
namespace Lib
open DS PySem
/-- the links -/
def lwA : FS := (sSeq (sSet 5 0 (eOp dMod (eCB (d1 dInt) (aCons (eIx (eVar 1) (eOp dAdd (eC (.int 2)) (eVar 4))) aNil)) (eVar 2)) ([] ++ [(2, 1)]))
  (sSeq (sSet 6 0 (eOp dMod (eCB (d1 dInt) (aCons (eOp dAdd (eOp dAdd (eVar 5) (eC (.int 1))) (eOp dMod (eOp dFdiv (eCB (d1 dInt) (aCons (eIx (eVar 1) (eOp dAdd (eC (.int 2)) (eVar 4))) aNil)) (eC (.int 5))) (eOp dSub (eVar 2) (eC (.int 1))))) aNil)) (eVar 2)) ([] ++ [(2, 1)]))
  (sApp 3 (eTup (aCons (eCB (d2 dMin2) (aCons (eVar 5) (aCons (eVar 6) aNil))) (aCons (eCB (d2 dMax2) (aCons (eVar 5) (aCons (eVar 6) aNil))) (aCons (eCall 2 den__law_ratio (aCons (eOp dMod (eCB (d1 dInt) (aCons (eIx (eVar 1) (eOp dAdd (eC (.int 8)) (eVar 4))) aNil)) (eC (.int 5))) (aCons (eC (.int 4)) aNil))) aNil)))) ([] ++ ([] ++ ((([] ++ []) ++ ([] ++ [])) ++ []))))))
/-- the chance of one set -/
def lwB : FS := (sSeq (sTup (.tp [(.nm 15), (.nm 16)]) (eIx (eIx (eVar 3) (eVar 4)) (eC (.int 2))) [(3, 2)])
  (sSet 14 0 (eCall 2 den__law_times (aCons (eVar 14) (aCons (eIx (eTup (aCons (eTup (aCons (eOp dSub (eVar 16) (eVar 15)) (aCons (eVar 16) aNil))) (aCons (eTup (aCons (eVar 15) (aCons (eVar 16) aNil))) aNil))) (eCB (d1 dInt) (aCons (eB (tCmp dIn (eVar 4) (eVar 13))) aNil))) aNil))) ([(14, 0)] ++ (((([(16, 1)] ++ [(15, 1)]) ++ ([(16, 0)] ++ [])) ++ (([(15, 0)] ++ ([(16, 0)] ++ [])) ++ [])) ++ []))))
/-- one set -/
def lwC : FS := (sSeq (sSet 14 0 (eTup (aCons (eC (.int 1)) (aCons (eC (.int 1)) aNil))) ([] ++ ([] ++ [])))
  (sSeq (sFor (iRange1 (eVar 8)) [] (.nm 4) lwB)
  (sSeq (sSet 17 0 (eCall 3 den__law_joined (aCons (eVar 2) (aCons (eLc (iSeq (eVar 13)) (.nm 4) tTrue (eIx (eVar 3) (eVar 4)) [4]) (aCons (eVar 5) aNil)))) ([(2, 0)] ++ (([(13, 1)] ++ [(3, 1)]) ++ ([(5, 0)] ++ []))))
  (sSeq (sIf (tCmp dIn (eVar 6) (eVar 17))
  (sSeq (sSet 9 0 (eCall 2 den__law_add (aCons (eVar 9) (aCons (eVar 14) aNil))) ([(9, 0)] ++ ([(14, 0)] ++ [])))
  (sSeq (sPutOp 11 dAddI (eCB (d1 dLen) (aCons (eVar 13) aNil)) (eC (.int 1)))
  (sApp 12 (eVar 13) [(13, 0)])))
  sNil)
  (sIf (tCmp dEq (eCB (d1 dLen) (aCons (eVar 17) aNil)) (eVar 2))
  (sSet 10 0 (eCall 2 den__law_add (aCons (eVar 10) (aCons (eVar 14) aNil))) ([(10, 0)] ++ ([(14, 0)] ++ [])))
  sNil)))))
/-- one way -/
def lwD : FS := (sIf (tNotD (tTru (eCB (d1 dAll) (aCons (eLc (iSeq (eVar 19)) (.nm 27) tTrue (eCB (d1 dAny) (aCons (eLc (iSeq (eVar 27)) (.nm 4) tTrue (eB (tCmp dIn (eVar 4) (eVar 13))) [4]) aNil)) [27]) aNil))))
  (sRet (eC (.bool false)))
  sNil)
/-- a changed weight -/
def lwE : FS := (sApp 20 (eCall 3 den_chance_joined (aCons (eTup (aCons (eVar 2) (aCons (eOp dAdd (eOp dAdd (eSl (eVar 3) oNone (oSome (eVar 4))) (eTup (aCons (eTup (aCons (eIx (eIx (eVar 3) (eVar 4)) (eC (.int 0))) (aCons (eIx (eIx (eVar 3) (eVar 4)) (eC (.int 1))) (aCons (eVar 21) aNil)))) aNil))) (eSl (eVar 3) (oSome (eOp dAdd (eVar 4) (eC (.int 1)))) oNone)) aNil))) (aCons (eVar 5) (aCons (eVar 6) aNil)))) (([(2, 0)] ++ ((([(3, 1)] ++ (([(3, 2)] ++ ([(3, 2)] ++ ([(21, 0)] ++ []))) ++ [])) ++ [(3, 1)]) ++ [])) ++ ([(5, 0)] ++ ([(6, 0)] ++ []))))
/-- one link -/
def lwF : FS := (sSeq (sSet 20 1 (eLst aNil) [])
  (sSeq (sFor (iSeq (eTup (aCons (eTup (aCons (eC (.int 0)) (aCons (eC (.int 1)) aNil))) (aCons (eTup (aCons (eC (.int 1)) (aCons (eC (.int 1)) aNil))) aNil)))) (([] ++ ([] ++ [])) ++ (([] ++ ([] ++ [])) ++ [])) (.nm 21) lwE)
  (sSeq (sTupL [(.tp [(.nm 15), (.nm 16)]), (.tp [(.nm 22), (.nm 23)])] (eVar 20) [(20, 0)])
  (sSeq (sIf (tNotD (tTru (eCall 2 (den__law_like 30) (aCons (eCall 4 den_weight_of_link (aCons (eVar 7) (aCons (eVar 5) (aCons (eVar 6) (aCons (eVar 4) aNil))))) (aCons (eCall 2 den__law_ratio (aCons (eOp dSub (eOp dMul (eVar 22) (eVar 16)) (eOp dMul (eVar 15) (eVar 23))) (aCons (eOp dMul (eVar 16) (eVar 23)) aNil))) aNil)))))
  (sRet (eC (.bool false)))
  sNil)
  (sSeq (sTup (.tp [(.nm 24), (.nm 25)]) (eIx (eIx (eVar 3) (eVar 4)) (eC (.int 2))) [(3, 2)])
  (sIf (tCmp dNe (eCall 2 den__law_add (aCons (eCall 2 den__law_times (aCons (eTup (aCons (eOp dSub (eVar 25) (eVar 24)) (aCons (eVar 25) aNil))) (aCons (eIx (eVar 20) (eC (.int 0))) aNil))) (aCons (eCall 2 den__law_times (aCons (eTup (aCons (eVar 24) (aCons (eVar 25) aNil))) (aCons (eIx (eVar 20) (eC (.int 1))) aNil))) aNil))) (eVar 9))
  (sRet (eC (.bool false)))
  sNil))))))
/-- the last part -/
def lwG : FS := (sSeq (sSet 26 0 (eTup (aCons (eVar 2) (aCons (eCB (d1 dTuple) (aCons (eLc (iSeq (eVar 3)) (.tp [(.nm 15), (.nm 16), (.nm 21)]) tTrue (eTup (aCons (eVar 15) (aCons (eVar 16) (aCons (eTup (aCons (eC (.int 1)) (aCons (eC (.int 2)) aNil))) aNil)))) [15, 16, 21]) aNil)) aNil))) ([(2, 0)] ++ ((([(3, 1)] ++ ([(15, 0)] ++ ([(16, 0)] ++ (([] ++ ([] ++ [])) ++ [])))) ++ []) ++ [])))
  (sSeq (sIf (tCmp dNe (eCall 3 den_chance_joined (aCons (eVar 26) (aCons (eVar 5) (aCons (eVar 6) aNil)))) (eCall 2 den__law_ratio (aCons (eCB (d1 dSum) (aCons (eVar 11) aNil)) (aCons (eOp dShl (eC (.int 1)) (eVar 8)) aNil))))
  (sRet (eC (.bool false)))
  sNil)
  (sSeq (sPar 15 16 (eOp dAdd (eC (.int 6)) (eOp dMod (eCB (d1 dInt) (aCons (eIx (eVar 1) (eC (.int 15))) aNil)) (eC (.int 5)))) (eC (.int 10)) (([] ++ ([] ++ [])) ++ []))
  (sRet (eAndD (eCall 2 (den__law_like 30) (aCons (eCall 1 den_bold_share (aCons (eCall 2 den__law_ratio (aCons (eVar 15) (aCons (eVar 16) aNil))) aNil)) (aCons (eCall 2 den__law_ratio (aCons (eOp dSub (eOp dMul (eC (.int 2)) (eVar 15)) (eVar 16)) (aCons (eVar 16) aNil))) aNil))) (eCall 1 den__law_insure (aCons (eVar 1) aNil)))))))
def den_law : Fn := dfun 28 1 (sSeq (sSet 1 0 (eCall 2 den__law_row (aCons (eVar 0) (aCons (eC (.int 40)) aNil))) ([(0, 0)] ++ ([] ++ [])))
  (sSeq (sSet 2 0 (eOp dAdd (eC (.int 2)) (eOp dMod (eCB (d1 dInt) (aCons (eIx (eVar 1) (eC (.int 0))) aNil)) (eC (.int 3)))) ([] ++ ([] ++ [])))
  (sSeq (sSet 3 1 (eLst aNil) [])
  (sSeq (sFor (iRange1 (eOp dMod (eCB (d1 dInt) (aCons (eIx (eVar 1) (eC (.int 1))) aNil)) (eC (.int 6)))) [] (.nm 4) lwA)
  (sSeq (sSet 3 0 (eCB (d1 dTuple) (aCons (eVar 3) aNil)) ([(3, 1)] ++ []))
  (sSeq (sTup (.tp [(.nm 7), (.nm 8)]) (eTup (aCons (eTup (aCons (eVar 2) (aCons (eVar 3) aNil))) (aCons (eCB (d1 dLen) (aCons (eVar 3) aNil)) aNil))) (([(2, 0)] ++ ([(3, 0)] ++ [])) ++ ([] ++ [])))
  (sSeq (sTup (.tp [(.nm 5), (.nm 6)]) (eTup (aCons (eC (.int 0)) (aCons (eOp dAdd (eC (.int 1)) (eOp dMod (eCB (d1 dInt) (aCons (eIx (eVar 1) (eC (.int 14))) aNil)) (eOp dSub (eVar 2) (eC (.int 1))))) aNil))) ([] ++ (([] ++ ([] ++ ([(2, 1)] ++ []))) ++ [])))
  (sSeq (sParN [(9, false, (eTup (aCons (eC (.int 0)) (aCons (eC (.int 1)) aNil)))), (10, false, (eTup (aCons (eC (.int 0)) (aCons (eC (.int 1)) aNil)))), (11, true, (eOp dMul (eLst (aCons (eC (.int 0)) aNil)) (eOp dAdd (eVar 8) (eC (.int 1))))), (12, true, (eLst aNil))] ([] ++ ([] ++ ((([] ++ []) ++ ([(8, 1)] ++ [])) ++ ([] ++ [])))))
  (sSeq (sFor (iSeq (eCall 1 den__law_sets (aCons (eVar 8) aNil))) ([(8, 0)] ++ []) (.nm 13) lwC)
  (sSeq (sIf (tNotD (tTru (eCall 2 (den__law_like 30) (aCons (eTup (aCons (eCall 3 den_chance_joined (aCons (eVar 7) (aCons (eVar 5) (aCons (eVar 6) aNil)))) (aCons (eCall 1 den_chance_whole (aCons (eVar 7) aNil)) (aCons (eCall 3 den_hold_poly (aCons (eVar 7) (aCons (eVar 5) (aCons (eVar 6) aNil)))) aNil)))) (aCons (eTup (aCons (eVar 9) (aCons (eVar 10) (aCons (eCB (d1 dTuple) (aCons (eVar 11) aNil)) aNil)))) aNil)))))
  (sRet (eC (.bool false)))
  sNil)
  (sSeq (sSet 18 0 (eLc (iSeq (eVar 12)) (.nm 13) (tNotD (tTru (eCB (d1 dAny) (aCons (eLc (iSeq (eVar 12)) (.nm 27) tTrue (eAndD (eB (tCmp dNe (eVar 27) (eVar 13))) (eCB (d1 dAll) (aCons (eLc (iSeq (eVar 27)) (.nm 4) tTrue (eB (tCmp dIn (eVar 4) (eVar 13))) [4]) aNil))) [27]) aNil)))) (eVar 13) [13]) ([(12, 1)] ++ [(13, 0)]))
  (sSeq (sSet 19 0 (eLc (iSeq (eCall 1 den__law_sets (aCons (eVar 8) aNil))) (.nm 13) (tCmp dNotIn (eVar 6) (eCall 3 den__law_joined (aCons (eVar 2) (aCons (eLc (iRange1 (eVar 8)) (.nm 4) (tCmp dNotIn (eVar 4) (eVar 13)) (eIx (eVar 3) (eVar 4)) [4]) (aCons (eVar 5) aNil))))) (eVar 13) [13]) (([(8, 0)] ++ []) ++ [(13, 0)]))
  (sSeq (sSet 19 0 (eLc (iSeq (eVar 19)) (.nm 13) (tNotD (tTru (eCB (d1 dAny) (aCons (eLc (iSeq (eVar 19)) (.nm 27) tTrue (eAndD (eB (tCmp dNe (eVar 27) (eVar 13))) (eCB (d1 dAll) (aCons (eLc (iSeq (eVar 27)) (.nm 4) tTrue (eB (tCmp dIn (eVar 4) (eVar 13))) [4]) aNil))) [27]) aNil)))) (eVar 13) [13]) ([(19, 1)] ++ [(13, 0)]))
  (sSeq (sIf (tNotD (tTru (eCall 2 (den__law_like 30) (aCons (eTup (aCons (eCall 3 den_least_ways (aCons (eVar 7) (aCons (eVar 5) (aCons (eVar 6) aNil)))) (aCons (eCall 3 den_least_blocks (aCons (eVar 7) (aCons (eVar 5) (aCons (eVar 6) aNil)))) aNil))) (aCons (eTup (aCons (eCB (d1 dTuple) (aCons (eVar 18) aNil)) (aCons (eCB (d1 dTuple) (aCons (eVar 19) aNil)) aNil))) aNil)))))
  (sRet (eC (.bool false)))
  sNil)
  (sSeq (sFor (iSeq (eVar 18)) [(18, 0)] (.nm 13) lwD)
  (sSeq (sFor (iRange1 (eVar 8)) [] (.nm 4) lwF)
  lwG))))))))))))))))
theorem wp_tupL {N B C : S → Prop} {R : D → Prop} {ρ : PEnv} {L : List Nat} {ts : List Tg} {f : FE} {c : Esc} {ds : List D} {m : List (Nat × D)} (h : f ρ = some (.list ds)) (ht : Tg.gos ts ds = some m) (q : N (setsD ρ m, zeros (demote c L) m)) : WP (sTupL ts f c) (ρ, L) N R B C := by
  unfold WP sTupL
  simp only [h, ht]
  exact q
abbrev L28 : List Nat := [0, 0, 0, 0, 0, 0, 0, 0, 0, 0, 0, 0, 0, 0, 0, 0, 0, 0, 0, 0, 0, 0, 0, 0, 0, 0, 0, 0]
abbrev L28a : List Nat := [0, 0, 0, 1, 0, 0, 0, 0, 0, 0, 0, 0, 0, 0, 0, 0, 0, 0, 0, 0, 0, 0, 0, 0, 0, 0, 0, 0]
abbrev L28b : List Nat := [0, 0, 0, 0, 0, 0, 0, 0, 0, 0, 0, 1, 1, 0, 0, 0, 0, 0, 0, 0, 0, 0, 0, 0, 0, 0, 0, 0]
theorem lks_nf (l : List Lk) : flat (.list (l.map lk)) = false := rfl
/-- the k-th link -/
structure LkOk (n : Nat) (l : Lk) : Prop where
  a : l.1 < n
  b : l.2.1 < n
  ne : l.1 ≠ l.2.1
  w : ∃ c : Nat, c < 5 ∧ l.2.2 = Rat.divInt c 4
theorem lwA_ok {N B C : S → Prop} {R : D → Prop} {r : Nat → Int} {n k : Nat} {ls' : List Lk} (hn : 2 ≤ n) (hk : k < 5) (hl : ls'.length ≤ 5) (h0 : ∀ k, 0 ≤ r k) (x0 : Option D)
    (q : ∀ l y5 y6, LkOk n l → N ([x0, some (rowD r 40), some (nat n), some (.list ((ls' ++ [l]).map lk)), some (nat k), y5, y6, none, none, none, none, none, none, none, none, none, none, none, none, none, none, none, none, none, none, none, none, none], L28a)) (x5 x6 : Option D) :
    WP lwA ([x0, some (rowD r 40), some (nat n), some (.list (ls'.map lk)), some (nat k), x5, x6, none, none, none, none, none, none, none, none, none, none, none, none, none, none, none, none, none, none, none, none, none], L28a) N R B C := by
  have ixp : ∀ b j : Nat, b + j < 40 → dIx (rowD r 40) (.int ((b : Int) + j)) = some (.int (r (b + j))) := fun b j h => by
    have := ix_row (r := r) h
    rw [Int.natCast_add] at this
    exact this
  have i2 : dIx (rowD r 40) (.int (2 + (k : Int))) = some (.int (r (2 + k))) := ixp 2 k (by omega)
  have i8 : dIx (rowD r 40) (.int (8 + (k : Int))) = some (.int (r (8 + k))) := ixp 8 k (by omega)
  have n0 : (0 : Int) < n := by omega
  have n1 : (0 : Int) < (n : Int) - 1 := by omega
  obtain ⟨eu, bu⟩ := mdN_ok (x := r (2 + k)) (q := n) (by omega)
  obtain ⟨ez, bz⟩ := mdN_ok (x := r (2 + k) / 5) (q := n - 1) (by omega)
  have ez : r (2 + k) / 5 % ((n : Int) - 1) = (mdN (r (2 + k) / 5) (n - 1) : Int) := by rw [← ez]; congr 1; omega
  generalize mdN (r (2 + k)) n = u at eu bu
  generalize mdN (r (2 + k) / 5) (n - 1) = z at ez bz
  have e1 : (u : Int) + 1 + z = ((u + 1 + z : Nat) : Int) := by push_cast; rfl
  obtain ⟨ev', bv⟩ := mdN_ok (x := ((u + 1 + z : Nat) : Int)) (q := n) (by omega)
  have vne : mdN ((u + 1 + z : Nat) : Int) n ≠ u := by
    have : mdN ((u + 1 + z : Nat) : Int) n = (u + 1 + z) % n := by
      have h : (((u + 1 + z : Nat) : Int) % (n : Int)) = (((u + 1 + z) % n : Nat) : Int) := by push_cast; rfl
      omega
    rw [this]
    by_cases c : u + 1 + z < n
    · rw [Nat.mod_eq_of_lt c]; omega
    · rw [Nat.mod_eq_sub_mod (by omega), Nat.mod_eq_of_lt (by omega)]; omega
  generalize mdN ((u + 1 + z : Nat) : Int) n = v at ev' bv vne
  obtain ⟨ec, bc⟩ := mdN_ok (x := r (8 + k)) (q := 5) (by omega)
  have ec : r (8 + k) % 5 = (mdN (r (8 + k)) 5 : Int) := ec
  generalize mdN (r (8 + k)) 5 = c at ec bc
  have ra := ratio_ok (a := (c : Int)) (b := 4) (k := 3) (by decide) (by decide) (by decide)
  unfold lwA
  refine wp_seq (wp_set (d := nat u) ?_ rfl ?_)
  · simp only [nat, eOp_a, eCB_a, aCons_a, aNil_a, eIx_a, eC_a, eVar_0, eVar_s, o2_ss, o1_s, d1_1, dAdd_i, i2, dInt_i, dMod_i n0, eu]
  simp only [List.map_cons, List.map_nil, List.replicate_succ, List.replicate_zero, List.nil_append, List.cons_append, List.append_nil, Nat.reduceSub, Nat.reduceAdd, setsD, zeros, stt, setsO, setsJ, List.foldl_cons, List.foldl_nil, List.set_cons_zero, List.set_cons_succ, demote]
  refine wp_seq (wp_set (d := nat v) ?_ rfl ?_)
  · simp only [nat, eOp_a, eCB_a, aCons_a, aNil_a, eIx_a, eC_a, eVar_0, eVar_s, o2_ss, o1_s, d1_1, dAdd_i, dSub_i, i2, dInt_i, dFdiv_i (show fdivOk 5 = true by decide), dMod_i n0, dMod_i n1, ez, e1, ev']
  simp only [List.map_cons, List.map_nil, List.replicate_succ, List.replicate_zero, List.nil_append, List.cons_append, List.append_nil, Nat.reduceSub, Nat.reduceAdd, setsD, zeros, stt, setsO, setsJ, List.foldl_cons, List.foldl_nil, List.set_cons_zero, List.set_cons_succ, demote]
  refine wp_app (d := lk (if v < u then v else u, if v > u then v else u, Rat.divInt c 4)) (ds := ls'.map lk) ?_ rfl rfl (by rw [List.length_map]; omega) rfl ?_
  · refine eTup_3 ?_ ?_ ?_
    · simp only [nat, eCB_a, aCons_a, aNil_a, eVar_0, eVar_s, o2_ss, o1_s, d2_2]
      show some (PyData.int (if (v : Int) < u then v else u)) = some (PyData.int (((if v < u then v else u : Nat)) : Int))
      by_cases h : v < u
      · rw [if_pos h, if_pos (by omega)]
      · rw [if_neg h, if_neg (by omega)]
    · simp only [nat, eCB_a, aCons_a, aNil_a, eVar_0, eVar_s, o2_ss, o1_s, d2_2]
      show some (PyData.int (if (v : Int) > u then v else u)) = some (PyData.int (((if v > u then v else u : Nat)) : Int))
      by_cases h : v > u
      · rw [if_pos h, if_pos (by omega)]
      · rw [if_neg h, if_neg (by omega)]
    · simp only [nat, eOp_a, eCB_a, aCons_a, aNil_a, eIx_a, eC_a, eVar_0, eVar_s, o2_ss, o1_s, d1_1, dAdd_i, i8, dInt_i, dMod_i (show (0 : Int) < 5 by decide), ec, eCall_2, ra]
  simp only [List.map_cons, List.map_nil, List.replicate_succ, List.replicate_zero, List.nil_append, List.cons_append, List.append_nil, Nat.reduceSub, Nat.reduceAdd, setsD, zeros, stt, setsO, setsJ, List.foldl_cons, List.foldl_nil, List.set_cons_zero, List.set_cons_succ, demote]
  have e : ls'.map lk ++ [lk (if v < u then v else u, if v > u then v else u, Rat.divInt c 4)] = (ls' ++ [(if v < u then v else u, if v > u then v else u, Rat.divInt c 4)]).map lk := by rw [List.map_append]; rfl
  rw [e]
  refine q _ _ _ ⟨?_, ?_, ?_, c, bc, rfl⟩
  · dsimp only; split <;> omega
  · dsimp only; split <;> omega
  · dsimp only; split <;> split <;> omega
end Lib
end

section
set_option Elab.async false
set_option linter.all false
set_option maxRecDepth 10000
/-! k12, part j: one set of links. -/
namespace Lib
open DS PySem
theorem wp_putop {N B C : S → Prop} {R : D → Prop} {ρ : PEnv} {L : List Nat} {i m : Nat} {op : D → D → Option D} {jj f : FE} {d e : D} {ds : List D} {x y : Int} (h : f ρ = some d) (hi : eVar i ρ = some (.list ds)) (hj : jj ρ = some (.int x)) (hm : L2.ixN ds.length x = some m) (he : ds[m]? = some e) (ho : op e d = some (.int y)) (hL : lv L i = 1) (q : N (ρ.set i (some (.list (ds.set m (.int y)))), L)) : WP (sPutOp i op jj f) (ρ, L) N R B C := by
  unfold WP sPutOp
  simp only [h, hi, hj, hm, he, ho, o1_s, hL, if_true]
  exact q
theorem nts_flat : ∀ s : List Nat, flats (s.map nat) = true
  | [] => rfl
  | a :: s => by rw [List.map_cons]; unfold flats; rw [nts_flat s]; rfl
theorem flat_nt' (s : List Nat) : flat (nt s) = true := by unfold nt; simp only [flat, nts_flat]
theorem ixN_n12 {n i : Nat} (h : i < n) : L2.ixN n (i : Int) = some i := by
  unfold L2.ixN
  rw [if_pos (by omega), if_pos (by omega)]
  simp
open Classical in
theorem wh_iff {E : List Lk} {n : Nat} {s : List Nat} : wh E n s = true ↔ ∀ w, w < n → Conn (pick E s) 0 w := by
  unfold wh
  exact decide_eq_true_iff
/-- the counts -/
def cl12 (m : Nat) (J : List (List Nat)) : D := .list ((List.range (m + 1)).map fun k => nat (cnt J k))
theorem lk_2 (l : Lk) : dIx (lk l) (.int 2) = some (rt l.2.2) := by
  show L2.atI [nat l.1, nat l.2.1, rt l.2.2] ((2 : Nat) : Int) = _
  exact L2.atI_nat (by simp)
theorem lks_ix {E : List Lk} {k : Nat} (h : k < E.length) : dIx (.tuple (E.map lk)) (.int (k : Int)) = some (lk (E.getD k Lk0)) := by
  show L2.atI (E.map lk) (k : Int) = _
  rw [atI_mp h, List.getD_eq_getElem?_getD, List.getElem?_eq_getElem h]
  rfl
section
variable {n v : Nat} {E : List Lk} (he : Ends E n) (hn : n ≤ 1000) (hm : E.length ≤ 5) (hw : W5 E)
include he hn hm hw
theorem lwB_ok {N B C : S → Prop} {R : D → Prop} {s : List Nat} {k : Nat} (hk : k < E.length) (x0 x1 x2 x5 x6 x7 x9 x10 x11 x12 x17 : Option D)
    (q : ∀ y15 y16, N ([x0, x1, x2, some (.tuple (E.map lk)), some (nat k), x5, x6, x7, some (nat E.length), x9, x10, x11, x12, some (nt s), some (rt (chn E s (k + 1))), y15, y16, x17, none, none, none, none, none, none, none, none, none, none], L28b)) (x15 x16 : Option D) :
    WP lwB ([x0, x1, x2, some (.tuple (E.map lk)), some (nat k), x5, x6, x7, some (nat E.length), x9, x10, x11, x12, some (nt s), some (rt (chn E s k)), x15, x16, x17, none, none, none, none, none, none, none, none, none, none], L28b) N R B C := by
  unfold lwB
  have ix := lks_ix hk
  have c := chn_sm hw.we s (k := k) (by omega) (by omega)
  obtain ⟨⟨w1, w2⟩, _, _⟩ := w5_all (hw.at hk)
  have rc := rt_cut (hw.at hk)
  generalize hww : (E.getD k Lk0).2.2 = w at w1 w2 rc
  refine wp_seq (wp_tup (d := rt w) (m := [(15, .int w.num), (16, .int w.den)]) (by
    simp only [eIx_a, eVar_0, eVar_s, eC_a, o2_ss]
    show o2 (dIx (.tuple (E.map lk)) (.int (k : Int))) (some (.int 2)) dIx = _
    rw [ix, o2_ss, lk_2, hww]) rfl rfl ?_)
  simp only [List.map_cons, List.map_nil, List.replicate_succ, List.replicate_zero, List.nil_append, List.cons_append, List.append_nil, Nat.reduceSub, Nat.reduceAdd, setsD, zeros, stt, setsO, setsJ, List.foldl_cons, List.foldl_nil, List.set_cons_zero, List.set_cons_succ, demote]
  have hin : eCB (d1 dInt) (aCons (eB (tCmp dIn (eVar 4) (eVar 13))) aNil) [x0, x1, x2, some (.tuple (E.map lk)), some (nat k), x5, x6, x7, some (nat E.length), x9, x10, x11, x12, some (nt s), some (rt (chn E s k)), some (.int w.num), some (.int w.den), x17, none, none, none, none, none, none, none, none, none, none] = some (.int (if s.contains k then 1 else 0)) := by
    rw [eCB_a, aCons_a, eB_a, tCmp_a]
    simp only [eVar_0, eVar_s, o2_ss, nt_in, o1_s, aNil_a, d1_1, dInt_b]
  have pr : ∀ ρ : PEnv, eVar 16 ρ = some (.int w.den) → eVar 15 ρ = some (.int w.num) → (eTup (aCons (eTup (aCons (eOp dSub (eVar 16) (eVar 15)) (aCons (eVar 16) aNil))) (aCons (eTup (aCons (eVar 15) (aCons (eVar 16) aNil))) aNil))) ρ = some (.tuple [rt (1 - w), rt w]) := fun ρ a b => by
    refine eTup_2 ?_ (eTup_2 b a)
    rw [← rc]
    exact eTup_2 (by rw [eOp_a, a, b, o2_ss, dSub_i]) a
  refine wp_set (d := rt (chn E s (k + 1))) ?_ rfl ?_
  · rw [eCall_2, eIx_a, hin, pr _ rfl rfl]
    simp only [eVar_0, eVar_s, o2_ss]
    rw [chn, hww]
    by_cases h : k ∈ s
    · rw [if_pos h, show s.contains k = true by simpa using h]
      have q1 : dIx (.tuple [rt (1 - w), rt w]) (.int 1) = some (rt w) := atI_1
      simp only [if_true, q1, o2_ss]
      exact ltimes_ok c w1 (by omega) (by omega) (by omega)
    · rw [if_neg h, show s.contains k = false by simpa using h]
      have q0 : dIx (.tuple [rt (1 - w), rt w]) (.int 0) = some (rt (1 - w)) := atI_0
      simp only [Bool.false_eq_true, if_false, q0, o2_ss]
      exact ltimes_ok c w2 (by omega) (by omega) (by omega)
  · simp only [List.map_cons, List.map_nil, List.replicate_succ, List.replicate_zero, List.nil_append, List.cons_append, List.append_nil, Nat.reduceSub, Nat.reduceAdd, setsD, zeros, stt, setsO, setsJ, List.foldl_cons, List.foldl_nil, List.set_cons_zero, List.set_cons_succ, demote]
    exact q _ _
theorem lwC_ok {N B C : S → Prop} {R : D → Prop} {s : List Nat} {J : List (List Nat)} {p q : Rat} (h0 : 0 < n) (hs : s ∈ aset E.length) (hp : Sm 2000 p) (hq : Sm 2000 q) (hJ : J.length ≤ 100) (x0 x1 x7 : Option D)
    (k : ∀ y4 y14 y15 y16 y17, N ([x0, x1, some (nat n), some (.tuple (E.map lk)), y4, some (nat 0), some (nat v), x7, some (nat E.length), some (rt (if jn E 0 v s = true then p + chn E s E.length else p)), some (rt (if wh E n s = true then q + chn E s E.length else q)), some (cl12 E.length (if jn E 0 v s = true then J ++ [s] else J)), some (rl (if jn E 0 v s = true then J ++ [s] else J)), some (nt s), y14, y15, y16, y17, none, none, none, none, none, none, none, none, none, none], L28b)) (x4 x14 x15 x16 x17 : Option D) :
    WP lwC ([x0, x1, some (nat n), some (.tuple (E.map lk)), x4, some (nat 0), some (nat v), x7, some (nat E.length), some (rt p), some (rt q), some (cl12 E.length J), some (rl J), some (nt s), x14, x15, x16, x17, none, none, none, none, none, none, none, none, none, none], L28b) N R B C := by
  unfold lwC
  obtain ⟨al, sl⟩ := asc_lt hs
  refine wp_seq (wp_set (d := rt 1) (eTup_2 rfl rfl) rfl ?_)
  simp only [List.map_cons, List.map_nil, List.replicate_succ, List.replicate_zero, List.nil_append, List.cons_append, List.append_nil, Nat.reduceSub, Nat.reduceAdd, setsD, zeros, stt, setsO, setsJ, List.foldl_cons, List.foldl_nil, List.set_cons_zero, List.set_cons_succ, demote]
  refine wp_seq ?_
  refine wp_for (ds := (List.range E.length).map nat) (P := fun k s' => ∃ x4 x15 x16, s' = ([x0, x1, some (nat n), some (.tuple (E.map lk)), x4, some (nat 0), some (nat v), x7, some (nat E.length), some (rt p), some (rt q), some (cl12 E.length J), some (rl J), some (nt s), some (rt (chn E s k)), x15, x16, x17, none, none, none, none, none, none, none, none, none, none], L28b)) (range1_nat rfl (by omega)) ⟨x4, x15, x16, rfl⟩ ?_ ?_
  · rintro k d _ hdk ⟨x4, x15, x16, rfl⟩
    rw [List.getElem?_map] at hdk
    obtain ⟨k', hk, rfl⟩ := Option.map_eq_some_iff.mp hdk
    obtain ⟨hlt, e⟩ := List.getElem?_eq_some_iff.mp hk
    rw [List.getElem_range] at e
    subst e
    refine ⟨[(4, nat k)], rfl, ?_⟩
    simp only [List.map_cons, List.map_nil, List.replicate_succ, List.replicate_zero, List.nil_append, List.cons_append, List.append_nil, Nat.reduceSub, Nat.reduceAdd, setsD, zeros, stt, setsO, setsJ, List.foldl_cons, List.foldl_nil, List.set_cons_zero, List.set_cons_succ, demote]
    exact lwB_ok he hn hm hw (by simpa using hlt) _ _ _ _ _ _ _ _ _ _ _ (fun y15 y16 => ⟨_, _, _, rfl⟩) _ _
  · rintro _ ⟨x4, x15, x16, rfl⟩
    rw [List.length_map, List.length_range]
    have c := chn_sm hw.we s (k := E.length) (Nat.le_refl _) (by omega)
    have ap := ladd_ok' hp c (by omega) (by omega) (by omega)
    have aq := ladd_ok' hq c (by omega) (by omega) (by omega)
    obtain ⟨d, lj, M, rfl, ic, _⟩ := law_joined_ok (E := pick E s) (he.pick al) h0 hn (.list ((pick E s).map lk)) rfl
    have hjn : M.contains v = jn E 0 v s := by unfold jn; exact @comp_has _ _ _ _ ic (Classical.propDecidable _)
    have hwh : decide (M.length = n) = wh E n s := by
      refine Bool.eq_iff_iff.mpr ((Iff.trans ?_ (comp_all (he.pick al) h0 ic)).trans wh_iff.symm)
      exact decide_eq_true_iff
    generalize jn E 0 v s = bj at hjn k
    generalize wh E n s = bw at hwh k
    generalize chn E s E.length = cc at c ap aq k
    refine wp_seq (wp_setD (d := nl M) ?_ rfl ?_)
    · rw [eCall_3]
      have lc : eLc (iSeq (eVar 13)) (.nm 4) tTrue (eIx (eVar 3) (eVar 4)) [4] [x0, x1, some (nat n), some (.tuple (E.map lk)), x4, some (nat 0), some (nat v), x7, some (nat E.length), some (rt p), some (rt q), some (cl12 E.length J), some (rl J), some (nt s), some (rt cc), x15, x16, x17, none, none, none, none, none, none, none, none, none, none] = some (.list ((pick E s).map lk)) := by
        unfold pick
        rw [List.map_map]
        refine eLc_of nat _ (l := s) (by unfold iSeq; simp only [eVar_0, eVar_s, o1_s]; exact nt_seq s) (by omega) fun j hj => ⟨[(4, nat j)], rfl, ?_⟩
        simp only [setsD, wipeD, List.foldl_cons, List.foldl_nil, List.set_cons_zero, List.set_cons_succ, eIx_a, eVar_0, eVar_s, o2_ss]
        exact lks_ix (al j hj)
      rw [lc]
      simp only [eVar_0, eVar_s, o1_s]
      exact lj
    simp only [List.map_cons, List.map_nil, List.replicate_succ, List.replicate_zero, List.nil_append, List.cons_append, List.append_nil, Nat.reduceSub, Nat.reduceAdd, setsD, zeros, stt, setsO, setsJ, List.foldl_cons, List.foldl_nil, List.set_cons_zero, List.set_cons_succ, demote]
    have t1 : tCmp dIn (eVar 6) (eVar 17) [x0, x1, some (nat n), some (.tuple (E.map lk)), x4, some (nat 0), some (nat v), x7, some (nat E.length), some (rt p), some (rt q), some (cl12 E.length J), some (rl J), some (nt s), some (rt cc), x15, x16, some (nl M), none, none, none, none, none, none, none, none, none, none] = some bj := by
      simp only [tCmp_a, eVar_0, eVar_s, o2_ss, nl_in, hjn]
    have t2 : ∀ a9 a11 a12 : D, tCmp dEq (eCB (d1 dLen) (aCons (eVar 17) aNil)) (eVar 2) [x0, x1, some (nat n), some (.tuple (E.map lk)), x4, some (nat 0), some (nat v), x7, some (nat E.length), some a9, some (rt q), some a11, some a12, some (nt s), some (rt cc), x15, x16, some (nl M), none, none, none, none, none, none, none, none, none, none] = some bw := fun a9 a11 a12 => by
      simp only [tCmp_a, eCB_a, aCons_a, aNil_a, eVar_0, eVar_s, o2_ss, o1_s, d1_1, nl_len]
      show dEq (.int (M.length : Int)) (.int (n : Int)) = _
      rw [dEq_i, ← hwh]
      exact congrArg some (decide_eq_decide.mpr ⟨fun h => by omega, fun h => by omega⟩)
    have fin : ∀ (a9 a11 a12 : D) (b : Bool), (b = bj) → a9 = rt (if b = true then p + cc else p) → a11 = cl12 E.length (if b = true then J ++ [s] else J) → a12 = rl (if b = true then J ++ [s] else J) → WP (sIf (tCmp dEq (eCB (d1 dLen) (aCons (eVar 17) aNil)) (eVar 2))
        (sSet 10 0 (eCall 2 den__law_add (aCons (eVar 10) (aCons (eVar 14) aNil))) ([(10, 0)] ++ ([(14, 0)] ++ [])))
        sNil) ([x0, x1, some (nat n), some (.tuple (E.map lk)), x4, some (nat 0), some (nat v), x7, some (nat E.length), some a9, some (rt q), some a11, some a12, some (nt s), some (rt cc), x15, x16, some (nl M), none, none, none, none, none, none, none, none, none, none], L28b) N R B C := by
      rintro a9 a11 a12 b rfl rfl rfl rfl
      refine wp_if (t2 _ _ _) (fun h => ?_) fun h => ?_
      · refine wp_set (d := rt (q + cc)) (by rw [eCall_2]; simp only [eVar_0, eVar_s]; exact aq) rfl ?_
        simp only [List.map_cons, List.map_nil, List.replicate_succ, List.replicate_zero, List.nil_append, List.cons_append, List.append_nil, Nat.reduceSub, Nat.reduceAdd, setsD, zeros, stt, setsO, setsJ, List.foldl_cons, List.foldl_nil, List.set_cons_zero, List.set_cons_succ, demote]
        have := k x4 (some (rt cc)) x15 x16 (some (nl M))
        rw [h] at this
        simp only [if_true] at this
        exact this
      · have := k x4 (some (rt cc)) x15 x16 (some (nl M))
        rw [h] at this
        simp only [Bool.false_eq_true, if_false] at this
        exact wp_nil this
    refine wp_seq (wp_if t1 (fun h => ?_) fun h => ?_)
    · refine wp_seq (wp_set (d := rt (p + cc)) (by rw [eCall_2]; simp only [eVar_0, eVar_s]; exact ap) rfl ?_)
      simp only [List.map_cons, List.map_nil, List.replicate_succ, List.replicate_zero, List.nil_append, List.cons_append, List.append_nil, Nat.reduceSub, Nat.reduceAdd, setsD, zeros, stt, setsO, setsJ, List.foldl_cons, List.foldl_nil, List.set_cons_zero, List.set_cons_succ, demote]
      have hsl : s.length < E.length + 1 := by omega
      refine wp_seq (wp_putop (m := s.length) (x := s.length) (e := nat (cnt J s.length)) (d := .int 1) (y := (cnt J s.length : Int) + 1) (ds := (List.range (E.length + 1)).map fun k => nat (cnt J k)) rfl rfl ?_ ?_ ?_ rfl rfl ?_)
      · simp only [eCB_a, aCons_a, aNil_a, eVar_0, eVar_s, o2_ss, o1_s, d1_1, nt_len]
      · rw [List.length_map, List.length_range]
        exact ixN_n12 hsl
      · rw [List.getElem?_map, List.getElem?_range hsl]
        rfl
      simp only [List.map_cons, List.map_nil, List.replicate_succ, List.replicate_zero, List.nil_append, List.cons_append, List.append_nil, Nat.reduceSub, Nat.reduceAdd, setsD, zeros, stt, setsO, setsJ, List.foldl_cons, List.foldl_nil, List.set_cons_zero, List.set_cons_succ, demote]
      have ecl : (PyData.list (((List.range (E.length + 1)).map fun k => nat (cnt J k)).set s.length (.int ((cnt J s.length : Int) + 1)))) = cl12 E.length (J ++ [s]) := by
        unfold cl12
        refine congrArg PyData.list (List.ext_getElem (by simp) fun i h1 h2 => ?_)
        rw [List.getElem_set, List.getElem_map, List.getElem_map, List.getElem_range, cnt_snoc]
        by_cases c : s.length = i
        · subst c; rw [if_pos rfl, if_pos rfl]; rfl
        · rw [if_neg c, if_neg c]; rfl
      rw [ecl]
      refine wp_app (d := nt s) (ds := J.map nt) rfl rfl (flat_nt' s) (by rw [List.length_map]; omega) rfl ?_
      simp only [List.map_cons, List.map_nil, List.replicate_succ, List.replicate_zero, List.nil_append, List.cons_append, List.append_nil, Nat.reduceSub, Nat.reduceAdd, setsD, zeros, stt, setsO, setsJ, List.foldl_cons, List.foldl_nil, List.set_cons_zero, List.set_cons_succ, demote]
      refine fin _ _ _ true h.symm rfl rfl ?_
      unfold rl
      rw [if_pos rfl, List.map_append]
      rfl
    · exact wp_nil (fin _ _ _ false h.symm rfl rfl rfl)
end
end Lib
end

section
set_option Elab.async false
set_option linter.all false
set_option maxRecDepth 10000
/-! k12, part k: ways, links, halves. -/
namespace Lib
open DS PySem
theorem pl_tup {k : Nat} {ds : List D} (hl : ds.length ≤ 1000000) (h : ∀ d ∈ ds, pl k d = true) : pl (k + 1) (.tuple ds) = true := by
  show (decide (ds.length ≤ 1000000) && ds.all (pl k)) = true
  rw [decide_eq_true hl, Bool.true_and, List.all_eq_true]
  exact h
theorem pl_nats {k : Nat} {s : List Nat} (h : s.length ≤ 1000000) : pl (k + 2) (nt s) = true := pl_tup (by simpa using h) fun d hd => by
  obtain ⟨i, _, rfl⟩ := List.mem_map.mp hd
  rfl
theorem pl_rows {k : Nat} {J : List (List Nat)} (h : J.length ≤ 1000000) (h' : ∀ s ∈ J, s.length ≤ 1000000) : pl (k + 3) (.tuple (J.map nt)) = true := pl_tup (by simpa using h) fun d hd => by
  obtain ⟨i, hi, rfl⟩ := List.mem_map.mp hd
  exact pl_nats (h' i hi)
theorem rt_half : (.tuple [.int 1, .int 2] : D) = rt ((1 : Rat) / 2) := by
  have a : ((1 : Rat) / 2).num = 1 := by decide +kernel
  have b : ((1 : Rat) / 2).den = 2 := by decide +kernel
  unfold rt
  rw [a, b]
  rfl
theorem div_half {x : Rat} {a m : Nat} (h : x * (2 : Rat) ^ m = ((a : Nat) : Rat)) : Rat.divInt (a : Int) (1 * 2 ^ m) = x := by
  have p : ((2 : Rat) ^ m) ≠ 0 := by
    intro e
    rw [e] at h
    have q : ∀ m : Nat, (0 : Rat) < 2 ^ m := fun m => by
      induction m with
      | zero => decide +kernel
      | succ m ih => rw [Rat.pow_succ]; exact Rat.mul_pos ih (by decide +kernel)
    have := q m
    rw [e] at this
    exact Rat.lt_irrefl this
  rw [Int.one_mul, Rat.divInt_eq_div]
  have e1 : (((a : Int) : Int) : Rat) = ((a : Nat) : Rat) := rfl
  have e2 : (((2 ^ m : Int)) : Rat) = (2 : Rat) ^ m := by rw [Rat.intCast_pow]; rfl
  rw [e1, e2, ← h, Rat.div_def, Rat.mul_assoc, Rat.mul_inv_cancel _ p, Rat.mul_one]
section
variable {n v : Nat} {E : List Lk} {r : Nat → Int} (he : Ends E n) (hn : n ≤ 1000) (h0 : 0 < n) (hm : E.length ≤ 5) (hw : W5 E)
include he hn h0 hm hw
theorem lwD_ok {N B C : S → Prop} {R : D → Prop} {J Bs : List (List Nat)} {one : List Nat} (hB : Bs.length ≤ 1000) (hb : ∀ b ∈ Bs, b.length ≤ 1000 ∧ b.any (fun k => one.contains k) = true) (x0 x4 x10 x13 x14 x15 x16 x17 x18 x19 x20 x21 x22 x23 x24 x25 x26 x27 : Option D)
    (q : N ([x0, some (rowD r 40), some (nat n), some (.tuple (E.map lk)), x4, some (nat 0), some (nat v), some (net n E), some (nat E.length), some (rt (cj E 0 v)), x10, some (cl12 E.length J), some (rl J), some (nt one), x14, x15, x16, x17, x18, some (rl Bs), x20, x21, x22, x23, x24, x25, x26, x27], L28b)) :
    WP lwD ([x0, some (rowD r 40), some (nat n), some (.tuple (E.map lk)), x4, some (nat 0), some (nat v), some (net n E), some (nat E.length), some (rt (cj E 0 v)), x10, some (cl12 E.length J), some (rl J), some (nt one), x14, x15, x16, x17, x18, some (rl Bs), x20, x21, x22, x23, x24, x25, x26, x27], L28b) N R B C := by
  unfold lwD
  refine wp_pass ?_ q
  have al : Bs.all (fun b => b.any fun k => one.contains k) = true := List.all_eq_true.mpr fun b h => (hb b h).2
  have := tNot_b (tTru_b (all_of (f := eLc (iSeq (eVar 19)) (.nm 27) tTrue (eCB (d1 dAny) (aCons (eLc (iSeq (eVar 27)) (.nm 4) tTrue (eB (tCmp dIn (eVar 4) (eVar 13))) [4]) aNil)) [27]) (ρ := [x0, some (rowD r 40), some (nat n), some (.tuple (E.map lk)), x4, some (nat 0), some (nat v), some (net n E), some (nat E.length), some (rt (cj E 0 v)), x10, some (cl12 E.length J), some (rl J), some (nt one), x14, x15, x16, x17, x18, some (rl Bs), x20, x21, x22, x23, x24, x25, x26, x27]) (p := fun b => b.any fun k => one.contains k) (l := Bs) (eLc_of nt (fun b => .bool (b.any fun k => one.contains k)) (l := Bs) (by (first | rfl | (simp only [eOp_a, eUn_a, eCB_a, aCons_a, aNil_a, eIx_a, eC_a, eVar_0, eVar_s, o2_ss, o1_s, d1_1, d2_2, eB_a, tCmp_a, tTru_a, tNotD_a, tIsND_a, tNotND_a, eIsN_a, eNotN_a, tTrue_a, iSeq_a, seqOf_l, seqOf_t, dAdd_i, dAddI_i, dSub_i, dNeg_i, dLt_i, dLe_i, dGt_i, dGe_i, dEq_i, dNe_i, dTru_b, dTru_i, dTru_l, dTru_t, dTru_n, isNon_n, isNon_b, isNon_i, isNon_s, isNon_l, isNon_t, dLen_l, dLen_t, dInt_i, dInt_b, dTuple_l, dTuple_t, dList_l, dList_t, eCall_1, eCall_2, eCall_3, eCall_4, eCall_5, eCall_6, eCall_7] <;> rfl))) (by omega) fun b h => ⟨[(27, nt b)], rfl, by
    simp only [setsD, wipeD, List.foldl_cons, List.foldl_nil, List.set_cons_zero, List.set_cons_succ]
    have := (hb b h).1
    refine any_of (eLc_of nat (fun k => .bool (one.contains k)) (l := b) (by unfold iSeq; simp only [eVar_0, eVar_s, o1_s]; exact nt_seq b) (by omega) fun k hk => ⟨[(4, nat k)], rfl, ?_⟩)
    simp only [setsD, wipeD, List.foldl_cons, List.foldl_nil, List.set_cons_zero, List.set_cons_succ]
    exact eB_b (by simp only [tCmp_a, eVar_0, eVar_s, o2_ss, nt_in])⟩)))
  rw [al] at this
  exact this
theorem lwF_ok {N B C : S → Prop} {R : D → Prop} {J : List (List Nat)} {k : Nat} (hk : k < E.length) (x0 x10 x13 x14 x15 x16 x17 x18 x19 x20 x21 x22 x23 x24 x25 x26 x27 : Option D)
    (q : ∀ y15 y16 y20 y21 y22 y23 y24 y25, N ([x0, some (rowD r 40), some (nat n), some (.tuple (E.map lk)), some (nat k), some (nat 0), some (nat v), some (net n E), some (nat E.length), some (rt (cj E 0 v)), x10, some (cl12 E.length J), some (rl J), x13, x14, y15, y16, x17, x18, x19, y20, y21, y22, y23, y24, y25, x26, x27], L28b)) :
    WP lwF ([x0, some (rowD r 40), some (nat n), some (.tuple (E.map lk)), some (nat k), some (nat 0), some (nat v), some (net n E), some (nat E.length), some (rt (cj E 0 v)), x10, some (cl12 E.length J), some (rl J), x13, x14, x15, x16, x17, x18, x19, x20, x21, x22, x23, x24, x25, x26, x27], L28b) N R B C := by
  unfold lwF
  have f : ∃ f : Rat → Rat, f = fun w => cj (wset E k w) 0 v := ⟨_, rfl⟩
  obtain ⟨f, hf⟩ := f
  have ix := lks_ix hk
  have jw : ∀ w : Rat, Sm 3 w ∧ Sm 3 (1 - w) → den_chance_joined [net n (wset E k w), nat 0, nat v] = some (rt (f w)) ∧ Sm 1300 (f w) := fun w h => by
    rw [hf]
    exact ⟨joined_w (v := v) he hn (by omega) hw.we h0 hk h, cj_sm5 (wset_ends he hk) hn (by rw [wset_len]; exact hm) (wset_we hw.we hk h) 0 v⟩
  have wk := weight_ok (v := v) he hn hm hw.we h0 hk
  have lin : cj E 0 v = (1 - (E.getD k Lk0).2.2) * f 0 + (E.getD k Lk0).2.2 * f 1 := by
    rw [hf]
    show cj E 0 v = _ * sumc _ _ + _ * sumc _ _
    rw [filter_wset, filter_wset]
    exact sumc_lin hk _
  have wk : den_weight_of_link [net n E, nat 0, nat v, nat k] = some (rt (f 1 - f 0)) := by rw [hf]; exact wk
  obtain ⟨⟨w1, w2⟩, _, _⟩ := w5_all (hw.at hk)
  have rc := rt_cut (hw.at hk)
  have wsn : ∀ w : Rat, E.map lk |>.take k |> fun a => a ++ [lk ((E.getD k Lk0).1, (E.getD k Lk0).2.1, w)] ++ (E.map lk).drop (k + 1) = (wset E k w).map lk := fun w => by
    unfold wset
    rw [List.set_eq_take_append_cons_drop, if_pos hk]
    simp
  clear hf
  refine wp_seq (wp_setD (d := .list []) rfl rfl ?_)
  simp only [List.map_cons, List.map_nil, List.replicate_succ, List.replicate_zero, List.nil_append, List.cons_append, List.append_nil, Nat.reduceSub, Nat.reduceAdd, setsD, zeros, stt, setsO, setsJ, List.foldl_cons, List.foldl_nil, List.set_cons_zero, List.set_cons_succ, demote]
  refine wp_seq ?_
  refine wp_for (ds := [rt 0, rt 1]) (P := fun j s => ∃ x21, s = ([x0, some (rowD r 40), some (nat n), some (.tuple (E.map lk)), some (nat k), some (nat 0), some (nat v), some (net n E), some (nat E.length), some (rt (cj E 0 v)), x10, some (cl12 E.length J), some (rl J), x13, x14, x15, x16, x17, x18, x19, some (.list ((([0, 1] : List Rat).take j).map fun w => rt (f w))), x21, x22, x23, x24, x25, x26, x27], L28b.set 20 1)) ?_ ⟨x21, rfl⟩ ?_ ?_
  · unfold iSeq
    rw [eTup_2 (eTup_2 rfl rfl) (eTup_2 rfl rfl), o1_s, seqOf_t]
    rfl
  · rintro j d _ hdj ⟨x21, rfl⟩
    have hj : j < 2 := by simpa using (List.getElem?_eq_some_iff.mp hdj).1
    have : ∃ w : Rat, ([0, 1] : List Rat)[j]? = some w ∧ d = rt w ∧ Sm 3 w ∧ Sm 3 (1 - w) := by
      have : j = 0 ∨ j = 1 := by omega
      rcases this with rfl | rfl
      · exact ⟨0, rfl, by simpa using hdj.symm, wr0⟩
      · exact ⟨1, rfl, by simpa using hdj.symm, wr1⟩
    obtain ⟨w, hjw, rfl, hww⟩ := this
    refine ⟨[(21, rt w)], rfl, ?_⟩
    simp only [List.map_cons, List.map_nil, List.replicate_succ, List.replicate_zero, List.nil_append, List.cons_append, List.append_nil, Nat.reduceSub, Nat.reduceAdd, setsD, zeros, stt, setsO, setsJ, List.foldl_cons, List.foldl_nil, List.set_cons_zero, List.set_cons_succ, demote]
    unfold lwE
    obtain ⟨j1, _⟩ := jw w hww
    refine wp_app (d := rt (f w)) (ds := (([0, 1] : List Rat).take j).map fun w => rt (f w)) ?_ rfl rfl (by simp; omega) rfl ?_
    · rw [eCall_3]
      have hkm : k ≤ (E.map lk).length := by rw [List.length_map]; omega
      have tk := wsn w
      have e1 : (eTup (aCons (eVar 2) (aCons (eOp dAdd (eOp dAdd (eSl (eVar 3) oNone (oSome (eVar 4))) (eTup (aCons (eTup (aCons (eIx (eIx (eVar 3) (eVar 4)) (eC (.int 0))) (aCons (eIx (eIx (eVar 3) (eVar 4)) (eC (.int 1))) (aCons (eVar 21) aNil)))) aNil))) (eSl (eVar 3) (oSome (eOp dAdd (eVar 4) (eC (.int 1)))) oNone)) aNil))) [x0, some (rowD r 40), some (nat n), some (.tuple (E.map lk)), some (nat k), some (nat 0), some (nat v), some (net n E), some (nat E.length), some (rt (cj E 0 v)), x10, some (cl12 E.length J), some (rl J), x13, x14, x15, x16, x17, x18, x19, some (.list ((([0, 1] : List Rat).take j).map fun w => rt (f w))), some (rt w), x22, x23, x24, x25, x26, x27] = some (net n (wset E k w)) := by
        refine eTup_2 rfl ?_
        have ixx : ∀ ρ : PEnv, eVar 3 ρ = some (.tuple (E.map lk)) → eVar 4 ρ = some (nat k) → eIx (eVar 3) (eVar 4) ρ = some (lk (E.getD k Lk0)) := fun ρ a b => by rw [eIx_a, a, b, o2_ss]; exact ix
        rw [eOp_a, eOp_a, eSl_to (ds := E.map lk) rfl rfl hkm, eTup_1 (x := lk ((E.getD k Lk0).1, (E.getD k Lk0).2.1, w)) (eTup_3 (by rw [eIx_a, ixx _ rfl rfl, eC_a, o2_ss]; exact atI_0) (by rw [eIx_a, ixx _ rfl rfl, eC_a, o2_ss]; exact atI_1) rfl), o2_ss, dAdd_tt (by simp; omega), eSl_from (ds := E.map lk) (k := k + 1) rfl (by show some (PyData.int _) = some (PyData.int _); rfl) (by rw [List.length_map]; omega), o2_ss, dAdd_tt (by simp; omega)]
        exact congrArg (fun a => some (PyData.tuple a)) tk
      rw [e1]
      simp only [eVar_0, eVar_s, o1_s]
      exact j1
    simp only [List.map_cons, List.map_nil, List.replicate_succ, List.replicate_zero, List.nil_append, List.cons_append, List.append_nil, Nat.reduceSub, Nat.reduceAdd, setsD, zeros, stt, setsO, setsJ, List.foldl_cons, List.foldl_nil, List.set_cons_zero, List.set_cons_succ, demote]
    have e : ((([0, 1] : List Rat).take j).map fun w => rt (f w)) ++ [rt (f w)] = (([0, 1] : List Rat).take (j + 1)).map fun w => rt (f w) := by
      rw [take_snoc hjw, List.map_append]
      rfl
    rw [e]
    exact ⟨_, rfl⟩
  · rintro _ ⟨x21, rfl⟩
    have e2 : ((([0, 1] : List Rat).take [rt 0, rt 1].length).map fun w => rt (f w)) = [rt (f 0), rt (f 1)] := rfl
    rw [e2]
    obtain ⟨j0, s0⟩ := jw 0 wr0
    obtain ⟨j1, s1⟩ := jw 1 wr1
    refine wp_seq (wp_tupL (ds := [rt (f 0), rt (f 1)]) (m := [(15, .int (f 0).num), (16, .int (f 0).den), (22, .int (f 1).num), (23, .int (f 1).den)]) rfl rfl ?_)
    simp only [List.map_cons, List.map_nil, List.replicate_succ, List.replicate_zero, List.nil_append, List.cons_append, List.append_nil, Nat.reduceSub, Nat.reduceAdd, setsD, zeros, stt, setsO, setsJ, List.foldl_cons, List.foldl_nil, List.set_cons_zero, List.set_cons_succ, demote]
    generalize f 0 = c0 at lin wk j0 s0 ⊢
    generalize f 1 = c1 at lin wk j1 s1 ⊢
    have m1 : mulOk c1.num c0.den = true := mulOk_big s1.natN s0.natD (by omega) (by omega) (by omega)
    have m2 : mulOk c0.num c1.den = true := mulOk_big s0.natN s1.natD (by omega) (by omega) (by omega)
    have m3 : mulOk c0.den c1.den = true := mulOk_big s0.natD s1.natD (by omega) (by omega) (by omega)
    have ra := ratio_ok (a := c1.num * c0.den - c0.num * c1.den) (b := c0.den * c1.den) (Int.mul_pos (den_pos _) (den_pos _)) (natAbs_mul_lt s0.natD s1.natD) (by omega)
    have sb := rat_sub_eq c1 c0
    rw [Int.mul_comm (c1.den : Int)] at sb
    rw [← sb] at ra
    have li := like_ok 30 (rt (c1 - c0)) rfl
    refine wp_seq (wp_pass ?_ ?_)
    · refine tNot_b (b := true) (tTru_b ?_)
      simp only [eCall_2, eCall_4, eOp_a, eVar_0, eVar_s, o2_ss, o1_s, dMul_i m1, dMul_i m2, dMul_i m3, dSub_i, ra]
      rw [wk, o1_s]
      exact li
    generalize hww : (E.getD k Lk0).2.2 = w at w1 w2 rc lin
    refine wp_seq (wp_tup (d := rt w) (m := [(24, .int w.num), (25, .int w.den)]) (by
      simp only [eIx_a, eVar_0, eVar_s, eC_a, o2_ss]
      show o2 (dIx (.tuple (E.map lk)) (.int (k : Int))) (some (.int 2)) dIx = _
      rw [ix, o2_ss, lk_2, hww]) rfl rfl ?_)
    simp only [List.map_cons, List.map_nil, List.replicate_succ, List.replicate_zero, List.nil_append, List.cons_append, List.append_nil, Nat.reduceSub, Nat.reduceAdd, setsD, zeros, stt, setsO, setsJ, List.foldl_cons, List.foldl_nil, List.set_cons_zero, List.set_cons_succ, demote]
    have t0 := ltimes_ok w2 s0 (by omega) (by omega) (by omega)
    have t1 := ltimes_ok w1 s1 (by omega) (by omega) (by omega)
    have ad := ladd_ok' (w2.mul s0 (by omega) (by omega) (by omega)) (w1.mul s1 (by omega) (by omega) (by omega)) (by omega) (by omega) (by omega)
    rw [← lin] at ad
    refine wp_pass ?_ (q _ _ _ _ _ _ _ _)
    have q0 : dIx (.list [rt c0, rt c1]) (.int 0) = some (rt c0) := atI_0
    have q1 : dIx (.list [rt c0, rt c1]) (.int 1) = some (rt c1) := atI_1
    have p0 : ∀ ρ : PEnv, eVar 25 ρ = some (.int w.den) → eVar 24 ρ = some (.int w.num) → eTup (aCons (eOp dSub (eVar 25) (eVar 24)) (aCons (eVar 25) aNil)) ρ = some (rt (1 - w)) := fun ρ a b => by
      rw [← rc]
      exact eTup_2 (by rw [eOp_a, a, b, o2_ss, dSub_i]) a
    have p1 : ∀ ρ : PEnv, eVar 25 ρ = some (.int w.den) → eVar 24 ρ = some (.int w.num) → eTup (aCons (eVar 24) (aCons (eVar 25) aNil)) ρ = some (rt w) := fun ρ a b => eTup_2 b a
    simp only [tCmp_a, eCall_2]
    rw [p0 _ rfl rfl, p1 _ rfl rfl]
    simp only [eIx_a, eC_a, eVar_0, eVar_s, o2_ss]
    rw [q0, q1, o1_s, o1_s, o1_s, o1_s, t0, t1, o1_s, o1_s, ad, o2_ss, dNe_rt, decide_eq_true rfl]
    rfl
theorem lwG_ok {N B C : S → Prop} {J : List (List Nat)} (hJ : J = (aset E.length).filter (jn E 0 v)) (x0 x4 x10 x13 x14 x15 x16 x17 x18 x19 x20 x21 x22 x23 x24 x25 x26 x27 : Option D) :
    WP lwG ([x0, some (rowD r 40), some (nat n), some (.tuple (E.map lk)), x4, some (nat 0), some (nat v), some (net n E), some (nat E.length), some (rt (cj E 0 v)), x10, some (cl12 E.length J), some (rl J), x13, x14, x15, x16, x17, x18, x19, x20, x21, x22, x23, x24, x25, x26, x27], L28b) N (fun x => x = .bool true) B C := by
  unfold lwG
  have jh := joined_ok (E := half E) (u := 0) (v := v) (half_ends he) hn (by rw [half_len]; omega) (half_we E) h0
  rw [filter_half, ← hJ] at jh
  have Jl : J.length ≤ 100 := by rw [hJ]; exact filter_len he hn (by omega) _
  have Js : ∀ s ∈ J, s.length < E.length + 1 := fun s h => by
    rw [hJ] at h
    have := nt_tuple_mem s h
    omega
  have sh := sumc_half (E := E) J
  have cs := cnt_sum (E.length + 1) J Js
  refine wp_seq (wp_set (d := net n (half E)) ?_ (net_flat _ _) ?_)
  · refine eTup_2 rfl (tup_of ?_)
    unfold half
    rw [List.map_map]
    refine eLc_of lk _ (l := E) (by (first | rfl | (simp only [eOp_a, eUn_a, eCB_a, aCons_a, aNil_a, eIx_a, eC_a, eVar_0, eVar_s, o2_ss, o1_s, d1_1, d2_2, eB_a, tCmp_a, tTru_a, tNotD_a, tIsND_a, tNotND_a, eIsN_a, eNotN_a, tTrue_a, iSeq_a, seqOf_l, seqOf_t, dAdd_i, dAddI_i, dSub_i, dNeg_i, dLt_i, dLe_i, dGt_i, dGe_i, dEq_i, dNe_i, dTru_b, dTru_i, dTru_l, dTru_t, dTru_n, isNon_n, isNon_b, isNon_i, isNon_s, isNon_l, isNon_t, dLen_l, dLen_t, dInt_i, dInt_b, dTuple_l, dTuple_t, dList_l, dList_t, eCall_1, eCall_2, eCall_3, eCall_4, eCall_5, eCall_6, eCall_7] <;> rfl))) (by omega) fun l hl => ⟨[(15, nat l.1), (16, nat l.2.1), (21, rt l.2.2)], rfl, ?_⟩
    simp only [setsD, wipeD, List.foldl_cons, List.foldl_nil, List.set_cons_zero, List.set_cons_succ]
    refine eTup_3 rfl rfl ?_
    rw [← rt_half]
    exact eTup_2 rfl rfl
  simp only [List.map_cons, List.map_nil, List.replicate_succ, List.replicate_zero, List.nil_append, List.cons_append, List.append_nil, Nat.reduceSub, Nat.reduceAdd, setsD, zeros, stt, setsO, setsJ, List.foldl_cons, List.foldl_nil, List.set_cons_zero, List.set_cons_succ, demote]
  have sm : dSum (cl12 E.length J) = some (.int J.length) := by
    show o1 (intsD ((List.range (E.length + 1)).map fun k => nat (cnt J k))) (fun is => some (PyData.int is.sum)) = _
    have := intsD_map ((List.range (E.length + 1)).map fun k => ((cnt J k : Nat) : Int))
    rw [List.map_map] at this
    have e : intsD ((List.range (E.length + 1)).map fun k => nat (cnt J k)) = _ := this
    rw [e, o1_s, cs]
  have shl : dShl (.int 1) (.int (E.length : Int)) = some (.int (1 * 2 ^ E.length)) := by
    have : powOk 1 (E.length : Int) = true := by
      have : E.length = 0 ∨ E.length = 1 ∨ E.length = 2 ∨ E.length = 3 ∨ E.length = 4 ∨ E.length = 5 := by omega
      rcases this with h | h | h | h | h | h <;> rw [h] <;> decide
    show (if powOk 1 (E.length : Int) = true then some (PyData.int (1 * 2 ^ ((E.length : Int)).toNat)) else none) = _
    rw [if_pos this, Int.toNat_natCast]
  have b2 : (1 * 2 ^ E.length : Int).natAbs < 2 ^ 6 ∧ (0 : Int) < 1 * 2 ^ E.length := by
    have : E.length = 0 ∨ E.length = 1 ∨ E.length = 2 ∨ E.length = 3 ∨ E.length = 4 ∨ E.length = 5 := by omega
    rcases this with h | h | h | h | h | h <;> rw [h] <;> decide
  have ra := ratio_ok (a := (J.length : Int)) b2.2 b2.1 (by omega)
  rw [div_half sh] at ra
  refine wp_seq (wp_pass ?_ ?_)
  · simp only [tCmp_a, eCall_2, eCall_3, eCB_a, aCons_a, aNil_a, eOp_a, eC_a, eVar_0, eVar_s, o2_ss, o1_s, d1_1, sm]
    show o2 (den_chance_joined [net n (half E), nat 0, nat v]) (o2 (some (PyData.int _)) (dShl (.int 1) (.int (E.length : Int))) fun a b => den__law_ratio [a, b]) dNe = _
    rw [jh, shl, o2_ss, ra, o2_ss, dNe_rt, decide_eq_true rfl]
    rfl
  obtain ⟨e15, b15⟩ := mdN_ok (x := r 15) (q := 5) (by decide)
  have e15 : r 15 % 5 = (mdN (r 15) 5 : Int) := e15
  generalize mdN (r 15) 5 = c at e15 b15
  have i15 : dIx (rowD r 40) (.int 15) = some (.int (r 15)) := ix_row (k := 15) (by decide)
  refine wp_seq (wp_par (d := .int (6 + c)) (e := .int 10) ?_ rfl rfl rfl ?_)
  · simp only [eOp_a, eCB_a, aCons_a, aNil_a, eIx_a, eC_a, eVar_0, eVar_s, o2_ss, o1_s, d1_1, dAdd_i, dInt_i]
    show o2 (some (PyData.int 6)) (o2 (o1 (o2 (dIx (rowD r 40) (.int 15)) (some []) fun d ds => some (d :: ds)) (d1 dInt)) (some (.int 5)) dMod) dAdd = _
    rw [i15]
    simp only [o2_ss, o1_s, d1_1, dInt_i, dMod_i (show (0 : Int) < 5 by decide), e15, dAdd_i]
  simp only [List.map_cons, List.map_nil, List.replicate_succ, List.replicate_zero, List.nil_append, List.cons_append, List.append_nil, Nat.reduceSub, Nat.reduceAdd, setsD, zeros, stt, setsO, setsJ, List.foldl_cons, List.foldl_nil, List.set_cons_zero, List.set_cons_succ, demote]
  have r1 := ratio_ok (a := 6 + (c : Int)) (b := 10) (k := 4) (by decide) (by decide) (by decide)
  have r2 := ratio_ok (a := 2 * (6 + (c : Int)) - 10) (b := 10) (k := 4) (by decide) (by decide) (by decide)
  have bo := bold_ok c b15
  have li := like_ok 30 (rt (Rat.divInt (2 * (6 + (c : Int)) - 10) 10)) rfl
  have m2 : mulOk 2 (6 + (c : Int)) = true := mulOk_l (by decide)
  have io := insure_ok r
  refine wp_ret (d := .bool true) (eAnd_b (a := true) (b := true) ?_ (fun _ => ?_) fun h => h) rfl
  · simp only [eCall_2, eCall_1, eOp_a, eC_a, eVar_0, eVar_s, o2_ss, o1_s, r1, dMul_i m2, dSub_i, r2, bo]
    exact li
  · rw [eCall_1]
    simp only [eVar_0, eVar_s, o1_s]
    exact io
end
end Lib
end

section
set_option Elab.async false
set_option linter.all false
set_option maxRecDepth 10000
/-! k12, part l: the law. -/
namespace Lib
open DS PySem
theorem rowVals_cons {i : Nat} {own : Bool} {f : FE} {r : Row} {ρ : PEnv} {d : D} {ds : List D} (h : f ρ = some d) (hf : (own || flat d) = true) (t : rowVals r ρ = some ds) : rowVals ((i, own, f) :: r) ρ = some (d :: ds) := by
  unfold rowVals
  simp only [h, hf, if_true, t]
theorem wp_parN {N B C : S → Prop} {R : D → Prop} {ρ : PEnv} {L : List Nat} {rs : Row} {c : Esc} {ds : List D} (h : rowVals rs ρ = some ds) (q : N (setsD ρ ((rs.map (·.1)).zip ds), setsL (demote c L) (rs.map fun r => (r.1, r.2.1)))) : WP (sParN rs c) (ρ, L) N R B C := by
  unfold WP sParN
  simp only [h]
  exact q
theorem wp_setL {N B C : S → Prop} {R : D → Prop} {ρ : PEnv} {L L' : List Nat} {i l : Nat} {f : FE} {c : Esc} {d : D} (h : f ρ = some d) (hd : flat d = false) (hL : (demote c L).set i l = L') (q : N (ρ.set i (some d), L')) : WP (sSet i l f c) (ρ, L) N R B C := wp_setD h hd (by rw [hL]; exact q)
theorem getD_lk {E : List Lk} {l : Lk} {k : Nat} (h : E[k]? = some l) : E.getD k Lk0 = l := by rw [List.getD_eq_getElem?_getD, h]; rfl
theorem law_tail {n v : Nat} {E : List Lk} {r : Nat → Int} {ns : List Int} (he : Ends E n) (hn : n ≤ 1000) (h0 : 0 < n) (hm : E.length ≤ 5) (hw : W5 E) {J : List (List Nat)} (hJ : J = (aset E.length).filter (jn E 0 v)) {N B C : S → Prop} (x4 x13 x14 x15 x16 x17 : Option D) :
  WP (sSeq (sIf (tNotD (tTru (eCall 2 (den__law_like 30) (aCons (eTup (aCons (eCall 3 den_chance_joined (aCons (eVar 7) (aCons (eVar 5) (aCons (eVar 6) aNil)))) (aCons (eCall 1 den_chance_whole (aCons (eVar 7) aNil)) (aCons (eCall 3 den_hold_poly (aCons (eVar 7) (aCons (eVar 5) (aCons (eVar 6) aNil)))) aNil)))) (aCons (eTup (aCons (eVar 9) (aCons (eVar 10) (aCons (eCB (d1 dTuple) (aCons (eVar 11) aNil)) aNil)))) aNil)))))
  (sRet (eC (.bool false)))
  sNil)
  (sSeq (sSet 18 0 (eLc (iSeq (eVar 12)) (.nm 13) (tNotD (tTru (eCB (d1 dAny) (aCons (eLc (iSeq (eVar 12)) (.nm 27) tTrue (eAndD (eB (tCmp dNe (eVar 27) (eVar 13))) (eCB (d1 dAll) (aCons (eLc (iSeq (eVar 27)) (.nm 4) tTrue (eB (tCmp dIn (eVar 4) (eVar 13))) [4]) aNil))) [27]) aNil)))) (eVar 13) [13]) ([(12, 1)] ++ [(13, 0)]))
  (sSeq (sSet 19 0 (eLc (iSeq (eCall 1 den__law_sets (aCons (eVar 8) aNil))) (.nm 13) (tCmp dNotIn (eVar 6) (eCall 3 den__law_joined (aCons (eVar 2) (aCons (eLc (iRange1 (eVar 8)) (.nm 4) (tCmp dNotIn (eVar 4) (eVar 13)) (eIx (eVar 3) (eVar 4)) [4]) (aCons (eVar 5) aNil))))) (eVar 13) [13]) (([(8, 0)] ++ []) ++ [(13, 0)]))
  (sSeq (sSet 19 0 (eLc (iSeq (eVar 19)) (.nm 13) (tNotD (tTru (eCB (d1 dAny) (aCons (eLc (iSeq (eVar 19)) (.nm 27) tTrue (eAndD (eB (tCmp dNe (eVar 27) (eVar 13))) (eCB (d1 dAll) (aCons (eLc (iSeq (eVar 27)) (.nm 4) tTrue (eB (tCmp dIn (eVar 4) (eVar 13))) [4]) aNil))) [27]) aNil)))) (eVar 13) [13]) ([(19, 1)] ++ [(13, 0)]))
  (sSeq (sIf (tNotD (tTru (eCall 2 (den__law_like 30) (aCons (eTup (aCons (eCall 3 den_least_ways (aCons (eVar 7) (aCons (eVar 5) (aCons (eVar 6) aNil)))) (aCons (eCall 3 den_least_blocks (aCons (eVar 7) (aCons (eVar 5) (aCons (eVar 6) aNil)))) aNil))) (aCons (eTup (aCons (eCB (d1 dTuple) (aCons (eVar 18) aNil)) (aCons (eCB (d1 dTuple) (aCons (eVar 19) aNil)) aNil))) aNil)))))
  (sRet (eC (.bool false)))
  sNil)
  (sSeq (sFor (iSeq (eVar 18)) [(18, 0)] (.nm 13) lwD)
  (sSeq (sFor (iRange1 (eVar 8)) [] (.nm 4) lwF)
  lwG))))))) ([some (scr ns), some (rowD r 40), some (nat n), some (.tuple (E.map lk)), x4, some (nat 0), some (nat v), some (net n E), some (nat E.length), some (rt (cj E 0 v)), some (rt (sumc E ((aset E.length).filter (wh E n)))), some (cl12 E.length J), some (rl J), x13, x14, x15, x16, x17, none, none, none, none, none, none, none, none, none, none], L28b) N (fun x => x = .bool true) B C := by
  have cjn := joined_ok (u := 0) (v := v) he hn (by omega) hw.we h0
  have cwh := whole_ok he hn (by omega) hw.we h0
  have hp := hold_ok (u := 0) (v := v) he hn (by omega) h0
  have wy := ways_ok (u := 0) (v := v) he hn (by omega) h0
  have bk := blocks_ok (u := 0) (v := v) he hn (by omega) h0
  rw [blocks_eq] at bk
  have ej : cj E 0 v = sumc E ((aset E.length).filter (jn E 0 v)) := rfl
  rw [← hJ] at cjn hp wy ej
  have fl : J.length ≤ 100 := by rw [hJ]; exact filter_len he hn (by omega) _
  have Js : ∀ s ∈ J, s.length ≤ 1000 := fun s h => by
    rw [hJ] at h
    have := nt_tuple_mem s h
    omega
  obtain ⟨Bs, hB⟩ : ∃ Bs, Bs = (aset E.length).filter fun s => !jn E 0 v (cpl E.length s) := ⟨_, rfl⟩
  have bl : Bs.length ≤ 100 := by rw [hB]; exact filter_len he hn (by omega) _
  have Bsl : ∀ s ∈ Bs, s.length ≤ 1000 := fun s h => by
    rw [hB] at h
    have := nt_tuple_mem s h
    omega
  rw [← hB] at bk
  have ls := law_sets_ok (n := E.length) (by omega)
  have mt : ∀ a ∈ mins J, ∀ b ∈ mins Bs, b.any (fun k => a.contains k) = true := fun a ha b hb => by
    rw [hJ] at ha
    rw [hB] at hb
    exact meet ha hb
  have mJ : (mins J).length ≤ 100 := Nat.le_trans (List.length_filter_le _ _) fl
  have mB : (mins Bs).length ≤ 100 := Nat.le_trans (List.length_filter_le _ _) bl
  have mJs : ∀ s ∈ mins J, s.length ≤ 1000 := fun s h => Js s (List.mem_filter.mp h).1
  have mBs : ∀ s ∈ mins Bs, s.length ≤ 1000 := fun s h => Bsl s (List.mem_filter.mp h).1
  refine wp_seq (wp_pass ?_ ?_)
  · refine tNot_b (b := true) (tTru_b ?_)
    rw [eCall_2]
    have li := like_ok 30 (.tuple [rt (cj E 0 v), rt (sumc E ((aset E.length).filter (wh E n))), .tuple ((List.range (E.length + 1)).map fun k => nat (cnt J k))]) (pl_tup (by simp) fun d hd => by
      simp only [List.mem_cons, List.not_mem_nil, or_false] at hd
      rcases hd with rfl | rfl | rfl
      · rfl
      · rfl
      · exact pl_tup (by simp; omega) fun d hd => by
          obtain ⟨k, _, rfl⟩ := List.mem_map.mp hd
          rfl)
    rw [eTup_3 (x := rt (cj E 0 v)) (y := rt (sumc E ((aset E.length).filter (wh E n)))) (z := .tuple ((List.range (E.length + 1)).map fun k => nat (cnt J k))) (by rw [eCall_3, ej]; exact cjn) (by rw [eCall_1]; exact cwh) (by rw [eCall_3]; exact hp)]
    rw [eTup_3 (x := rt (cj E 0 v)) (y := rt (sumc E ((aset E.length).filter (wh E n)))) (z := .tuple ((List.range (E.length + 1)).map fun k => nat (cnt J k))) rfl rfl (tup_of rfl)]
    rw [o1_s, o1_s]
    exact li
  refine wp_seq (wp_setL (L' := L28b) (d := rl (mins J)) (least_ok (J := J) (by omega) Js rfl (show _ < 28 by decide) (show _ < 28 by decide) (show _ < 28 by decide) (by decide) (by decide) (by decide) (by decide)) rfl rfl ?_)
  simp only [List.map_cons, List.map_nil, List.replicate_succ, List.replicate_zero, List.nil_append, List.cons_append, List.append_nil, Nat.reduceSub, Nat.reduceAdd, setsD, zeros, stt, setsO, setsJ, List.foldl_cons, List.foldl_nil, List.set_cons_zero, List.set_cons_succ, demote]
  refine wp_seq (wp_setL (L' := L28b) (d := rl Bs) ?_ rfl rfl ?_)
  · rw [hB]
    refine eLc_if nt nt _ (l := aset E.length) (by
      unfold iSeq
      rw [eCall_1]
      simp only [eVar_0, eVar_s, o1_s]
      show o1 (den__law_sets [.int (E.length : Int)]) seqOf = _
      rw [ls]; rfl) (by
      have := filter_len he hn (by omega) (fun _ => true)
      rw [List.filter_eq_self.mpr (fun _ _ => rfl)] at this
      omega) fun s hs => ⟨[(13, nt s)], rfl, ?_, fun _ => rfl⟩
    obtain ⟨al, sl⟩ := asc_lt hs
    obtain ⟨cl1, cl2⟩ := asc_lt (cpl_in E.length s)
    obtain ⟨d, lj, M, rfl, ic, _⟩ := law_joined_ok (E := pick E (cpl E.length s)) (he.pick cl1) h0 hn (.list ((pick E (cpl E.length s)).map lk)) rfl
    have hjn : M.contains v = jn E 0 v (cpl E.length s) := by unfold jn; exact @comp_has _ _ _ _ ic (Classical.propDecidable _)
    have lj : den__law_joined [nat n, PyData.list ((pick E (cpl E.length s)).map lk), nat 0] = some (nl M) := lj
    simp only [setsD, wipeD, List.foldl_cons, List.foldl_nil, List.set_cons_zero, List.set_cons_succ]
    have lc : eLc (iRange1 (eVar 8)) (.nm 4) (tCmp dNotIn (eVar 4) (eVar 13)) (eIx (eVar 3) (eVar 4)) [4] [some (scr ns), some (rowD r 40), some (nat n), some (.tuple (E.map lk)), x4, some (nat 0), some (nat v), some (net n E), some (nat E.length), some (rt (cj E 0 v)), some (rt (sumc E ((aset E.length).filter (wh E n)))), some (cl12 E.length J), some (rl J), some (nt s), x14, x15, x16, x17, some (rl (mins J)), none, none, none, none, none, none, none, none, none] = some (.list ((pick E (cpl E.length s)).map lk)) := by
      have e : (pick E (cpl E.length s)).map lk = ((List.range E.length).filter fun k => !s.contains k).map fun k => lk (E.getD k Lk0) := by
        unfold pick cpl
        rw [List.map_map]
        rfl
      rw [e]
      refine eLc_if nat _ _ (l := List.range E.length) (range1_nat rfl (by omega)) (by rw [List.length_range]; omega) fun k hk => ⟨[(4, nat k)], rfl, ?_, fun _ => ?_⟩
      · simp only [setsD, wipeD, List.foldl_cons, List.foldl_nil, List.set_cons_zero, List.set_cons_succ, tCmp_a, eVar_0, eVar_s, o2_ss]
        unfold dNotIn
        rw [nt_in, o1_s]
      · simp only [setsD, wipeD, List.foldl_cons, List.foldl_nil, List.set_cons_zero, List.set_cons_succ, eIx_a, eVar_0, eVar_s, o2_ss]
        exact lks_ix (List.mem_range.mp hk)
    rw [tCmp_a, eCall_3, lc]
    simp only [eVar_0, eVar_s, o1_s]
    rw [lj, o2_ss, nl_notin, hjn]
  simp only [List.map_cons, List.map_nil, List.replicate_succ, List.replicate_zero, List.nil_append, List.cons_append, List.append_nil, Nat.reduceSub, Nat.reduceAdd, setsD, zeros, stt, setsO, setsJ, List.foldl_cons, List.foldl_nil, List.set_cons_zero, List.set_cons_succ, demote]
  refine wp_seq (wp_setL (L' := L28b) (d := rl (mins Bs)) (least_ok (J := Bs) (by omega) Bsl rfl (show _ < 28 by decide) (show _ < 28 by decide) (show _ < 28 by decide) (by decide) (by decide) (by decide) (by decide)) rfl rfl ?_)
  simp only [List.map_cons, List.map_nil, List.replicate_succ, List.replicate_zero, List.nil_append, List.cons_append, List.append_nil, Nat.reduceSub, Nat.reduceAdd, setsD, zeros, stt, setsO, setsJ, List.foldl_cons, List.foldl_nil, List.set_cons_zero, List.set_cons_succ, demote]
  refine wp_seq (wp_pass ?_ ?_)
  · refine tNot_b (b := true) (tTru_b ?_)
    rw [eCall_2]
    have li := like_ok 30 (.tuple [.tuple ((mins J).map nt), .tuple ((mins Bs).map nt)]) (pl_tup (by simp) fun d hd => by
      simp only [List.mem_cons, List.not_mem_nil, or_false] at hd
      rcases hd with rfl | rfl
      · exact pl_rows (by omega) fun s h => by have := mJs s h; omega
      · exact pl_rows (by omega) fun s h => by have := mBs s h; omega)
    rw [eTup_2 (x := .tuple ((mins J).map nt)) (y := .tuple ((mins Bs).map nt)) (by rw [eCall_3]; exact wy) (by rw [eCall_3]; exact bk)]
    rw [eTup_2 (x := .tuple ((mins J).map nt)) (y := .tuple ((mins Bs).map nt)) (tup_of rfl) (tup_of rfl)]
    rw [o1_s, o1_s]
    exact li
  refine wp_seq ?_
  refine wp_for (ds := (mins J).map nt) (P := fun k s => ∃ x4 x13 x27, s = ([some (scr ns), some (rowD r 40), some (nat n), some (.tuple (E.map lk)), x4, some (nat 0), some (nat v), some (net n E), some (nat E.length), some (rt (cj E 0 v)), some (rt (sumc E ((aset E.length).filter (wh E n)))), some (cl12 E.length J), some (rl J), x13, x14, x15, x16, x17, some (rl (mins J)), some (rl (mins Bs)), none, none, none, none, none, none, none, x27], L28b)) (by (first | rfl | (simp only [eOp_a, eUn_a, eCB_a, aCons_a, aNil_a, eIx_a, eC_a, eVar_0, eVar_s, o2_ss, o1_s, d1_1, d2_2, eB_a, tCmp_a, tTru_a, tNotD_a, tIsND_a, tNotND_a, eIsN_a, eNotN_a, tTrue_a, iSeq_a, seqOf_l, seqOf_t, dAdd_i, dAddI_i, dSub_i, dNeg_i, dLt_i, dLe_i, dGt_i, dGe_i, dEq_i, dNe_i, dTru_b, dTru_i, dTru_l, dTru_t, dTru_n, isNon_n, isNon_b, isNon_i, isNon_s, isNon_l, isNon_t, dLen_l, dLen_t, dInt_i, dInt_b, dTuple_l, dTuple_t, dList_l, dList_t, eCall_1, eCall_2, eCall_3, eCall_4, eCall_5, eCall_6, eCall_7] <;> rfl))) ⟨_, _, _, rfl⟩ ?_ ?_
  · rintro k d _ hdk ⟨x4, x13, x27, rfl⟩
    rw [List.getElem?_map] at hdk
    obtain ⟨one, ho, rfl⟩ := Option.map_eq_some_iff.mp hdk
    refine ⟨[(13, nt one)], rfl, ?_⟩
    simp only [List.map_cons, List.map_nil, List.replicate_succ, List.replicate_zero, List.nil_append, List.cons_append, List.append_nil, Nat.reduceSub, Nat.reduceAdd, setsD, zeros, stt, setsO, setsJ, List.foldl_cons, List.foldl_nil, List.set_cons_zero, List.set_cons_succ, demote]
    exact lwD_ok he hn h0 hm hw (by omega) (fun b hb => ⟨mBs b hb, mt one (List.mem_of_getElem? ho) b hb⟩) _ _ _ none _ _ _ _ _ none _ _ _ _ _ _ _ _ ⟨_, _, _, rfl⟩
  · rintro _ ⟨x4, x13, x27, rfl⟩
    refine wp_seq ?_
    refine wp_for (ds := (List.range E.length).map nat) (P := fun k s => ∃ x4 x13 x15 x16 x20 x21 x22 x23 x24 x25 x27, s = ([some (scr ns), some (rowD r 40), some (nat n), some (.tuple (E.map lk)), x4, some (nat 0), some (nat v), some (net n E), some (nat E.length), some (rt (cj E 0 v)), some (rt (sumc E ((aset E.length).filter (wh E n)))), some (cl12 E.length J), some (rl J), x13, x14, x15, x16, x17, some (rl (mins J)), some (rl (mins Bs)), x20, x21, x22, x23, x24, x25, none, x27], L28b)) (range1_nat rfl (by omega)) ⟨_, _, _, _, _, _, _, _, _, _, _, rfl⟩ ?_ ?_
    · rintro k d _ hdk ⟨x4, x13, x15, x16, x20, x21, x22, x23, x24, x25, x27, rfl⟩
      rw [List.getElem?_map] at hdk
      obtain ⟨k', hk, rfl⟩ := Option.map_eq_some_iff.mp hdk
      obtain ⟨hlt, e⟩ := List.getElem?_eq_some_iff.mp hk
      rw [List.getElem_range] at e
      subst e
      refine ⟨[(4, nat k)], rfl, ?_⟩
      simp only [List.map_cons, List.map_nil, List.replicate_succ, List.replicate_zero, List.nil_append, List.cons_append, List.append_nil, Nat.reduceSub, Nat.reduceAdd, setsD, zeros, stt, setsO, setsJ, List.foldl_cons, List.foldl_nil, List.set_cons_zero, List.set_cons_succ, demote]
      exact lwF_ok he hn h0 hm hw (by simpa using hlt) _ _ _ _ _ _ _ _ _ _ _ _ _ _ _ _ _ (fun _ _ _ _ _ _ _ _ => ⟨_, _, _, _, _, _, _, _, _, _, _, rfl⟩)
    · rintro _ ⟨x4, x13, x15, x16, x20, x21, x22, x23, x24, x25, x27, rfl⟩
      exact lwG_ok he hn h0 hm hw hJ _ _ _ _ _ _ _ _ _ _ _ _ _ _ _ _ _ _
theorem law12 (ns : List Int) (hns : ns.length ≤ 63) : den_law [scr ns] = some (.bool true) := by
  obtain ⟨r, hr0, hrow⟩ := row_fn ns 40 (by omega)
  have i0 : dIx (rowD r 40) (.int 0) = some (.int (r 0)) := ix_row (k := 0) (by decide)
  have i1 : dIx (rowD r 40) (.int 1) = some (.int (r 1)) := ix_row (k := 1) (by decide)
  have i14 : dIx (rowD r 40) (.int 14) = some (.int (r 14)) := ix_row (k := 14) (by decide)
  refine dfun_wp rfl ?_
  simp only [List.map_cons, List.map_nil, List.replicate_succ, List.replicate_zero, List.nil_append, List.cons_append, List.append_nil, Nat.reduceSub, Nat.reduceAdd, setsD, zeros, stt, setsO, setsJ, List.foldl_cons, List.foldl_nil, List.set_cons_zero, List.set_cons_succ, demote]
  refine wp_seq (wp_setD (d := rowD r 40) (by rw [eCall_2]; exact hrow) rfl ?_)
  simp only [List.map_cons, List.map_nil, List.replicate_succ, List.replicate_zero, List.nil_append, List.cons_append, List.append_nil, Nat.reduceSub, Nat.reduceAdd, setsD, zeros, stt, setsO, setsJ, List.foldl_cons, List.foldl_nil, List.set_cons_zero, List.set_cons_succ, demote]
  obtain ⟨e0, b0⟩ := mdN_ok (x := r 0) (q := 3) (by decide)
  have e0 : r 0 % 3 = (mdN (r 0) 3 : Int) := e0
  obtain ⟨n, hn⟩ : ∃ n, n = 2 + mdN (r 0) 3 := ⟨_, rfl⟩
  refine wp_seq (wp_set (d := nat n) ?_ rfl ?_)
  · simp only [eOp_a, eCB_a, aCons_a, aNil_a, eIx_a, eC_a, eVar_0, eVar_s, o2_ss, o1_s, d1_1, i0, dInt_i, dMod_i (show (0 : Int) < 3 by decide), e0, dAdd_i, hn]
    rfl
  simp only [List.map_cons, List.map_nil, List.replicate_succ, List.replicate_zero, List.nil_append, List.cons_append, List.append_nil, Nat.reduceSub, Nat.reduceAdd, setsD, zeros, stt, setsO, setsJ, List.foldl_cons, List.foldl_nil, List.set_cons_zero, List.set_cons_succ, demote]
  have n2 : 2 ≤ n := by omega
  have n4 : n ≤ 4 := by omega
  clear hn e0 b0
  refine wp_seq (wp_setD (d := .list []) rfl rfl ?_)
  simp only [List.map_cons, List.map_nil, List.replicate_succ, List.replicate_zero, List.nil_append, List.cons_append, List.append_nil, Nat.reduceSub, Nat.reduceAdd, setsD, zeros, stt, setsO, setsJ, List.foldl_cons, List.foldl_nil, List.set_cons_zero, List.set_cons_succ, demote]
  obtain ⟨e1, b1⟩ := mdN_ok (x := r 1) (q := 6) (by decide)
  have e1 : r 1 % 6 = (mdN (r 1) 6 : Int) := e1
  generalize mdN (r 1) 6 = m at e1 b1
  refine wp_seq ?_
  refine wp_for (ds := (List.range m).map nat) (P := fun k s => ∃ (ls' : List Lk) (x4 x5 x6 : Option D), s = ([some (scr ns), some (rowD r 40), some (nat n), some (.list (ls'.map lk)), x4, x5, x6, none, none, none, none, none, none, none, none, none, none, none, none, none, none, none, none, none, none, none, none, none], L28a) ∧ ls'.length = k ∧ ∀ l ∈ ls', LkOk n l) (range1_nat (by
    simp only [eOp_a, eCB_a, aCons_a, aNil_a, eIx_a, eC_a, eVar_0, eVar_s, o2_ss, o1_s, d1_1, i1, dInt_i, dMod_i (show (0 : Int) < 6 by decide), e1]) (by omega)) ⟨[], none, none, none, rfl, rfl, fun _ h => by cases h⟩ ?_ ?_
  · rintro k d _ hdk ⟨ls', x4, x5, x6, rfl, hl, hok⟩
    rw [List.getElem?_map] at hdk
    obtain ⟨k', hk, rfl⟩ := Option.map_eq_some_iff.mp hdk
    obtain ⟨hlt, e⟩ := List.getElem?_eq_some_iff.mp hk
    rw [List.getElem_range] at e
    subst e
    have hkm : k < m := by simpa using hlt
    refine ⟨[(4, nat k)], rfl, ?_⟩
    simp only [List.map_cons, List.map_nil, List.replicate_succ, List.replicate_zero, List.nil_append, List.cons_append, List.append_nil, Nat.reduceSub, Nat.reduceAdd, setsD, zeros, stt, setsO, setsJ, List.foldl_cons, List.foldl_nil, List.set_cons_zero, List.set_cons_succ, demote]
    refine lwA_ok n2 (by omega) (by omega) hr0 _ (fun l y5 y6 ok => ⟨ls' ++ [l], _, _, _, rfl, by simp [hl], fun x hx => ?_⟩) _ _
    rcases List.mem_append.mp hx with h | h
    · exact hok x h
    · simp at h; subst h; exact ok
  · rintro _ ⟨E, x4, x5, x6, rfl, hEl, hok⟩
    have he : Ends E n := fun l hl => ⟨(hok l hl).a, (hok l hl).b, (hok l hl).ne⟩
    have hw : W5 E := fun l hl => (hok l hl).w
    have hm : E.length ≤ 5 := by rw [List.length_map, List.length_range] at hEl; omega
    have h0 : 0 < n := by omega
    have hn : n ≤ 1000 := by omega
    clear hEl hok
    refine wp_seq (wp_set (d := .tuple (E.map lk)) (tup_of rfl) (by simp only [flat, lks_flat]) ?_)
    simp only [List.map_cons, List.map_nil, List.replicate_succ, List.replicate_zero, List.nil_append, List.cons_append, List.append_nil, Nat.reduceSub, Nat.reduceAdd, setsD, zeros, stt, setsO, setsJ, List.foldl_cons, List.foldl_nil, List.set_cons_zero, List.set_cons_succ, demote]
    refine wp_seq (wp_tup (d := .tuple [net n E, nat E.length]) (m := [(7, net n E), (8, nat E.length)]) ?_ rfl ?_ ?_)
    · refine eTup_2 (eTup_2 rfl rfl) ?_
      simp only [eCB_a, aCons_a, aNil_a, eVar_0, eVar_s, o2_ss, o1_s, d1_1, dLen_t, List.length_map]
      rfl
    · have := net_flat n E
      simp only [flat, flats, this]
      rfl
    simp only [List.map_cons, List.map_nil, List.replicate_succ, List.replicate_zero, List.nil_append, List.cons_append, List.append_nil, Nat.reduceSub, Nat.reduceAdd, setsD, zeros, stt, setsO, setsJ, List.foldl_cons, List.foldl_nil, List.set_cons_zero, List.set_cons_succ, demote]
    obtain ⟨e14, b14⟩ := mdN_ok (x := r 14) (q := n - 1) (by omega)
    have e14 : r 14 % ((n : Int) - 1) = (mdN (r 14) (n - 1) : Int) := by rw [← e14]; congr 1; omega
    obtain ⟨v, hv⟩ : ∃ v, v = 1 + mdN (r 14) (n - 1) := ⟨_, rfl⟩
    refine wp_seq (wp_tup (d := .tuple [nat 0, nat v]) (m := [(5, nat 0), (6, nat v)]) ?_ rfl rfl ?_)
    · refine eTup_2 rfl ?_
      simp only [nat, eOp_a, eCB_a, aCons_a, aNil_a, eIx_a, eC_a, eVar_0, eVar_s, o2_ss, o1_s, d1_1, i14, dInt_i, dSub_i, dMod_i (show (0 : Int) < (n : Int) - 1 by omega), e14, dAdd_i, hv]
      rfl
    simp only [List.map_cons, List.map_nil, List.replicate_succ, List.replicate_zero, List.nil_append, List.cons_append, List.append_nil, Nat.reduceSub, Nat.reduceAdd, setsD, zeros, stt, setsO, setsJ, List.foldl_cons, List.foldl_nil, List.set_cons_zero, List.set_cons_succ, demote]
    clear hv e14 b14
    refine wp_seq (wp_parN (ds := [rt 0, rt 0, cl12 E.length [], rl []]) (rowVals_cons (eTup_2 rfl rfl) rfl (rowVals_cons (eTup_2 rfl rfl) rfl (rowVals_cons ?_ rfl (rowVals_cons rfl rfl rfl)))) ?_)
    · have e : dMul (.list [.int 0]) (.int ((E.length : Int) + 1)) = some (cl12 E.length []) := by
        show (if [PyData.int 0].length * ((E.length : Int) + 1).toNat ≤ sz ∧ -9223372036854775808 ≤ (E.length : Int) + 1 ∧ (E.length : Int) + 1 < 9223372036854775808 then some (PyData.list (List.replicate ((E.length : Int) + 1).toNat [PyData.int 0]).flatten) else none) = _
        have t : ((E.length : Int) + 1).toNat = E.length + 1 := by omega
        rw [if_pos ⟨by
          have : sz = 16777216 := rfl
          rw [this, t]
          simp only [List.length_cons, List.length_nil]
          omega, by omega, by omega⟩, t, List.flatten_replicate_singleton]
        unfold cl12
        rw [show (fun k => nat (cnt [] k)) = fun _ => (.int 0 : D) from rfl, List.map_const', List.length_range]
      rw [eOp_a, eLst_1 (x := .int 0) rfl, eOp_a]
      simp only [eVar_0, eVar_s, eC_a, o2_ss, nat, dAdd_i]
      exact e
    simp only [List.map_cons, List.map_nil, List.zip_cons_cons, List.zip_nil_right, setsL, Bool.false_eq_true, if_true, if_false]
    simp only [List.map_cons, List.map_nil, List.replicate_succ, List.replicate_zero, List.nil_append, List.cons_append, List.append_nil, Nat.reduceSub, Nat.reduceAdd, setsD, zeros, stt, setsO, setsJ, List.foldl_cons, List.foldl_nil, List.set_cons_zero, List.set_cons_succ, demote]
    have ls := law_sets_ok (n := E.length) (by omega)
    refine wp_seq ?_
    refine wp_for (ds := (aset E.length).map nt) (P := fun k s => ∃ x4 x13 x14 x15 x16 x17, s = ([some (scr ns), some (rowD r 40), some (nat n), some (.tuple (E.map lk)), x4, some (nat 0), some (nat v), some (net n E), some (nat E.length), some (rt (sumc E (((aset E.length).take k).filter (jn E 0 v)))), some (rt (sumc E (((aset E.length).take k).filter (wh E n)))), some (cl12 E.length (((aset E.length).take k).filter (jn E 0 v))), some (rl (((aset E.length).take k).filter (jn E 0 v))), x13, x14, x15, x16, x17, none, none, none, none, none, none, none, none, none, none], L28b)) ?_ ⟨_, _, _, _, _, _, rfl⟩ ?_ ?_
    · unfold iSeq
      rw [eCall_1]
      simp only [eVar_0, eVar_s, o1_s]
      show o1 (den__law_sets [.int (E.length : Int)]) seqOf = _
      rw [ls]; rfl
    · rintro k d _ hdk ⟨x4, x13, x14, x15, x16, x17, rfl⟩
      rw [List.getElem?_map] at hdk
      obtain ⟨s, hs, rfl⟩ := Option.map_eq_some_iff.mp hdk
      refine ⟨[(13, nt s)], rfl, ?_⟩
      simp only [List.map_cons, List.map_nil, List.replicate_succ, List.replicate_zero, List.nil_append, List.cons_append, List.append_nil, Nat.reduceSub, Nat.reduceAdd, setsD, zeros, stt, setsO, setsJ, List.foldl_cons, List.foldl_nil, List.set_cons_zero, List.set_cons_succ, demote]
      have fp : ∀ p : List Nat → Bool, Sm 2000 (sumc E (((aset E.length).take k).filter p)) ∧ (((aset E.length).take k).filter p).length ≤ 32 := fun p => by
        have l : (((aset E.length).take k).filter p).length ≤ 32 := by
          have a := filter_len5 he hn hm hw.we (fun _ => true)
          rw [List.filter_eq_self.mpr (fun _ _ => rfl)] at a
          have b := List.length_filter_le p ((aset E.length).take k)
          rw [List.length_take] at b
          omega
        have := sumc_sm hw.we (by omega) (((aset E.length).take k).filter p) (k := 32) (by omega)
        rw [List.take_of_length_le l] at this
        exact ⟨this.mono (by omega), l⟩
      refine lwC_ok (v := v) he hn hm hw h0 (List.mem_of_getElem? hs) (fp _).1 (fp _).1 (by have := (fp (jn E 0 v)).2; omega) _ _ _ (fun y4 y14 y15 y16 y17 => ⟨y4, some (nt s), y14, y15, y16, y17, ?_⟩) _ _ _ _ _
      · have tk := take_snoc hs
        have f1 : ∀ p : List Nat → Bool, (if p s = true then ((aset E.length).take k).filter p ++ [s] else ((aset E.length).take k).filter p) = ((aset E.length).take (k + 1)).filter p := fun p => by
          rw [tk, List.filter_append]
          by_cases c : p s = true
          · rw [if_pos c, List.filter_cons_of_pos c]; rfl
          · rw [if_neg c, List.filter_cons_of_neg c]; simp
        have f2 : ∀ p : List Nat → Bool, (if p s = true then sumc E (((aset E.length).take k).filter p) + chn E s E.length else sumc E (((aset E.length).take k).filter p)) = sumc E (((aset E.length).take (k + 1)).filter p) := fun p => by
          rw [← f1 p]
          by_cases c : p s = true
          · rw [if_pos c, if_pos c]
            unfold sumc
            rw [List.foldl_append]
            rfl
          · rw [if_neg c, if_neg c]
        rw [f1, f2, f2]
    · rintro _ ⟨x4, x13, x14, x15, x16, x17, rfl⟩
      rw [List.length_map, List.take_length]
      exact law_tail he hn h0 hm hw rfl _ _ _ _ _ _
end Lib
end

section
set_option Elab.async false
set_option linter.all false
set_option maxRecDepth 100000
set_option maxHeartbeats 4000000
namespace Law
open PySem PySem.Spec PyProof.Rows L2 DS
def topS (i : Nat) : Stmt := PySem.Challenge.pw_planskept_k12_whole_holding.main.body.getD i (.Pass ⟨0, 0, 0, 0⟩)
/-- what the top has written -/
structure Tp (K : PySem.W.Frag) (mg : Str → Option Value) (ad : Nat → Addr) (fo : Nat → FuncData) : Prop where
  F_divisor : Fun K "divisor" "divisor" (topS 1) (ad 0) (fo 0)
  b_divisor : Binds K (fo 0) ["first", "second"] []
  g_divisor : mg "divisor" = some (.ref (ad 0))
  F_lowest : Fun K "lowest" "lowest" (topS 2) (ad 1) (fo 1)
  b_lowest : Binds K (fo 1) ["a", "b"] []
  g_lowest : mg "lowest" = some (.ref (ad 1))
  F_plus : Fun K "plus" "plus" (topS 3) (ad 2) (fo 2)
  b_plus : Binds K (fo 2) ["first", "second"] []
  g_plus : mg "plus" = some (.ref (ad 2))
  F_minus : Fun K "minus" "minus" (topS 4) (ad 3) (fo 3)
  b_minus : Binds K (fo 3) ["first", "second"] []
  g_minus : mg "minus" = some (.ref (ad 3))
  F_times : Fun K "times" "times" (topS 5) (ad 4) (fo 4)
  b_times : Binds K (fo 4) ["first", "second"] []
  g_times : mg "times" = some (.ref (ad 4))
  F_all_sets : Fun K "all_sets" "all_sets" (topS 6) (ad 5) (fo 5)
  b_all_sets : Binds K (fo 5) ["n"] []
  g_all_sets : mg "all_sets" = some (.ref (ad 5))
  F_size_key : Fun K "size_key" "size_key" (topS 7) (ad 6) (fo 6)
  b_size_key : Binds K (fo 6) ["row"] []
  g_size_key : mg "size_key" = some (.ref (ad 6))
  F_reached : Fun K "reached" "reached" (topS 9) (ad 7) (fo 7)
  b_reached : Binds K (fo 7) ["n", "links", "start"] []
  g_reached : mg "reached" = some (.ref (ad 7))
  F_chosen : Fun K "chosen" "chosen" (topS 10) (ad 8) (fo 8)
  b_chosen : Binds K (fo 8) ["net", "places"] []
  g_chosen : mg "chosen" = some (.ref (ad 8))
  F_chance_of : Fun K "chance_of" "chance_of" (topS 11) (ad 9) (fo 9)
  b_chance_of : Binds K (fo 9) ["net", "places"] []
  g_chance_of : mg "chance_of" = some (.ref (ad 9))
  F_joining_sets : Fun K "joining_sets" "joining_sets" (topS 12) (ad 10) (fo 10)
  b_joining_sets : Binds K (fo 10) ["net", "u", "v"] []
  g_joining_sets : mg "joining_sets" = some (.ref (ad 10))
  F_sum_of_chances : Fun K "sum_of_chances" "sum_of_chances" (topS 13) (ad 11) (fo 11)
  b_sum_of_chances : Binds K (fo 11) ["net", "sets"] []
  g_sum_of_chances : mg "sum_of_chances" = some (.ref (ad 11))
  F_chance_joined : Fun K "chance_joined" "chance_joined" (topS 14) (ad 12) (fo 12)
  b_chance_joined : Binds K (fo 12) ["net", "u", "v"] []
  g_chance_joined : mg "chance_joined" = some (.ref (ad 12))
  F_chance_whole : Fun K "chance_whole" "chance_whole" (topS 15) (ad 13) (fo 13)
  b_chance_whole : Binds K (fo 13) ["net"] []
  g_chance_whole : mg "chance_whole" = some (.ref (ad 13))
  F_with_weight : Fun K "with_weight" "with_weight" (topS 16) (ad 14) (fo 14)
  b_with_weight : Binds K (fo 14) ["net", "place", "weight"] []
  g_with_weight : mg "with_weight" = some (.ref (ad 14))
  F_weight_of_link : Fun K "weight_of_link" "weight_of_link" (topS 17) (ad 15) (fo 15)
  b_weight_of_link : Binds K (fo 15) ["net", "u", "v", "place"] []
  g_weight_of_link : mg "weight_of_link" = some (.ref (ad 15))
  F_hold_poly : Fun K "hold_poly" "hold_poly" (topS 18) (ad 16) (fo 16)
  b_hold_poly : Binds K (fo 16) ["net", "u", "v"] []
  g_hold_poly : mg "hold_poly" = some (.ref (ad 16))
  F_without_greater : Fun K "without_greater" "without_greater" (topS 19) (ad 17) (fo 17)
  b_without_greater : Binds K (fo 17) ["sets"] []
  g_without_greater : mg "without_greater" = some (.ref (ad 17))
  F_least_ways : Fun K "least_ways" "least_ways" (topS 20) (ad 18) (fo 18)
  b_least_ways : Binds K (fo 18) ["net", "u", "v"] []
  g_least_ways : mg "least_ways" = some (.ref (ad 18))
  F_least_blocks : Fun K "least_blocks" "least_blocks" (topS 21) (ad 19) (fo 19)
  b_least_blocks : Binds K (fo 19) ["net", "u", "v"] []
  g_least_blocks : mg "least_blocks" = some (.ref (ad 19))
  F_cover_product : Fun K "cover_product" "cover_product" (topS 22) (ad 20) (fo 20)
  b_cover_product : Binds K (fo 20) ["losses", "wealth", "cover"] []
  g_cover_product : mg "cover_product" = some (.ref (ad 20))
  F_best_insure : Fun K "best_insure" "best_insure" (topS 23) (ad 21) (fo 21)
  b_best_insure : Binds K (fo 21) ["losses", "wealth", "covers"] []
  g_best_insure : mg "best_insure" = some (.ref (ad 21))
  F_bold_share : Fun K "bold_share" "bold_share" (topS 24) (ad 22) (fo 22)
  b_bold_share : Binds K (fo 22) ["chance"] []
  g_bold_share : mg "bold_share" = some (.ref (ad 22))
  F__law_mixed : Fun K "_law_mixed" "_law_mixed" (topS 26) (ad 23) (fo 23)
  b__law_mixed : Binds K (fo 23) ["script", "k"] []
  g__law_mixed : mg "_law_mixed" = some (.ref (ad 23))
  F__law_row : Fun K "_law_row" "_law_row" (topS 27) (ad 24) (fo 24)
  b__law_row : Binds K (fo 24) ["script", "many"] []
  g__law_row : mg "_law_row" = some (.ref (ad 24))
  F__law_is_int : Fun K "_law_is_int" "_law_is_int" (topS 28) (ad 25) (fo 25)
  b__law_is_int : Binds K (fo 25) ["value"] []
  g__law_is_int : mg "_law_is_int" = some (.ref (ad 25))
  F__law_like : Fun K "_law_like" "_law_like" (topS 29) (ad 26) (fo 26)
  b__law_like : Binds K (fo 26) ["value", "due"] []
  g__law_like : mg "_law_like" = some (.ref (ad 26))
  F__law_sets : Fun K "_law_sets" "_law_sets" (topS 30) (ad 27) (fo 27)
  b__law_sets : Binds K (fo 27) ["n"] []
  g__law_sets : mg "_law_sets" = some (.ref (ad 27))
  F__law_common : Fun K "_law_common" "_law_common" (topS 31) (ad 28) (fo 28)
  b__law_common : Binds K (fo 28) ["first", "second"] []
  g__law_common : mg "_law_common" = some (.ref (ad 28))
  F__law_ratio : Fun K "_law_ratio" "_law_ratio" (topS 32) (ad 29) (fo 29)
  b__law_ratio : Binds K (fo 29) ["a", "b"] []
  g__law_ratio : mg "_law_ratio" = some (.ref (ad 29))
  F__law_joined : Fun K "_law_joined" "_law_joined" (topS 33) (ad 30) (fo 30)
  b__law_joined : Binds K (fo 30) ["n", "links", "u"] []
  g__law_joined : mg "_law_joined" = some (.ref (ad 30))
  F__law_times : Fun K "_law_times" "_law_times" (topS 34) (ad 31) (fo 31)
  b__law_times : Binds K (fo 31) ["first", "second"] []
  g__law_times : mg "_law_times" = some (.ref (ad 31))
  F__law_add : Fun K "_law_add" "_law_add" (topS 35) (ad 32) (fo 32)
  b__law_add : Binds K (fo 32) ["first", "second"] []
  g__law_add : mg "_law_add" = some (.ref (ad 32))
  F__law_insure : Fun K "_law_insure" "_law_insure" (topS 36) (ad 33) (fo 33)
  b__law_insure : Binds K (fo 33) ["row"] []
  g__law_insure : mg "_law_insure" = some (.ref (ad 33))
  F_law : Fun K "law" "law" (topS 37) (ad 34) (fo 34)
  b_law : Binds K (fo 34) ["script"] []
  g_law : mg "law" = some (.ref (ad 34))
  z_abs : mg "abs" = none
  z_all : mg "all" = none
  z_any : mg "any" = none
  z_bool : mg "bool" = none
  z_enumerate : mg "enumerate" = none
  z_int : mg "int" = none
  z_isinstance : mg "isinstance" = none
  z_len : mg "len" = none
  z_max : mg "max" = none
  z_min : mg "min" = none
  z_range : mg "range" = none
  z_sorted : mg "sorted" = none
  z_str : mg "str" = none
  z_sum : mg "sum" = none
  z_tuple : mg "tuple" = none
theorem sc_divisor : FnScope ["first", "second"] ["first", "second"] (defScope (topS 1)) := ⟨rfl, rfl, rfl, by decide +kernel, rfl, by decide +kernel, by decide +kernel⟩
def den_divisor : Fn := dfun 2 2 (sSeq (sPar 0 1 (eCB (d1 dAbs) (aCons (eVar 0) aNil)) (eCB (d1 dAbs) (aCons (eVar 1) aNil)) ([] ++ []))
  (sSeq (sWhile 100000 (tCmp dGt (eVar 1) (eC (.int 0)))
  (sPar 0 1 (eVar 1) (eOp dMod (eVar 0) (eVar 1)) ([(1, 0)] ++ ([(0, 1)] ++ [(1, 1)]))))
  (sRet (eVar 0))))
theorem ok_divisor {P : Program} {w : World} {K : PySem.W.Frag} {mg : Str → Option Value} {base : Heap} {ad : Nat → Addr} {fo : Nat → FuncData} (T : Tp K mg ad fo) : FnOk P w K mg base CX0 1 (ad 0) (fo 0) ["first", "second"] (spD K 2 den_divisor) :=
  fun_den (k := 0) T.F_divisor sc_divisor rfl rfl (by decide) fun cdv A outer s H E hr =>
  (ss_cons (ss_par 0 1 rfl sc_divisor.nd (qe_bF call_abs cf_abs (by rfl) T.z_abs (by decide +kernel) (qa_cons (qv 0) qa_nil)) (qe_bF call_abs cf_abs (by rfl) T.z_abs (by decide +kernel) (qa_cons (qv 1) qa_nil)) (by rfl))
  (ss_cons (ss_while 100000 PassesOwn.never (qt_cmp (op_gtA (hu_of64 hr)) oc_gt (qv 1) qint (nomark _))
  (ss_one (ss_par 0 1 rfl sc_divisor.nd (qv 1) (qe_mod (qv 0) (qv 1)) (by rfl))))
  (ss_one (ss_ret (qv 0)))))
theorem sc_lowest : FnScope ["a", "b", "common"] ["a", "b"] (defScope (topS 2)) := ⟨rfl, rfl, rfl, by decide +kernel, rfl, by decide +kernel, by decide +kernel⟩
def den_lowest : Fn := dfun 3 2 (sSeq (sSet 2 0 (eIfD (tCmp dGt (eVar 1) (eC (.int 0))) (eCall 2 den_divisor (aCons (eVar 0) (aCons (eVar 1) aNil))) (eUn dNeg (eCall 2 den_divisor (aCons (eVar 0) (aCons (eVar 1) aNil))))) (([(0, 0)] ++ ([(1, 0)] ++ [])) ++ []))
  (sRet (eTup (aCons (eOp dFdiv (eVar 0) (eVar 2)) (aCons (eOp dFdiv (eVar 1) (eVar 2)) aNil)))))
theorem ok_lowest {P : Program} {w : World} {K : PySem.W.Frag} {mg : Str → Option Value} {base : Heap} {ad : Nat → Addr} {fo : Nat → FuncData} (T : Tp K mg ad fo) : FnOk P w K mg base CX0 2 (ad 1) (fo 1) ["a", "b"] (spD K 2 den_lowest) :=
  fun_den (k := 1) T.F_lowest sc_lowest rfl rfl (by decide) fun cdv A outer s H E hr =>
  (ss_cons (ss_set 2 0 sc_lowest.nd (qe_if (qt_cmp (op_gtA (hu_of64 hr)) oc_gt (qv 1) qint (nomark _)) (qe_call (ok_divisor T) (hr.mono (by decide)) (by rfl) T.g_divisor T.F_divisor.kp T.b_divisor (qa_cons (qv 0) (qa_cons (qv 1) qa_nil))) (qe_neg (qe_call (ok_divisor T) (hr.mono (by decide)) (by rfl) T.g_divisor T.F_divisor.kp T.b_divisor (qa_cons (qv 0) (qa_cons (qv 1) qa_nil))))))
  (ss_one (ss_ret (qe_tup (qa_cons (qe_fdiv (qv 0) (qv 2)) (qa_cons (qe_fdiv (qv 1) (qv 2)) qa_nil))))))
theorem sc_plus : FnScope ["first", "second"] ["first", "second"] (defScope (topS 3)) := ⟨rfl, rfl, rfl, by decide +kernel, rfl, by decide +kernel, by decide +kernel⟩
def den_plus : Fn := dfun 2 2 (sRet (eCall 2 den_lowest (aCons (eOp dAdd (eOp dMul (eIx (eVar 0) (eC (.int 0))) (eIx (eVar 1) (eC (.int 1)))) (eOp dMul (eIx (eVar 1) (eC (.int 0))) (eIx (eVar 0) (eC (.int 1))))) (aCons (eOp dMul (eIx (eVar 0) (eC (.int 1))) (eIx (eVar 1) (eC (.int 1)))) aNil))))
theorem ok_plus {P : Program} {w : World} {K : PySem.W.Frag} {mg : Str → Option Value} {base : Heap} {ad : Nat → Addr} {fo : Nat → FuncData} (T : Tp K mg ad fo) : FnOk P w K mg base CX0 3 (ad 2) (fo 2) ["first", "second"] (spD K 2 den_plus) :=
  fun_den (k := 2) T.F_plus sc_plus rfl rfl (by decide) fun cdv A outer s H E hr =>
  (ss_one (ss_ret (qe_call (ok_lowest T) (hr.mono (by decide)) (by rfl) T.g_lowest T.F_lowest.kp T.b_lowest (qa_cons (qe_add (qe_mul (qe_ix (qv 0) qint (fun _ _ => rfl)) (qe_ix (qv 1) qint (fun _ _ => rfl))) (qe_mul (qe_ix (qv 1) qint (fun _ _ => rfl)) (qe_ix (qv 0) qint (fun _ _ => rfl)))) (qa_cons (qe_mul (qe_ix (qv 0) qint (fun _ _ => rfl)) (qe_ix (qv 1) qint (fun _ _ => rfl))) qa_nil)))))
theorem sc_minus : FnScope ["first", "second"] ["first", "second"] (defScope (topS 4)) := ⟨rfl, rfl, rfl, by decide +kernel, rfl, by decide +kernel, by decide +kernel⟩
def den_minus : Fn := dfun 2 2 (sRet (eCall 2 den_lowest (aCons (eOp dSub (eOp dMul (eIx (eVar 0) (eC (.int 0))) (eIx (eVar 1) (eC (.int 1)))) (eOp dMul (eIx (eVar 1) (eC (.int 0))) (eIx (eVar 0) (eC (.int 1))))) (aCons (eOp dMul (eIx (eVar 0) (eC (.int 1))) (eIx (eVar 1) (eC (.int 1)))) aNil))))
theorem ok_minus {P : Program} {w : World} {K : PySem.W.Frag} {mg : Str → Option Value} {base : Heap} {ad : Nat → Addr} {fo : Nat → FuncData} (T : Tp K mg ad fo) : FnOk P w K mg base CX0 3 (ad 3) (fo 3) ["first", "second"] (spD K 2 den_minus) :=
  fun_den (k := 2) T.F_minus sc_minus rfl rfl (by decide) fun cdv A outer s H E hr =>
  (ss_one (ss_ret (qe_call (ok_lowest T) (hr.mono (by decide)) (by rfl) T.g_lowest T.F_lowest.kp T.b_lowest (qa_cons (qe_sub (qe_mul (qe_ix (qv 0) qint (fun _ _ => rfl)) (qe_ix (qv 1) qint (fun _ _ => rfl))) (qe_mul (qe_ix (qv 1) qint (fun _ _ => rfl)) (qe_ix (qv 0) qint (fun _ _ => rfl)))) (qa_cons (qe_mul (qe_ix (qv 0) qint (fun _ _ => rfl)) (qe_ix (qv 1) qint (fun _ _ => rfl))) qa_nil)))))
theorem sc_times : FnScope ["first", "second"] ["first", "second"] (defScope (topS 5)) := ⟨rfl, rfl, rfl, by decide +kernel, rfl, by decide +kernel, by decide +kernel⟩
def den_times : Fn := dfun 2 2 (sRet (eCall 2 den_lowest (aCons (eOp dMul (eIx (eVar 0) (eC (.int 0))) (eIx (eVar 1) (eC (.int 0)))) (aCons (eOp dMul (eIx (eVar 0) (eC (.int 1))) (eIx (eVar 1) (eC (.int 1)))) aNil))))
theorem ok_times {P : Program} {w : World} {K : PySem.W.Frag} {mg : Str → Option Value} {base : Heap} {ad : Nat → Addr} {fo : Nat → FuncData} (T : Tp K mg ad fo) : FnOk P w K mg base CX0 3 (ad 4) (fo 4) ["first", "second"] (spD K 2 den_times) :=
  fun_den (k := 2) T.F_times sc_times rfl rfl (by decide) fun cdv A outer s H E hr =>
  (ss_one (ss_ret (qe_call (ok_lowest T) (hr.mono (by decide)) (by rfl) T.g_lowest T.F_lowest.kp T.b_lowest (qa_cons (qe_mul (qe_ix (qv 0) qint (fun _ _ => rfl)) (qe_ix (qv 1) qint (fun _ _ => rfl))) (qa_cons (qe_mul (qe_ix (qv 0) qint (fun _ _ => rfl)) (qe_ix (qv 1) qint (fun _ _ => rfl))) qa_nil)))))
theorem sc_all_sets : FnScope ["n", "found", "index", "row"] ["n"] (defScope (topS 6)) := ⟨rfl, rfl, rfl, by decide +kernel, rfl, by decide +kernel, by decide +kernel⟩
def den_all_sets : Fn := dfun 4 1 (sSeq (sSet 1 0 (eLst (aCons (eTup aNil) aNil)) ([] ++ []))
  (sSeq (sFor (iRange3 (eOp dSub (eVar 0) (eC (.int 1))) (eUn dNeg (eC (.int 1))) (eUn dNeg (eC (.int 1)))) [] (.nm 2)
  (sSet 1 0 (eOp dAdd (eOp dAdd (eLst (aCons (eTup aNil) aNil)) (eLc (iSeq (eVar 1)) (.nm 3) tTrue (eOp dAdd (eTup (aCons (eVar 2) aNil)) (eVar 3)) [3])) (eLc (iSeq (eVar 1)) (.nm 3) (tTru (eVar 3)) (eVar 3) [3])) ((([] ++ []) ++ ([(1, 1)] ++ (([(2, 0)] ++ []) ++ [(3, 1)]))) ++ ([(1, 1)] ++ [(3, 0)]))))
  (sRet (eVar 1))))
theorem ok_all_sets {P : Program} {w : World} {K : PySem.W.Frag} {mg : Str → Option Value} {base : Heap} {ad : Nat → Addr} {fo : Nat → FuncData} (T : Tp K mg ad fo) : FnOk P w K mg base CX0 1 (ad 5) (fo 5) ["n"] (spD K 1 den_all_sets) :=
  fun_den (k := 0) T.F_all_sets sc_all_sets rfl rfl (by decide) fun cdv A outer s H E hr =>
  (ss_cons (ss_set 1 0 sc_all_sets.nd (qe_lst (qa_cons (qe_tup qa_nil) qa_nil)))
  (ss_cons (ss_for PassesOwn.never rfl (qi_range3 (by rfl) T.z_range (qe_sub (qv 0) qint) (qe_neg qint) (qe_neg qint)) (gg 2 sc_all_sets.nd)
  (ss_one (ss_set 1 0 sc_all_sets.nd (qe_add (qe_add (qe_lst (qa_cons (qe_tup qa_nil) qa_nil)) (qe_lc (own := [("row", 3)]) rfl sc_all_sets.nd (qi_seq (qv 1)) (blkOk_by (own := [("row", 3)]) (N := ["n", "found", "index", "row"]) (sc := (defScope (topS 6))) (by decide +kernel)) (fun _ _ _ _ _ => (gg 3 sc_all_sets.nd)) (fun _ _ _ _ _ => qts_nil) (fun _ _ _ _ _ => (qe_add (qe_tup (qa_cons (qv 2) qa_nil)) (qv 3))))) (qe_lc (own := [("row", 3)]) rfl sc_all_sets.nd (qi_seq (qv 1)) (blkOk_by (own := [("row", 3)]) (N := ["n", "found", "index", "row"]) (sc := (defScope (topS 6))) (by decide +kernel)) (fun _ _ _ _ _ => (gg 3 sc_all_sets.nd)) (fun _ _ _ _ _ => (qts_one (qt_tru (qv 3) (by intro _; rfl)))) (fun _ _ _ _ _ => (qv 3)))))))
  (ss_one (ss_ret (qv 1)))))
theorem sc_size_key : FnScope ["row"] ["row"] (defScope (topS 7)) := ⟨rfl, rfl, rfl, by decide +kernel, rfl, by decide +kernel, by decide +kernel⟩
def den_size_key : Fn := dfun 1 1 (sRet (eTup (aCons (eCB (d1 dLen) (aCons (eVar 0) aNil)) (aCons (eVar 0) aNil))))
theorem ok_size_key {P : Program} {w : World} {K : PySem.W.Frag} {mg : Str → Option Value} {base : Heap} {ad : Nat → Addr} {fo : Nat → FuncData} (T : Tp K mg ad fo) : FnOk P w K mg base CX0 1 (ad 6) (fo 6) ["row"] (spD K 1 den_size_key) :=
  fun_den (k := 0) T.F_size_key sc_size_key rfl rfl (by decide) fun cdv A outer s H E hr =>
  (ss_one (ss_ret (qe_tup (qa_cons (qe_bF call_len_seq cf_len (by rfl) T.z_len (by decide +kernel) (qa_cons (qv 0) qa_nil)) (qa_cons (qv 0) qa_nil)))))
theorem sc_reached : FnScope ["n", "links", "start", "found", "at", "u", "v", "weight"] ["n", "links", "start"] (defScope (topS 9)) := ⟨rfl, rfl, rfl, by decide +kernel, rfl, by decide +kernel, by decide +kernel⟩
def den_reached : Fn := dfun 8 3 (sSeq (sSet 3 1 (eLst (aCons (eVar 2) aNil)) ([(2, 0)] ++ []))
  (sSeq (sSet 4 0 (eC (.int 0)) [])
  (sSeq (sWhile 100000 (tCmp dLt (eVar 4) (eCB (d1 dLen) (aCons (eVar 3) aNil)))
  (sSeq (sFor (iSeq (eVar 1)) [(1, 0)] (.tp [(.nm 5), (.nm 6), (.nm 7)])
  (sIf (tAndD (tCmp dIn (eIx (eVar 3) (eVar 4)) (eTup (aCons (eVar 5) (aCons (eVar 6) aNil)))) (tCmp dNotIn (eOp dSub (eOp dAdd (eVar 5) (eVar 6)) (eIx (eVar 3) (eVar 4))) (eVar 3)))
  (sApp 3 (eOp dSub (eOp dAdd (eVar 5) (eVar 6)) (eIx (eVar 3) (eVar 4))) (([(5, 1)] ++ [(6, 1)]) ++ [(3, 2)]))
  sNil))
  (sAug 4 dAddI (eC (.int 1)))))
  (sRet (eVar 3)))))
theorem ok_reached {P : Program} {w : World} {K : PySem.W.Frag} {mg : Str → Option Value} {base : Heap} {ad : Nat → Addr} {fo : Nat → FuncData} (T : Tp K mg ad fo) : FnOk P w K mg base CX0 1 (ad 7) (fo 7) ["n", "links", "start"] (spD K 3 den_reached) :=
  fun_den (k := 0) T.F_reached sc_reached rfl rfl (by decide) fun cdv A outer s H E hr =>
  (ss_cons (ss_set 3 1 sc_reached.nd (qe_lst (qa_cons (qv 2) qa_nil)))
  (ss_cons (ss_set 4 0 sc_reached.nd qint)
  (ss_cons (ss_while 100000 PassesOwn.never (qt_cmp (op_ltA (hu_of64 hr)) oc_lt (qv 4) (qe_bF call_len_seq cf_len (by rfl) T.z_len (by decide +kernel) (qa_cons (qv 3) qa_nil)) (nomark _))
  (ss_cons (ss_for PassesOwn.never rfl (qi_seq (qv 1)) (gg_tup rfl (ggs_cons (gg 5 sc_reached.nd) (ggs_cons (gg 6 sc_reached.nd) (ggs_cons (gg 7 sc_reached.nd) ggs_nil))))
  (ss_one (ss_if (PW.pt (qw_and (qt_cmp ((op_inD (hu2_of hr)).or op_in_seq) oc_in (qe_ix (qv 3) (qv 4) (fun _ _ => rfl)) (qe_tup (qa_cons (qv 5) (qa_cons (qv 6) qa_nil))) (by rfl)) (qw_and1 (qt_cmp ((op_notInD (hu2_of hr)).or op_notIn_seq) oc_notIn (qe_sub (qe_add (qv 5) (qv 6)) (qe_ix (qv 3) (qv 4) (fun _ _ => rfl))) (qv 3) (by rfl)))))
  (ss_one (ss_app 3 (ps_expr (pe_bm PySem.F.plainAttrs_list PySem.F.slot_list_append PySem.F.type_list_append mt_append (pv 3) (pa_cons (qe_sub (qe_add (qv 5) (qv 6)) (qe_ix (qv 3) (qv 4) (fun _ _ => rfl))) pa_nil)))))
  ss_nil)))
  (ss_one (ss_augAdd 4 sc_reached.nd qint))))
  (ss_one (ss_ret (qv 3))))))
theorem sc_chosen : FnScope ["net", "places", "place"] ["net", "places"] (defScope (topS 10)) := ⟨rfl, rfl, rfl, by decide +kernel, rfl, by decide +kernel, by decide +kernel⟩
def den_chosen : Fn := dfun 3 2 (sRet (eLc (iSeq (eVar 1)) (.nm 2) tTrue (eIx (eIx (eVar 0) (eC (.int 1))) (eVar 2)) [2]))
theorem ok_chosen {P : Program} {w : World} {K : PySem.W.Frag} {mg : Str → Option Value} {base : Heap} {ad : Nat → Addr} {fo : Nat → FuncData} (T : Tp K mg ad fo) : FnOk P w K mg base CX0 1 (ad 8) (fo 8) ["net", "places"] (spD K 2 den_chosen) :=
  fun_den (k := 0) T.F_chosen sc_chosen rfl rfl (by decide) fun cdv A outer s H E hr =>
  (ss_one (ss_ret (qe_lc (own := [("place", 2)]) rfl sc_chosen.nd (qi_seq (qv 1)) (blkOk_by (own := [("place", 2)]) (N := ["net", "places", "place"]) (sc := (defScope (topS 10))) (by decide +kernel)) (fun _ _ _ _ _ => (gg 2 sc_chosen.nd)) (fun _ _ _ _ _ => qts_nil) (fun _ _ _ _ _ => (qe_ix (qe_ix (qv 0) qint (fun _ _ => rfl)) (qv 2) (fun _ _ => rfl))))))
theorem sc_chance_of : FnScope ["net", "places", "found", "place", "u", "v", "weight"] ["net", "places"] (defScope (topS 11)) := ⟨rfl, rfl, rfl, by decide +kernel, rfl, by decide +kernel, by decide +kernel⟩
def den_chance_of : Fn := dfun 7 2 (sSeq (sSet 2 0 (eTup (aCons (eC (.int 1)) (aCons (eC (.int 1)) aNil))) ([] ++ ([] ++ [])))
  (sSeq (sFor (iEnumD (eIx (eVar 0) (eC (.int 1)))) [(0, 1)] (.tp [(.nm 3), (.tp [(.nm 4), (.nm 5), (.nm 6)])])
  (sSet 2 0 (eCall 2 den_times (aCons (eVar 2) (aCons (eIfD (tCmp dIn (eVar 3) (eVar 1)) (eVar 6) (eCall 2 den_minus (aCons (eTup (aCons (eC (.int 1)) (aCons (eC (.int 1)) aNil))) (aCons (eVar 6) aNil)))) aNil))) ([(2, 0)] ++ (([(6, 0)] ++ (([] ++ ([] ++ [])) ++ ([(6, 0)] ++ []))) ++ []))))
  (sRet (eVar 2))))
theorem ok_chance_of {P : Program} {w : World} {K : PySem.W.Frag} {mg : Str → Option Value} {base : Heap} {ad : Nat → Addr} {fo : Nat → FuncData} (T : Tp K mg ad fo) : FnOk P w K mg base CX0 4 (ad 9) (fo 9) ["net", "places"] (spD K 2 den_chance_of) :=
  fun_den (k := 3) T.F_chance_of sc_chance_of rfl rfl (by decide) fun cdv A outer s H E hr =>
  (ss_cons (ss_set 2 0 sc_chance_of.nd (qe_tup (qa_cons qint (qa_cons qint qa_nil))))
  (ss_cons (ss_for PassesOwn.never rfl (qi_enum (by rfl) T.z_enumerate (qe_ix (qv 0) qint (fun _ _ => rfl))) (gg_tup rfl (ggs_cons (gg 3 sc_chance_of.nd) (ggs_cons (gg_tup rfl (ggs_cons (gg 4 sc_chance_of.nd) (ggs_cons (gg 5 sc_chance_of.nd) (ggs_cons (gg 6 sc_chance_of.nd) ggs_nil)))) ggs_nil)))
  (ss_one (ss_set 2 0 sc_chance_of.nd (qe_call (ok_times T) (hr.mono (by decide)) (by rfl) T.g_times T.F_times.kp T.b_times (qa_cons (qv 2) (qa_cons (qe_if (qt_cmp ((op_inD (hu2_of hr)).or op_in_seq) oc_in (qv 3) (qv 1) (by rfl)) (qv 6) (qe_call (ok_minus T) (hr.mono (by decide)) (by rfl) T.g_minus T.F_minus.kp T.b_minus (qa_cons (qe_tup (qa_cons qint (qa_cons qint qa_nil))) (qa_cons (qv 6) qa_nil)))) qa_nil))))))
  (ss_one (ss_ret (qv 2)))))
theorem sc_joining_sets : FnScope ["net", "u", "v", "places"] ["net", "u", "v"] (defScope (topS 12)) := ⟨rfl, rfl, rfl, by decide +kernel, rfl, by decide +kernel, by decide +kernel⟩
def den_joining_sets : Fn := dfun 4 3 (sRet (eLc (iSeq (eCall 1 den_all_sets (aCons (eCB (d1 dLen) (aCons (eIx (eVar 0) (eC (.int 1))) aNil)) aNil))) (.nm 3) (tCmp dIn (eVar 2) (eCall 3 den_reached (aCons (eIx (eVar 0) (eC (.int 0))) (aCons (eCall 2 den_chosen (aCons (eVar 0) (aCons (eVar 3) aNil))) (aCons (eVar 1) aNil))))) (eVar 3) [3]))
theorem ok_joining_sets {P : Program} {w : World} {K : PySem.W.Frag} {mg : Str → Option Value} {base : Heap} {ad : Nat → Addr} {fo : Nat → FuncData} (T : Tp K mg ad fo) : FnOk P w K mg base CX0 2 (ad 10) (fo 10) ["net", "u", "v"] (spD K 3 den_joining_sets) :=
  fun_den (k := 1) T.F_joining_sets sc_joining_sets rfl rfl (by decide) fun cdv A outer s H E hr =>
  (ss_one (ss_ret (qe_lc (own := [("places", 3)]) rfl sc_joining_sets.nd (qi_seq (qe_call (ok_all_sets T) (hr.mono (by decide)) (by rfl) T.g_all_sets T.F_all_sets.kp T.b_all_sets (qa_cons (qe_bF call_len_seq cf_len (by rfl) T.z_len (by decide +kernel) (qa_cons (qe_ix (qv 0) qint (fun _ _ => rfl)) qa_nil)) qa_nil))) (blkOk_by (own := [("places", 3)]) (N := ["net", "u", "v", "places"]) (sc := (defScope (topS 12))) (by decide +kernel)) (fun _ _ _ _ _ => (gg 3 sc_joining_sets.nd)) (fun _ _ _ _ _ => (qts_one (qt_cmp ((op_inD (hu2_of hr)).or op_in_seq) oc_in (qv 2) (qe_call (ok_reached T) (hr.mono (by decide)) (by rfl) T.g_reached T.F_reached.kp T.b_reached (qa_cons (qe_ix (qv 0) qint (fun _ _ => rfl)) (qa_cons (qe_call (ok_chosen T) (hr.mono (by decide)) (by rfl) T.g_chosen T.F_chosen.kp T.b_chosen (qa_cons (qv 0) (qa_cons (qv 3) qa_nil))) (qa_cons (qv 1) qa_nil)))) (by rfl)))) (fun _ _ _ _ _ => (qv 3)))))
theorem sc_sum_of_chances : FnScope ["net", "sets", "found", "places"] ["net", "sets"] (defScope (topS 13)) := ⟨rfl, rfl, rfl, by decide +kernel, rfl, by decide +kernel, by decide +kernel⟩
def den_sum_of_chances : Fn := dfun 4 2 (sSeq (sSet 2 0 (eTup (aCons (eC (.int 0)) (aCons (eC (.int 1)) aNil))) ([] ++ ([] ++ [])))
  (sSeq (sFor (iSeq (eVar 1)) [(1, 0)] (.nm 3)
  (sSet 2 0 (eCall 2 den_plus (aCons (eVar 2) (aCons (eCall 2 den_chance_of (aCons (eVar 0) (aCons (eVar 3) aNil))) aNil))) ([(2, 0)] ++ (([(0, 0)] ++ ([(3, 0)] ++ [])) ++ []))))
  (sRet (eVar 2))))
theorem ok_sum_of_chances {P : Program} {w : World} {K : PySem.W.Frag} {mg : Str → Option Value} {base : Heap} {ad : Nat → Addr} {fo : Nat → FuncData} (T : Tp K mg ad fo) : FnOk P w K mg base CX0 5 (ad 11) (fo 11) ["net", "sets"] (spD K 2 den_sum_of_chances) :=
  fun_den (k := 4) T.F_sum_of_chances sc_sum_of_chances rfl rfl (by decide) fun cdv A outer s H E hr =>
  (ss_cons (ss_set 2 0 sc_sum_of_chances.nd (qe_tup (qa_cons qint (qa_cons qint qa_nil))))
  (ss_cons (ss_for PassesOwn.never rfl (qi_seq (qv 1)) (gg 3 sc_sum_of_chances.nd)
  (ss_one (ss_set 2 0 sc_sum_of_chances.nd (qe_call (ok_plus T) (hr.mono (by decide)) (by rfl) T.g_plus T.F_plus.kp T.b_plus (qa_cons (qv 2) (qa_cons (qe_call (ok_chance_of T) (hr.mono (by decide)) (by rfl) T.g_chance_of T.F_chance_of.kp T.b_chance_of (qa_cons (qv 0) (qa_cons (qv 3) qa_nil))) qa_nil))))))
  (ss_one (ss_ret (qv 2)))))
theorem sc_chance_joined : FnScope ["net", "u", "v"] ["net", "u", "v"] (defScope (topS 14)) := ⟨rfl, rfl, rfl, by decide +kernel, rfl, by decide +kernel, by decide +kernel⟩
def den_chance_joined : Fn := dfun 3 3 (sRet (eCall 2 den_sum_of_chances (aCons (eVar 0) (aCons (eCall 3 den_joining_sets (aCons (eVar 0) (aCons (eVar 1) (aCons (eVar 2) aNil)))) aNil))))
theorem ok_chance_joined {P : Program} {w : World} {K : PySem.W.Frag} {mg : Str → Option Value} {base : Heap} {ad : Nat → Addr} {fo : Nat → FuncData} (T : Tp K mg ad fo) : FnOk P w K mg base CX0 6 (ad 12) (fo 12) ["net", "u", "v"] (spD K 3 den_chance_joined) :=
  fun_den (k := 5) T.F_chance_joined sc_chance_joined rfl rfl (by decide) fun cdv A outer s H E hr =>
  (ss_one (ss_ret (qe_call (ok_sum_of_chances T) (hr.mono (by decide)) (by rfl) T.g_sum_of_chances T.F_sum_of_chances.kp T.b_sum_of_chances (qa_cons (qv 0) (qa_cons (qe_call (ok_joining_sets T) (hr.mono (by decide)) (by rfl) T.g_joining_sets T.F_joining_sets.kp T.b_joining_sets (qa_cons (qv 0) (qa_cons (qv 1) (qa_cons (qv 2) qa_nil)))) qa_nil)))))
theorem sc_chance_whole : FnScope ["net", "sets", "places"] ["net"] (defScope (topS 15)) := ⟨rfl, rfl, rfl, by decide +kernel, rfl, by decide +kernel, by decide +kernel⟩
def den_chance_whole : Fn := dfun 3 1 (sSeq (sSet 1 0 (eLc (iSeq (eCall 1 den_all_sets (aCons (eCB (d1 dLen) (aCons (eIx (eVar 0) (eC (.int 1))) aNil)) aNil))) (.nm 2) (tCmp dEq (eCB (d1 dLen) (aCons (eCall 3 den_reached (aCons (eIx (eVar 0) (eC (.int 0))) (aCons (eCall 2 den_chosen (aCons (eVar 0) (aCons (eVar 2) aNil))) (aCons (eC (.int 0)) aNil)))) aNil)) (eIx (eVar 0) (eC (.int 0)))) (eVar 2) [2]) (([] ++ []) ++ [(2, 0)]))
  (sRet (eCall 2 den_sum_of_chances (aCons (eVar 0) (aCons (eVar 1) aNil)))))
theorem ok_chance_whole {P : Program} {w : World} {K : PySem.W.Frag} {mg : Str → Option Value} {base : Heap} {ad : Nat → Addr} {fo : Nat → FuncData} (T : Tp K mg ad fo) : FnOk P w K mg base CX0 6 (ad 13) (fo 13) ["net"] (spD K 1 den_chance_whole) :=
  fun_den (k := 5) T.F_chance_whole sc_chance_whole rfl rfl (by decide) fun cdv A outer s H E hr =>
  (ss_cons (ss_setLc 1 0 (own := [("places", 2)]) rfl sc_chance_whole.nd (qi_seq (qe_call (ok_all_sets T) (hr.mono (by decide)) (by rfl) T.g_all_sets T.F_all_sets.kp T.b_all_sets (qa_cons (qe_bF call_len_seq cf_len (by rfl) T.z_len (by decide +kernel) (qa_cons (qe_ix (qv 0) qint (fun _ _ => rfl)) qa_nil)) qa_nil))) (blkOk_by (own := [("places", 2)]) (N := ["net", "sets", "places"]) (sc := (defScope (topS 15))) (by decide +kernel)) (fun _ _ _ _ _ => (gg 2 sc_chance_whole.nd)) (fun _ _ _ _ _ => (qts_one (qt_cmp (op_eqD (hu_of64 hr)) oc_eq (qe_bF call_len_seq cf_len (by rfl) T.z_len (by decide +kernel) (qa_cons (qe_call (ok_reached T) (hr.mono (by decide)) (by rfl) T.g_reached T.F_reached.kp T.b_reached (qa_cons (qe_ix (qv 0) qint (fun _ _ => rfl)) (qa_cons (qe_call (ok_chosen T) (hr.mono (by decide)) (by rfl) T.g_chosen T.F_chosen.kp T.b_chosen (qa_cons (qv 0) (qa_cons (qv 2) qa_nil))) (qa_cons qint qa_nil)))) qa_nil)) (qe_ix (qv 0) qint (fun _ _ => rfl)) (nomark _)))) (fun _ _ _ _ _ => (qv 2)))
  (ss_one (ss_ret (qe_call (ok_sum_of_chances T) (hr.mono (by decide)) (by rfl) T.g_sum_of_chances T.F_sum_of_chances.kp T.b_sum_of_chances (qa_cons (qv 0) (qa_cons (qv 1) qa_nil))))))
theorem sc_with_weight : FnScope ["net", "place", "weight", "n", "links", "u", "v", "old"] ["net", "place", "weight"] (defScope (topS 16)) := ⟨rfl, rfl, rfl, by decide +kernel, rfl, by decide +kernel, by decide +kernel⟩
def den_with_weight : Fn := dfun 8 3 (sSeq (sTup (.tp [(.nm 3), (.nm 4)]) (eVar 0) [(0, 0)])
  (sSeq (sTup (.tp [(.nm 5), (.nm 6), (.nm 7)]) (eIx (eVar 4) (eVar 1)) [(4, 1)])
  (sRet (eTup (aCons (eVar 3) (aCons (eOp dAdd (eOp dAdd (eSl (eVar 4) oNone (oSome (eVar 1))) (eTup (aCons (eTup (aCons (eVar 5) (aCons (eVar 6) (aCons (eVar 2) aNil)))) aNil))) (eSl (eVar 4) (oSome (eOp dAdd (eVar 1) (eC (.int 1)))) oNone)) aNil))))))
theorem ok_with_weight {P : Program} {w : World} {K : PySem.W.Frag} {mg : Str → Option Value} {base : Heap} {ad : Nat → Addr} {fo : Nat → FuncData} (T : Tp K mg ad fo) : FnOk P w K mg base CX0 1 (ad 14) (fo 14) ["net", "place", "weight"] (spD K 3 den_with_weight) :=
  fun_den (k := 0) T.F_with_weight sc_with_weight rfl rfl (by decide) fun cdv A outer s H E hr =>
  (ss_cons (ss_tup (qv 0) (gg_tup rfl (ggs_cons (gg 3 sc_with_weight.nd) (ggs_cons (gg 4 sc_with_weight.nd) ggs_nil))))
  (ss_cons (ss_tup (qe_ix (qv 4) (qv 1) (fun _ _ => rfl)) (gg_tup rfl (ggs_cons (gg 5 sc_with_weight.nd) (ggs_cons (gg 6 sc_with_weight.nd) (ggs_cons (gg 7 sc_with_weight.nd) ggs_nil)))))
  (ss_one (ss_ret (qe_tup (qa_cons (qv 3) (qa_cons (qe_add (qe_add (qe_sl (qv 4) qo_none (qo_some (qv 1))) (qe_tup (qa_cons (qe_tup (qa_cons (qv 5) (qa_cons (qv 6) (qa_cons (qv 2) qa_nil)))) qa_nil))) (qe_sl (qv 4) (qo_some (qe_add (qv 1) qint)) qo_none)) qa_nil)))))))
theorem sc_weight_of_link : FnScope ["net", "u", "v", "place"] ["net", "u", "v", "place"] (defScope (topS 17)) := ⟨rfl, rfl, rfl, by decide +kernel, rfl, by decide +kernel, by decide +kernel⟩
def den_weight_of_link : Fn := dfun 4 4 (sRet (eCall 2 den_minus (aCons (eCall 3 den_chance_joined (aCons (eCall 3 den_with_weight (aCons (eVar 0) (aCons (eVar 3) (aCons (eTup (aCons (eC (.int 1)) (aCons (eC (.int 1)) aNil))) aNil)))) (aCons (eVar 1) (aCons (eVar 2) aNil)))) (aCons (eCall 3 den_chance_joined (aCons (eCall 3 den_with_weight (aCons (eVar 0) (aCons (eVar 3) (aCons (eTup (aCons (eC (.int 0)) (aCons (eC (.int 1)) aNil))) aNil)))) (aCons (eVar 1) (aCons (eVar 2) aNil)))) aNil))))
theorem ok_weight_of_link {P : Program} {w : World} {K : PySem.W.Frag} {mg : Str → Option Value} {base : Heap} {ad : Nat → Addr} {fo : Nat → FuncData} (T : Tp K mg ad fo) : FnOk P w K mg base CX0 7 (ad 15) (fo 15) ["net", "u", "v", "place"] (spD K 4 den_weight_of_link) :=
  fun_den (k := 6) T.F_weight_of_link sc_weight_of_link rfl rfl (by decide) fun cdv A outer s H E hr =>
  (ss_one (ss_ret (qe_call (ok_minus T) (hr.mono (by decide)) (by rfl) T.g_minus T.F_minus.kp T.b_minus (qa_cons (qe_call (ok_chance_joined T) (hr.mono (by decide)) (by rfl) T.g_chance_joined T.F_chance_joined.kp T.b_chance_joined (qa_cons (qe_call (ok_with_weight T) (hr.mono (by decide)) (by rfl) T.g_with_weight T.F_with_weight.kp T.b_with_weight (qa_cons (qv 0) (qa_cons (qv 3) (qa_cons (qe_tup (qa_cons qint (qa_cons qint qa_nil))) qa_nil)))) (qa_cons (qv 1) (qa_cons (qv 2) qa_nil)))) (qa_cons (qe_call (ok_chance_joined T) (hr.mono (by decide)) (by rfl) T.g_chance_joined T.F_chance_joined.kp T.b_chance_joined (qa_cons (qe_call (ok_with_weight T) (hr.mono (by decide)) (by rfl) T.g_with_weight T.F_with_weight.kp T.b_with_weight (qa_cons (qv 0) (qa_cons (qv 3) (qa_cons (qe_tup (qa_cons qint (qa_cons qint qa_nil))) qa_nil)))) (qa_cons (qv 1) (qa_cons (qv 2) qa_nil)))) qa_nil)))))
theorem sc_hold_poly : FnScope ["net", "u", "v", "sizes", "places", "size"] ["net", "u", "v"] (defScope (topS 18)) := ⟨rfl, rfl, rfl, by decide +kernel, rfl, by decide +kernel, by decide +kernel⟩
def den_hold_poly : Fn := dfun 6 3 (sSeq (sSet 3 0 (eLc (iSeq (eCall 3 den_joining_sets (aCons (eVar 0) (aCons (eVar 1) (aCons (eVar 2) aNil))))) (.nm 4) tTrue (eCB (d1 dLen) (aCons (eVar 4) aNil)) [4]) (([(0, 0)] ++ ([(1, 0)] ++ ([(2, 0)] ++ []))) ++ []))
  (sRet (eCB (d1 dTuple) (aCons (eLc (iRange1 (eOp dAdd (eCB (d1 dLen) (aCons (eIx (eVar 0) (eC (.int 1))) aNil)) (eC (.int 1)))) (.nm 5) tTrue (eOp dCount (eVar 3) (eVar 5)) [5]) aNil))))
theorem ok_hold_poly {P : Program} {w : World} {K : PySem.W.Frag} {mg : Str → Option Value} {base : Heap} {ad : Nat → Addr} {fo : Nat → FuncData} (T : Tp K mg ad fo) : FnOk P w K mg base CX0 3 (ad 16) (fo 16) ["net", "u", "v"] (spD K 3 den_hold_poly) :=
  fun_den (k := 2) T.F_hold_poly sc_hold_poly rfl rfl (by decide) fun cdv A outer s H E hr =>
  (ss_cons (ss_set 3 0 sc_hold_poly.nd (qe_lc (own := [("places", 4)]) rfl sc_hold_poly.nd (qi_seq (qe_call (ok_joining_sets T) (hr.mono (by decide)) (by rfl) T.g_joining_sets T.F_joining_sets.kp T.b_joining_sets (qa_cons (qv 0) (qa_cons (qv 1) (qa_cons (qv 2) qa_nil))))) (blkOk_by (own := [("places", 4)]) (N := ["net", "u", "v", "sizes", "places", "size"]) (sc := (defScope (topS 18))) (by decide +kernel)) (fun _ _ _ _ _ => (gg 4 sc_hold_poly.nd)) (fun _ _ _ _ _ => qts_nil) (fun _ _ _ _ _ => (qe_bF call_len_seq cf_len (by rfl) T.z_len (by decide +kernel) (qa_cons (qv 4) qa_nil)))))
  (ss_one (ss_ret (qe_tD call_tuple_of cd_tuple (by rfl) T.z_tuple (by decide +kernel) (qa_cons (qe_lc (own := [("size", 5)]) rfl sc_hold_poly.nd (qi_range1 (by rfl) T.z_range (qe_add (qe_bF call_len_seq cf_len (by rfl) T.z_len (by decide +kernel) (qa_cons (qe_ix (qv 0) qint (fun _ _ => rfl)) qa_nil)) qint)) (blkOk_by (own := [("size", 5)]) (N := ["net", "u", "v", "sizes", "places", "size"]) (sc := (defScope (topS 18))) (by decide +kernel)) (fun _ _ _ _ _ => (gg 5 sc_hold_poly.nd)) (fun _ _ _ _ _ => qts_nil) (fun _ _ _ _ _ => (qe_m1F mf_count (pe_bm PySem.F.plainAttrs_list PySem.F.slot_list_count PySem.F.type_list_count mt_lcount (qv 3) (pa_cons (qv 5) pa_nil))))) qa_nil)))))
theorem sc_without_greater : FnScope ["sets", "one", "other", "part"] ["sets"] (defScope (topS 19)) := ⟨rfl, rfl, rfl, by decide +kernel, rfl, by decide +kernel, by decide +kernel⟩
def den_without_greater : Fn := dfun 4 1 (sRet (eCB (d1 dTuple) (aCons (eCB (d1 dSorted) (aCons (eLc (iSeq (eVar 0)) (.nm 1) (tNotD (tTru (eCB (d1 dAny) (aCons (eLc (iSeq (eVar 0)) (.nm 2) tTrue (eAndD (eB (tCmp dNe (eVar 2) (eVar 1))) (eCB (d1 dAll) (aCons (eLc (iSeq (eVar 2)) (.nm 3) tTrue (eB (tCmp dIn (eVar 3) (eVar 1))) [3]) aNil))) [2]) aNil)))) (eVar 1) [1]) aNil)) aNil)))
theorem ok_without_greater {P : Program} {w : World} {K : PySem.W.Frag} {mg : Str → Option Value} {base : Heap} {ad : Nat → Addr} {fo : Nat → FuncData} (T : Tp K mg ad fo) : FnOk P w K mg base CX0 1 (ad 17) (fo 17) ["sets"] (spD K 1 den_without_greater) :=
  fun_den (k := 0) T.F_without_greater sc_without_greater rfl rfl (by decide) fun cdv A outer s H E hr =>
  (ss_one (ss_ret (qe_tD call_tuple_of cd_tuple (by rfl) T.z_tuple (by decide +kernel) (qa_cons (qe_bD (cr_sortedA (hu_of64 hr)) cd_sorted (by rfl) T.z_sorted (by decide +kernel) (qa_cons (qe_lc (own := [("one", 1)]) rfl sc_without_greater.nd (qi_seq (qv 0)) (blkOk_by (own := [("one", 1)]) (N := ["sets", "one", "other", "part"]) (sc := (defScope (topS 19))) (by decide +kernel)) (fun _ _ _ _ _ => (gg 1 sc_without_greater.nd)) (fun _ _ _ _ _ => (qts_one (qt_not (qt_tru (qe_bF (cr_any rfl) cf_any (by rfl) T.z_any (by decide +kernel) (qa_cons (qe_lc (own := [("other", 2)]) rfl sc_without_greater.nd (qi_seq (qv 0)) (by exact blkOk_by (by kernel_rfl)) (fun _ _ _ _ _ => (gg 2 sc_without_greater.nd)) (fun _ _ _ _ _ => qts_nil) (fun _ _ _ _ _ => (qe_and (qe_cmp (op_neD (hu_of64 hr)) oc_ne (qv 2) (qv 1) (nomark _)) (qe_one (qe_bF (cr_all rfl) cf_all (by rfl) T.z_all (by decide +kernel) (qa_cons (qe_lc (own := [("part", 3)]) rfl sc_without_greater.nd (qi_seq (qv 2)) (by exact blkOk_by (by kernel_rfl)) (fun _ _ _ _ _ => (gg 3 sc_without_greater.nd)) (fun _ _ _ _ _ => qts_nil) (fun _ _ _ _ _ => (qe_cmp ((op_inD (hu2_of hr)).or op_in_seq) oc_in (qv 3) (qv 1) (by rfl)))) qa_nil)))))) qa_nil)) (by intro _; rfl))))) (fun _ _ _ _ _ => (qv 1))) qa_nil)) qa_nil))))
theorem sc_least_ways : FnScope ["net", "u", "v"] ["net", "u", "v"] (defScope (topS 20)) := ⟨rfl, rfl, rfl, by decide +kernel, rfl, by decide +kernel, by decide +kernel⟩
def den_least_ways : Fn := dfun 3 3 (sRet (eCall 1 den_without_greater (aCons (eCall 3 den_joining_sets (aCons (eVar 0) (aCons (eVar 1) (aCons (eVar 2) aNil)))) aNil)))
theorem ok_least_ways {P : Program} {w : World} {K : PySem.W.Frag} {mg : Str → Option Value} {base : Heap} {ad : Nat → Addr} {fo : Nat → FuncData} (T : Tp K mg ad fo) : FnOk P w K mg base CX0 3 (ad 18) (fo 18) ["net", "u", "v"] (spD K 3 den_least_ways) :=
  fun_den (k := 2) T.F_least_ways sc_least_ways rfl rfl (by decide) fun cdv A outer s H E hr =>
  (ss_one (ss_ret (qe_call (ok_without_greater T) (hr.mono (by decide)) (by rfl) T.g_without_greater T.F_without_greater.kp T.b_without_greater (qa_cons (qe_call (ok_joining_sets T) (hr.mono (by decide)) (by rfl) T.g_joining_sets T.F_joining_sets.kp T.b_joining_sets (qa_cons (qv 0) (qa_cons (qv 1) (qa_cons (qv 2) qa_nil)))) qa_nil))))
theorem sc_least_blocks : FnScope ["net", "u", "v", "ways", "sets", "places", "way", "part"] ["net", "u", "v"] (defScope (topS 21)) := ⟨rfl, rfl, rfl, by decide +kernel, rfl, by decide +kernel, by decide +kernel⟩
def den_least_blocks : Fn := dfun 8 3 (sSeq (sSet 3 0 (eCall 3 den_joining_sets (aCons (eVar 0) (aCons (eVar 1) (aCons (eVar 2) aNil)))) ([(0, 0)] ++ ([(1, 0)] ++ ([(2, 0)] ++ []))))
  (sSeq (sSet 4 0 (eLc (iSeq (eSortK den_size_key (eCall 1 den_all_sets (aCons (eCB (d1 dLen) (aCons (eIx (eVar 0) (eC (.int 1))) aNil)) aNil)))) (.nm 5) (tNotD (tTru (eCB (d1 dAny) (aCons (eLc (iSeq (eVar 3)) (.nm 6) tTrue (eB (tNotD (tTru (eCB (d1 dAny) (aCons (eLc (iSeq (eVar 6)) (.nm 7) tTrue (eB (tCmp dIn (eVar 7) (eVar 5))) [7]) aNil))))) [6]) aNil)))) (eVar 5) [5]) (([] ++ []) ++ [(5, 0)]))
  (sRet (eCall 1 den_without_greater (aCons (eVar 4) aNil)))))
theorem ok_least_blocks {P : Program} {w : World} {K : PySem.W.Frag} {mg : Str → Option Value} {base : Heap} {ad : Nat → Addr} {fo : Nat → FuncData} (T : Tp K mg ad fo) : FnOk P w K mg base CX0 4 (ad 19) (fo 19) ["net", "u", "v"] (spD K 3 den_least_blocks) :=
  fun_den (k := 3) T.F_least_blocks sc_least_blocks rfl rfl (by decide) fun cdv A outer s H E hr =>
  (ss_cons (ss_set 3 0 sc_least_blocks.nd (qe_call (ok_joining_sets T) (hr.mono (by decide)) (by rfl) T.g_joining_sets T.F_joining_sets.kp T.b_joining_sets (qa_cons (qv 0) (qa_cons (qv 1) (qa_cons (qv 2) qa_nil)))))
  (ss_cons (ss_setLc 4 0 (own := [("places", 5)]) rfl sc_least_blocks.nd (qi_seq (qe_sortK (ok_size_key T) (hr.mono (by decide)) T.b_size_key (by rfl) T.z_sorted (by decide +kernel) (by rfl) T.g_size_key (qe_call (ok_all_sets T) (hr.mono (by decide)) (by rfl) T.g_all_sets T.F_all_sets.kp T.b_all_sets (qa_cons (qe_bF call_len_seq cf_len (by rfl) T.z_len (by decide +kernel) (qa_cons (qe_ix (qv 0) qint (fun _ _ => rfl)) qa_nil)) qa_nil)))) (blkOk_by (own := [("places", 5)]) (N := ["net", "u", "v", "ways", "sets", "places", "way", "part"]) (sc := (defScope (topS 21))) (by decide +kernel)) (fun _ _ _ _ _ => (gg 5 sc_least_blocks.nd)) (fun _ _ _ _ _ => (qts_one (qt_not (qt_tru (qe_bF (cr_any rfl) cf_any (by rfl) T.z_any (by decide +kernel) (qa_cons (qe_lc (own := [("way", 6)]) rfl sc_least_blocks.nd (qi_seq (qv 3)) (by exact blkOk_by (by kernel_rfl)) (fun _ _ _ _ _ => (gg 6 sc_least_blocks.nd)) (fun _ _ _ _ _ => qts_nil) (fun _ _ _ _ _ => (qe_not (qe_bF (cr_any rfl) cf_any (by rfl) T.z_any (by decide +kernel) (qa_cons (qe_lc (own := [("part", 7)]) rfl sc_least_blocks.nd (qi_seq (qv 6)) (by exact blkOk_by (by kernel_rfl)) (fun _ _ _ _ _ => (gg 7 sc_least_blocks.nd)) (fun _ _ _ _ _ => qts_nil) (fun _ _ _ _ _ => (qe_cmp ((op_inD (hu2_of hr)).or op_in_seq) oc_in (qv 7) (qv 5) (by rfl)))) qa_nil))))) qa_nil)) (by intro _; rfl))))) (fun _ _ _ _ _ => (qv 5)))
  (ss_one (ss_ret (qe_call (ok_without_greater T) (hr.mono (by decide)) (by rfl) T.g_without_greater T.F_without_greater.kp T.b_without_greater (qa_cons (qv 4) qa_nil))))))
theorem sc_cover_product : FnScope ["losses", "wealth", "cover", "a", "b", "price", "top", "under", "loss", "weight", "left", "_"] ["losses", "wealth", "cover"] (defScope (topS 22)) := ⟨rfl, rfl, rfl, by decide +kernel, rfl, by decide +kernel, by decide +kernel⟩
def den_cover_product : Fn := dfun 12 3 (sSeq (sTup (.tp [(.tp [(.nm 3), (.nm 4)]), (.nm 5)]) (eVar 2) [(2, 0)])
  (sSeq (sTup (.tp [(.nm 6), (.nm 7)]) (eTup (aCons (eC (.int 1)) (aCons (eC (.int 1)) aNil))) ([] ++ ([] ++ [])))
  (sSeq (sFor (iSeq (eVar 0)) [(0, 0)] (.tp [(.nm 8), (.nm 9)])
  (sSeq (sSet 10 0 (eCall 2 den_lowest (aCons (eOp dSub (eOp dMul (eOp dSub (eVar 1) (eVar 5)) (eVar 4)) (eOp dMul (eVar 8) (eOp dSub (eVar 4) (eVar 3)))) (aCons (eVar 4) aNil))) (((([(1, 1)] ++ [(5, 1)]) ++ [(4, 1)]) ++ ([(8, 1)] ++ ([(4, 1)] ++ [(3, 1)]))) ++ ([(4, 0)] ++ [])))
  (sFor (iRange1 (eVar 9)) [] (.nm 11)
  (sPar 6 7 (eOp dMul (eVar 6) (eIx (eVar 10) (eC (.int 0)))) (eOp dMul (eVar 7) (eIx (eVar 10) (eC (.int 1)))) (([(6, 1)] ++ [(10, 2)]) ++ ([(7, 1)] ++ [(10, 2)]))))))
  (sRet (eTup (aCons (eVar 6) (aCons (eVar 7) aNil)))))))
theorem ok_cover_product {P : Program} {w : World} {K : PySem.W.Frag} {mg : Str → Option Value} {base : Heap} {ad : Nat → Addr} {fo : Nat → FuncData} (T : Tp K mg ad fo) : FnOk P w K mg base CX0 3 (ad 20) (fo 20) ["losses", "wealth", "cover"] (spD K 3 den_cover_product) :=
  fun_den (k := 2) T.F_cover_product sc_cover_product rfl rfl (by decide) fun cdv A outer s H E hr =>
  (ss_cons (ss_tup (qv 2) (gg_tup rfl (ggs_cons (gg_tup rfl (ggs_cons (gg 3 sc_cover_product.nd) (ggs_cons (gg 4 sc_cover_product.nd) ggs_nil))) (ggs_cons (gg 5 sc_cover_product.nd) ggs_nil))))
  (ss_cons (ss_tup (qe_tup (qa_cons qint (qa_cons qint qa_nil))) (gg_tup rfl (ggs_cons (gg 6 sc_cover_product.nd) (ggs_cons (gg 7 sc_cover_product.nd) ggs_nil))))
  (ss_cons (ss_for PassesOwn.never rfl (qi_seq (qv 0)) (gg_tup rfl (ggs_cons (gg 8 sc_cover_product.nd) (ggs_cons (gg 9 sc_cover_product.nd) ggs_nil)))
  (ss_cons (ss_set 10 0 sc_cover_product.nd (qe_call (ok_lowest T) (hr.mono (by decide)) (by rfl) T.g_lowest T.F_lowest.kp T.b_lowest (qa_cons (qe_sub (qe_mul (qe_sub (qv 1) (qv 5)) (qv 4)) (qe_mul (qv 8) (qe_sub (qv 4) (qv 3)))) (qa_cons (qv 4) qa_nil))))
  (ss_one (ss_for PassesOwn.never rfl (qi_range1 (by rfl) T.z_range (qv 9)) (gg 11 sc_cover_product.nd)
  (ss_one (ss_par 6 7 rfl sc_cover_product.nd (qe_mul (qv 6) (qe_ix (qv 10) qint (fun _ _ => rfl))) (qe_mul (qv 7) (qe_ix (qv 10) qint (fun _ _ => rfl))) (by rfl)))))))
  (ss_one (ss_ret (qe_tup (qa_cons (qv 6) (qa_cons (qv 7) qa_nil))))))))
theorem sc_best_insure : FnScope ["losses", "wealth", "covers", "best", "index", "cover", "product"] ["losses", "wealth", "covers"] (defScope (topS 23)) := ⟨rfl, rfl, rfl, by decide +kernel, rfl, by decide +kernel, by decide +kernel⟩
def den_best_insure : Fn := dfun 7 3 (sSeq (sSet 3 0 (eTup (aCons (eCall 3 den_cover_product (aCons (eVar 0) (aCons (eVar 1) (aCons (eTup (aCons (eTup (aCons (eC (.int 0)) (aCons (eC (.int 1)) aNil))) (aCons (eC (.int 0)) aNil))) aNil)))) (aCons (eUn dNeg (eC (.int 1))) aNil))) (([(0, 0)] ++ ([(1, 0)] ++ ((([] ++ ([] ++ [])) ++ ([] ++ [])) ++ []))) ++ ([] ++ [])))
  (sSeq (sFor (iEnumD (eVar 2)) [(2, 0)] (.tp [(.nm 4), (.nm 5)])
  (sSeq (sSet 6 0 (eCall 3 den_cover_product (aCons (eVar 0) (aCons (eVar 1) (aCons (eVar 5) aNil)))) ([(0, 0)] ++ ([(1, 0)] ++ ([(5, 0)] ++ []))))
  (sIf (tCmp dGt (eOp dMul (eIx (eVar 6) (eC (.int 0))) (eIx (eIx (eVar 3) (eC (.int 0))) (eC (.int 1)))) (eOp dMul (eIx (eIx (eVar 3) (eC (.int 0))) (eC (.int 0))) (eIx (eVar 6) (eC (.int 1)))))
  (sSet 3 0 (eTup (aCons (eVar 6) (aCons (eVar 4) aNil))) ([(6, 0)] ++ ([(4, 0)] ++ [])))
  sNil)))
  (sRet (eIx (eVar 3) (eC (.int 1))))))
theorem ok_best_insure {P : Program} {w : World} {K : PySem.W.Frag} {mg : Str → Option Value} {base : Heap} {ad : Nat → Addr} {fo : Nat → FuncData} (T : Tp K mg ad fo) : FnOk P w K mg base CX0 4 (ad 21) (fo 21) ["losses", "wealth", "covers"] (spD K 3 den_best_insure) :=
  fun_den (k := 3) T.F_best_insure sc_best_insure rfl rfl (by decide) fun cdv A outer s H E hr =>
  (ss_cons (ss_set 3 0 sc_best_insure.nd (qe_tup (qa_cons (qe_call (ok_cover_product T) (hr.mono (by decide)) (by rfl) T.g_cover_product T.F_cover_product.kp T.b_cover_product (qa_cons (qv 0) (qa_cons (qv 1) (qa_cons (qe_tup (qa_cons (qe_tup (qa_cons qint (qa_cons qint qa_nil))) (qa_cons qint qa_nil))) qa_nil)))) (qa_cons (qe_neg qint) qa_nil))))
  (ss_cons (ss_for PassesOwn.never rfl (qi_enum (by rfl) T.z_enumerate (qv 2)) (gg_tup rfl (ggs_cons (gg 4 sc_best_insure.nd) (ggs_cons (gg 5 sc_best_insure.nd) ggs_nil)))
  (ss_cons (ss_set 6 0 sc_best_insure.nd (qe_call (ok_cover_product T) (hr.mono (by decide)) (by rfl) T.g_cover_product T.F_cover_product.kp T.b_cover_product (qa_cons (qv 0) (qa_cons (qv 1) (qa_cons (qv 5) qa_nil)))))
  (ss_one (ss_if (qt_cmp (op_gtA (hu_of64 hr)) oc_gt (qe_mul (qe_ix (qv 6) qint (fun _ _ => rfl)) (qe_ix (qe_ix (qv 3) qint (fun _ _ => rfl)) qint (fun _ _ => rfl))) (qe_mul (qe_ix (qe_ix (qv 3) qint (fun _ _ => rfl)) qint (fun _ _ => rfl)) (qe_ix (qv 6) qint (fun _ _ => rfl))) (nomark _))
  (ss_one (ss_set 3 0 sc_best_insure.nd (qe_tup (qa_cons (qv 6) (qa_cons (qv 4) qa_nil)))))
  ss_nil))))
  (ss_one (ss_ret (qe_ix (qv 3) qint (fun _ _ => rfl))))))
theorem sc_bold_share : FnScope ["chance"] ["chance"] (defScope (topS 24)) := ⟨rfl, rfl, rfl, by decide +kernel, rfl, by decide +kernel, by decide +kernel⟩
def den_bold_share : Fn := dfun 1 1 (sRet (eCall 2 den_lowest (aCons (eOp dSub (eOp dMul (eC (.int 2)) (eIx (eVar 0) (eC (.int 0)))) (eIx (eVar 0) (eC (.int 1)))) (aCons (eIx (eVar 0) (eC (.int 1))) aNil))))
theorem ok_bold_share {P : Program} {w : World} {K : PySem.W.Frag} {mg : Str → Option Value} {base : Heap} {ad : Nat → Addr} {fo : Nat → FuncData} (T : Tp K mg ad fo) : FnOk P w K mg base CX0 3 (ad 22) (fo 22) ["chance"] (spD K 1 den_bold_share) :=
  fun_den (k := 2) T.F_bold_share sc_bold_share rfl rfl (by decide) fun cdv A outer s H E hr =>
  (ss_one (ss_ret (qe_call (ok_lowest T) (hr.mono (by decide)) (by rfl) T.g_lowest T.F_lowest.kp T.b_lowest (qa_cons (qe_sub (qe_mul qint (qe_ix (qv 0) qint (fun _ _ => rfl))) (qe_ix (qv 0) qint (fun _ _ => rfl))) (qa_cons (qe_ix (qv 0) qint (fun _ _ => rfl)) qa_nil)))))
theorem sc__law_mixed : FnScope ["script", "k", "cell", "first", "second", "third"] ["script", "k"] (defScope (topS 26)) := ⟨rfl, rfl, rfl, by decide +kernel, rfl, by decide +kernel, by decide +kernel⟩
def den__law_mixed : Fn := dfun 6 2 (sSeq (sSet 2 0 (eC (.int 0)) [])
  (sSeq (sIf (tCmp dGt (eCB (d1 dLen) (aCons (eVar 0) aNil)) (eC (.int 0)))
  (sSet 2 0 (eIx (eVar 0) (eOp dMod (eVar 1) (eCB (d1 dLen) (aCons (eVar 0) aNil)))) [(0, 1)])
  sNil)
  (sSeq (sSet 3 0 (eOp dMod (eCB (d1 dInt) (aCons (eOp dAdd (eOp dAdd (eOp dMul (eVar 2) (eC (.int 48271))) (eOp dMul (eVar 1) (eC (.int 69621)))) (eC (.int 8191))) aNil)) (eC (.int 2147483647))) ([] ++ []))
  (sSeq (sSet 4 0 (eOp dMod (eCB (d1 dInt) (aCons (eOp dAdd (eOp dAdd (eOp dMul (eVar 3) (eVar 3)) (eOp dFdiv (eVar 3) (eC (.int 7)))) (eOp dMul (eVar 1) (eC (.int 16807)))) aNil)) (eC (.int 2147483629))) ([] ++ []))
  (sSeq (sSet 5 0 (eOp dMod (eCB (d1 dInt) (aCons (eOp dAdd (eOp dAdd (eOp dMul (eVar 4) (eVar 4)) (eOp dFdiv (eVar 4) (eC (.int 11)))) (eC (.int 40692))) aNil)) (eC (.int 2147483563))) ([] ++ []))
  (sRet (eOp dMod (eOp dFdiv (eVar 5) (eC (.int 5))) (eC (.int 1000003)))))))))
theorem ok__law_mixed {P : Program} {w : World} {K : PySem.W.Frag} {mg : Str → Option Value} {base : Heap} {ad : Nat → Addr} {fo : Nat → FuncData} (T : Tp K mg ad fo) : FnOk P w K mg base CX0 1 (ad 23) (fo 23) ["script", "k"] (spD K 2 den__law_mixed) :=
  fun_den (k := 0) T.F__law_mixed sc__law_mixed rfl rfl (by decide) fun cdv A outer s H E hr =>
  (ss_cons (ss_set 2 0 sc__law_mixed.nd qint)
  (ss_cons (ss_if (qt_cmp (op_gtA (hu_of64 hr)) oc_gt (qe_bF call_len_seq cf_len (by rfl) T.z_len (by decide +kernel) (qa_cons (qv 0) qa_nil)) qint (nomark _))
  (ss_one (ss_set 2 0 sc__law_mixed.nd (qe_ix (qv 0) (qe_mod (qv 1) (qe_bF call_len_seq cf_len (by rfl) T.z_len (by decide +kernel) (qa_cons (qv 0) qa_nil))) (fun _ _ => rfl))))
  ss_nil)
  (ss_cons (ss_set 3 0 sc__law_mixed.nd (qe_mod (qe_tF call_int1 cf_int (by rfl) T.z_int (by decide +kernel) (qa_cons (qe_add (qe_add (qe_mul (qv 2) qint) (qe_mul (qv 1) qint)) qint) qa_nil)) qint))
  (ss_cons (ss_set 4 0 sc__law_mixed.nd (qe_mod (qe_tF call_int1 cf_int (by rfl) T.z_int (by decide +kernel) (qa_cons (qe_add (qe_add (qe_mul (qv 3) (qv 3)) (qe_fdiv (qv 3) qint)) (qe_mul (qv 1) qint)) qa_nil)) qint))
  (ss_cons (ss_set 5 0 sc__law_mixed.nd (qe_mod (qe_tF call_int1 cf_int (by rfl) T.z_int (by decide +kernel) (qa_cons (qe_add (qe_add (qe_mul (qv 4) (qv 4)) (qe_fdiv (qv 4) qint)) qint) qa_nil)) qint))
  (ss_one (ss_ret (qe_mod (qe_fdiv (qv 5) qint) qint))))))))
theorem sc__law_row : FnScope ["script", "many", "big", "row", "k"] ["script", "many"] (defScope (topS 27)) := ⟨rfl, rfl, rfl, by decide +kernel, rfl, by decide +kernel, by decide +kernel⟩
def den__law_row : Fn := dfun 5 2 (sSeq (sSet 2 0 (eC (.int 0)) [])
  (sSeq (sIf (tAndD (tCmp dGt (eCB (d1 dLen) (aCons (eVar 0) aNil)) (eC (.int 0))) (tCmp dGe (eIx (eVar 0) (eC (.int 0))) (eOp dPow (eC (.int 10)) (eC (.int 18)))))
  (sSet 2 0 (eIx (eVar 0) (eC (.int 0))) [(0, 1)])
  sNil)
  (sSeq (sSet 3 1 (eLst aNil) [])
  (sSeq (sFor (iRange1 (eVar 1)) [] (.nm 4)
  (sIf (tCmp dGt (eVar 2) (eC (.int 0)))
  (sSeq (sApp 3 (eOp dMod (eCB (d1 dInt) (aCons (eVar 2) aNil)) (eC (.int 1000))) ([] ++ []))
  (sSet 2 0 (eOp dFdiv (eVar 2) (eC (.int 1000))) ([(2, 1)] ++ [])))
  (sApp 3 (eCall 2 den__law_mixed (aCons (eVar 0) (aCons (eVar 4) aNil))) ([(0, 0)] ++ ([(4, 0)] ++ [])))))
  (sRet (eVar 3))))))
theorem ok__law_row {P : Program} {w : World} {K : PySem.W.Frag} {mg : Str → Option Value} {base : Heap} {ad : Nat → Addr} {fo : Nat → FuncData} (T : Tp K mg ad fo) : FnOk P w K mg base CX0 2 (ad 24) (fo 24) ["script", "many"] (spD K 2 den__law_row) :=
  fun_den (k := 1) T.F__law_row sc__law_row rfl rfl (by decide) fun cdv A outer s H E hr =>
  (ss_cons (ss_set 2 0 sc__law_row.nd qint)
  (ss_cons (ss_if (PW.pt (qw_and (qt_cmp (op_gtA (hu_of64 hr)) oc_gt (qe_bF call_len_seq cf_len (by rfl) T.z_len (by decide +kernel) (qa_cons (qv 0) qa_nil)) qint (nomark _)) (qw_and1 (qt_cmp (op_geA (hu_of64 hr)) oc_ge (qe_ix (qv 0) qint (fun _ _ => rfl)) (qe_pow qint qint) (nomark _)))))
  (ss_one (ss_set 2 0 sc__law_row.nd (qe_ix (qv 0) qint (fun _ _ => rfl))))
  ss_nil)
  (ss_cons (ss_set 3 1 sc__law_row.nd (qe_lst qa_nil))
  (ss_cons (ss_for PassesOwn.never rfl (qi_range1 (by rfl) T.z_range (qv 1)) (gg 4 sc__law_row.nd)
  (ss_one (ss_if (qt_cmp (op_gtA (hu_of64 hr)) oc_gt (qv 2) qint (nomark _))
  (ss_cons (ss_app 3 (ps_expr (pe_bm PySem.F.plainAttrs_list PySem.F.slot_list_append PySem.F.type_list_append mt_append (pv 3) (pa_cons (qe_mod (qe_tF call_int1 cf_int (by rfl) T.z_int (by decide +kernel) (qa_cons (qv 2) qa_nil)) qint) pa_nil))))
  (ss_one (ss_set 2 0 sc__law_row.nd (qe_fdiv (qv 2) qint))))
  (ss_one (ss_app 3 (ps_expr (pe_bm PySem.F.plainAttrs_list PySem.F.slot_list_append PySem.F.type_list_append mt_append (pv 3) (pa_cons (qe_call (ok__law_mixed T) (hr.mono (by decide)) (by rfl) T.g__law_mixed T.F__law_mixed.kp T.b__law_mixed (qa_cons (qv 0) (qa_cons (qv 4) qa_nil))) pa_nil))))))))
  (ss_one (ss_ret (qv 3)))))))
theorem sc__law_is_int : FnScope ["value"] ["value"] (defScope (topS 28)) := ⟨rfl, rfl, rfl, by decide +kernel, rfl, by decide +kernel, by decide +kernel⟩
def den__law_is_int : Fn := dfun 1 1 (sRet (eAndD (eIsi "int" (eVar 0)) (eB (tNotD (tTru (eIsi "bool" (eVar 0)))))))
theorem ok__law_is_int {P : Program} {w : World} {K : PySem.W.Frag} {mg : Str → Option Value} {base : Heap} {ad : Nat → Addr} {fo : Nat → FuncData} (T : Tp K mg ad fo) : FnOk P w K mg base CX0 1 (ad 25) (fo 25) ["value"] (spD K 1 den__law_is_int) :=
  fun_den (k := 0) T.F__law_is_int sc__law_is_int rfl rfl (by decide) fun cdv A outer s H E hr =>
  (ss_one (ss_ret (qe_and (qe_isi (by rfl) T.z_isinstance (qv 0) (by rfl) T.z_int (by decide +kernel)) (qe_one (qe_not (qe_isi (by rfl) T.z_isinstance (qv 0) (by rfl) T.z_bool (by decide +kernel)))))))
theorem sc__law_like : FnScope ["value", "due", "k"] ["value", "due"] (defScope (topS 29)) := ⟨rfl, rfl, rfl, by decide +kernel, rfl, by decide +kernel, by decide +kernel⟩
def den__law_like : Nat → Fn
  | 0 => fun _ => none
  | n + 1 => dfun 3 2 (sSeq (sIf (tIsND (eVar 1))
  (sRet (eIsN (eVar 0)))
  sNil)
  (sSeq (sIf (tTru (eIsi "bool" (eVar 1)))
  (sRet (eAndD (eIsi "bool" (eVar 0)) (eB (tCmp dEq (eVar 0) (eVar 1)))))
  sNil)
  (sSeq (sIf (tTru (eIsi "tuple" (eVar 1)))
  (sSeq (sIf (tOrD (tNotD (tTru (eIsi "tuple" (eVar 0)))) (tCmp dNe (eCB (d1 dLen) (aCons (eVar 0) aNil)) (eCB (d1 dLen) (aCons (eVar 1) aNil))))
  (sRet (eC (.bool false)))
  sNil)
  (sRet (eCB (d1 dAll) (aCons (eLc (iRange1 (eCB (d1 dLen) (aCons (eVar 1) aNil))) (.nm 2) tTrue (eCall 2 (den__law_like n) (aCons (eIx (eVar 0) (eVar 2)) (aCons (eIx (eVar 1) (eVar 2)) aNil))) [2]) aNil))))
  sNil)
  (sSeq (sIf (tTru (eIsi "str" (eVar 1)))
  (sRet (eAndD (eIsi "str" (eVar 0)) (eB (tCmp dEq (eVar 0) (eVar 1)))))
  sNil)
  (sRet (eAndD (eCall 1 den__law_is_int (aCons (eVar 0) aNil)) (eB (tCmp dEq (eVar 0) (eVar 1)))))))))
theorem ok__law_like {P : Program} {w : World} {K : PySem.W.Frag} {mg : Str → Option Value} {base : Heap} {ad : Nat → Addr} {fo : Nat → FuncData} (T : Tp K mg ad fo) : ∀ n : Nat, FnOk P w K mg base CX0 (2 + n) (ad 26) (fo 26) ["value", "due"] (spD K 2 (den__law_like n))
  | 0 => fun_none (k := 1) T.F__law_like sc__law_like rfl
  | n + 1 => have ih := ok__law_like (P := P) (w := w) (base := base) T n
    fun_den (k := 2 + n) T.F__law_like sc__law_like rfl rfl (by decide) fun cdv A outer s H E hr =>
  (ss_cons (ss_if (qt_isN (qv 1))
  (ss_one (ss_ret (qe_isN (qv 0))))
  ss_nil)
  (ss_cons (ss_if (qt_tru (qe_isi (by rfl) T.z_isinstance (qv 1) (by rfl) T.z_bool (by decide +kernel)) (by intro _; rfl))
  (ss_one (ss_ret (qe_and (qe_isi (by rfl) T.z_isinstance (qv 0) (by rfl) T.z_bool (by decide +kernel)) (qe_one (qe_cmp (op_eqD (hu_of64 hr)) oc_eq (qv 0) (qv 1) (nomark _))))))
  ss_nil)
  (ss_cons (ss_if (qt_tru (qe_isi (by rfl) T.z_isinstance (qv 1) (by rfl) T.z_tuple (by decide +kernel)) (by intro _; rfl))
  (ss_cons (ss_if (PW.pt (qw_or (qt_not (qt_tru (qe_isi (by rfl) T.z_isinstance (qv 0) (by rfl) T.z_tuple (by decide +kernel)) (by intro _; rfl))) (qw_or1 (qt_cmp (op_neD (hu_of64 hr)) oc_ne (qe_bF call_len_seq cf_len (by rfl) T.z_len (by decide +kernel) (qa_cons (qv 0) qa_nil)) (qe_bF call_len_seq cf_len (by rfl) T.z_len (by decide +kernel) (qa_cons (qv 1) qa_nil)) (nomark _)))))
  (ss_one (ss_ret qbl))
  ss_nil)
  (ss_one (ss_ret (qe_bF (cr_all rfl) cf_all (by rfl) T.z_all (by decide +kernel) (qa_cons (qe_lc (own := [("k", 2)]) rfl sc__law_like.nd (qi_range1 (by rfl) T.z_range (qe_bF call_len_seq cf_len (by rfl) T.z_len (by decide +kernel) (qa_cons (qv 1) qa_nil))) (blkOk_by (own := [("k", 2)]) (N := ["value", "due", "k"]) (sc := (defScope (topS 29))) (by decide +kernel)) (fun _ _ _ _ _ => (gg 2 sc__law_like.nd)) (fun _ _ _ _ _ => qts_nil) (fun _ _ _ _ _ => (qe_call ih (hr.mono (Nat.le_refl _)) (by rfl) T.g__law_like T.F__law_like.kp T.b__law_like (qa_cons (qe_ix (qv 0) (qv 2) (fun _ _ => rfl)) (qa_cons (qe_ix (qv 1) (qv 2) (fun _ _ => rfl)) qa_nil))))) qa_nil)))))
  ss_nil)
  (ss_cons (ss_if (qt_tru (qe_isi (by rfl) T.z_isinstance (qv 1) (by rfl) T.z_str (by decide +kernel)) (by intro _; rfl))
  (ss_one (ss_ret (qe_and (qe_isi (by rfl) T.z_isinstance (qv 0) (by rfl) T.z_str (by decide +kernel)) (qe_one (qe_cmp (op_eqD (hu_of64 hr)) oc_eq (qv 0) (qv 1) (nomark _))))))
  ss_nil)
  (ss_one (ss_ret (qe_and (qe_call (ok__law_is_int T) (hr.mono (Nat.le_trans (by decide) (Nat.le_add_right 2 n))) (by rfl) T.g__law_is_int T.F__law_is_int.kp T.b__law_is_int (qa_cons (qv 0) qa_nil)) (qe_one (qe_cmp (op_eqD (hu_of64 hr)) oc_eq (qv 0) (qv 1) (nomark _))))))))))
theorem sc__law_sets : FnScope ["n", "found", "thing", "one"] ["n"] (defScope (topS 30)) := ⟨rfl, rfl, rfl, by decide +kernel, rfl, by decide +kernel, by decide +kernel⟩
def den__law_sets : Fn := dfun 4 1 (sSeq (sSet 1 0 (eLst (aCons (eTup aNil) aNil)) ([] ++ []))
  (sSeq (sFor (iRange1 (eVar 0)) [] (.nm 2)
  (sSet 1 0 (eOp dAdd (eVar 1) (eLc (iSeq (eVar 1)) (.nm 3) tTrue (eOp dAdd (eVar 3) (eTup (aCons (eVar 2) aNil))) [3])) ([(1, 1)] ++ ([(1, 1)] ++ ([(3, 1)] ++ ([(2, 0)] ++ []))))))
  (sRet (eCB (d1 dSorted) (aCons (eVar 1) aNil)))))
theorem ok__law_sets {P : Program} {w : World} {K : PySem.W.Frag} {mg : Str → Option Value} {base : Heap} {ad : Nat → Addr} {fo : Nat → FuncData} (T : Tp K mg ad fo) : FnOk P w K mg base CX0 1 (ad 27) (fo 27) ["n"] (spD K 1 den__law_sets) :=
  fun_den (k := 0) T.F__law_sets sc__law_sets rfl rfl (by decide) fun cdv A outer s H E hr =>
  (ss_cons (ss_set 1 0 sc__law_sets.nd (qe_lst (qa_cons (qe_tup qa_nil) qa_nil)))
  (ss_cons (ss_for PassesOwn.never rfl (qi_range1 (by rfl) T.z_range (qv 0)) (gg 2 sc__law_sets.nd)
  (ss_one (ss_set 1 0 sc__law_sets.nd (qe_add (qv 1) (qe_lc (own := [("one", 3)]) rfl sc__law_sets.nd (qi_seq (qv 1)) (blkOk_by (own := [("one", 3)]) (N := ["n", "found", "thing", "one"]) (sc := (defScope (topS 30))) (by decide +kernel)) (fun _ _ _ _ _ => (gg 3 sc__law_sets.nd)) (fun _ _ _ _ _ => qts_nil) (fun _ _ _ _ _ => (qe_add (qv 3) (qe_tup (qa_cons (qv 2) qa_nil)))))))))
  (ss_one (ss_ret (qe_bD (cr_sortedA (hu_of64 hr)) cd_sorted (by rfl) T.z_sorted (by decide +kernel) (qa_cons (qv 1) qa_nil))))))
theorem sc__law_common : FnScope ["first", "second"] ["first", "second"] (defScope (topS 31)) := ⟨rfl, rfl, rfl, by decide +kernel, rfl, by decide +kernel, by decide +kernel⟩
def den__law_common : Fn := dfun 2 2 (sSeq (sPar 0 1 (eCB (d1 dAbs) (aCons (eVar 0) aNil)) (eCB (d1 dAbs) (aCons (eVar 1) aNil)) ([] ++ []))
  (sSeq (sWhile 100000 (tCmp dGt (eVar 1) (eC (.int 0)))
  (sPar 0 1 (eVar 1) (eOp dMod (eCB (d1 dInt) (aCons (eVar 0) aNil)) (eVar 1)) ([(1, 0)] ++ ([] ++ [(1, 1)]))))
  (sRet (eVar 0))))
theorem ok__law_common {P : Program} {w : World} {K : PySem.W.Frag} {mg : Str → Option Value} {base : Heap} {ad : Nat → Addr} {fo : Nat → FuncData} (T : Tp K mg ad fo) : FnOk P w K mg base CX0 1 (ad 28) (fo 28) ["first", "second"] (spD K 2 den__law_common) :=
  fun_den (k := 0) T.F__law_common sc__law_common rfl rfl (by decide) fun cdv A outer s H E hr =>
  (ss_cons (ss_par 0 1 rfl sc__law_common.nd (qe_bF call_abs cf_abs (by rfl) T.z_abs (by decide +kernel) (qa_cons (qv 0) qa_nil)) (qe_bF call_abs cf_abs (by rfl) T.z_abs (by decide +kernel) (qa_cons (qv 1) qa_nil)) (by rfl))
  (ss_cons (ss_while 100000 PassesOwn.never (qt_cmp (op_gtA (hu_of64 hr)) oc_gt (qv 1) qint (nomark _))
  (ss_one (ss_par 0 1 rfl sc__law_common.nd (qv 1) (qe_mod (qe_tF call_int1 cf_int (by rfl) T.z_int (by decide +kernel) (qa_cons (qv 0) qa_nil)) (qv 1)) (by rfl))))
  (ss_one (ss_ret (qv 0)))))
theorem sc__law_ratio : FnScope ["a", "b", "shared"] ["a", "b"] (defScope (topS 32)) := ⟨rfl, rfl, rfl, by decide +kernel, rfl, by decide +kernel, by decide +kernel⟩
def den__law_ratio : Fn := dfun 3 2 (sSeq (sSet 2 0 (eCall 2 den__law_common (aCons (eVar 0) (aCons (eVar 1) aNil))) ([(0, 0)] ++ ([(1, 0)] ++ [])))
  (sSeq (sIf (tCmp dLt (eVar 1) (eC (.int 0)))
  (sSet 2 0 (eUn dNeg (eVar 2)) [])
  sNil)
  (sRet (eTup (aCons (eOp dFdiv (eVar 0) (eVar 2)) (aCons (eOp dFdiv (eVar 1) (eVar 2)) aNil))))))
theorem ok__law_ratio {P : Program} {w : World} {K : PySem.W.Frag} {mg : Str → Option Value} {base : Heap} {ad : Nat → Addr} {fo : Nat → FuncData} (T : Tp K mg ad fo) : FnOk P w K mg base CX0 2 (ad 29) (fo 29) ["a", "b"] (spD K 2 den__law_ratio) :=
  fun_den (k := 1) T.F__law_ratio sc__law_ratio rfl rfl (by decide) fun cdv A outer s H E hr =>
  (ss_cons (ss_set 2 0 sc__law_ratio.nd (qe_call (ok__law_common T) (hr.mono (by decide)) (by rfl) T.g__law_common T.F__law_common.kp T.b__law_common (qa_cons (qv 0) (qa_cons (qv 1) qa_nil))))
  (ss_cons (ss_if (qt_cmp (op_ltA (hu_of64 hr)) oc_lt (qv 1) qint (nomark _))
  (ss_one (ss_set 2 0 sc__law_ratio.nd (qe_neg (qv 2))))
  ss_nil)
  (ss_one (ss_ret (qe_tup (qa_cons (qe_fdiv (qv 0) (qv 2)) (qa_cons (qe_fdiv (qv 1) (qv 2)) qa_nil)))))))
theorem sc__law_joined : FnScope ["n", "links", "u", "met", "turn", "a", "b", "weight"] ["n", "links", "u"] (defScope (topS 33)) := ⟨rfl, rfl, rfl, by decide +kernel, rfl, by decide +kernel, by decide +kernel⟩
def den__law_joined : Fn := dfun 8 3 (sSeq (sSet 3 1 (eLst (aCons (eVar 2) aNil)) ([(2, 0)] ++ []))
  (sSeq (sFor (iRange1 (eVar 0)) [] (.nm 4)
  (sFor (iSeq (eVar 1)) [(1, 0)] (.tp [(.nm 5), (.nm 6), (.nm 7)])
  (sIf (tAndD (tCmp dIn (eVar 5) (eVar 3)) (tCmp dNotIn (eVar 6) (eVar 3)))
  (sApp 3 (eVar 6) [(6, 0)])
  (sIf (tAndD (tCmp dIn (eVar 6) (eVar 3)) (tCmp dNotIn (eVar 5) (eVar 3)))
  (sApp 3 (eVar 5) [(5, 0)])
  sNil))))
  (sRet (eVar 3))))
theorem ok__law_joined {P : Program} {w : World} {K : PySem.W.Frag} {mg : Str → Option Value} {base : Heap} {ad : Nat → Addr} {fo : Nat → FuncData} (T : Tp K mg ad fo) : FnOk P w K mg base CX0 1 (ad 30) (fo 30) ["n", "links", "u"] (spD K 3 den__law_joined) :=
  fun_den (k := 0) T.F__law_joined sc__law_joined rfl rfl (by decide) fun cdv A outer s H E hr =>
  (ss_cons (ss_set 3 1 sc__law_joined.nd (qe_lst (qa_cons (qv 2) qa_nil)))
  (ss_cons (ss_for PassesOwn.never rfl (qi_range1 (by rfl) T.z_range (qv 0)) (gg 4 sc__law_joined.nd)
  (ss_one (ss_for PassesOwn.never rfl (qi_seq (qv 1)) (gg_tup rfl (ggs_cons (gg 5 sc__law_joined.nd) (ggs_cons (gg 6 sc__law_joined.nd) (ggs_cons (gg 7 sc__law_joined.nd) ggs_nil))))
  (ss_one (ss_if (PW.pt (qw_and (qt_cmp ((op_inD (hu2_of hr)).or op_in_seq) oc_in (qv 5) (qv 3) (by rfl)) (qw_and1 (qt_cmp ((op_notInD (hu2_of hr)).or op_notIn_seq) oc_notIn (qv 6) (qv 3) (by rfl)))))
  (ss_one (ss_app 3 (ps_expr (pe_bm PySem.F.plainAttrs_list PySem.F.slot_list_append PySem.F.type_list_append mt_append (pv 3) (pa_cons (qv 6) pa_nil)))))
  (ss_one (ss_if (PW.pt (qw_and (qt_cmp ((op_inD (hu2_of hr)).or op_in_seq) oc_in (qv 6) (qv 3) (by rfl)) (qw_and1 (qt_cmp ((op_notInD (hu2_of hr)).or op_notIn_seq) oc_notIn (qv 5) (qv 3) (by rfl)))))
  (ss_one (ss_app 3 (ps_expr (pe_bm PySem.F.plainAttrs_list PySem.F.slot_list_append PySem.F.type_list_append mt_append (pv 3) (pa_cons (qv 5) pa_nil)))))
  ss_nil)))))))
  (ss_one (ss_ret (qv 3)))))
theorem sc__law_times : FnScope ["first", "second"] ["first", "second"] (defScope (topS 34)) := ⟨rfl, rfl, rfl, by decide +kernel, rfl, by decide +kernel, by decide +kernel⟩
def den__law_times : Fn := dfun 2 2 (sRet (eCall 2 den__law_ratio (aCons (eOp dMul (eIx (eVar 0) (eC (.int 0))) (eIx (eVar 1) (eC (.int 0)))) (aCons (eOp dMul (eIx (eVar 0) (eC (.int 1))) (eIx (eVar 1) (eC (.int 1)))) aNil))))
theorem ok__law_times {P : Program} {w : World} {K : PySem.W.Frag} {mg : Str → Option Value} {base : Heap} {ad : Nat → Addr} {fo : Nat → FuncData} (T : Tp K mg ad fo) : FnOk P w K mg base CX0 3 (ad 31) (fo 31) ["first", "second"] (spD K 2 den__law_times) :=
  fun_den (k := 2) T.F__law_times sc__law_times rfl rfl (by decide) fun cdv A outer s H E hr =>
  (ss_one (ss_ret (qe_call (ok__law_ratio T) (hr.mono (by decide)) (by rfl) T.g__law_ratio T.F__law_ratio.kp T.b__law_ratio (qa_cons (qe_mul (qe_ix (qv 0) qint (fun _ _ => rfl)) (qe_ix (qv 1) qint (fun _ _ => rfl))) (qa_cons (qe_mul (qe_ix (qv 0) qint (fun _ _ => rfl)) (qe_ix (qv 1) qint (fun _ _ => rfl))) qa_nil)))))
theorem sc__law_add : FnScope ["first", "second"] ["first", "second"] (defScope (topS 35)) := ⟨rfl, rfl, rfl, by decide +kernel, rfl, by decide +kernel, by decide +kernel⟩
def den__law_add : Fn := dfun 2 2 (sRet (eCall 2 den__law_ratio (aCons (eOp dAdd (eOp dMul (eIx (eVar 0) (eC (.int 0))) (eIx (eVar 1) (eC (.int 1)))) (eOp dMul (eIx (eVar 1) (eC (.int 0))) (eIx (eVar 0) (eC (.int 1))))) (aCons (eOp dMul (eIx (eVar 0) (eC (.int 1))) (eIx (eVar 1) (eC (.int 1)))) aNil))))
theorem ok__law_add {P : Program} {w : World} {K : PySem.W.Frag} {mg : Str → Option Value} {base : Heap} {ad : Nat → Addr} {fo : Nat → FuncData} (T : Tp K mg ad fo) : FnOk P w K mg base CX0 3 (ad 32) (fo 32) ["first", "second"] (spD K 2 den__law_add) :=
  fun_den (k := 2) T.F__law_add sc__law_add rfl rfl (by decide) fun cdv A outer s H E hr =>
  (ss_one (ss_ret (qe_call (ok__law_ratio T) (hr.mono (by decide)) (by rfl) T.g__law_ratio T.F__law_ratio.kp T.b__law_ratio (qa_cons (qe_add (qe_mul (qe_ix (qv 0) qint (fun _ _ => rfl)) (qe_ix (qv 1) qint (fun _ _ => rfl))) (qe_mul (qe_ix (qv 1) qint (fun _ _ => rfl)) (qe_ix (qv 0) qint (fun _ _ => rfl)))) (qa_cons (qe_mul (qe_ix (qv 0) qint (fun _ _ => rfl)) (qe_ix (qv 1) qint (fun _ _ => rfl))) qa_nil)))))
theorem sc__law_insure : FnScope ["row", "losses", "wealth", "covers", "keys", "a", "b", "price", "top", "loss", "weight", "turn", "k"] ["row"] (defScope (topS 36)) := ⟨rfl, rfl, rfl, by decide +kernel, rfl, by decide +kernel, by decide +kernel⟩
def den__law_insure : Fn := dfun 13 1 (sSeq (sSet 1 0 (eCB (d1 dTuple) (aCons (eLc (iRange1 (eOp dAdd (eC (.int 1)) (eOp dMod (eCB (d1 dInt) (aCons (eIx (eVar 0) (eC (.int 29))) aNil)) (eC (.int 3))))) (.nm 12) tTrue (eTup (aCons (eOp dMod (eCB (d1 dInt) (aCons (eIx (eVar 0) (eOp dAdd (eC (.int 30)) (eVar 12))) aNil)) (eC (.int 20))) (aCons (eOp dAdd (eC (.int 1)) (eOp dMod (eOp dFdiv (eCB (d1 dInt) (aCons (eIx (eVar 0) (eOp dAdd (eC (.int 30)) (eVar 12))) aNil)) (eC (.int 20))) (eC (.int 3)))) aNil))) [12]) aNil)) (([] ++ (([] ++ []) ++ (([] ++ (([] ++ []) ++ [])) ++ []))) ++ []))
  (sSeq (sSet 2 0 (eOp dAdd (eC (.int 41)) (eOp dMod (eCB (d1 dInt) (aCons (eIx (eVar 0) (eC (.int 33))) aNil)) (eC (.int 20)))) ([] ++ ([] ++ [])))
  (sSeq (sSet 3 0 (eCB (d1 dTuple) (aCons (eLc (iRange1 (eOp dMod (eCB (d1 dInt) (aCons (eIx (eVar 0) (eC (.int 34))) aNil)) (eC (.int 4)))) (.nm 12) tTrue (eTup (aCons (eCall 2 den__law_ratio (aCons (eOp dMod (eCB (d1 dInt) (aCons (eIx (eVar 0) (eOp dAdd (eC (.int 35)) (eVar 12))) aNil)) (eC (.int 4))) (aCons (eC (.int 3)) aNil))) (aCons (eOp dMod (eOp dFdiv (eCB (d1 dInt) (aCons (eIx (eVar 0) (eOp dAdd (eC (.int 35)) (eVar 12))) aNil)) (eC (.int 4))) (eC (.int 20))) aNil))) [12]) aNil)) (([] ++ ((([] ++ []) ++ ([] ++ [])) ++ ((([] ++ []) ++ []) ++ []))) ++ []))
  (sSeq (sSet 4 1 (eLst aNil) [])
  (sSeq (sFor (iSeq (eOp dAdd (eTup (aCons (eTup (aCons (eTup (aCons (eC (.int 0)) (aCons (eC (.int 1)) aNil))) (aCons (eC (.int 0)) aNil))) aNil)) (eVar 3))) (((([] ++ ([] ++ [])) ++ ([] ++ [])) ++ []) ++ [(3, 1)]) (.tp [(.tp [(.nm 5), (.nm 6)]), (.nm 7)])
  (sSeq (sSet 8 0 (eC (.int 1)) [])
  (sSeq (sFor (iSeq (eVar 1)) [(1, 0)] (.tp [(.nm 9), (.nm 10)])
  (sFor (iRange1 (eVar 10)) [] (.nm 11)
  (sSet 8 0 (eOp dMul (eVar 8) (eOp dSub (eOp dMul (eOp dSub (eVar 2) (eVar 7)) (eC (.int 3))) (eOp dFdiv (eOp dMul (eOp dMul (eVar 9) (eC (.int 3))) (eOp dSub (eVar 6) (eVar 5))) (eVar 6)))) ([(8, 1)] ++ ((([(2, 1)] ++ [(7, 1)]) ++ []) ++ ((([(9, 1)] ++ []) ++ ([(6, 1)] ++ [(5, 1)])) ++ [(6, 1)]))))))
  (sApp 4 (eVar 8) [(8, 0)]))))
  (sRet (eCall 2 (den__law_like 30) (aCons (eCall 3 den_best_insure (aCons (eVar 1) (aCons (eVar 2) (aCons (eVar 3) aNil)))) (aCons (eOp dSub (eOp dIndex (eVar 4) (eCB (d1 dMax1) (aCons (eVar 4) aNil))) (eC (.int 1))) aNil)))))))))
theorem ok__law_insure {P : Program} {w : World} {K : PySem.W.Frag} {mg : Str → Option Value} {base : Heap} {ad : Nat → Addr} {fo : Nat → FuncData} (T : Tp K mg ad fo) : FnOk P w K mg base CX0 33 (ad 33) (fo 33) ["row"] (spD K 1 den__law_insure) :=
  fun_den (k := 32) T.F__law_insure sc__law_insure rfl rfl (by decide) fun cdv A outer s H E hr =>
  (ss_cons (ss_set 1 0 sc__law_insure.nd (qe_tD call_tuple_of cd_tuple (by rfl) T.z_tuple (by decide +kernel) (qa_cons (qe_lc (own := [("k", 12)]) rfl sc__law_insure.nd (qi_range1 (by rfl) T.z_range (qe_add qint (qe_mod (qe_tF call_int1 cf_int (by rfl) T.z_int (by decide +kernel) (qa_cons (qe_ix (qv 0) qint (fun _ _ => rfl)) qa_nil)) qint))) (blkOk_by (own := [("k", 12)]) (N := ["row", "losses", "wealth", "covers", "keys", "a", "b", "price", "top", "loss", "weight", "turn", "k"]) (sc := (defScope (topS 36))) (by decide +kernel)) (fun _ _ _ _ _ => (gg 12 sc__law_insure.nd)) (fun _ _ _ _ _ => qts_nil) (fun _ _ _ _ _ => (qe_tup (qa_cons (qe_mod (qe_tF call_int1 cf_int (by rfl) T.z_int (by decide +kernel) (qa_cons (qe_ix (qv 0) (qe_add qint (qv 12)) (fun _ _ => rfl)) qa_nil)) qint) (qa_cons (qe_add qint (qe_mod (qe_fdiv (qe_tF call_int1 cf_int (by rfl) T.z_int (by decide +kernel) (qa_cons (qe_ix (qv 0) (qe_add qint (qv 12)) (fun _ _ => rfl)) qa_nil)) qint) qint)) qa_nil))))) qa_nil)))
  (ss_cons (ss_set 2 0 sc__law_insure.nd (qe_add qint (qe_mod (qe_tF call_int1 cf_int (by rfl) T.z_int (by decide +kernel) (qa_cons (qe_ix (qv 0) qint (fun _ _ => rfl)) qa_nil)) qint)))
  (ss_cons (ss_set 3 0 sc__law_insure.nd (qe_tD call_tuple_of cd_tuple (by rfl) T.z_tuple (by decide +kernel) (qa_cons (qe_lc (own := [("k", 12)]) rfl sc__law_insure.nd (qi_range1 (by rfl) T.z_range (qe_mod (qe_tF call_int1 cf_int (by rfl) T.z_int (by decide +kernel) (qa_cons (qe_ix (qv 0) qint (fun _ _ => rfl)) qa_nil)) qint)) (blkOk_by (own := [("k", 12)]) (N := ["row", "losses", "wealth", "covers", "keys", "a", "b", "price", "top", "loss", "weight", "turn", "k"]) (sc := (defScope (topS 36))) (by decide +kernel)) (fun _ _ _ _ _ => (gg 12 sc__law_insure.nd)) (fun _ _ _ _ _ => qts_nil) (fun _ _ _ _ _ => (qe_tup (qa_cons (qe_call (ok__law_ratio T) (hr.mono (by decide)) (by rfl) T.g__law_ratio T.F__law_ratio.kp T.b__law_ratio (qa_cons (qe_mod (qe_tF call_int1 cf_int (by rfl) T.z_int (by decide +kernel) (qa_cons (qe_ix (qv 0) (qe_add qint (qv 12)) (fun _ _ => rfl)) qa_nil)) qint) (qa_cons qint qa_nil))) (qa_cons (qe_mod (qe_fdiv (qe_tF call_int1 cf_int (by rfl) T.z_int (by decide +kernel) (qa_cons (qe_ix (qv 0) (qe_add qint (qv 12)) (fun _ _ => rfl)) qa_nil)) qint) qint) qa_nil))))) qa_nil)))
  (ss_cons (ss_set 4 1 sc__law_insure.nd (qe_lst qa_nil))
  (ss_cons (ss_for PassesOwn.never rfl (qi_seq (qe_add (qe_tup (qa_cons (qe_tup (qa_cons (qe_tup (qa_cons qint (qa_cons qint qa_nil))) (qa_cons qint qa_nil))) qa_nil)) (qv 3))) (gg_tup rfl (ggs_cons (gg_tup rfl (ggs_cons (gg 5 sc__law_insure.nd) (ggs_cons (gg 6 sc__law_insure.nd) ggs_nil))) (ggs_cons (gg 7 sc__law_insure.nd) ggs_nil)))
  (ss_cons (ss_set 8 0 sc__law_insure.nd qint)
  (ss_cons (ss_for PassesOwn.never rfl (qi_seq (qv 1)) (gg_tup rfl (ggs_cons (gg 9 sc__law_insure.nd) (ggs_cons (gg 10 sc__law_insure.nd) ggs_nil)))
  (ss_one (ss_for PassesOwn.never rfl (qi_range1 (by rfl) T.z_range (qv 10)) (gg 11 sc__law_insure.nd)
  (ss_one (ss_set 8 0 sc__law_insure.nd (qe_mul (qv 8) (qe_sub (qe_mul (qe_sub (qv 2) (qv 7)) qint) (qe_fdiv (qe_mul (qe_mul (qv 9) qint) (qe_sub (qv 6) (qv 5))) (qv 6)))))))))
  (ss_one (ss_app 4 (ps_expr (pe_bm PySem.F.plainAttrs_list PySem.F.slot_list_append PySem.F.type_list_append mt_append (pv 4) (pa_cons (qv 8) pa_nil))))))))
  (ss_one (ss_ret (qe_call (ok__law_like T 30) (hr.mono (by decide)) (by rfl) T.g__law_like T.F__law_like.kp T.b__law_like (qa_cons (qe_call (ok_best_insure T) (hr.mono (by decide)) (by rfl) T.g_best_insure T.F_best_insure.kp T.b_best_insure (qa_cons (qv 1) (qa_cons (qv 2) (qa_cons (qv 3) qa_nil)))) (qa_cons (qe_sub (qe_m1F mf_index (pe_bm PySem.F.plainAttrs_list PySem.F.slot_list_index PySem.F.type_list_index (mt_indexD (hu2_of hr)) (qv 4) (pa_cons (qe_bF (cr_maxD rfl (hu_of64 hr)) cf_max1 (by rfl) T.z_max (by decide +kernel) (qa_cons (qv 4) qa_nil)) pa_nil))) qint) qa_nil))))))))))
theorem sc_law : FnScope ["script", "row", "n", "links", "k", "u", "v", "net", "m", "chance", "whole", "counts", "good", "one", "part", "a", "b", "met", "ways", "blocks", "ends", "weight", "c", "d", "p", "q", "half", "other"] ["script"] (defScope (topS 37)) := ⟨rfl, rfl, rfl, by decide +kernel, rfl, by decide +kernel, by decide +kernel⟩
def den_law : Fn := dfun 28 1 (sSeq (sSet 1 0 (eCall 2 den__law_row (aCons (eVar 0) (aCons (eC (.int 40)) aNil))) ([(0, 0)] ++ ([] ++ [])))
  (sSeq (sSet 2 0 (eOp dAdd (eC (.int 2)) (eOp dMod (eCB (d1 dInt) (aCons (eIx (eVar 1) (eC (.int 0))) aNil)) (eC (.int 3)))) ([] ++ ([] ++ [])))
  (sSeq (sSet 3 1 (eLst aNil) [])
  (sSeq (sFor (iRange1 (eOp dMod (eCB (d1 dInt) (aCons (eIx (eVar 1) (eC (.int 1))) aNil)) (eC (.int 6)))) [] (.nm 4)
  (sSeq (sSet 5 0 (eOp dMod (eCB (d1 dInt) (aCons (eIx (eVar 1) (eOp dAdd (eC (.int 2)) (eVar 4))) aNil)) (eVar 2)) ([] ++ [(2, 1)]))
  (sSeq (sSet 6 0 (eOp dMod (eCB (d1 dInt) (aCons (eOp dAdd (eOp dAdd (eVar 5) (eC (.int 1))) (eOp dMod (eOp dFdiv (eCB (d1 dInt) (aCons (eIx (eVar 1) (eOp dAdd (eC (.int 2)) (eVar 4))) aNil)) (eC (.int 5))) (eOp dSub (eVar 2) (eC (.int 1))))) aNil)) (eVar 2)) ([] ++ [(2, 1)]))
  (sApp 3 (eTup (aCons (eCB (d2 dMin2) (aCons (eVar 5) (aCons (eVar 6) aNil))) (aCons (eCB (d2 dMax2) (aCons (eVar 5) (aCons (eVar 6) aNil))) (aCons (eCall 2 den__law_ratio (aCons (eOp dMod (eCB (d1 dInt) (aCons (eIx (eVar 1) (eOp dAdd (eC (.int 8)) (eVar 4))) aNil)) (eC (.int 5))) (aCons (eC (.int 4)) aNil))) aNil)))) ([] ++ ([] ++ ((([] ++ []) ++ ([] ++ [])) ++ [])))))))
  (sSeq (sSet 3 0 (eCB (d1 dTuple) (aCons (eVar 3) aNil)) ([(3, 1)] ++ []))
  (sSeq (sTup (.tp [(.nm 7), (.nm 8)]) (eTup (aCons (eTup (aCons (eVar 2) (aCons (eVar 3) aNil))) (aCons (eCB (d1 dLen) (aCons (eVar 3) aNil)) aNil))) (([(2, 0)] ++ ([(3, 0)] ++ [])) ++ ([] ++ [])))
  (sSeq (sTup (.tp [(.nm 5), (.nm 6)]) (eTup (aCons (eC (.int 0)) (aCons (eOp dAdd (eC (.int 1)) (eOp dMod (eCB (d1 dInt) (aCons (eIx (eVar 1) (eC (.int 14))) aNil)) (eOp dSub (eVar 2) (eC (.int 1))))) aNil))) ([] ++ (([] ++ ([] ++ ([(2, 1)] ++ []))) ++ [])))
  (sSeq (sParN [(9, false, (eTup (aCons (eC (.int 0)) (aCons (eC (.int 1)) aNil)))), (10, false, (eTup (aCons (eC (.int 0)) (aCons (eC (.int 1)) aNil)))), (11, true, (eOp dMul (eLst (aCons (eC (.int 0)) aNil)) (eOp dAdd (eVar 8) (eC (.int 1))))), (12, true, (eLst aNil))] ([] ++ ([] ++ ((([] ++ []) ++ ([(8, 1)] ++ [])) ++ ([] ++ [])))))
  (sSeq (sFor (iSeq (eCall 1 den__law_sets (aCons (eVar 8) aNil))) ([(8, 0)] ++ []) (.nm 13)
  (sSeq (sSet 14 0 (eTup (aCons (eC (.int 1)) (aCons (eC (.int 1)) aNil))) ([] ++ ([] ++ [])))
  (sSeq (sFor (iRange1 (eVar 8)) [] (.nm 4)
  (sSeq (sTup (.tp [(.nm 15), (.nm 16)]) (eIx (eIx (eVar 3) (eVar 4)) (eC (.int 2))) [(3, 2)])
  (sSet 14 0 (eCall 2 den__law_times (aCons (eVar 14) (aCons (eIx (eTup (aCons (eTup (aCons (eOp dSub (eVar 16) (eVar 15)) (aCons (eVar 16) aNil))) (aCons (eTup (aCons (eVar 15) (aCons (eVar 16) aNil))) aNil))) (eCB (d1 dInt) (aCons (eB (tCmp dIn (eVar 4) (eVar 13))) aNil))) aNil))) ([(14, 0)] ++ (((([(16, 1)] ++ [(15, 1)]) ++ ([(16, 0)] ++ [])) ++ (([(15, 0)] ++ ([(16, 0)] ++ [])) ++ [])) ++ [])))))
  (sSeq (sSet 17 0 (eCall 3 den__law_joined (aCons (eVar 2) (aCons (eLc (iSeq (eVar 13)) (.nm 4) tTrue (eIx (eVar 3) (eVar 4)) [4]) (aCons (eVar 5) aNil)))) ([(2, 0)] ++ (([(13, 1)] ++ [(3, 1)]) ++ ([(5, 0)] ++ []))))
  (sSeq (sIf (tCmp dIn (eVar 6) (eVar 17))
  (sSeq (sSet 9 0 (eCall 2 den__law_add (aCons (eVar 9) (aCons (eVar 14) aNil))) ([(9, 0)] ++ ([(14, 0)] ++ [])))
  (sSeq (sPutOp 11 dAddI (eCB (d1 dLen) (aCons (eVar 13) aNil)) (eC (.int 1)))
  (sApp 12 (eVar 13) [(13, 0)])))
  sNil)
  (sIf (tCmp dEq (eCB (d1 dLen) (aCons (eVar 17) aNil)) (eVar 2))
  (sSet 10 0 (eCall 2 den__law_add (aCons (eVar 10) (aCons (eVar 14) aNil))) ([(10, 0)] ++ ([(14, 0)] ++ [])))
  sNil))))))
  (sSeq (sIf (tNotD (tTru (eCall 2 (den__law_like 30) (aCons (eTup (aCons (eCall 3 den_chance_joined (aCons (eVar 7) (aCons (eVar 5) (aCons (eVar 6) aNil)))) (aCons (eCall 1 den_chance_whole (aCons (eVar 7) aNil)) (aCons (eCall 3 den_hold_poly (aCons (eVar 7) (aCons (eVar 5) (aCons (eVar 6) aNil)))) aNil)))) (aCons (eTup (aCons (eVar 9) (aCons (eVar 10) (aCons (eCB (d1 dTuple) (aCons (eVar 11) aNil)) aNil)))) aNil)))))
  (sRet (eC (.bool false)))
  sNil)
  (sSeq (sSet 18 0 (eLc (iSeq (eVar 12)) (.nm 13) (tNotD (tTru (eCB (d1 dAny) (aCons (eLc (iSeq (eVar 12)) (.nm 27) tTrue (eAndD (eB (tCmp dNe (eVar 27) (eVar 13))) (eCB (d1 dAll) (aCons (eLc (iSeq (eVar 27)) (.nm 4) tTrue (eB (tCmp dIn (eVar 4) (eVar 13))) [4]) aNil))) [27]) aNil)))) (eVar 13) [13]) ([(12, 1)] ++ [(13, 0)]))
  (sSeq (sSet 19 0 (eLc (iSeq (eCall 1 den__law_sets (aCons (eVar 8) aNil))) (.nm 13) (tCmp dNotIn (eVar 6) (eCall 3 den__law_joined (aCons (eVar 2) (aCons (eLc (iRange1 (eVar 8)) (.nm 4) (tCmp dNotIn (eVar 4) (eVar 13)) (eIx (eVar 3) (eVar 4)) [4]) (aCons (eVar 5) aNil))))) (eVar 13) [13]) (([(8, 0)] ++ []) ++ [(13, 0)]))
  (sSeq (sSet 19 0 (eLc (iSeq (eVar 19)) (.nm 13) (tNotD (tTru (eCB (d1 dAny) (aCons (eLc (iSeq (eVar 19)) (.nm 27) tTrue (eAndD (eB (tCmp dNe (eVar 27) (eVar 13))) (eCB (d1 dAll) (aCons (eLc (iSeq (eVar 27)) (.nm 4) tTrue (eB (tCmp dIn (eVar 4) (eVar 13))) [4]) aNil))) [27]) aNil)))) (eVar 13) [13]) ([(19, 1)] ++ [(13, 0)]))
  (sSeq (sIf (tNotD (tTru (eCall 2 (den__law_like 30) (aCons (eTup (aCons (eCall 3 den_least_ways (aCons (eVar 7) (aCons (eVar 5) (aCons (eVar 6) aNil)))) (aCons (eCall 3 den_least_blocks (aCons (eVar 7) (aCons (eVar 5) (aCons (eVar 6) aNil)))) aNil))) (aCons (eTup (aCons (eCB (d1 dTuple) (aCons (eVar 18) aNil)) (aCons (eCB (d1 dTuple) (aCons (eVar 19) aNil)) aNil))) aNil)))))
  (sRet (eC (.bool false)))
  sNil)
  (sSeq (sFor (iSeq (eVar 18)) [(18, 0)] (.nm 13)
  (sIf (tNotD (tTru (eCB (d1 dAll) (aCons (eLc (iSeq (eVar 19)) (.nm 27) tTrue (eCB (d1 dAny) (aCons (eLc (iSeq (eVar 27)) (.nm 4) tTrue (eB (tCmp dIn (eVar 4) (eVar 13))) [4]) aNil)) [27]) aNil))))
  (sRet (eC (.bool false)))
  sNil))
  (sSeq (sFor (iRange1 (eVar 8)) [] (.nm 4)
  (sSeq (sSet 20 1 (eLst aNil) [])
  (sSeq (sFor (iSeq (eTup (aCons (eTup (aCons (eC (.int 0)) (aCons (eC (.int 1)) aNil))) (aCons (eTup (aCons (eC (.int 1)) (aCons (eC (.int 1)) aNil))) aNil)))) (([] ++ ([] ++ [])) ++ (([] ++ ([] ++ [])) ++ [])) (.nm 21)
  (sApp 20 (eCall 3 den_chance_joined (aCons (eTup (aCons (eVar 2) (aCons (eOp dAdd (eOp dAdd (eSl (eVar 3) oNone (oSome (eVar 4))) (eTup (aCons (eTup (aCons (eIx (eIx (eVar 3) (eVar 4)) (eC (.int 0))) (aCons (eIx (eIx (eVar 3) (eVar 4)) (eC (.int 1))) (aCons (eVar 21) aNil)))) aNil))) (eSl (eVar 3) (oSome (eOp dAdd (eVar 4) (eC (.int 1)))) oNone)) aNil))) (aCons (eVar 5) (aCons (eVar 6) aNil)))) (([(2, 0)] ++ ((([(3, 1)] ++ (([(3, 2)] ++ ([(3, 2)] ++ ([(21, 0)] ++ []))) ++ [])) ++ [(3, 1)]) ++ [])) ++ ([(5, 0)] ++ ([(6, 0)] ++ [])))))
  (sSeq (sTupL [(.tp [(.nm 15), (.nm 16)]), (.tp [(.nm 22), (.nm 23)])] (eVar 20) [(20, 0)])
  (sSeq (sIf (tNotD (tTru (eCall 2 (den__law_like 30) (aCons (eCall 4 den_weight_of_link (aCons (eVar 7) (aCons (eVar 5) (aCons (eVar 6) (aCons (eVar 4) aNil))))) (aCons (eCall 2 den__law_ratio (aCons (eOp dSub (eOp dMul (eVar 22) (eVar 16)) (eOp dMul (eVar 15) (eVar 23))) (aCons (eOp dMul (eVar 16) (eVar 23)) aNil))) aNil)))))
  (sRet (eC (.bool false)))
  sNil)
  (sSeq (sTup (.tp [(.nm 24), (.nm 25)]) (eIx (eIx (eVar 3) (eVar 4)) (eC (.int 2))) [(3, 2)])
  (sIf (tCmp dNe (eCall 2 den__law_add (aCons (eCall 2 den__law_times (aCons (eTup (aCons (eOp dSub (eVar 25) (eVar 24)) (aCons (eVar 25) aNil))) (aCons (eIx (eVar 20) (eC (.int 0))) aNil))) (aCons (eCall 2 den__law_times (aCons (eTup (aCons (eVar 24) (aCons (eVar 25) aNil))) (aCons (eIx (eVar 20) (eC (.int 1))) aNil))) aNil))) (eVar 9))
  (sRet (eC (.bool false)))
  sNil)))))))
  (sSeq (sSet 26 0 (eTup (aCons (eVar 2) (aCons (eCB (d1 dTuple) (aCons (eLc (iSeq (eVar 3)) (.tp [(.nm 15), (.nm 16), (.nm 21)]) tTrue (eTup (aCons (eVar 15) (aCons (eVar 16) (aCons (eTup (aCons (eC (.int 1)) (aCons (eC (.int 2)) aNil))) aNil)))) [15, 16, 21]) aNil)) aNil))) ([(2, 0)] ++ ((([(3, 1)] ++ ([(15, 0)] ++ ([(16, 0)] ++ (([] ++ ([] ++ [])) ++ [])))) ++ []) ++ [])))
  (sSeq (sIf (tCmp dNe (eCall 3 den_chance_joined (aCons (eVar 26) (aCons (eVar 5) (aCons (eVar 6) aNil)))) (eCall 2 den__law_ratio (aCons (eCB (d1 dSum) (aCons (eVar 11) aNil)) (aCons (eOp dShl (eC (.int 1)) (eVar 8)) aNil))))
  (sRet (eC (.bool false)))
  sNil)
  (sSeq (sPar 15 16 (eOp dAdd (eC (.int 6)) (eOp dMod (eCB (d1 dInt) (aCons (eIx (eVar 1) (eC (.int 15))) aNil)) (eC (.int 5)))) (eC (.int 10)) (([] ++ ([] ++ [])) ++ []))
  (sRet (eAndD (eCall 2 (den__law_like 30) (aCons (eCall 1 den_bold_share (aCons (eCall 2 den__law_ratio (aCons (eVar 15) (aCons (eVar 16) aNil))) aNil)) (aCons (eCall 2 den__law_ratio (aCons (eOp dSub (eOp dMul (eC (.int 2)) (eVar 15)) (eVar 16)) (aCons (eVar 16) aNil))) aNil))) (eCall 1 den__law_insure (aCons (eVar 1) aNil)))))))))))))))))))))))
theorem ok_law {P : Program} {w : World} {K : PySem.W.Frag} {mg : Str → Option Value} {base : Heap} {ad : Nat → Addr} {fo : Nat → FuncData} (T : Tp K mg ad fo) : FnOk P w K mg base CX0 34 (ad 34) (fo 34) ["script"] (spD K 1 den_law) :=
  fun_den (k := 33) T.F_law sc_law rfl rfl (by decide) fun cdv A outer s H E hr =>
  (ss_cons (ss_set 1 0 sc_law.nd (qe_call (ok__law_row T) (hr.mono (by decide)) (by rfl) T.g__law_row T.F__law_row.kp T.b__law_row (qa_cons (qv 0) (qa_cons qint qa_nil))))
  (ss_cons (ss_set 2 0 sc_law.nd (qe_add qint (qe_mod (qe_tF call_int1 cf_int (by rfl) T.z_int (by decide +kernel) (qa_cons (qe_ix (qv 1) qint (fun _ _ => rfl)) qa_nil)) qint)))
  (ss_cons (ss_set 3 1 sc_law.nd (qe_lst qa_nil))
  (ss_cons (ss_for PassesOwn.never rfl (qi_range1 (by rfl) T.z_range (qe_mod (qe_tF call_int1 cf_int (by rfl) T.z_int (by decide +kernel) (qa_cons (qe_ix (qv 1) qint (fun _ _ => rfl)) qa_nil)) qint)) (gg 4 sc_law.nd)
  (ss_cons (ss_set 5 0 sc_law.nd (qe_mod (qe_tF call_int1 cf_int (by rfl) T.z_int (by decide +kernel) (qa_cons (qe_ix (qv 1) (qe_add qint (qv 4)) (fun _ _ => rfl)) qa_nil)) (qv 2)))
  (ss_cons (ss_set 6 0 sc_law.nd (qe_mod (qe_tF call_int1 cf_int (by rfl) T.z_int (by decide +kernel) (qa_cons (qe_add (qe_add (qv 5) qint) (qe_mod (qe_fdiv (qe_tF call_int1 cf_int (by rfl) T.z_int (by decide +kernel) (qa_cons (qe_ix (qv 1) (qe_add qint (qv 4)) (fun _ _ => rfl)) qa_nil)) qint) (qe_sub (qv 2) qint))) qa_nil)) (qv 2)))
  (ss_one (ss_app 3 (ps_expr (pe_bm PySem.F.plainAttrs_list PySem.F.slot_list_append PySem.F.type_list_append mt_append (pv 3) (pa_cons (qe_tup (qa_cons (qe_bF (call_min2 rfl) cf_min2 (by rfl) T.z_min (by decide +kernel) (qa_cons (qv 5) (qa_cons (qv 6) qa_nil))) (qa_cons (qe_bF (call_max2 rfl) cf_max2 (by rfl) T.z_max (by decide +kernel) (qa_cons (qv 5) (qa_cons (qv 6) qa_nil))) (qa_cons (qe_call (ok__law_ratio T) (hr.mono (by decide)) (by rfl) T.g__law_ratio T.F__law_ratio.kp T.b__law_ratio (qa_cons (qe_mod (qe_tF call_int1 cf_int (by rfl) T.z_int (by decide +kernel) (qa_cons (qe_ix (qv 1) (qe_add qint (qv 4)) (fun _ _ => rfl)) qa_nil)) qint) (qa_cons qint qa_nil))) qa_nil)))) pa_nil))))))))
  (ss_cons (ss_set 3 0 sc_law.nd (qe_tD call_tuple_of cd_tuple (by rfl) T.z_tuple (by decide +kernel) (qa_cons (qv 3) qa_nil)))
  (ss_cons (ss_tup (qe_tup (qa_cons (qe_tup (qa_cons (qv 2) (qa_cons (qv 3) qa_nil))) (qa_cons (qe_bF call_len_seq cf_len (by rfl) T.z_len (by decide +kernel) (qa_cons (qv 3) qa_nil)) qa_nil))) (gg_tup rfl (ggs_cons (gg 7 sc_law.nd) (ggs_cons (gg 8 sc_law.nd) ggs_nil))))
  (ss_cons (ss_tup (qe_tup (qa_cons qint (qa_cons (qe_add qint (qe_mod (qe_tF call_int1 cf_int (by rfl) T.z_int (by decide +kernel) (qa_cons (qe_ix (qv 1) qint (fun _ _ => rfl)) qa_nil)) (qe_sub (qv 2) qint))) qa_nil))) (gg_tup rfl (ggs_cons (gg 5 sc_law.nd) (ggs_cons (gg 6 sc_law.nd) ggs_nil))))
  (ss_cons (ss_parNT [9, 10, 11, 12] rfl sc_law.nd (qr_v (qe_tup (qa_cons qint (qa_cons qint qa_nil))) (qr_v (qe_tup (qa_cons qint (qa_cons qint qa_nil))) (qr_f (qe_mul (qe_lst (qa_cons qint qa_nil)) (qe_add (qv 8) qint)) (qr_f (qe_lst qa_nil) qr_nil)))) (.cons (by rfl) (by first | exact Or.inl rfl | exact Or.inr rfl) (by first | exact .inl rfl | exact .inr rfl) (by rfl) (.cons (by rfl) (by first | exact Or.inl rfl | exact Or.inr rfl) (by first | exact .inl rfl | exact .inr rfl) (by rfl) (.cons (by rfl) (by first | exact Or.inl rfl | exact Or.inr rfl) (by first | exact .inl rfl | exact .inr rfl) (by rfl) (.cons (by rfl) (by first | exact Or.inl rfl | exact Or.inr rfl) (by first | exact .inl rfl | exact .inr rfl) (by rfl) .nil)))) rfl)
  (ss_cons (ss_for PassesOwn.never rfl (qi_seq (qe_call (ok__law_sets T) (hr.mono (by decide)) (by rfl) T.g__law_sets T.F__law_sets.kp T.b__law_sets (qa_cons (qv 8) qa_nil))) (gg 13 sc_law.nd)
  (ss_cons (ss_set 14 0 sc_law.nd (qe_tup (qa_cons qint (qa_cons qint qa_nil))))
  (ss_cons (ss_for PassesOwn.never rfl (qi_range1 (by rfl) T.z_range (qv 8)) (gg 4 sc_law.nd)
  (ss_cons (ss_tup (qe_ix (qe_ix (qv 3) (qv 4) (fun _ _ => rfl)) qint (fun _ _ => rfl)) (gg_tup rfl (ggs_cons (gg 15 sc_law.nd) (ggs_cons (gg 16 sc_law.nd) ggs_nil))))
  (ss_one (ss_set 14 0 sc_law.nd (qe_call (ok__law_times T) (hr.mono (by decide)) (by rfl) T.g__law_times T.F__law_times.kp T.b__law_times (qa_cons (qv 14) (qa_cons (qe_ix (qe_tup (qa_cons (qe_tup (qa_cons (qe_sub (qv 16) (qv 15)) (qa_cons (qv 16) qa_nil))) (qa_cons (qe_tup (qa_cons (qv 15) (qa_cons (qv 16) qa_nil))) qa_nil))) (qe_tF call_int1 cf_int (by rfl) T.z_int (by decide +kernel) (qa_cons (qe_cmp ((op_inD (hu2_of hr)).or op_in_seq) oc_in (qv 4) (qv 13) (by rfl)) qa_nil)) (fun _ _ => rfl)) qa_nil)))))))
  (ss_cons (ss_set 17 0 sc_law.nd (qe_call (ok__law_joined T) (hr.mono (by decide)) (by rfl) T.g__law_joined T.F__law_joined.kp T.b__law_joined (qa_cons (qv 2) (qa_cons (qe_lc (own := [("k", 4)]) rfl sc_law.nd (qi_seq (qv 13)) (blkOk_by (own := [("k", 4)]) (N := ["script", "row", "n", "links", "k", "u", "v", "net", "m", "chance", "whole", "counts", "good", "one", "part", "a", "b", "met", "ways", "blocks", "ends", "weight", "c", "d", "p", "q", "half", "other"]) (sc := (defScope (topS 37))) (by decide +kernel)) (fun _ _ _ _ _ => (gg 4 sc_law.nd)) (fun _ _ _ _ _ => qts_nil) (fun _ _ _ _ _ => (qe_ix (qv 3) (qv 4) (fun _ _ => rfl)))) (qa_cons (qv 5) qa_nil)))))
  (ss_cons (ss_if (qt_cmp ((op_inD (hu2_of hr)).or op_in_seq) oc_in (qv 6) (qv 17) (by rfl))
  (ss_cons (ss_set 9 0 sc_law.nd (qe_call (ok__law_add T) (hr.mono (by decide)) (by rfl) T.g__law_add T.F__law_add.kp T.b__law_add (qa_cons (qv 9) (qa_cons (qv 14) qa_nil))))
  (ss_cons (ss_putOp 11 (by exact pio_add) (ps_augS (pv 11) (qe_bF call_len_seq cf_len (by rfl) T.z_len (by decide +kernel) (qa_cons (qv 13) qa_nil)) get_list qint ip_add set_list))
  (ss_one (ss_app 12 (ps_expr (pe_bm PySem.F.plainAttrs_list PySem.F.slot_list_append PySem.F.type_list_append mt_append (pv 12) (pa_cons (qv 13) pa_nil)))))))
  ss_nil)
  (ss_one (ss_if (qt_cmp (op_eqD (hu_of64 hr)) oc_eq (qe_bF call_len_seq cf_len (by rfl) T.z_len (by decide +kernel) (qa_cons (qv 17) qa_nil)) (qv 2) (nomark _))
  (ss_one (ss_set 10 0 sc_law.nd (qe_call (ok__law_add T) (hr.mono (by decide)) (by rfl) T.g__law_add T.F__law_add.kp T.b__law_add (qa_cons (qv 10) (qa_cons (qv 14) qa_nil)))))
  ss_nil)))))))
  (ss_cons (ss_if (qt_not (qt_tru (qe_call (ok__law_like T 30) (hr.mono (by decide)) (by rfl) T.g__law_like T.F__law_like.kp T.b__law_like (qa_cons (qe_tup (qa_cons (qe_call (ok_chance_joined T) (hr.mono (by decide)) (by rfl) T.g_chance_joined T.F_chance_joined.kp T.b_chance_joined (qa_cons (qv 7) (qa_cons (qv 5) (qa_cons (qv 6) qa_nil)))) (qa_cons (qe_call (ok_chance_whole T) (hr.mono (by decide)) (by rfl) T.g_chance_whole T.F_chance_whole.kp T.b_chance_whole (qa_cons (qv 7) qa_nil)) (qa_cons (qe_call (ok_hold_poly T) (hr.mono (by decide)) (by rfl) T.g_hold_poly T.F_hold_poly.kp T.b_hold_poly (qa_cons (qv 7) (qa_cons (qv 5) (qa_cons (qv 6) qa_nil)))) qa_nil)))) (qa_cons (qe_tup (qa_cons (qv 9) (qa_cons (qv 10) (qa_cons (qe_tD call_tuple_of cd_tuple (by rfl) T.z_tuple (by decide +kernel) (qa_cons (qv 11) qa_nil)) qa_nil)))) qa_nil))) (by intro _; rfl)))
  (ss_one (ss_ret qbl))
  ss_nil)
  (ss_cons (ss_setLc 18 0 (own := [("one", 13)]) rfl sc_law.nd (qi_seq (qv 12)) (blkOk_by (own := [("one", 13)]) (N := ["script", "row", "n", "links", "k", "u", "v", "net", "m", "chance", "whole", "counts", "good", "one", "part", "a", "b", "met", "ways", "blocks", "ends", "weight", "c", "d", "p", "q", "half", "other"]) (sc := (defScope (topS 37))) (by decide +kernel)) (fun _ _ _ _ _ => (gg 13 sc_law.nd)) (fun _ _ _ _ _ => (qts_one (qt_not (qt_tru (qe_bF (cr_any rfl) cf_any (by rfl) T.z_any (by decide +kernel) (qa_cons (qe_lc (own := [("other", 27)]) rfl sc_law.nd (qi_seq (qv 12)) (by exact blkOk_by (by kernel_rfl)) (fun _ _ _ _ _ => (gg 27 sc_law.nd)) (fun _ _ _ _ _ => qts_nil) (fun _ _ _ _ _ => (qe_and (qe_cmp (op_neD (hu_of64 hr)) oc_ne (qv 27) (qv 13) (nomark _)) (qe_one (qe_bF (cr_all rfl) cf_all (by rfl) T.z_all (by decide +kernel) (qa_cons (qe_lc (own := [("k", 4)]) rfl sc_law.nd (qi_seq (qv 27)) (by exact blkOk_by (by kernel_rfl)) (fun _ _ _ _ _ => (gg 4 sc_law.nd)) (fun _ _ _ _ _ => qts_nil) (fun _ _ _ _ _ => (qe_cmp ((op_inD (hu2_of hr)).or op_in_seq) oc_in (qv 4) (qv 13) (by rfl)))) qa_nil)))))) qa_nil)) (by intro _; rfl))))) (fun _ _ _ _ _ => (qv 13)))
  (ss_cons (ss_set 19 0 sc_law.nd (qe_lc (own := [("one", 13)]) rfl sc_law.nd (qi_seq (qe_call (ok__law_sets T) (hr.mono (by decide)) (by rfl) T.g__law_sets T.F__law_sets.kp T.b__law_sets (qa_cons (qv 8) qa_nil))) (blkOk_by (own := [("one", 13)]) (N := ["script", "row", "n", "links", "k", "u", "v", "net", "m", "chance", "whole", "counts", "good", "one", "part", "a", "b", "met", "ways", "blocks", "ends", "weight", "c", "d", "p", "q", "half", "other"]) (sc := (defScope (topS 37))) (by decide +kernel)) (fun _ _ _ _ _ => (gg 13 sc_law.nd)) (fun _ _ _ _ _ => (qts_one (qt_cmp ((op_notInD (hu2_of hr)).or op_notIn_seq) oc_notIn (qv 6) (qe_call (ok__law_joined T) (hr.mono (by decide)) (by rfl) T.g__law_joined T.F__law_joined.kp T.b__law_joined (qa_cons (qv 2) (qa_cons (qe_lc (own := [("k", 4)]) rfl sc_law.nd (qi_range1 (by rfl) T.z_range (qv 8)) (by exact blkOk_by (by kernel_rfl)) (fun _ _ _ _ _ => (gg 4 sc_law.nd)) (fun _ _ _ _ _ => (qts_one (qt_cmp ((op_notInD (hu2_of hr)).or op_notIn_seq) oc_notIn (qv 4) (qv 13) (by rfl)))) (fun _ _ _ _ _ => (qe_ix (qv 3) (qv 4) (fun _ _ => rfl)))) (qa_cons (qv 5) qa_nil)))) (by rfl)))) (fun _ _ _ _ _ => (qv 13))))
  (ss_cons (ss_set 19 0 sc_law.nd (qe_lc (own := [("one", 13)]) rfl sc_law.nd (qi_seq (qv 19)) (blkOk_by (own := [("one", 13)]) (N := ["script", "row", "n", "links", "k", "u", "v", "net", "m", "chance", "whole", "counts", "good", "one", "part", "a", "b", "met", "ways", "blocks", "ends", "weight", "c", "d", "p", "q", "half", "other"]) (sc := (defScope (topS 37))) (by decide +kernel)) (fun _ _ _ _ _ => (gg 13 sc_law.nd)) (fun _ _ _ _ _ => (qts_one (qt_not (qt_tru (qe_bF (cr_any rfl) cf_any (by rfl) T.z_any (by decide +kernel) (qa_cons (qe_lc (own := [("other", 27)]) rfl sc_law.nd (qi_seq (qv 19)) (by exact blkOk_by (by kernel_rfl)) (fun _ _ _ _ _ => (gg 27 sc_law.nd)) (fun _ _ _ _ _ => qts_nil) (fun _ _ _ _ _ => (qe_and (qe_cmp (op_neD (hu_of64 hr)) oc_ne (qv 27) (qv 13) (nomark _)) (qe_one (qe_bF (cr_all rfl) cf_all (by rfl) T.z_all (by decide +kernel) (qa_cons (qe_lc (own := [("k", 4)]) rfl sc_law.nd (qi_seq (qv 27)) (by exact blkOk_by (by kernel_rfl)) (fun _ _ _ _ _ => (gg 4 sc_law.nd)) (fun _ _ _ _ _ => qts_nil) (fun _ _ _ _ _ => (qe_cmp ((op_inD (hu2_of hr)).or op_in_seq) oc_in (qv 4) (qv 13) (by rfl)))) qa_nil)))))) qa_nil)) (by intro _; rfl))))) (fun _ _ _ _ _ => (qv 13))))
  (ss_cons (ss_if (qt_not (qt_tru (qe_call (ok__law_like T 30) (hr.mono (by decide)) (by rfl) T.g__law_like T.F__law_like.kp T.b__law_like (qa_cons (qe_tup (qa_cons (qe_call (ok_least_ways T) (hr.mono (by decide)) (by rfl) T.g_least_ways T.F_least_ways.kp T.b_least_ways (qa_cons (qv 7) (qa_cons (qv 5) (qa_cons (qv 6) qa_nil)))) (qa_cons (qe_call (ok_least_blocks T) (hr.mono (by decide)) (by rfl) T.g_least_blocks T.F_least_blocks.kp T.b_least_blocks (qa_cons (qv 7) (qa_cons (qv 5) (qa_cons (qv 6) qa_nil)))) qa_nil))) (qa_cons (qe_tup (qa_cons (qe_tD call_tuple_of cd_tuple (by rfl) T.z_tuple (by decide +kernel) (qa_cons (qv 18) qa_nil)) (qa_cons (qe_tD call_tuple_of cd_tuple (by rfl) T.z_tuple (by decide +kernel) (qa_cons (qv 19) qa_nil)) qa_nil))) qa_nil))) (by intro _; rfl)))
  (ss_one (ss_ret qbl))
  ss_nil)
  (ss_cons (ss_for PassesOwn.never rfl (qi_seq (qv 18)) (gg 13 sc_law.nd)
  (ss_one (ss_if (qt_not (qt_tru (qe_bF (cr_all rfl) cf_all (by rfl) T.z_all (by decide +kernel) (qa_cons (qe_lc (own := [("other", 27)]) rfl sc_law.nd (qi_seq (qv 19)) (blkOk_by (own := [("other", 27)]) (N := ["script", "row", "n", "links", "k", "u", "v", "net", "m", "chance", "whole", "counts", "good", "one", "part", "a", "b", "met", "ways", "blocks", "ends", "weight", "c", "d", "p", "q", "half", "other"]) (sc := (defScope (topS 37))) (by decide +kernel)) (fun _ _ _ _ _ => (gg 27 sc_law.nd)) (fun _ _ _ _ _ => qts_nil) (fun _ _ _ _ _ => (qe_bF (cr_any rfl) cf_any (by rfl) T.z_any (by decide +kernel) (qa_cons (qe_lc (own := [("k", 4)]) rfl sc_law.nd (qi_seq (qv 27)) (by exact blkOk_by (by kernel_rfl)) (fun _ _ _ _ _ => (gg 4 sc_law.nd)) (fun _ _ _ _ _ => qts_nil) (fun _ _ _ _ _ => (qe_cmp ((op_inD (hu2_of hr)).or op_in_seq) oc_in (qv 4) (qv 13) (by rfl)))) qa_nil)))) qa_nil)) (by intro _; rfl)))
  (ss_one (ss_ret qbl))
  ss_nil)))
  (ss_cons (ss_for PassesOwn.never rfl (qi_range1 (by rfl) T.z_range (qv 8)) (gg 4 sc_law.nd)
  (ss_cons (ss_set 20 1 sc_law.nd (qe_lst qa_nil))
  (ss_cons (ss_for PassesOwn.never rfl (qi_seq (qe_tup (qa_cons (qe_tup (qa_cons qint (qa_cons qint qa_nil))) (qa_cons (qe_tup (qa_cons qint (qa_cons qint qa_nil))) qa_nil)))) (gg 21 sc_law.nd)
  (ss_one (ss_app 20 (ps_expr (pe_bm PySem.F.plainAttrs_list PySem.F.slot_list_append PySem.F.type_list_append mt_append (pv 20) (pa_cons (qe_call (ok_chance_joined T) (hr.mono (by decide)) (by rfl) T.g_chance_joined T.F_chance_joined.kp T.b_chance_joined (qa_cons (qe_tup (qa_cons (qv 2) (qa_cons (qe_add (qe_add (qe_sl (qv 3) qo_none (qo_some (qv 4))) (qe_tup (qa_cons (qe_tup (qa_cons (qe_ix (qe_ix (qv 3) (qv 4) (fun _ _ => rfl)) qint (fun _ _ => rfl)) (qa_cons (qe_ix (qe_ix (qv 3) (qv 4) (fun _ _ => rfl)) qint (fun _ _ => rfl)) (qa_cons (qv 21) qa_nil)))) qa_nil))) (qe_sl (qv 3) (qo_some (qe_add (qv 4) qint)) qo_none)) qa_nil))) (qa_cons (qv 5) (qa_cons (qv 6) qa_nil)))) pa_nil))))))
  (ss_cons (ss_tupL (qv 20) (gg_tupL rfl (ggs_cons (gg_tup rfl (ggs_cons (gg 15 sc_law.nd) (ggs_cons (gg 16 sc_law.nd) ggs_nil))) (ggs_cons (gg_tup rfl (ggs_cons (gg 22 sc_law.nd) (ggs_cons (gg 23 sc_law.nd) ggs_nil))) ggs_nil))))
  (ss_cons (ss_if (qt_not (qt_tru (qe_call (ok__law_like T 30) (hr.mono (by decide)) (by rfl) T.g__law_like T.F__law_like.kp T.b__law_like (qa_cons (qe_call (ok_weight_of_link T) (hr.mono (by decide)) (by rfl) T.g_weight_of_link T.F_weight_of_link.kp T.b_weight_of_link (qa_cons (qv 7) (qa_cons (qv 5) (qa_cons (qv 6) (qa_cons (qv 4) qa_nil))))) (qa_cons (qe_call (ok__law_ratio T) (hr.mono (by decide)) (by rfl) T.g__law_ratio T.F__law_ratio.kp T.b__law_ratio (qa_cons (qe_sub (qe_mul (qv 22) (qv 16)) (qe_mul (qv 15) (qv 23))) (qa_cons (qe_mul (qv 16) (qv 23)) qa_nil))) qa_nil))) (by intro _; rfl)))
  (ss_one (ss_ret qbl))
  ss_nil)
  (ss_cons (ss_tup (qe_ix (qe_ix (qv 3) (qv 4) (fun _ _ => rfl)) qint (fun _ _ => rfl)) (gg_tup rfl (ggs_cons (gg 24 sc_law.nd) (ggs_cons (gg 25 sc_law.nd) ggs_nil))))
  (ss_one (ss_if (qt_cmp (op_neD (hu_of64 hr)) oc_ne (qe_call (ok__law_add T) (hr.mono (by decide)) (by rfl) T.g__law_add T.F__law_add.kp T.b__law_add (qa_cons (qe_call (ok__law_times T) (hr.mono (by decide)) (by rfl) T.g__law_times T.F__law_times.kp T.b__law_times (qa_cons (qe_tup (qa_cons (qe_sub (qv 25) (qv 24)) (qa_cons (qv 25) qa_nil))) (qa_cons (qe_ix (qv 20) qint (fun _ _ => rfl)) qa_nil))) (qa_cons (qe_call (ok__law_times T) (hr.mono (by decide)) (by rfl) T.g__law_times T.F__law_times.kp T.b__law_times (qa_cons (qe_tup (qa_cons (qv 24) (qa_cons (qv 25) qa_nil))) (qa_cons (qe_ix (qv 20) qint (fun _ _ => rfl)) qa_nil))) qa_nil))) (qv 9) (nomark _))
  (ss_one (ss_ret qbl))
  ss_nil))))))))
  (ss_cons (ss_set 26 0 sc_law.nd (qe_tup (qa_cons (qv 2) (qa_cons (qe_tD call_tuple_of cd_tuple (by rfl) T.z_tuple (by decide +kernel) (qa_cons (qe_lc (own := [("a", 15), ("b", 16), ("weight", 21)]) rfl sc_law.nd (qi_seq (qv 3)) (blkOk_by (own := [("a", 15), ("b", 16), ("weight", 21)]) (N := ["script", "row", "n", "links", "k", "u", "v", "net", "m", "chance", "whole", "counts", "good", "one", "part", "a", "b", "met", "ways", "blocks", "ends", "weight", "c", "d", "p", "q", "half", "other"]) (sc := (defScope (topS 37))) (by decide +kernel)) (fun _ _ _ _ _ => (gg_tup rfl (ggs_cons (gg 15 sc_law.nd) (ggs_cons (gg 16 sc_law.nd) (ggs_cons (gg 21 sc_law.nd) ggs_nil))))) (fun _ _ _ _ _ => qts_nil) (fun _ _ _ _ _ => (qe_tup (qa_cons (qv 15) (qa_cons (qv 16) (qa_cons (qe_tup (qa_cons qint (qa_cons qint qa_nil))) qa_nil)))))) qa_nil)) qa_nil))))
  (ss_cons (ss_if (qt_cmp (op_neD (hu_of64 hr)) oc_ne (qe_call (ok_chance_joined T) (hr.mono (by decide)) (by rfl) T.g_chance_joined T.F_chance_joined.kp T.b_chance_joined (qa_cons (qv 26) (qa_cons (qv 5) (qa_cons (qv 6) qa_nil)))) (qe_call (ok__law_ratio T) (hr.mono (by decide)) (by rfl) T.g__law_ratio T.F__law_ratio.kp T.b__law_ratio (qa_cons (qe_bF (cr_sumA rfl) cf_sum (by rfl) T.z_sum (by decide +kernel) (qa_cons (qv 11) qa_nil)) (qa_cons (qe_shl qint (qv 8)) qa_nil))) (nomark _))
  (ss_one (ss_ret qbl))
  ss_nil)
  (ss_cons (ss_par 15 16 rfl sc_law.nd (qe_add qint (qe_mod (qe_tF call_int1 cf_int (by rfl) T.z_int (by decide +kernel) (qa_cons (qe_ix (qv 1) qint (fun _ _ => rfl)) qa_nil)) qint)) qint (by rfl))
  (ss_one (ss_ret (qe_and (qe_call (ok__law_like T 30) (hr.mono (by decide)) (by rfl) T.g__law_like T.F__law_like.kp T.b__law_like (qa_cons (qe_call (ok_bold_share T) (hr.mono (by decide)) (by rfl) T.g_bold_share T.F_bold_share.kp T.b_bold_share (qa_cons (qe_call (ok__law_ratio T) (hr.mono (by decide)) (by rfl) T.g__law_ratio T.F__law_ratio.kp T.b__law_ratio (qa_cons (qv 15) (qa_cons (qv 16) qa_nil))) qa_nil)) (qa_cons (qe_call (ok__law_ratio T) (hr.mono (by decide)) (by rfl) T.g__law_ratio T.F__law_ratio.kp T.b__law_ratio (qa_cons (qe_sub (qe_mul qint (qv 15)) (qv 16)) (qa_cons (qv 16) qa_nil))) qa_nil))) (qe_one (qe_call (ok__law_insure T) (hr.mono (by decide)) (by rfl) T.g__law_insure T.F__law_insure.kp T.b__law_insure (qa_cons (qv 1) qa_nil)))))))))))))))))))))))))
end Law
end

section
set_option Elab.async false
set_option linter.all false
set_option maxRecDepth 10000
namespace Law
open DS Lib PySem
theorem law_eq : den_law = Lib.den_law := rfl
theorem main (ns : List Int) (h : ns.length ≤ 63) : den_law [scr ns] = some (.bool true) := by
  rw [law_eq]
  exact law12 ns h
end Law
end

section
set_option Elab.async false
set_option linter.all false
set_option maxRecDepth 100000
set_option maxHeartbeats 4000000
namespace Law
open PySem PySem.Spec PyProof.Rows L2 DS
theorem all_mk {w : World} {K : PySem.W.Frag} {h : Heap} {mg : Str → Option Value} {fa : Addr} (X : K.In h) (G : h.Ns mainGlobals mg) (hfa : mg "law" = some (.ref fa))
  {f0 : Addr} {od0 an0 : Option Addr} {sl0 : Array (Option Value)} {oc0 kV0 dc0 pm0 cd0 ct0 : Value}
  {f1 : Addr} {od1 an1 : Option Addr} {sl1 : Array (Option Value)} {oc1 kV1 dc1 pm1 cd1 ct1 : Value}
  {f2 : Addr} {od2 an2 : Option Addr} {sl2 : Array (Option Value)} {oc2 kV2 dc2 pm2 cd2 ct2 : Value}
  {f3 : Addr} {od3 an3 : Option Addr} {sl3 : Array (Option Value)} {oc3 kV3 dc3 pm3 cd3 ct3 : Value}
  {f4 : Addr} {od4 an4 : Option Addr} {sl4 : Array (Option Value)} {oc4 kV4 dc4 pm4 cd4 ct4 : Value}
  {f5 : Addr} {od5 an5 : Option Addr} {sl5 : Array (Option Value)} {oc5 kV5 dc5 pm5 cd5 ct5 : Value}
  {f6 : Addr} {od6 an6 : Option Addr} {sl6 : Array (Option Value)} {oc6 kV6 dc6 pm6 cd6 ct6 : Value}
  {f7 : Addr} {od7 an7 : Option Addr} {sl7 : Array (Option Value)} {oc7 kV7 dc7 pm7 cd7 ct7 : Value}
  {f8 : Addr} {od8 an8 : Option Addr} {sl8 : Array (Option Value)} {oc8 kV8 dc8 pm8 cd8 ct8 : Value}
  {f9 : Addr} {od9 an9 : Option Addr} {sl9 : Array (Option Value)} {oc9 kV9 dc9 pm9 cd9 ct9 : Value}
  {f10 : Addr} {od10 an10 : Option Addr} {sl10 : Array (Option Value)} {oc10 kV10 dc10 pm10 cd10 ct10 : Value}
  {f11 : Addr} {od11 an11 : Option Addr} {sl11 : Array (Option Value)} {oc11 kV11 dc11 pm11 cd11 ct11 : Value}
  {f12 : Addr} {od12 an12 : Option Addr} {sl12 : Array (Option Value)} {oc12 kV12 dc12 pm12 cd12 ct12 : Value}
  {f13 : Addr} {od13 an13 : Option Addr} {sl13 : Array (Option Value)} {oc13 kV13 dc13 pm13 cd13 ct13 : Value}
  {f14 : Addr} {od14 an14 : Option Addr} {sl14 : Array (Option Value)} {oc14 kV14 dc14 pm14 cd14 ct14 : Value}
  {f15 : Addr} {od15 an15 : Option Addr} {sl15 : Array (Option Value)} {oc15 kV15 dc15 pm15 cd15 ct15 : Value}
  {f16 : Addr} {od16 an16 : Option Addr} {sl16 : Array (Option Value)} {oc16 kV16 dc16 pm16 cd16 ct16 : Value}
  {f17 : Addr} {od17 an17 : Option Addr} {sl17 : Array (Option Value)} {oc17 kV17 dc17 pm17 cd17 ct17 : Value}
  {f18 : Addr} {od18 an18 : Option Addr} {sl18 : Array (Option Value)} {oc18 kV18 dc18 pm18 cd18 ct18 : Value}
  {f19 : Addr} {od19 an19 : Option Addr} {sl19 : Array (Option Value)} {oc19 kV19 dc19 pm19 cd19 ct19 : Value}
  {f20 : Addr} {od20 an20 : Option Addr} {sl20 : Array (Option Value)} {oc20 kV20 dc20 pm20 cd20 ct20 : Value}
  {f21 : Addr} {od21 an21 : Option Addr} {sl21 : Array (Option Value)} {oc21 kV21 dc21 pm21 cd21 ct21 : Value}
  {f22 : Addr} {od22 an22 : Option Addr} {sl22 : Array (Option Value)} {oc22 kV22 dc22 pm22 cd22 ct22 : Value}
  {f23 : Addr} {od23 an23 : Option Addr} {sl23 : Array (Option Value)} {oc23 kV23 dc23 pm23 cd23 ct23 : Value}
  {f24 : Addr} {od24 an24 : Option Addr} {sl24 : Array (Option Value)} {oc24 kV24 dc24 pm24 cd24 ct24 : Value}
  {f25 : Addr} {od25 an25 : Option Addr} {sl25 : Array (Option Value)} {oc25 kV25 dc25 pm25 cd25 ct25 : Value}
  {f26 : Addr} {od26 an26 : Option Addr} {sl26 : Array (Option Value)} {oc26 kV26 dc26 pm26 cd26 ct26 : Value}
  {f27 : Addr} {od27 an27 : Option Addr} {sl27 : Array (Option Value)} {oc27 kV27 dc27 pm27 cd27 ct27 : Value}
  {f28 : Addr} {od28 an28 : Option Addr} {sl28 : Array (Option Value)} {oc28 kV28 dc28 pm28 cd28 ct28 : Value}
  {f29 : Addr} {od29 an29 : Option Addr} {sl29 : Array (Option Value)} {oc29 kV29 dc29 pm29 cd29 ct29 : Value}
  {f30 : Addr} {od30 an30 : Option Addr} {sl30 : Array (Option Value)} {oc30 kV30 dc30 pm30 cd30 ct30 : Value}
  {f31 : Addr} {od31 an31 : Option Addr} {sl31 : Array (Option Value)} {oc31 kV31 dc31 pm31 cd31 ct31 : Value}
  {f32 : Addr} {od32 an32 : Option Addr} {sl32 : Array (Option Value)} {oc32 kV32 dc32 pm32 cd32 ct32 : Value}
  {f33 : Addr} {od33 an33 : Option Addr} {sl33 : Array (Option Value)} {oc33 kV33 dc33 pm33 cd33 ct33 : Value}
  {f34 : Addr} {od34 an34 : Option Addr} {sl34 : Array (Option Value)} {oc34 kV34 dc34 pm34 cd34 ct34 : Value}
  (a0 : PySem.W.nsIn K mainGlobals "divisor" = some (some (.ref f0))) (l0 : K.lookup f0 = some ⟨oc0, od0, .func (PySem.W.fnOf "divisor" "divisor" (defArgs (topS 1)) (defBody (topS 1)) (defScope (topS 1)) .none kV0 dc0 pm0 an0 cd0 ct0), sl0⟩) (c0 : PySem.W.codeIn K cd0 "divisor" = true) (k0 : PySem.W.keepIn K (.ref f0) = true)
  (a1 : PySem.W.nsIn K mainGlobals "lowest" = some (some (.ref f1))) (l1 : K.lookup f1 = some ⟨oc1, od1, .func (PySem.W.fnOf "lowest" "lowest" (defArgs (topS 2)) (defBody (topS 2)) (defScope (topS 2)) .none kV1 dc1 pm1 an1 cd1 ct1), sl1⟩) (c1 : PySem.W.codeIn K cd1 "lowest" = true) (k1 : PySem.W.keepIn K (.ref f1) = true)
  (a2 : PySem.W.nsIn K mainGlobals "plus" = some (some (.ref f2))) (l2 : K.lookup f2 = some ⟨oc2, od2, .func (PySem.W.fnOf "plus" "plus" (defArgs (topS 3)) (defBody (topS 3)) (defScope (topS 3)) .none kV2 dc2 pm2 an2 cd2 ct2), sl2⟩) (c2 : PySem.W.codeIn K cd2 "plus" = true) (k2 : PySem.W.keepIn K (.ref f2) = true)
  (a3 : PySem.W.nsIn K mainGlobals "minus" = some (some (.ref f3))) (l3 : K.lookup f3 = some ⟨oc3, od3, .func (PySem.W.fnOf "minus" "minus" (defArgs (topS 4)) (defBody (topS 4)) (defScope (topS 4)) .none kV3 dc3 pm3 an3 cd3 ct3), sl3⟩) (c3 : PySem.W.codeIn K cd3 "minus" = true) (k3 : PySem.W.keepIn K (.ref f3) = true)
  (a4 : PySem.W.nsIn K mainGlobals "times" = some (some (.ref f4))) (l4 : K.lookup f4 = some ⟨oc4, od4, .func (PySem.W.fnOf "times" "times" (defArgs (topS 5)) (defBody (topS 5)) (defScope (topS 5)) .none kV4 dc4 pm4 an4 cd4 ct4), sl4⟩) (c4 : PySem.W.codeIn K cd4 "times" = true) (k4 : PySem.W.keepIn K (.ref f4) = true)
  (a5 : PySem.W.nsIn K mainGlobals "all_sets" = some (some (.ref f5))) (l5 : K.lookup f5 = some ⟨oc5, od5, .func (PySem.W.fnOf "all_sets" "all_sets" (defArgs (topS 6)) (defBody (topS 6)) (defScope (topS 6)) .none kV5 dc5 pm5 an5 cd5 ct5), sl5⟩) (c5 : PySem.W.codeIn K cd5 "all_sets" = true) (k5 : PySem.W.keepIn K (.ref f5) = true)
  (a6 : PySem.W.nsIn K mainGlobals "size_key" = some (some (.ref f6))) (l6 : K.lookup f6 = some ⟨oc6, od6, .func (PySem.W.fnOf "size_key" "size_key" (defArgs (topS 7)) (defBody (topS 7)) (defScope (topS 7)) .none kV6 dc6 pm6 an6 cd6 ct6), sl6⟩) (c6 : PySem.W.codeIn K cd6 "size_key" = true) (k6 : PySem.W.keepIn K (.ref f6) = true)
  (a7 : PySem.W.nsIn K mainGlobals "reached" = some (some (.ref f7))) (l7 : K.lookup f7 = some ⟨oc7, od7, .func (PySem.W.fnOf "reached" "reached" (defArgs (topS 9)) (defBody (topS 9)) (defScope (topS 9)) .none kV7 dc7 pm7 an7 cd7 ct7), sl7⟩) (c7 : PySem.W.codeIn K cd7 "reached" = true) (k7 : PySem.W.keepIn K (.ref f7) = true)
  (a8 : PySem.W.nsIn K mainGlobals "chosen" = some (some (.ref f8))) (l8 : K.lookup f8 = some ⟨oc8, od8, .func (PySem.W.fnOf "chosen" "chosen" (defArgs (topS 10)) (defBody (topS 10)) (defScope (topS 10)) .none kV8 dc8 pm8 an8 cd8 ct8), sl8⟩) (c8 : PySem.W.codeIn K cd8 "chosen" = true) (k8 : PySem.W.keepIn K (.ref f8) = true)
  (a9 : PySem.W.nsIn K mainGlobals "chance_of" = some (some (.ref f9))) (l9 : K.lookup f9 = some ⟨oc9, od9, .func (PySem.W.fnOf "chance_of" "chance_of" (defArgs (topS 11)) (defBody (topS 11)) (defScope (topS 11)) .none kV9 dc9 pm9 an9 cd9 ct9), sl9⟩) (c9 : PySem.W.codeIn K cd9 "chance_of" = true) (k9 : PySem.W.keepIn K (.ref f9) = true)
  (a10 : PySem.W.nsIn K mainGlobals "joining_sets" = some (some (.ref f10))) (l10 : K.lookup f10 = some ⟨oc10, od10, .func (PySem.W.fnOf "joining_sets" "joining_sets" (defArgs (topS 12)) (defBody (topS 12)) (defScope (topS 12)) .none kV10 dc10 pm10 an10 cd10 ct10), sl10⟩) (c10 : PySem.W.codeIn K cd10 "joining_sets" = true) (k10 : PySem.W.keepIn K (.ref f10) = true)
  (a11 : PySem.W.nsIn K mainGlobals "sum_of_chances" = some (some (.ref f11))) (l11 : K.lookup f11 = some ⟨oc11, od11, .func (PySem.W.fnOf "sum_of_chances" "sum_of_chances" (defArgs (topS 13)) (defBody (topS 13)) (defScope (topS 13)) .none kV11 dc11 pm11 an11 cd11 ct11), sl11⟩) (c11 : PySem.W.codeIn K cd11 "sum_of_chances" = true) (k11 : PySem.W.keepIn K (.ref f11) = true)
  (a12 : PySem.W.nsIn K mainGlobals "chance_joined" = some (some (.ref f12))) (l12 : K.lookup f12 = some ⟨oc12, od12, .func (PySem.W.fnOf "chance_joined" "chance_joined" (defArgs (topS 14)) (defBody (topS 14)) (defScope (topS 14)) .none kV12 dc12 pm12 an12 cd12 ct12), sl12⟩) (c12 : PySem.W.codeIn K cd12 "chance_joined" = true) (k12 : PySem.W.keepIn K (.ref f12) = true)
  (a13 : PySem.W.nsIn K mainGlobals "chance_whole" = some (some (.ref f13))) (l13 : K.lookup f13 = some ⟨oc13, od13, .func (PySem.W.fnOf "chance_whole" "chance_whole" (defArgs (topS 15)) (defBody (topS 15)) (defScope (topS 15)) .none kV13 dc13 pm13 an13 cd13 ct13), sl13⟩) (c13 : PySem.W.codeIn K cd13 "chance_whole" = true) (k13 : PySem.W.keepIn K (.ref f13) = true)
  (a14 : PySem.W.nsIn K mainGlobals "with_weight" = some (some (.ref f14))) (l14 : K.lookup f14 = some ⟨oc14, od14, .func (PySem.W.fnOf "with_weight" "with_weight" (defArgs (topS 16)) (defBody (topS 16)) (defScope (topS 16)) .none kV14 dc14 pm14 an14 cd14 ct14), sl14⟩) (c14 : PySem.W.codeIn K cd14 "with_weight" = true) (k14 : PySem.W.keepIn K (.ref f14) = true)
  (a15 : PySem.W.nsIn K mainGlobals "weight_of_link" = some (some (.ref f15))) (l15 : K.lookup f15 = some ⟨oc15, od15, .func (PySem.W.fnOf "weight_of_link" "weight_of_link" (defArgs (topS 17)) (defBody (topS 17)) (defScope (topS 17)) .none kV15 dc15 pm15 an15 cd15 ct15), sl15⟩) (c15 : PySem.W.codeIn K cd15 "weight_of_link" = true) (k15 : PySem.W.keepIn K (.ref f15) = true)
  (a16 : PySem.W.nsIn K mainGlobals "hold_poly" = some (some (.ref f16))) (l16 : K.lookup f16 = some ⟨oc16, od16, .func (PySem.W.fnOf "hold_poly" "hold_poly" (defArgs (topS 18)) (defBody (topS 18)) (defScope (topS 18)) .none kV16 dc16 pm16 an16 cd16 ct16), sl16⟩) (c16 : PySem.W.codeIn K cd16 "hold_poly" = true) (k16 : PySem.W.keepIn K (.ref f16) = true)
  (a17 : PySem.W.nsIn K mainGlobals "without_greater" = some (some (.ref f17))) (l17 : K.lookup f17 = some ⟨oc17, od17, .func (PySem.W.fnOf "without_greater" "without_greater" (defArgs (topS 19)) (defBody (topS 19)) (defScope (topS 19)) .none kV17 dc17 pm17 an17 cd17 ct17), sl17⟩) (c17 : PySem.W.codeIn K cd17 "without_greater" = true) (k17 : PySem.W.keepIn K (.ref f17) = true)
  (a18 : PySem.W.nsIn K mainGlobals "least_ways" = some (some (.ref f18))) (l18 : K.lookup f18 = some ⟨oc18, od18, .func (PySem.W.fnOf "least_ways" "least_ways" (defArgs (topS 20)) (defBody (topS 20)) (defScope (topS 20)) .none kV18 dc18 pm18 an18 cd18 ct18), sl18⟩) (c18 : PySem.W.codeIn K cd18 "least_ways" = true) (k18 : PySem.W.keepIn K (.ref f18) = true)
  (a19 : PySem.W.nsIn K mainGlobals "least_blocks" = some (some (.ref f19))) (l19 : K.lookup f19 = some ⟨oc19, od19, .func (PySem.W.fnOf "least_blocks" "least_blocks" (defArgs (topS 21)) (defBody (topS 21)) (defScope (topS 21)) .none kV19 dc19 pm19 an19 cd19 ct19), sl19⟩) (c19 : PySem.W.codeIn K cd19 "least_blocks" = true) (k19 : PySem.W.keepIn K (.ref f19) = true)
  (a20 : PySem.W.nsIn K mainGlobals "cover_product" = some (some (.ref f20))) (l20 : K.lookup f20 = some ⟨oc20, od20, .func (PySem.W.fnOf "cover_product" "cover_product" (defArgs (topS 22)) (defBody (topS 22)) (defScope (topS 22)) .none kV20 dc20 pm20 an20 cd20 ct20), sl20⟩) (c20 : PySem.W.codeIn K cd20 "cover_product" = true) (k20 : PySem.W.keepIn K (.ref f20) = true)
  (a21 : PySem.W.nsIn K mainGlobals "best_insure" = some (some (.ref f21))) (l21 : K.lookup f21 = some ⟨oc21, od21, .func (PySem.W.fnOf "best_insure" "best_insure" (defArgs (topS 23)) (defBody (topS 23)) (defScope (topS 23)) .none kV21 dc21 pm21 an21 cd21 ct21), sl21⟩) (c21 : PySem.W.codeIn K cd21 "best_insure" = true) (k21 : PySem.W.keepIn K (.ref f21) = true)
  (a22 : PySem.W.nsIn K mainGlobals "bold_share" = some (some (.ref f22))) (l22 : K.lookup f22 = some ⟨oc22, od22, .func (PySem.W.fnOf "bold_share" "bold_share" (defArgs (topS 24)) (defBody (topS 24)) (defScope (topS 24)) .none kV22 dc22 pm22 an22 cd22 ct22), sl22⟩) (c22 : PySem.W.codeIn K cd22 "bold_share" = true) (k22 : PySem.W.keepIn K (.ref f22) = true)
  (a23 : PySem.W.nsIn K mainGlobals "_law_mixed" = some (some (.ref f23))) (l23 : K.lookup f23 = some ⟨oc23, od23, .func (PySem.W.fnOf "_law_mixed" "_law_mixed" (defArgs (topS 26)) (defBody (topS 26)) (defScope (topS 26)) .none kV23 dc23 pm23 an23 cd23 ct23), sl23⟩) (c23 : PySem.W.codeIn K cd23 "_law_mixed" = true) (k23 : PySem.W.keepIn K (.ref f23) = true)
  (a24 : PySem.W.nsIn K mainGlobals "_law_row" = some (some (.ref f24))) (l24 : K.lookup f24 = some ⟨oc24, od24, .func (PySem.W.fnOf "_law_row" "_law_row" (defArgs (topS 27)) (defBody (topS 27)) (defScope (topS 27)) .none kV24 dc24 pm24 an24 cd24 ct24), sl24⟩) (c24 : PySem.W.codeIn K cd24 "_law_row" = true) (k24 : PySem.W.keepIn K (.ref f24) = true)
  (a25 : PySem.W.nsIn K mainGlobals "_law_is_int" = some (some (.ref f25))) (l25 : K.lookup f25 = some ⟨oc25, od25, .func (PySem.W.fnOf "_law_is_int" "_law_is_int" (defArgs (topS 28)) (defBody (topS 28)) (defScope (topS 28)) .none kV25 dc25 pm25 an25 cd25 ct25), sl25⟩) (c25 : PySem.W.codeIn K cd25 "_law_is_int" = true) (k25 : PySem.W.keepIn K (.ref f25) = true)
  (a26 : PySem.W.nsIn K mainGlobals "_law_like" = some (some (.ref f26))) (l26 : K.lookup f26 = some ⟨oc26, od26, .func (PySem.W.fnOf "_law_like" "_law_like" (defArgs (topS 29)) (defBody (topS 29)) (defScope (topS 29)) .none kV26 dc26 pm26 an26 cd26 ct26), sl26⟩) (c26 : PySem.W.codeIn K cd26 "_law_like" = true) (k26 : PySem.W.keepIn K (.ref f26) = true)
  (a27 : PySem.W.nsIn K mainGlobals "_law_sets" = some (some (.ref f27))) (l27 : K.lookup f27 = some ⟨oc27, od27, .func (PySem.W.fnOf "_law_sets" "_law_sets" (defArgs (topS 30)) (defBody (topS 30)) (defScope (topS 30)) .none kV27 dc27 pm27 an27 cd27 ct27), sl27⟩) (c27 : PySem.W.codeIn K cd27 "_law_sets" = true) (k27 : PySem.W.keepIn K (.ref f27) = true)
  (a28 : PySem.W.nsIn K mainGlobals "_law_common" = some (some (.ref f28))) (l28 : K.lookup f28 = some ⟨oc28, od28, .func (PySem.W.fnOf "_law_common" "_law_common" (defArgs (topS 31)) (defBody (topS 31)) (defScope (topS 31)) .none kV28 dc28 pm28 an28 cd28 ct28), sl28⟩) (c28 : PySem.W.codeIn K cd28 "_law_common" = true) (k28 : PySem.W.keepIn K (.ref f28) = true)
  (a29 : PySem.W.nsIn K mainGlobals "_law_ratio" = some (some (.ref f29))) (l29 : K.lookup f29 = some ⟨oc29, od29, .func (PySem.W.fnOf "_law_ratio" "_law_ratio" (defArgs (topS 32)) (defBody (topS 32)) (defScope (topS 32)) .none kV29 dc29 pm29 an29 cd29 ct29), sl29⟩) (c29 : PySem.W.codeIn K cd29 "_law_ratio" = true) (k29 : PySem.W.keepIn K (.ref f29) = true)
  (a30 : PySem.W.nsIn K mainGlobals "_law_joined" = some (some (.ref f30))) (l30 : K.lookup f30 = some ⟨oc30, od30, .func (PySem.W.fnOf "_law_joined" "_law_joined" (defArgs (topS 33)) (defBody (topS 33)) (defScope (topS 33)) .none kV30 dc30 pm30 an30 cd30 ct30), sl30⟩) (c30 : PySem.W.codeIn K cd30 "_law_joined" = true) (k30 : PySem.W.keepIn K (.ref f30) = true)
  (a31 : PySem.W.nsIn K mainGlobals "_law_times" = some (some (.ref f31))) (l31 : K.lookup f31 = some ⟨oc31, od31, .func (PySem.W.fnOf "_law_times" "_law_times" (defArgs (topS 34)) (defBody (topS 34)) (defScope (topS 34)) .none kV31 dc31 pm31 an31 cd31 ct31), sl31⟩) (c31 : PySem.W.codeIn K cd31 "_law_times" = true) (k31 : PySem.W.keepIn K (.ref f31) = true)
  (a32 : PySem.W.nsIn K mainGlobals "_law_add" = some (some (.ref f32))) (l32 : K.lookup f32 = some ⟨oc32, od32, .func (PySem.W.fnOf "_law_add" "_law_add" (defArgs (topS 35)) (defBody (topS 35)) (defScope (topS 35)) .none kV32 dc32 pm32 an32 cd32 ct32), sl32⟩) (c32 : PySem.W.codeIn K cd32 "_law_add" = true) (k32 : PySem.W.keepIn K (.ref f32) = true)
  (a33 : PySem.W.nsIn K mainGlobals "_law_insure" = some (some (.ref f33))) (l33 : K.lookup f33 = some ⟨oc33, od33, .func (PySem.W.fnOf "_law_insure" "_law_insure" (defArgs (topS 36)) (defBody (topS 36)) (defScope (topS 36)) .none kV33 dc33 pm33 an33 cd33 ct33), sl33⟩) (c33 : PySem.W.codeIn K cd33 "_law_insure" = true) (k33 : PySem.W.keepIn K (.ref f33) = true)
  (a34 : PySem.W.nsIn K mainGlobals "law" = some (some (.ref f34))) (l34 : K.lookup f34 = some ⟨oc34, od34, .func (PySem.W.fnOf "law" "law" (defArgs (topS 37)) (defBody (topS 37)) (defScope (topS 37)) .none kV34 dc34 pm34 an34 cd34 ct34), sl34⟩) (c34 : PySem.W.codeIn K cd34 "law" = true) (k34 : PySem.W.keepIn K (.ref f34) = true)
  (z_abs : PySem.W.nsIn K mainGlobals "abs" = some none)
  (z_all : PySem.W.nsIn K mainGlobals "all" = some none)
  (z_any : PySem.W.nsIn K mainGlobals "any" = some none)
  (z_bool : PySem.W.nsIn K mainGlobals "bool" = some none)
  (z_enumerate : PySem.W.nsIn K mainGlobals "enumerate" = some none)
  (z_int : PySem.W.nsIn K mainGlobals "int" = some none)
  (z_isinstance : PySem.W.nsIn K mainGlobals "isinstance" = some none)
  (z_len : PySem.W.nsIn K mainGlobals "len" = some none)
  (z_max : PySem.W.nsIn K mainGlobals "max" = some none)
  (z_min : PySem.W.nsIn K mainGlobals "min" = some none)
  (z_range : PySem.W.nsIn K mainGlobals "range" = some none)
  (z_sorted : PySem.W.nsIn K mainGlobals "sorted" = some none)
  (z_str : PySem.W.nsIn K mainGlobals "str" = some none)
  (z_sum : PySem.W.nsIn K mainGlobals "sum" = some none)
  (z_tuple : PySem.W.nsIn K mainGlobals "tuple" = some none) :
  ∃ fd : FuncData, (∀ (s : Shared) (v : Value), BindsTo s fd ⟨[v], []⟩ [("script", v)]) ∧ ∀ base : Heap, K.In base → base.Ns mainGlobals mg → FnOk PySem.Challenge.rw_planskept_k12_whole_holding.prog w K mg base CX0 34 fa fd ["script"] (spD K 1 den_law) := by
  have e : f34 = fa := by
    have e := hfa.symm.trans (PySem.W.mg_of X G a34)
    cases e
    rfl
  subst e
  have T : Tp K mg (fun i => match i with | 0 => f0 | 1 => f1 | 2 => f2 | 3 => f3 | 4 => f4 | 5 => f5 | 6 => f6 | 7 => f7 | 8 => f8 | 9 => f9 | 10 => f10 | 11 => f11 | 12 => f12 | 13 => f13 | 14 => f14 | 15 => f15 | 16 => f16 | 17 => f17 | 18 => f18 | 19 => f19 | 20 => f20 | 21 => f21 | 22 => f22 | 23 => f23 | 24 => f24 | 25 => f25 | 26 => f26 | 27 => f27 | 28 => f28 | 29 => f29 | 30 => f30 | 31 => f31 | 32 => f32 | 33 => f33 | _ => f34) (fun i => match i with | 0 => PySem.W.fnOf "divisor" "divisor" (defArgs (topS 1)) (defBody (topS 1)) (defScope (topS 1)) .none kV0 dc0 pm0 an0 cd0 ct0 | 1 => PySem.W.fnOf "lowest" "lowest" (defArgs (topS 2)) (defBody (topS 2)) (defScope (topS 2)) .none kV1 dc1 pm1 an1 cd1 ct1 | 2 => PySem.W.fnOf "plus" "plus" (defArgs (topS 3)) (defBody (topS 3)) (defScope (topS 3)) .none kV2 dc2 pm2 an2 cd2 ct2 | 3 => PySem.W.fnOf "minus" "minus" (defArgs (topS 4)) (defBody (topS 4)) (defScope (topS 4)) .none kV3 dc3 pm3 an3 cd3 ct3 | 4 => PySem.W.fnOf "times" "times" (defArgs (topS 5)) (defBody (topS 5)) (defScope (topS 5)) .none kV4 dc4 pm4 an4 cd4 ct4 | 5 => PySem.W.fnOf "all_sets" "all_sets" (defArgs (topS 6)) (defBody (topS 6)) (defScope (topS 6)) .none kV5 dc5 pm5 an5 cd5 ct5 | 6 => PySem.W.fnOf "size_key" "size_key" (defArgs (topS 7)) (defBody (topS 7)) (defScope (topS 7)) .none kV6 dc6 pm6 an6 cd6 ct6 | 7 => PySem.W.fnOf "reached" "reached" (defArgs (topS 9)) (defBody (topS 9)) (defScope (topS 9)) .none kV7 dc7 pm7 an7 cd7 ct7 | 8 => PySem.W.fnOf "chosen" "chosen" (defArgs (topS 10)) (defBody (topS 10)) (defScope (topS 10)) .none kV8 dc8 pm8 an8 cd8 ct8 | 9 => PySem.W.fnOf "chance_of" "chance_of" (defArgs (topS 11)) (defBody (topS 11)) (defScope (topS 11)) .none kV9 dc9 pm9 an9 cd9 ct9 | 10 => PySem.W.fnOf "joining_sets" "joining_sets" (defArgs (topS 12)) (defBody (topS 12)) (defScope (topS 12)) .none kV10 dc10 pm10 an10 cd10 ct10 | 11 => PySem.W.fnOf "sum_of_chances" "sum_of_chances" (defArgs (topS 13)) (defBody (topS 13)) (defScope (topS 13)) .none kV11 dc11 pm11 an11 cd11 ct11 | 12 => PySem.W.fnOf "chance_joined" "chance_joined" (defArgs (topS 14)) (defBody (topS 14)) (defScope (topS 14)) .none kV12 dc12 pm12 an12 cd12 ct12 | 13 => PySem.W.fnOf "chance_whole" "chance_whole" (defArgs (topS 15)) (defBody (topS 15)) (defScope (topS 15)) .none kV13 dc13 pm13 an13 cd13 ct13 | 14 => PySem.W.fnOf "with_weight" "with_weight" (defArgs (topS 16)) (defBody (topS 16)) (defScope (topS 16)) .none kV14 dc14 pm14 an14 cd14 ct14 | 15 => PySem.W.fnOf "weight_of_link" "weight_of_link" (defArgs (topS 17)) (defBody (topS 17)) (defScope (topS 17)) .none kV15 dc15 pm15 an15 cd15 ct15 | 16 => PySem.W.fnOf "hold_poly" "hold_poly" (defArgs (topS 18)) (defBody (topS 18)) (defScope (topS 18)) .none kV16 dc16 pm16 an16 cd16 ct16 | 17 => PySem.W.fnOf "without_greater" "without_greater" (defArgs (topS 19)) (defBody (topS 19)) (defScope (topS 19)) .none kV17 dc17 pm17 an17 cd17 ct17 | 18 => PySem.W.fnOf "least_ways" "least_ways" (defArgs (topS 20)) (defBody (topS 20)) (defScope (topS 20)) .none kV18 dc18 pm18 an18 cd18 ct18 | 19 => PySem.W.fnOf "least_blocks" "least_blocks" (defArgs (topS 21)) (defBody (topS 21)) (defScope (topS 21)) .none kV19 dc19 pm19 an19 cd19 ct19 | 20 => PySem.W.fnOf "cover_product" "cover_product" (defArgs (topS 22)) (defBody (topS 22)) (defScope (topS 22)) .none kV20 dc20 pm20 an20 cd20 ct20 | 21 => PySem.W.fnOf "best_insure" "best_insure" (defArgs (topS 23)) (defBody (topS 23)) (defScope (topS 23)) .none kV21 dc21 pm21 an21 cd21 ct21 | 22 => PySem.W.fnOf "bold_share" "bold_share" (defArgs (topS 24)) (defBody (topS 24)) (defScope (topS 24)) .none kV22 dc22 pm22 an22 cd22 ct22 | 23 => PySem.W.fnOf "_law_mixed" "_law_mixed" (defArgs (topS 26)) (defBody (topS 26)) (defScope (topS 26)) .none kV23 dc23 pm23 an23 cd23 ct23 | 24 => PySem.W.fnOf "_law_row" "_law_row" (defArgs (topS 27)) (defBody (topS 27)) (defScope (topS 27)) .none kV24 dc24 pm24 an24 cd24 ct24 | 25 => PySem.W.fnOf "_law_is_int" "_law_is_int" (defArgs (topS 28)) (defBody (topS 28)) (defScope (topS 28)) .none kV25 dc25 pm25 an25 cd25 ct25 | 26 => PySem.W.fnOf "_law_like" "_law_like" (defArgs (topS 29)) (defBody (topS 29)) (defScope (topS 29)) .none kV26 dc26 pm26 an26 cd26 ct26 | 27 => PySem.W.fnOf "_law_sets" "_law_sets" (defArgs (topS 30)) (defBody (topS 30)) (defScope (topS 30)) .none kV27 dc27 pm27 an27 cd27 ct27 | 28 => PySem.W.fnOf "_law_common" "_law_common" (defArgs (topS 31)) (defBody (topS 31)) (defScope (topS 31)) .none kV28 dc28 pm28 an28 cd28 ct28 | 29 => PySem.W.fnOf "_law_ratio" "_law_ratio" (defArgs (topS 32)) (defBody (topS 32)) (defScope (topS 32)) .none kV29 dc29 pm29 an29 cd29 ct29 | 30 => PySem.W.fnOf "_law_joined" "_law_joined" (defArgs (topS 33)) (defBody (topS 33)) (defScope (topS 33)) .none kV30 dc30 pm30 an30 cd30 ct30 | 31 => PySem.W.fnOf "_law_times" "_law_times" (defArgs (topS 34)) (defBody (topS 34)) (defScope (topS 34)) .none kV31 dc31 pm31 an31 cd31 ct31 | 32 => PySem.W.fnOf "_law_add" "_law_add" (defArgs (topS 35)) (defBody (topS 35)) (defScope (topS 35)) .none kV32 dc32 pm32 an32 cd32 ct32 | 33 => PySem.W.fnOf "_law_insure" "_law_insure" (defArgs (topS 36)) (defBody (topS 36)) (defScope (topS 36)) .none kV33 dc33 pm33 an33 cd33 ct33 | _ => PySem.W.fnOf "law" "law" (defArgs (topS 37)) (defBody (topS 37)) (defScope (topS 37)) .none kV34 dc34 pm34 an34 cd34 ct34) := {
    F_divisor := fun_mk (st := (topS 1)) l0 c0 k0,
    b_divisor := (fun_mk (st := (topS 1)) l0 c0 k0).binds (ps := ["first", "second"]) fun _ _ _ _ _ _ us hl => match us, hl with | [_, _], _ => rfl,
    g_divisor := PySem.W.mg_of X G a0,
    F_lowest := fun_mk (st := (topS 2)) l1 c1 k1,
    b_lowest := (fun_mk (st := (topS 2)) l1 c1 k1).binds (ps := ["a", "b"]) fun _ _ _ _ _ _ us hl => match us, hl with | [_, _], _ => rfl,
    g_lowest := PySem.W.mg_of X G a1,
    F_plus := fun_mk (st := (topS 3)) l2 c2 k2,
    b_plus := (fun_mk (st := (topS 3)) l2 c2 k2).binds (ps := ["first", "second"]) fun _ _ _ _ _ _ us hl => match us, hl with | [_, _], _ => rfl,
    g_plus := PySem.W.mg_of X G a2,
    F_minus := fun_mk (st := (topS 4)) l3 c3 k3,
    b_minus := (fun_mk (st := (topS 4)) l3 c3 k3).binds (ps := ["first", "second"]) fun _ _ _ _ _ _ us hl => match us, hl with | [_, _], _ => rfl,
    g_minus := PySem.W.mg_of X G a3,
    F_times := fun_mk (st := (topS 5)) l4 c4 k4,
    b_times := (fun_mk (st := (topS 5)) l4 c4 k4).binds (ps := ["first", "second"]) fun _ _ _ _ _ _ us hl => match us, hl with | [_, _], _ => rfl,
    g_times := PySem.W.mg_of X G a4,
    F_all_sets := fun_mk (st := (topS 6)) l5 c5 k5,
    b_all_sets := (fun_mk (st := (topS 6)) l5 c5 k5).binds (ps := ["n"]) fun _ _ _ _ _ _ us hl => match us, hl with | [_], _ => rfl,
    g_all_sets := PySem.W.mg_of X G a5,
    F_size_key := fun_mk (st := (topS 7)) l6 c6 k6,
    b_size_key := (fun_mk (st := (topS 7)) l6 c6 k6).binds (ps := ["row"]) fun _ _ _ _ _ _ us hl => match us, hl with | [_], _ => rfl,
    g_size_key := PySem.W.mg_of X G a6,
    F_reached := fun_mk (st := (topS 9)) l7 c7 k7,
    b_reached := (fun_mk (st := (topS 9)) l7 c7 k7).binds (ps := ["n", "links", "start"]) fun _ _ _ _ _ _ us hl => match us, hl with | [_, _, _], _ => rfl,
    g_reached := PySem.W.mg_of X G a7,
    F_chosen := fun_mk (st := (topS 10)) l8 c8 k8,
    b_chosen := (fun_mk (st := (topS 10)) l8 c8 k8).binds (ps := ["net", "places"]) fun _ _ _ _ _ _ us hl => match us, hl with | [_, _], _ => rfl,
    g_chosen := PySem.W.mg_of X G a8,
    F_chance_of := fun_mk (st := (topS 11)) l9 c9 k9,
    b_chance_of := (fun_mk (st := (topS 11)) l9 c9 k9).binds (ps := ["net", "places"]) fun _ _ _ _ _ _ us hl => match us, hl with | [_, _], _ => rfl,
    g_chance_of := PySem.W.mg_of X G a9,
    F_joining_sets := fun_mk (st := (topS 12)) l10 c10 k10,
    b_joining_sets := (fun_mk (st := (topS 12)) l10 c10 k10).binds (ps := ["net", "u", "v"]) fun _ _ _ _ _ _ us hl => match us, hl with | [_, _, _], _ => rfl,
    g_joining_sets := PySem.W.mg_of X G a10,
    F_sum_of_chances := fun_mk (st := (topS 13)) l11 c11 k11,
    b_sum_of_chances := (fun_mk (st := (topS 13)) l11 c11 k11).binds (ps := ["net", "sets"]) fun _ _ _ _ _ _ us hl => match us, hl with | [_, _], _ => rfl,
    g_sum_of_chances := PySem.W.mg_of X G a11,
    F_chance_joined := fun_mk (st := (topS 14)) l12 c12 k12,
    b_chance_joined := (fun_mk (st := (topS 14)) l12 c12 k12).binds (ps := ["net", "u", "v"]) fun _ _ _ _ _ _ us hl => match us, hl with | [_, _, _], _ => rfl,
    g_chance_joined := PySem.W.mg_of X G a12,
    F_chance_whole := fun_mk (st := (topS 15)) l13 c13 k13,
    b_chance_whole := (fun_mk (st := (topS 15)) l13 c13 k13).binds (ps := ["net"]) fun _ _ _ _ _ _ us hl => match us, hl with | [_], _ => rfl,
    g_chance_whole := PySem.W.mg_of X G a13,
    F_with_weight := fun_mk (st := (topS 16)) l14 c14 k14,
    b_with_weight := (fun_mk (st := (topS 16)) l14 c14 k14).binds (ps := ["net", "place", "weight"]) fun _ _ _ _ _ _ us hl => match us, hl with | [_, _, _], _ => rfl,
    g_with_weight := PySem.W.mg_of X G a14,
    F_weight_of_link := fun_mk (st := (topS 17)) l15 c15 k15,
    b_weight_of_link := (fun_mk (st := (topS 17)) l15 c15 k15).binds (ps := ["net", "u", "v", "place"]) fun _ _ _ _ _ _ us hl => match us, hl with | [_, _, _, _], _ => rfl,
    g_weight_of_link := PySem.W.mg_of X G a15,
    F_hold_poly := fun_mk (st := (topS 18)) l16 c16 k16,
    b_hold_poly := (fun_mk (st := (topS 18)) l16 c16 k16).binds (ps := ["net", "u", "v"]) fun _ _ _ _ _ _ us hl => match us, hl with | [_, _, _], _ => rfl,
    g_hold_poly := PySem.W.mg_of X G a16,
    F_without_greater := fun_mk (st := (topS 19)) l17 c17 k17,
    b_without_greater := (fun_mk (st := (topS 19)) l17 c17 k17).binds (ps := ["sets"]) fun _ _ _ _ _ _ us hl => match us, hl with | [_], _ => rfl,
    g_without_greater := PySem.W.mg_of X G a17,
    F_least_ways := fun_mk (st := (topS 20)) l18 c18 k18,
    b_least_ways := (fun_mk (st := (topS 20)) l18 c18 k18).binds (ps := ["net", "u", "v"]) fun _ _ _ _ _ _ us hl => match us, hl with | [_, _, _], _ => rfl,
    g_least_ways := PySem.W.mg_of X G a18,
    F_least_blocks := fun_mk (st := (topS 21)) l19 c19 k19,
    b_least_blocks := (fun_mk (st := (topS 21)) l19 c19 k19).binds (ps := ["net", "u", "v"]) fun _ _ _ _ _ _ us hl => match us, hl with | [_, _, _], _ => rfl,
    g_least_blocks := PySem.W.mg_of X G a19,
    F_cover_product := fun_mk (st := (topS 22)) l20 c20 k20,
    b_cover_product := (fun_mk (st := (topS 22)) l20 c20 k20).binds (ps := ["losses", "wealth", "cover"]) fun _ _ _ _ _ _ us hl => match us, hl with | [_, _, _], _ => rfl,
    g_cover_product := PySem.W.mg_of X G a20,
    F_best_insure := fun_mk (st := (topS 23)) l21 c21 k21,
    b_best_insure := (fun_mk (st := (topS 23)) l21 c21 k21).binds (ps := ["losses", "wealth", "covers"]) fun _ _ _ _ _ _ us hl => match us, hl with | [_, _, _], _ => rfl,
    g_best_insure := PySem.W.mg_of X G a21,
    F_bold_share := fun_mk (st := (topS 24)) l22 c22 k22,
    b_bold_share := (fun_mk (st := (topS 24)) l22 c22 k22).binds (ps := ["chance"]) fun _ _ _ _ _ _ us hl => match us, hl with | [_], _ => rfl,
    g_bold_share := PySem.W.mg_of X G a22,
    F__law_mixed := fun_mk (st := (topS 26)) l23 c23 k23,
    b__law_mixed := (fun_mk (st := (topS 26)) l23 c23 k23).binds (ps := ["script", "k"]) fun _ _ _ _ _ _ us hl => match us, hl with | [_, _], _ => rfl,
    g__law_mixed := PySem.W.mg_of X G a23,
    F__law_row := fun_mk (st := (topS 27)) l24 c24 k24,
    b__law_row := (fun_mk (st := (topS 27)) l24 c24 k24).binds (ps := ["script", "many"]) fun _ _ _ _ _ _ us hl => match us, hl with | [_, _], _ => rfl,
    g__law_row := PySem.W.mg_of X G a24,
    F__law_is_int := fun_mk (st := (topS 28)) l25 c25 k25,
    b__law_is_int := (fun_mk (st := (topS 28)) l25 c25 k25).binds (ps := ["value"]) fun _ _ _ _ _ _ us hl => match us, hl with | [_], _ => rfl,
    g__law_is_int := PySem.W.mg_of X G a25,
    F__law_like := fun_mk (st := (topS 29)) l26 c26 k26,
    b__law_like := (fun_mk (st := (topS 29)) l26 c26 k26).binds (ps := ["value", "due"]) fun _ _ _ _ _ _ us hl => match us, hl with | [_, _], _ => rfl,
    g__law_like := PySem.W.mg_of X G a26,
    F__law_sets := fun_mk (st := (topS 30)) l27 c27 k27,
    b__law_sets := (fun_mk (st := (topS 30)) l27 c27 k27).binds (ps := ["n"]) fun _ _ _ _ _ _ us hl => match us, hl with | [_], _ => rfl,
    g__law_sets := PySem.W.mg_of X G a27,
    F__law_common := fun_mk (st := (topS 31)) l28 c28 k28,
    b__law_common := (fun_mk (st := (topS 31)) l28 c28 k28).binds (ps := ["first", "second"]) fun _ _ _ _ _ _ us hl => match us, hl with | [_, _], _ => rfl,
    g__law_common := PySem.W.mg_of X G a28,
    F__law_ratio := fun_mk (st := (topS 32)) l29 c29 k29,
    b__law_ratio := (fun_mk (st := (topS 32)) l29 c29 k29).binds (ps := ["a", "b"]) fun _ _ _ _ _ _ us hl => match us, hl with | [_, _], _ => rfl,
    g__law_ratio := PySem.W.mg_of X G a29,
    F__law_joined := fun_mk (st := (topS 33)) l30 c30 k30,
    b__law_joined := (fun_mk (st := (topS 33)) l30 c30 k30).binds (ps := ["n", "links", "u"]) fun _ _ _ _ _ _ us hl => match us, hl with | [_, _, _], _ => rfl,
    g__law_joined := PySem.W.mg_of X G a30,
    F__law_times := fun_mk (st := (topS 34)) l31 c31 k31,
    b__law_times := (fun_mk (st := (topS 34)) l31 c31 k31).binds (ps := ["first", "second"]) fun _ _ _ _ _ _ us hl => match us, hl with | [_, _], _ => rfl,
    g__law_times := PySem.W.mg_of X G a31,
    F__law_add := fun_mk (st := (topS 35)) l32 c32 k32,
    b__law_add := (fun_mk (st := (topS 35)) l32 c32 k32).binds (ps := ["first", "second"]) fun _ _ _ _ _ _ us hl => match us, hl with | [_, _], _ => rfl,
    g__law_add := PySem.W.mg_of X G a32,
    F__law_insure := fun_mk (st := (topS 36)) l33 c33 k33,
    b__law_insure := (fun_mk (st := (topS 36)) l33 c33 k33).binds (ps := ["row"]) fun _ _ _ _ _ _ us hl => match us, hl with | [_], _ => rfl,
    g__law_insure := PySem.W.mg_of X G a33,
    F_law := fun_mk (st := (topS 37)) l34 c34 k34,
    b_law := (fun_mk (st := (topS 37)) l34 c34 k34).binds (ps := ["script"]) fun _ _ _ _ _ _ us hl => match us, hl with | [_], _ => rfl,
    g_law := PySem.W.mg_of X G a34,
    z_abs := PySem.W.mg_none_of X G z_abs,
    z_all := PySem.W.mg_none_of X G z_all,
    z_any := PySem.W.mg_none_of X G z_any,
    z_bool := PySem.W.mg_none_of X G z_bool,
    z_enumerate := PySem.W.mg_none_of X G z_enumerate,
    z_int := PySem.W.mg_none_of X G z_int,
    z_isinstance := PySem.W.mg_none_of X G z_isinstance,
    z_len := PySem.W.mg_none_of X G z_len,
    z_max := PySem.W.mg_none_of X G z_max,
    z_min := PySem.W.mg_none_of X G z_min,
    z_range := PySem.W.mg_none_of X G z_range,
    z_sorted := PySem.W.mg_none_of X G z_sorted,
    z_str := PySem.W.mg_none_of X G z_str,
    z_sum := PySem.W.mg_none_of X G z_sum,
    z_tuple := PySem.W.mg_none_of X G z_tuple }
  exact ⟨_, fun s v => .of_eq rfl, fun base _ _ => ok_law T⟩
end Law
open PySem PySem.W PyProof.Rows
set_option maxHeartbeats 0 in
theorem PySem.Challenge.cw_planskept_k12_whole_holding_holds : PySem.Challenge.rw_planskept_k12_whole_holding.Holds := by
  w_on; o_law; k_head; (case hw => w_witness2)
  k_fill
  refine L2.walk_of (l := PySem.Challenge.rw_planskept_k12_whole_holding) (n := 63) (k := 34) (x := "script") (CX := fun _ => L2.CX0) (sp := fun w => DS.spD _ 1 Law.den_law) rfl (by decide) rfl ⟨rfl, by decide, by decide⟩ (fun w h Y => PySem.W.kIn_of Y) ?F (fun w H a ns hl _ hS => DS.law_sp (Law.main ns hl) hS) (fun _ _ _ _ _ h => h)
  case F =>
    intro w mg fa h KX G hmg
    refine' Law.all_mk KX G hmg ?a0 ?l0 ?c0 ?k0 ?a1 ?l1 ?c1 ?k1 ?a2 ?l2 ?c2 ?k2 ?a3 ?l3 ?c3 ?k3 ?a4 ?l4 ?c4 ?k4 ?a5 ?l5 ?c5 ?k5 ?a6 ?l6 ?c6 ?k6 ?a7 ?l7 ?c7 ?k7 ?a8 ?l8 ?c8 ?k8 ?a9 ?l9 ?c9 ?k9 ?a10 ?l10 ?c10 ?k10 ?a11 ?l11 ?c11 ?k11 ?a12 ?l12 ?c12 ?k12 ?a13 ?l13 ?c13 ?k13 ?a14 ?l14 ?c14 ?k14 ?a15 ?l15 ?c15 ?k15 ?a16 ?l16 ?c16 ?k16 ?a17 ?l17 ?c17 ?k17 ?a18 ?l18 ?c18 ?k18 ?a19 ?l19 ?c19 ?k19 ?a20 ?l20 ?c20 ?k20 ?a21 ?l21 ?c21 ?k21 ?a22 ?l22 ?c22 ?k22 ?a23 ?l23 ?c23 ?k23 ?a24 ?l24 ?c24 ?k24 ?a25 ?l25 ?c25 ?k25 ?a26 ?l26 ?c26 ?k26 ?a27 ?l27 ?c27 ?k27 ?a28 ?l28 ?c28 ?k28 ?a29 ?l29 ?c29 ?k29 ?a30 ?l30 ?c30 ?k30 ?a31 ?l31 ?c31 ?k31 ?a32 ?l32 ?c32 ?k32 ?a33 ?l33 ?c33 ?k33 ?a34 ?l34 ?c34 ?k34 ?z_abs ?z_all ?z_any ?z_bool ?z_enumerate ?z_int ?z_isinstance ?z_len ?z_max ?z_min ?z_range ?z_sorted ?z_str ?z_sum ?z_tuple
    (case a0 => k_is); (case l0 => k_is); (case c0 => k_is); (case k0 => k_is); (case a1 => k_is); (case l1 => k_is); (case c1 => k_is); (case k1 => k_is); (case a2 => k_is); (case l2 => k_is); (case c2 => k_is); (case k2 => k_is); (case a3 => k_is); (case l3 => k_is); (case c3 => k_is); (case k3 => k_is); (case a4 => k_is); (case l4 => k_is); (case c4 => k_is); (case k4 => k_is); (case a5 => k_is); (case l5 => k_is); (case c5 => k_is); (case k5 => k_is); (case a6 => k_is); (case l6 => k_is); (case c6 => k_is); (case k6 => k_is); (case a7 => k_is); (case l7 => k_is); (case c7 => k_is); (case k7 => k_is); (case a8 => k_is); (case l8 => k_is); (case c8 => k_is); (case k8 => k_is); (case a9 => k_is); (case l9 => k_is); (case c9 => k_is); (case k9 => k_is); (case a10 => k_is); (case l10 => k_is); (case c10 => k_is); (case k10 => k_is); (case a11 => k_is); (case l11 => k_is); (case c11 => k_is); (case k11 => k_is); (case a12 => k_is); (case l12 => k_is); (case c12 => k_is); (case k12 => k_is); (case a13 => k_is); (case l13 => k_is); (case c13 => k_is); (case k13 => k_is); (case a14 => k_is); (case l14 => k_is); (case c14 => k_is); (case k14 => k_is); (case a15 => k_is); (case l15 => k_is); (case c15 => k_is); (case k15 => k_is); (case a16 => k_is); (case l16 => k_is); (case c16 => k_is); (case k16 => k_is); (case a17 => k_is); (case l17 => k_is); (case c17 => k_is); (case k17 => k_is); (case a18 => k_is); (case l18 => k_is); (case c18 => k_is); (case k18 => k_is); (case a19 => k_is); (case l19 => k_is); (case c19 => k_is); (case k19 => k_is); (case a20 => k_is); (case l20 => k_is); (case c20 => k_is); (case k20 => k_is); (case a21 => k_is); (case l21 => k_is); (case c21 => k_is); (case k21 => k_is); (case a22 => k_is); (case l22 => k_is); (case c22 => k_is); (case k22 => k_is); (case a23 => k_is); (case l23 => k_is); (case c23 => k_is); (case k23 => k_is); (case a24 => k_is); (case l24 => k_is); (case c24 => k_is); (case k24 => k_is); (case a25 => k_is); (case l25 => k_is); (case c25 => k_is); (case k25 => k_is); (case a26 => k_is); (case l26 => k_is); (case c26 => k_is); (case k26 => k_is); (case a27 => k_is); (case l27 => k_is); (case c27 => k_is); (case k27 => k_is); (case a28 => k_is); (case l28 => k_is); (case c28 => k_is); (case k28 => k_is); (case a29 => k_is); (case l29 => k_is); (case c29 => k_is); (case k29 => k_is); (case a30 => k_is); (case l30 => k_is); (case c30 => k_is); (case k30 => k_is); (case a31 => k_is); (case l31 => k_is); (case c31 => k_is); (case k31 => k_is); (case a32 => k_is); (case l32 => k_is); (case c32 => k_is); (case k32 => k_is); (case a33 => k_is); (case l33 => k_is); (case c33 => k_is); (case k33 => k_is); (case a34 => k_is); (case l34 => k_is); (case c34 => k_is); (case k34 => k_is); (case z_abs => k_is); (case z_all => k_is); (case z_any => k_is); (case z_bool => k_is); (case z_enumerate => k_is); (case z_int => k_is); (case z_isinstance => k_is); (case z_len => k_is); (case z_max => k_is); (case z_min => k_is); (case z_range => k_is); (case z_sorted => k_is); (case z_str => k_is); (case z_sum => k_is); (case z_tuple => k_is)
end
