import PyProof.Rows.All
import HandS.ForMost
import HandS.TupAny
import HandS.Walk
import HandS.Flow
import HandS.Deep
import HandS.IsInst
import HandS.Wide
import HandS.WideMore
import PyProof.FitsBits
import KE.DataCmp
import KE.KTupSum
import KE.GoesNew
import HandS.Rev
import HandS.Style
import HandS.Conv
import KE.DataMinMax
import KE.SortData
import HandS.Iter
import KE.KSortTup
import HandS.SortKw
import HandS.TupMul
import HandS.Sort
import HandS.Dict
import KE.KDictDisplayH
import PySem.Challenge.RW_planskept_k35_whole_round_layouts
section
set_option Elab.async false
set_option linter.all false
set_option maxRecDepth 100000
/-! A layer of my own over HandS: values as data trees, a def as a function on data. Part a: what stands for a tree. -/
namespace DS
open PySem PySem.Spec PyProof.Rows L2

abbrev D := PyData
def keyD : Key → D
  | .inl i => .int i
  | .inr x => .str x
mutual
/-- the value v stands for the tree d -/
inductive R (K : PySem.W.Frag) (H : Hp) : V → D → Prop
  | non : R K H .non .none
  | bl (b : Bool) : R K H (.bl b) (.bool b)
  | int (i : Int) : R K H (.int i) (.int i)
  | str (x : Str) : R K H (.str x) (.str x)
  | lst {a : Addr} {xs : List V} {ds : List D} : H a = some (.lst xs) → RA K H xs ds → R K H (.ref a) (.list ds)
  | frz {a : Addr} {xs : List V} {ds : List D} : SqL K H a xs → RA K H xs ds → R K H (.ref a) (.dict [(.none, .list ds)])
  | tup {a : Addr} {xs : List V} {ds : List D} : H a = some (.tup xs) → RA K H xs ds → R K H (.ref a) (.tuple ds)
  | rng {a : Addr} {lo hi : Int} : H a = some (.rng lo hi) → R K H (.ref a) (.dict [(.none, .tuple [.int lo, .int hi])])
  | dk {a : Addr} {kvs : List (Key × V)} {es : List (D × D)} : Rd H a (.dK kvs) → RK K H kvs es → R K H (.ref a) (.dict es)
  | dt {a : Addr} {kvs : List (List Key × V)} {es : List (D × D)} : Rd H a (.dT kvs) → RT K H kvs es → R K H (.ref a) (.dict es)
inductive RA (K : PySem.W.Frag) (H : Hp) : List V → List D → Prop
  | nil : RA K H [] []
  | cons {v : V} {d : D} {vs : List V} {ds : List D} : R K H v d → RA K H vs ds → RA K H (v :: vs) (d :: ds)
inductive RK (K : PySem.W.Frag) (H : Hp) : List (Key × V) → List (D × D) → Prop
  | nil : RK K H [] []
  | cons {k : Key} {v : V} {d : D} {vs : List (Key × V)} {ds : List (D × D)} : R K H v d → RK K H vs ds → RK K H ((k, v) :: vs) ((keyD k, d) :: ds)
inductive RT (K : PySem.W.Frag) (H : Hp) : List (List Key × V) → List (D × D) → Prop
  | nil : RT K H [] []
  | cons {k : List Key} {v : V} {d : D} {vs : List (List Key × V)} {ds : List (D × D)} : R K H v d → RT K H vs ds → RT K H ((k, v) :: vs) ((.tuple (k.map keyD), d) :: ds)
end

section
variable {K : PySem.W.Frag} {H H' : Hp}
theorem seqL_mono {a : Addr} {xs : List V} (e : Same H H') (h : SqL K H a xs) : SqL K H' a xs := e.seq h
theorem seqT_mono {a : Addr} {xs : List V} (e : Same H H') (h : SqT K H a xs) : SqT K H' a xs := by
  rcases h with (h | ⟨o, h⟩) | h
  · exact .inl (.inl (e _ _ h))
  · exact .inl (.inr ⟨o, e _ _ h⟩)
  · exact .inr h
theorem rd_mono {a : Addr} {u : HO} (e : Same H H') (h : Rd H a u) : Rd H' a u := by
  rcases h with h | ⟨o, h⟩
  · exact .inl (e _ _ h)
  · exact .inr ⟨o, e _ _ h⟩
mutual
theorem R.mono (e : Same H H') : ∀ {v : V} {d : D}, R K H v d → R K H' v d
  | _, _, .non => .non
  | _, _, .bl b => .bl b
  | _, _, .int i => .int i
  | _, _, .str x => .str x
  | _, _, .lst h a => .lst (e _ _ h) (RA.mono e a)
  | _, _, .frz h a => .frz (e.seq h) (RA.mono e a)
  | _, _, .tup h a => .tup (e _ _ h) (RA.mono e a)
  | _, _, .rng h => .rng (e _ _ h)
  | _, _, .dk h a => .dk (rd_mono e h) (RK.mono e a)
  | _, _, .dt h a => .dt (rd_mono e h) (RT.mono e a)
theorem RA.mono (e : Same H H') : ∀ {v : List V} {d : List D}, RA K H v d → RA K H' v d
  | _, _, .nil => .nil
  | _, _, .cons h t => .cons (R.mono e h) (RA.mono e t)
theorem RK.mono (e : Same H H') : ∀ {v : List (Key × V)} {d : List (D × D)}, RK K H v d → RK K H' v d
  | _, _, .nil => .nil
  | _, _, .cons h t => .cons (R.mono e h) (RK.mono e t)
theorem RT.mono (e : Same H H') : ∀ {v : List (List Key × V)} {d : List (D × D)}, RT K H v d → RT K H' v d
  | _, _, .nil => .nil
  | _, _, .cons h t => .cons (R.mono e h) (RT.mono e t)
end
theorem RA.length : ∀ {v : List V} {d : List D}, RA K H v d → v.length = d.length
  | _, _, .nil => rfl
  | _, _, .cons _ t => congrArg (· + 1) (RA.length t)
theorem RA.get : ∀ {v : List V} {d : List D} {i : Nat} {x : D}, RA K H v d → d[i]? = some x → ∃ y, v[i]? = some y ∧ R K H y x
  | _, _, _, _, .nil, h => by simp at h
  | _, _, 0, x, .cons h t, e => by simp at e; subst e; exact ⟨_, rfl, h⟩
  | _, _, i + 1, x, .cons h t, e => by
    obtain ⟨y, a, b⟩ := RA.get (i := i) (x := x) t (by simpa using e)
    exact ⟨y, by simpa using a, b⟩
theorem RA.getV : ∀ {v : List V} {d : List D} {i : Nat} {y : V}, RA K H v d → v[i]? = some y → ∃ x, d[i]? = some x ∧ R K H y x
  | _, _, _, _, .nil, h => by simp at h
  | _, _, 0, x, .cons h t, e => by simp at e; subst e; exact ⟨_, rfl, h⟩
  | _, _, i + 1, x, .cons h t, e => by
    obtain ⟨y, a, b⟩ := RA.getV (i := i) (y := x) t (by simpa using e)
    exact ⟨y, by simpa using a, b⟩
theorem RA.append : ∀ {v w : List V} {d e : List D}, RA K H v d → RA K H w e → RA K H (v ++ w) (d ++ e)
  | _, _, _, _, .nil, q => q
  | _, _, _, _, .cons h t, q => .cons h (RA.append t q)
theorem RA.set {y : V} {x : D} (r : R K H y x) : ∀ {v : List V} {d : List D} (i : Nat), RA K H v d → RA K H (v.set i y) (d.set i x)
  | _, _, _, .nil => .nil
  | _, _, 0, .cons h t => .cons r t
  | _, _, i + 1, .cons h t => .cons h (RA.set r i t)
theorem RA.drop : ∀ {v : List V} {d : List D} (n : Nat), RA K H v d → RA K H (v.drop n) (d.drop n)
  | _, _, 0, h => h
  | _, _, n + 1, .nil => .nil
  | _, _, n + 1, .cons _ t => RA.drop n t
theorem RA.take : ∀ {v : List V} {d : List D} (n : Nat), RA K H v d → RA K H (v.take n) (d.take n)
  | _, _, 0, h => .nil
  | _, _, n + 1, .nil => .nil
  | _, _, n + 1, .cons h t => .cons h (RA.take n t)
theorem RA.reverse : ∀ {v : List V} {d : List D}, RA K H v d → RA K H v.reverse d.reverse
  | _, _, .nil => .nil
  | _, _, .cons h t => by
    rw [List.reverse_cons, List.reverse_cons]
    exact (RA.reverse t).append (.cons h .nil)
theorem RA.rep {v : List V} {d : List D} (h : RA K H v d) : ∀ n : Nat, RA K H (List.replicate n v).flatten (List.replicate n d).flatten
  | 0 => .nil
  | n + 1 => by
    rw [List.replicate_succ, List.replicate_succ, List.flatten_cons, List.flatten_cons]
    exact h.append (h.rep n)
/-- the tree of an int, of a bool .. -/
theorem R.int' {v : V} {i : Int} (h : R K H v (.int i)) : v = .int i := by cases h; rfl
theorem R.bl' {v : V} {i : Bool} (h : R K H v (.bool i)) : v = .bl i := by cases h; rfl
theorem R.non' {v : V} (h : R K H v .none) : v = .non := by cases h; rfl
theorem R.str' {v : V} {i : Str} (h : R K H v (.str i)) : v = .str i := by cases h; rfl
theorem RA.ints : ∀ {ns : List Int} {v : List V}, RA K H v (ns.map PyData.int) → v = ns.map V.int
  | [], _, .nil => rfl
  | n :: r, _, .cons h t => by
    rw [h.int', RA.ints t]; rfl
theorem RA.bools : ∀ {ns : List Bool} {v : List V}, RA K H v (ns.map PyData.bool) → v = ns.map V.bl
  | [], _, .nil => rfl
  | n :: r, _, .cons h t => by
    rw [h.bl', RA.bools t]; rfl
theorem RA.ofInts : ∀ (ns : List Int), RA K H (ns.map V.int) (ns.map PyData.int)
  | [] => .nil
  | n :: r => .cons (.int n) (RA.ofInts r)
end

/-! ### no list, no dict within: nothing of it can change -/
mutual
def flat : D → Bool
  | .none => true
  | .bool _ => true
  | .int _ => true
  | .str _ => true
  | .tuple xs => flats xs
  | .list _ => false
  | .dict _ => false
def flats : List D → Bool
  | [] => true
  | x :: xs => flat x && flats xs
end

/-! ### the heap without some addresses -/
def hid (B : List Addr) (H : Hp) : Hp := fun a => if a ∈ B then none else H a
section
variable {B B' : List Addr} {H H' : Hp} {a : Addr} {o : HO}
theorem hid_in (h : a ∈ B) : hid B H a = none := by unfold hid; rw [if_pos h]
theorem hid_out (h : a ∉ B) : hid B H a = H a := by unfold hid; rw [if_neg h]
theorem hid_some (h : hid B H a = some o) : a ∉ B ∧ H a = some o := by
  unfold hid at h
  split at h
  · cases h
  · exact ⟨by assumption, h⟩
theorem hid_nil : hid [] H = H := by funext a; unfold hid; simp
theorem hid_congr (h : ∀ a, a ∈ B ↔ a ∈ B') : hid B H = hid B' H := by
  funext a; unfold hid
  by_cases h1 : a ∈ B
  · rw [if_pos h1, if_pos ((h a).mp h1)]
  · rw [if_neg h1, if_neg fun z => h1 ((h a).mpr z)]
theorem hid_hid : hid B (hid B' H) = hid (B ++ B') H := by
  funext a; unfold hid
  by_cases h1 : a ∈ B <;> by_cases h2 : a ∈ B' <;> simp [h1, h2]
/-- all that is not hidden behind B is not hidden behind B' -/
theorem same_hidW (e : Same H H') (h : ∀ a ∈ B', a ∈ B ∨ H a = none) : Same (hid B H) (hid B' H') := fun b o q => by
  obtain ⟨q1, q2⟩ := hid_some q
  rw [hid_out (fun z => (h b z).elim q1 fun n => by rw [n] at q2; cases q2)]
  exact e _ _ q2
theorem same_hid (e : Same H H') : Same (hid B H) (hid B H') := same_hidW e fun _ h => .inl h
theorem same_unhid : Same (hid B H) H := fun b o q => (hid_some q).2
theorem same_upd (h : H a = none) : Same H (upd H a o) := fun b x e => by
  rw [upd_ne (ne_of_none e h)]; exact e
def Trk (B : List Addr) (H : Hp) : Prop := ∀ a ∈ B, H a ≠ none
theorem Trk.mono (t : Trk B H) (e : Same H H') : Trk B H' := fun a h => by
  have := t a h
  cases q : H a with
  | none => exact absurd q this
  | some o => rw [e _ _ q]; simp
theorem Trk.new (t : Trk B H) (n : H a = none) : a ∉ B := fun h => t a h n
theorem Trk.nil : Trk [] H := fun _ h => by simp at h
end
theorem flat_all : ∀ {xs : List D}, flats xs = true → ∀ x ∈ xs, flat x = true
  | [], _, _, h => by simp at h
  | y :: ys, h, x, hx => by
    unfold flats at h
    rw [Bool.and_eq_true] at h
    rcases List.mem_cons.mp hx with e | hx
    · rw [e]; exact h.1
    · exact flat_all h.2 x hx
def mutO : HO → Bool
  | .lst _ => true
  | .dK _ => true
  | .dT _ => true
  | _ => false
/-- hidden addresses hold lists and dicts -/
def Ok (B : List Addr) (H : Hp) : Prop := ∀ a ∈ B, ∃ o, H a = some o ∧ mutO o = true
theorem Ok.nil {H : Hp} : Ok [] H := fun _ h => by simp at h
theorem Ok.mono {B : List Addr} {H H' : Hp} (k : Ok B H) (e : Same H H') : Ok B H' := fun a h => by
  obtain ⟨o, h1, h2⟩ := k a h
  exact ⟨o, e _ _ h1, h2⟩
theorem Ok.sub {B B' : List Addr} {H : Hp} (k : Ok B H) (h : ∀ a ∈ B', a ∈ B) : Ok B' H := fun a q => k a (h a q)
theorem Ok.cons {B : List Addr} {H : Hp} {a : Addr} {o : HO} (k : Ok B H) (h : H a = some o) (m : mutO o = true) : Ok (a :: B) H := fun b q => by
  rcases List.mem_cons.mp q with e | q
  · rw [e]; exact ⟨o, h, m⟩
  · exact k b q
theorem Ok.append {B B' : List Addr} {H : Hp} (k : Ok B H) (k' : Ok B' H) : Ok (B ++ B') H := fun b q => (List.mem_append.mp q).elim (k b) (k' b)
theorem Ok.trk {B : List Addr} {H : Hp} (k : Ok B H) : Trk B H := fun a h z => by
  obtain ⟨o, h1, _⟩ := k a h
  rw [z] at h1; cases h1
def NoTup (B : List Addr) (H : Hp) : Prop := ∀ a ∈ B, ∀ xs, ¬ Rd H a (.tup xs)
theorem Ok.noTup {B : List Addr} {H : Hp} (k : Ok B H) : NoTup B H := fun a h xs r => by
  obtain ⟨o, h1, h2⟩ := k a h
  rcases r with r | ⟨u, r⟩
  · rw [r] at h1; cases h1; cases h2
  · rw [r] at h1; cases h1; cases h2
theorem seqT_hid {K : PySem.W.Frag} {B : List Addr} {H : Hp} {a : Addr} {xs : List V} (n : NoTup B H) (h : SqT K H a xs) : SqT K (hid B H) a xs := by
  rcases h with h | h
  · have hn : a ∉ B := fun z => n a z xs h
    rcases h with h | ⟨o, h⟩
    · exact .inl (.inl (by rw [hid_out hn]; exact h))
    · exact .inl (.inr ⟨o, by rw [hid_out hn]; exact h⟩)
  · exact .inr h
mutual
theorem R.hidF {K : PySem.W.Frag} {B : List Addr} {H : Hp} (n : NoTup B H) : ∀ {v : V} {d : D}, R K H v d → flat d = true → R K (hid B H) v d
  | _, _, .non, _ => .non
  | _, _, .bl b, _ => .bl b
  | _, _, .int i, _ => .int i
  | _, _, .str x, _ => .str x
  | _, _, .lst h a, f => by simp [flat] at f
  | _, _, .frz h a, f => by simp [flat] at f
  | _, _, .rng h, f => by simp [flat] at f
  | _, _, .tup h a, f => .tup (by rw [hid_out fun z => n _ z _ (.inl h)]; exact h) (RA.hidF n a (by simpa [flat] using f))
  | _, _, .dk h a, f => by simp [flat] at f
  | _, _, .dt h a, f => by simp [flat] at f
theorem RA.hidF {K : PySem.W.Frag} {B : List Addr} {H : Hp} (n : NoTup B H) : ∀ {v : List V} {d : List D}, RA K H v d → flats d = true → RA K (hid B H) v d
  | _, _, .nil, _ => .nil
  | _, _, .cons h t, f => by
    unfold flats at f
    rw [Bool.and_eq_true] at f
    exact .cons (R.hidF n h f.1) (RA.hidF n t f.2)
end
end DS
end

section
set_option Elab.async false
set_option linter.all false
set_option maxRecDepth 100000
/-! Part b: what may be hidden (a list that a name owns), what an expression's reading is. -/
namespace DS
open PySem PySem.Spec PyProof.Rows L2

def isTop : D → Bool
  | .list _ => true
  | .dict ((.none, _) :: _) => false
  | .dict _ => true
  | _ => false

section
variable (K : PySem.W.Frag) (B : List Addr) (H : Hp)
/-- the tree d, of which the first m levels may be hidden -/
inductive RL : Nat → V → D → Prop
  | z {m : Nat} {v : V} {d : D} : R K (hid B H) v d → RL m v d
  | l {m : Nat} {a : Addr} {xs : List V} {ds : List D} : H a = some (.lst xs) → xs.length = ds.length → (∀ (i : Nat) (x : V) (d : D), xs[i]? = some x → ds[i]? = some d → RL m x d) → RL (m + 1) (.ref a) (.list ds)
  | dk {m : Nat} {a : Addr} {kvs : List (Key × V)} {es : List (D × D)} : H a = some (.dK kvs) → RK K (hid B H) kvs es → RL (m + 1) (.ref a) (.dict es)
  | dt {m : Nat} {a : Addr} {kvs : List (List Key × V)} {es : List (D × D)} : H a = some (.dT kvs) → RT K (hid B H) kvs es → RL (m + 1) (.ref a) (.dict es)
mutual
/-- the tree d, its first l levels at the addresses o alone -/
inductive RO : Nat → List Addr → V → D → Prop
  | z {l : Nat} {v : V} {d : D} : (l = 0 ∨ isTop d = false) → R K (hid B H) v d → RO l [] v d
  | l {l : Nat} {a : Addr} {os : List (List Addr)} {xs : List V} {ds : List D} : H a = some (.lst xs) → ROA l os xs ds → RO (l + 1) (a :: os.flatten) (.ref a) (.list ds)
  | dk {l : Nat} {a : Addr} {kvs : List (Key × V)} {es : List (D × D)} : isTop (.dict es) = true → H a = some (.dK kvs) → RK K (hid B H) kvs es → RO (l + 1) [a] (.ref a) (.dict es)
  | dt {l : Nat} {a : Addr} {kvs : List (List Key × V)} {es : List (D × D)} : isTop (.dict es) = true → H a = some (.dT kvs) → RT K (hid B H) kvs es → RO (l + 1) [a] (.ref a) (.dict es)
inductive ROA : Nat → List (List Addr) → List V → List D → Prop
  | nil {l : Nat} : ROA l [] [] []
  | cons {l : Nat} {o : List Addr} {os : List (List Addr)} {v : V} {d : D} {vs : List V} {ds : List D} : RO l o v d → ROA l os vs ds → ROA l (o :: os) (v :: vs) (d :: ds)
end
end
section
variable {K : PySem.W.Frag} {B B' : List Addr} {H H' : Hp}
theorem RL.r {v : V} {d : D} (h : RL K B H 0 v d) : R K (hid B H) v d := by
  cases h; assumption
theorem RL.up {m n : Nat} {v : V} {d : D} (h : RL K B H m v d) : m ≤ n → RL K B H n v d := by
  induction h generalizing n with
  | z r => intro _; exact .z r
  | l h1 h2 _ ih =>
    intro hn
    obtain ⟨k, rfl⟩ : ∃ k, n = k + 1 := ⟨n - 1, by omega⟩
    exact .l h1 h2 fun i x d e1 e2 => ih i x d e1 e2 (by omega)
  | dk h1 h2 =>
    intro hn
    obtain ⟨k, rfl⟩ : ∃ k, n = k + 1 := ⟨n - 1, by omega⟩
    exact .dk h1 h2
  | dt h1 h2 =>
    intro hn
    obtain ⟨k, rfl⟩ : ∃ k, n = k + 1 := ⟨n - 1, by omega⟩
    exact .dt h1 h2
theorem RL.mono (e : Same H H') (eh : Same (hid B H) (hid B' H')) {m : Nat} {v : V} {d : D} (h : RL K B H m v d) : RL K B' H' m v d := by
  induction h with
  | z r => exact .z (r.mono eh)
  | l h1 h2 _ ih => exact .l (e _ _ h1) h2 ih
  | dk h1 h2 => exact .dk (e _ _ h1) (h2.mono eh)
  | dt h1 h2 => exact .dt (e _ _ h1) (h2.mono eh)
theorem RA.of_get : ∀ {xs : List V} {ds : List D}, xs.length = ds.length → (∀ (i : Nat) (x : V) (d : D), xs[i]? = some x → ds[i]? = some d → R K H x d) → RA K H xs ds
  | [], [], _, _ => .nil
  | [], _ :: _, h, _ => by simp at h
  | _ :: _, [], h, _ => by simp at h
  | x :: xs, d :: ds, h, g => .cons (g 0 x d rfl rfl) (RA.of_get (by simpa using h) fun i y e h1 h2 => g (i + 1) y e (by simpa using h1) (by simpa using h2))
theorem RL.open {m : Nat} {v : V} {d : D} (h : RL K B H m v d) : R K H v d := by
  induction h with
  | z r => exact r.mono same_unhid
  | l h1 h2 _ ih => exact .lst h1 (RA.of_get h2 ih)
  | dk h1 h2 => exact .dk (.inl h1) (h2.mono same_unhid)
  | dt h1 h2 => exact .dt (.inl h1) (h2.mono same_unhid)
/-- a list with its items -/
theorem RL.list {m : Nat} {v : V} {ds : List D} (h : RL K B H (m + 1) v (.list ds)) : ∃ a xs, v = .ref a ∧ H a = some (.lst xs) ∧ xs.length = ds.length ∧ ∀ (i : Nat) (x : V) (d : D), xs[i]? = some x → ds[i]? = some d → RL K B H m x d := by
  cases h with
  | z r =>
    cases r with
    | lst h1 h2 =>
      refine ⟨_, _, rfl, (hid_some h1).2, h2.length, fun i x d e1 e2 => .z ?_⟩
      obtain ⟨y, e3, r⟩ := h2.get e2
      rw [e1] at e3; cases e3; exact r
  | l h1 h2 h3 => exact ⟨_, _, rfl, h1, h2, h3⟩
theorem RL.list1 {v : V} {ds : List D} (h : RL K B H 1 v (.list ds)) : ∃ a xs, v = .ref a ∧ H a = some (.lst xs) ∧ RA K (hid B H) xs ds := by
  obtain ⟨a, xs, e, h1, h2, h3⟩ := h.list
  exact ⟨a, xs, e, h1, RA.of_get h2 fun i x d e1 e2 => (h3 i x d e1 e2).r⟩
theorem RL.tup {m : Nat} {v : V} {ds : List D} (h : RL K B H m v (.tuple ds)) : ∃ a xs, v = .ref a ∧ SqT K H a xs ∧ hid B H a = some (.tup xs) ∧ RA K (hid B H) xs ds := by
  cases h with
  | z r =>
    cases r with
    | tup h1 h2 => exact ⟨_, _, rfl, .inl (.inl (hid_some h1).2), h1, h2⟩
theorem RL.int {m : Nat} {v : V} {i : Int} (h : RL K B H m v (.int i)) : v = .int i := by
  cases h with
  | z r => exact r.int'
theorem RL.bl {m : Nat} {v : V} {i : Bool} (h : RL K B H m v (.bool i)) : v = .bl i := by
  cases h with
  | z r => exact r.bl'
theorem RL.non {m : Nat} {v : V} (h : RL K B H m v .none) : v = .non := by
  cases h with
  | z r => exact r.non'
theorem RL.str {m : Nat} {v : V} {i : Str} (h : RL K B H m v (.str i)) : v = .str i := by
  cases h with
  | z r => exact r.str'
/-- an owned tree, where its own addresses are shown -/
theorem RO.toR_aux {l : Nat} {o : List Addr} {v : V} {d : D} (h : RO K B H l o v d) : (∀ a ∈ B', a ∈ B ∧ a ∉ o) → R K (hid B' H) v d := by
  refine RO.rec (K := K) (B := B) (H := H) (motive_1 := fun l o v d _ => (∀ a ∈ B', a ∈ B ∧ a ∉ o) → R K (hid B' H) v d)
    (motive_2 := fun l os vs ds _ => (∀ a ∈ B', a ∈ B ∧ a ∉ os.flatten) → RA K (hid B' H) vs ds) ?_ ?_ ?_ ?_ ?_ ?_ h
  · intro l v d _ r hb
    exact r.mono (same_hidW (Same.refl H) fun a h => .inl (hb a h).1)
  · intro l a os xs ds h1 _ ih hb
    refine .lst (a := a) (xs := xs) ?_ (ih fun b q => ⟨(hb b q).1, fun z => (hb b q).2 (List.mem_cons_of_mem _ z)⟩)
    rw [hid_out fun z => (hb _ z).2 List.mem_cons_self]; exact h1
  · intro l a kvs es _ h1 h2 hb
    refine .dk (a := a) (kvs := kvs) ?_ (h2.mono (same_hidW (Same.refl H) fun a h => .inl (hb a h).1))
    rw [Rd, hid_out fun z => (hb _ z).2 List.mem_cons_self]; exact .inl h1
  · intro l a kvs es _ h1 h2 hb
    refine .dt (a := a) (kvs := kvs) ?_ (h2.mono (same_hidW (Same.refl H) fun a h => .inl (hb a h).1))
    rw [Rd, hid_out fun z => (hb _ z).2 List.mem_cons_self]; exact .inl h1
  · intro l _
    exact .nil
  · intro l o os v d vs ds _ _ ih1 ih2 hb
    exact .cons (ih1 fun a q => ⟨(hb a q).1, fun z => (hb a q).2 (by rw [List.flatten_cons]; exact List.mem_append_left _ z)⟩) (ih2 fun a q => ⟨(hb a q).1, fun z => (hb a q).2 (by rw [List.flatten_cons]; exact List.mem_append_right _ z)⟩)
theorem RO.toRL_aux {l : Nat} {o : List Addr} {v : V} {d : D} (h : RO K B H l o v d) : RL K B H l v d := by
  refine RO.rec (K := K) (B := B) (H := H) (motive_1 := fun l o v d _ => RL K B H l v d)
    (motive_2 := fun l os vs ds _ => vs.length = ds.length ∧ ∀ (i : Nat) (x : V) (d : D), vs[i]? = some x → ds[i]? = some d → RL K B H l x d) ?_ ?_ ?_ ?_ ?_ ?_ h
  · intro l v d _ r
    exact .z r
  · intro l a os xs ds h1 _ ih
    exact .l h1 ih.1 ih.2
  · intro l a kvs es _ h1 h2
    exact .dk h1 h2
  · intro l a kvs es _ h1 h2
    exact .dt h1 h2
  · intro l
    exact ⟨rfl, fun i x d e1 _ => by simp at e1⟩
  · intro l o os v d vs ds _ _ ih1 ih2
    refine ⟨by simp [ih2.1], fun i x d e1 e2 => ?_⟩
    cases i with
    | zero => simp at e1 e2; subst e1; subst e2; exact ih1
    | succ i => exact ih2.2 i x d (by simpa using e1) (by simpa using e2)
theorem RO.mono_aux {l : Nat} {o : List Addr} {v : V} {d : D} (h : RO K B H l o v d) (eh : Same (hid B H) (hid B' H')) : (∀ a ∈ o, H' a = H a) → RO K B' H' l o v d := by
  refine RO.rec (K := K) (B := B) (H := H) (motive_1 := fun l o v d _ => (∀ a ∈ o, H' a = H a) → RO K B' H' l o v d)
    (motive_2 := fun l os vs ds _ => (∀ a ∈ os.flatten, H' a = H a) → ROA K B' H' l os vs ds) ?_ ?_ ?_ ?_ ?_ ?_ h
  · intro l v d hl r _
    exact .z hl (r.mono eh)
  · intro l a os xs ds h1 _ ih hb
    exact .l ((hb a List.mem_cons_self).trans h1) (ih fun b q => hb b (List.mem_cons_of_mem _ q))
  · intro l a kvs es ht h1 h2 hb
    exact .dk ht ((hb a List.mem_cons_self).trans h1) (h2.mono eh)
  · intro l a kvs es ht h1 h2 hb
    exact .dt ht ((hb a List.mem_cons_self).trans h1) (h2.mono eh)
  · intro l _
    exact .nil
  · intro l o os v d vs ds _ _ ih1 ih2 hb
    exact .cons (ih1 fun a q => hb a (by rw [List.flatten_cons]; exact List.mem_append_left _ q)) (ih2 fun a q => hb a (by rw [List.flatten_cons]; exact List.mem_append_right _ q))
/-- what an owned tree's addresses hold -/
theorem RO.mut_aux {l : Nat} {o : List Addr} {v : V} {d : D} (h : RO K B H l o v d) : Ok o H := by
  refine RO.rec (K := K) (B := B) (H := H) (motive_1 := fun l o v d _ => Ok o H)
    (motive_2 := fun l os vs ds _ => Ok os.flatten H) ?_ ?_ ?_ ?_ ?_ ?_ h
  · intro l v d hl r
    exact Ok.nil
  · intro l a os xs ds h1 _ ih
    exact ih.cons h1 rfl
  · intro l a kvs es ht h1 h2
    exact Ok.nil.cons h1 rfl
  · intro l a kvs es ht h1 h2
    exact Ok.nil.cons h1 rfl
  · intro l
    exact Ok.nil
  · intro l o os v d vs ds _ _ ih1 ih2
    rw [List.flatten_cons]; exact ih1.append ih2
theorem ROA.of_RA : ∀ {vs : List V} {ds : List D}, RA K (hid B H) vs ds → ROA K B H 0 (vs.map fun _ => []) vs ds
  | _, _, .nil => .nil
  | _, _, .cons h t => .cons (.z (.inl rfl) h) (ROA.of_RA t)
theorem flat_map_nil {α β : Type} : ∀ (l : List α), (l.map fun _ => ([] : List β)).flatten = []
  | [] => rfl
  | _ :: r => by rw [List.map_cons, List.flatten_cons, flat_map_nil r]; rfl
theorem RO.l1 {a : Addr} {xs : List V} {ds : List D} (h1 : H a = some (.lst xs)) (h2 : RA K (hid B H) xs ds) : RO K B H 1 [a] (.ref a) (.list ds) := by
  have := RO.l (l := 0) h1 (ROA.of_RA h2)
  rw [flat_map_nil] at this
  exact this
end

/-! ### modes -/
inductive Mo where
  /-- the first m levels may be hidden -/
  | br (m : Nat)
  /-- new: its first level (two levels) at new addresses -/
  | fr | fr2
def Mo.one : Mo → Bool
  | .fr2 => false
  | _ => true
def Post (K : PySem.W.Frag) (B : List Addr) (H0 H' : Hp) : Mo → V → D → Prop
  | .br m, v, d => RL K B H' m v d
  | .fr, v, d => ∃ o : List Addr, (∀ a ∈ o, H0 a = none) ∧ o.Nodup ∧ RO K (o ++ B) H' 1 o v d
  | .fr2, v, d => ∃ o : List Addr, (∀ a ∈ o, H0 a = none) ∧ o.Nodup ∧ RO K (o ++ B) H' 2 o v d
section
variable {K : PySem.W.Frag} {B B' : List Addr} {H H0 H' : Hp}
/-- a value that is nobody's own -/
theorem Post.of_flat {κ : Mo} {v : V} {d : D} (h : R K (hid B H') v d) (f : isTop d = false) : Post K B H0 H' κ v d := by
  cases κ with
  | br m => exact .z h
  | fr => exact ⟨[], by simp, List.nodup_nil, .z (.inr f) h⟩
  | fr2 => exact ⟨[], by simp, List.nodup_nil, .z (.inr f) h⟩
theorem Post.weak {m : Nat} {v : V} {d : D} (t : Trk B H0) (h : Post K B H0 H' .fr v d) : Post K B H0 H' (.br m) v d := by
  obtain ⟨o, h1, h2, h3⟩ := h
  exact .z (h3.toR_aux fun a q => ⟨List.mem_append_right _ q, fun z => t a q (h1 a z)⟩)
/-- a new list -/
theorem Post.new {κ : Mo} {p : Addr} {xs : List V} {ds : List D} (t : Trk B H0) (hn : H0 p = none) (h : H' p = some (.lst xs)) (r : RA K (hid (p :: B) H') xs ds) (hκ : κ.one = true) : Post K B H0 H' κ (.ref p) (.list ds) := by
  have f : Post K B H0 H' .fr (.ref p) (.list ds) := ⟨[p], by simpa using hn, by simp, RO.l1 h r⟩
  cases κ with
  | br m => exact f.weak t
  | fr => exact f
  | fr2 => cases hκ
end
end DS
end

section
set_option Elab.async false
set_option linter.all false
set_option maxRecDepth 100000
/-! Part c: an expression's reading as a function on trees. -/
namespace DS
open PySem PySem.Spec PyProof.Rows L2

abbrev St := List (Option V)
abbrev PEnv := List (Option D)
abbrev FE := PEnv → Option D
abbrev FA := PEnv → Option (List D)
abbrev FT := PEnv → Option Bool
abbrev Esc := List (Nat × Nat)
def EscOk (es : Esc) (L : Nat → Nat) : Prop := ∀ p ∈ es, L p.1 ≤ p.2
theorem EscOk.zero {es : Esc} : EscOk es fun _ => 0 := fun _ _ => Nat.zero_le _
theorem EscOk.left {es es' : Esc} {L : Nat → Nat} (h : EscOk (es ++ es') L) : EscOk es L := fun p q => h p (List.mem_append_left _ q)
theorem EscOk.right {es es' : Esc} {L : Nat → Nat} (h : EscOk (es ++ es') L) : EscOk es' L := fun p q => h p (List.mem_append_right _ q)
theorem EscOk.nil {L : Nat → Nat} : EscOk [] L := fun _ q => by simp at q

structure Good (K : PySem.W.Frag) (B : List Addr) (L : Nat → Nat) (σ : St) (H : Hp) (ρ : PEnv) : Prop where
  ok : Ok B H
  len : σ.length = ρ.length
  slot : ∀ (i : Nat) (d : D), ρ[i]? = some (some d) → ∃ v, σ[i]? = some (some v) ∧ RL K B H (L i) v d
section
variable {K : PySem.W.Frag} {B : List Addr} {L : Nat → Nat} {σ : St} {H H' : Hp} {ρ : PEnv}
theorem Good.mono (g : Good K B L σ H ρ) (e : Same H H') : Good K B L σ H' ρ :=
  ⟨g.ok.mono e, g.len, fun i d h => let ⟨v, h1, h2⟩ := g.slot i d h; ⟨v, h1, h2.mono e (same_hid e)⟩⟩
theorem Good.zero (g : Good K B L σ H ρ) : Good K [] (fun _ => 0) σ H ρ :=
  ⟨Ok.nil, g.len, fun i d h => let ⟨v, h1, h2⟩ := g.slot i d h; ⟨v, h1, .z (by rw [hid_nil]; exact h2.open)⟩⟩
end
/-- the reading of an expression: what it gives is the tree f ρ -/
def tD (K : PySem.W.Frag) (κ : Mo) (f : FE) (es : Esc) : TE := fun σ H Q => ∃ B L ρ d, Good K B L σ H ρ ∧ EscOk es L ∧ f ρ = some d ∧ ∀ v H', Same H H' → Post K B H H' κ v d → Q v H'
def tDA (K : PySem.W.Frag) (m : Nat) (f : FA) (es : Esc) : TA := fun σ H Q => ∃ B L ρ ds, Good K B L σ H ρ ∧ EscOk es L ∧ f ρ = some ds ∧ ∀ vs H', Same H H' → vs.length = ds.length → (∀ (i : Nat) (x : V) (d : D), vs[i]? = some x → ds[i]? = some d → RL K B H' m x d) → Q vs H'
def tT (K : PySem.W.Frag) (f : FT) : TT := fun σ H Q => ∃ B L ρ b, Good K B L σ H ρ ∧ f ρ = some b ∧ ∀ H', Same H H' → Q b H'

theorem _root_.L2.PE.imp {X : Cx} {e : Expr} {t t' : TE} (h : PE X e t) (w : ∀ σ H Q, t' σ H Q → t σ H Q) : PE X e t' := ⟨fun pins s σ H Q I q => h.run pins s σ H Q I (w σ H Q q)⟩
theorem _root_.L2.PT.imp {X : Cx} {e : Expr} {t t' : TT} (h : PT X e t) (w : ∀ σ H Q, t' σ H Q → t σ H Q) : PT X e t' := ⟨fun pins s σ H Q I q => h.run pins s σ H Q I (w σ H Q q)⟩
theorem _root_.L2.PA.imp {X : Cx} {e : List Expr} {t t' : TA} (h : PA X e t) (w : ∀ σ H Q, t' σ H Q → t σ H Q) : PA X e t' := ⟨fun pos pins s σ H Q I q => h.run pos pins s σ H Q I (w σ H Q q)⟩
theorem _root_.L2.PW.imp {X : Cx} {e : Expr} {t t' : TT} (h : PW X e t) (w : ∀ σ H Q, t' σ H Q → t σ H Q) : PW X e t' := ⟨fun wh pins s σ H Q I q => h.run wh pins s σ H Q I (w σ H Q q)⟩
theorem _root_.L2.PI.imp {X : Cx} {tg it : Expr} {t t' : TI} (h : PI X tg it t) (w : ∀ σ H Q, t' σ H Q → t σ H Q) : PI X tg it t' := ⟨fun pins s σ H Q I q => h.run pins s σ H Q I (w σ H Q q)⟩
theorem _root_.L2.PS.imp {X : Cx} {e : Stmt} {t t' : TS} (h : PS X e t) (w : ∀ D σ H, t' D σ H → t D σ H) : PS X e t' := ⟨fun pins s σ H D I q => h.run pins s σ H D I (w D σ H q)⟩
theorem _root_.L2.PSs.imp {X : Cx} {e : List Stmt} {t t' : TS} (h : PSs X e t) (w : ∀ D σ H, t' D σ H → t D σ H) : PSs X e t' := ⟨fun pins s σ H D I q => h.run pins s σ H D I (w D σ H q)⟩

/-- bind of two -/
def o2 {α β γ : Type} (x : Option α) (y : Option β) (g : α → β → Option γ) : Option γ := match x with
  | none => none
  | some a => match y with
    | none => none
    | some b => g a b
def o1 {α γ : Type} (x : Option α) (g : α → Option γ) : Option γ := match x with
  | none => none
  | some a => g a
theorem o2_some {α β γ : Type} {x : Option α} {y : Option β} {g : α → β → Option γ} {c : γ} (h : o2 x y g = some c) : ∃ a b, x = some a ∧ y = some b ∧ g a b = some c := by
  unfold o2 at h
  split at h
  · cases h
  · split at h
    · cases h
    · exact ⟨_, _, rfl, rfl, h⟩
theorem o1_some {α γ : Type} {x : Option α} {g : α → Option γ} {c : γ} (h : o1 x g = some c) : ∃ a, x = some a ∧ g a = some c := by
  unfold o1 at h
  split at h
  · cases h
  · exact ⟨_, rfl, h⟩

/-! ### names and constants -/
def eVar (i : Nat) : FE := fun ρ => match ρ[i]? with
  | some (some d) => some d
  | _ => none
def eC (d : D) : FE := fun _ => some d
theorem eVar_some {i : Nat} {ρ : PEnv} {d : D} (h : eVar i ρ = some d) : ρ[i]? = some (some d) := by
  unfold eVar at h
  split at h
  · rename_i e; rw [e, Option.some.inj h]
  · cases h
section
variable {X : Cx} {K : PySem.W.Frag} {κ : Mo} {pos : Pos}
theorem qe_of {e : Expr} {i m : Nat} (h : PE X e (tVar i)) : PE X e (tD K (.br m) (eVar i) [(i, m)]) := h.imp fun σ H Q ⟨B, L, ρ, d, g, es, hf, q⟩ => by
  obtain ⟨v, h1, h2⟩ := g.slot i d (eVar_some hf)
  exact ⟨v, h1, q v H (Same.refl H) (h2.up (es (i, m) (by simp)))⟩
theorem qv (i : Nat) {m : Nat} {x : Str} {pos : Pos} (hN : X.N[i]? = some x := by rfl) (hv : Vis X.env.scope x := by first | exact Or.inl rfl | exact Or.inr (Or.inl rfl) | exact Or.inr (Or.inr rfl)) (hd : (x == ("__debug__" : Str)) = false := by decide)
    (hcd : (x == ("__classdict__" : Str)) = false := by decide) : PE X (.Name x pos) (tD K (.br m) (eVar i) [(i, m)]) := qe_of (pe_var hN hv hd hcd)
theorem qc {e : Expr} {v : V} {d : D} (h : PE X e (tC v)) (r : ∀ H, R K H v d) (f : isTop d = false) : PE X e (tD K κ (eC d) []) := h.imp fun σ H Q ⟨B, L, ρ, d', g, es, hf, q⟩ => by
  cases (show d = d' from Option.some.inj hf)
  exact q v H (Same.refl H) (Post.of_flat (r _) f)
theorem qint {i j pos} : PE X (.Constant (.int i) j pos) (tD K κ (eC (.int i)) []) := qc pe_int (fun _ => .int i) rfl
theorem qbl {i j pos} : PE X (.Constant (.bool i) j pos) (tD K κ (eC (.bool i)) []) := qc pe_bl (fun _ => .bl i) rfl
theorem qnon {j pos} : PE X (.Constant .none j pos) (tD K κ (eC .none) []) := qc pe_non (fun _ => .non) rfl
theorem qstr {i j pos} : PE X (.Constant (.str i) j pos) (tD K κ (eC (.str i)) []) := qc pe_str (fun _ => .str i) rfl
/-- read at a lesser freedom -/
theorem qup {e : Expr} {f : FE} {es : Esc} {m n : Nat} (h : PE X e (tD K (.br m) f es)) (hm : m ≤ n := by decide) : PE X e (tD K (.br n) f es) := h.imp fun σ H Q ⟨B, L, ρ, d, g, es, hf, q⟩ =>
  ⟨B, L, ρ, d, g, es, hf, fun v H' e p => q v H' e (RL.up p hm)⟩

/-! ### lists of arguments -/
def aNil : FA := fun _ => some []
def aCons (f : FE) (r : FA) : FA := fun ρ => o2 (f ρ) (r ρ) fun d ds => some (d :: ds)
theorem qa_nil {m : Nat} : PA X [] (tDA K m aNil []) := pa_nil.imp fun σ H Q ⟨B, L, ρ, ds, g, es, hf, q⟩ => by
  cases (show [] = ds from Option.some.inj hf)
  exact q [] H (Same.refl H) rfl fun i x d h => by simp at h
theorem qa_cons {m : Nat} {e : Expr} {es : List Expr} {f : FE} {fs : FA} {c c' : Esc} (h : PE X e (tD K (.br m) f c)) (t : PA X es (tDA K m fs c')) (hs : starEach (e :: es) X.env = (false, eval e X.env) :: starEach es X.env := by rfl) :
    PA X (e :: es) (tDA K m (aCons f fs) (c ++ c')) := (pa_cons h t hs).imp fun σ H Q ⟨B, L, ρ, ds, g, es, hf, q⟩ => by
  obtain ⟨d, ds', h1, h2, h3⟩ := o2_some hf
  cases (show d :: ds' = ds from Option.some.inj h3)
  refine ⟨B, L, ρ, d, g, es.left, h1, fun v H1 s1 p1 => ⟨B, L, ρ, ds', g.mono s1, es.right, h2, fun vs H2 s2 hl p2 => ?_⟩⟩
  refine q _ H2 (s1.trans s2) (by simp [hl]) fun i x y e1 e2 => ?_
  cases i with
  | zero =>
    simp at e1 e2
    subst e1 e2
    exact RL.mono s2 (same_hid s2) p1
  | succ i => exact p2 i x y (by simpa using e1) (by simpa using e2)
/-- a display: a tuple, a list -/
def sz : Nat := 16777216
theorem sz_eq : sizeLine = sz := sizeLine_eq
def eTup (fs : FA) : FE := fun ρ => o1 (fs ρ) fun ds => if ds.length ≤ sz then some (.tuple ds) else none
def eLst (fs : FA) : FE := fun ρ => o1 (fs ρ) fun ds => if ds.length ≤ sz then some (.list ds) else none
theorem ite_some {α : Type} {c : Prop} [Decidable c] {x y : α} (h : (if c then some x else none) = some y) : c ∧ x = y := by
  split at h
  · exact ⟨by assumption, Option.some.inj h⟩
  · cases h
theorem qe_tup {x1} {es : List Expr} {fs : FA} {c : Esc} (h : PA X es (tDA K 0 fs c)) : PE X (.Tuple es x1 pos) (tD K κ (eTup fs) c) := (pe_tup h).imp fun σ H Q ⟨B, L, ρ, d, g, es, hf, q⟩ => by
  obtain ⟨ds, h1, h2⟩ := o1_some hf
  obtain ⟨hc, e⟩ := ite_some h2
  subst e
  refine ⟨B, L, ρ, ds, g, es, h1, fun vs H1 s1 hl p1 => ⟨by rw [hl, sz_eq]; exact hc, fun p np => ?_⟩⟩
  have s2 : Same H1 (upd H1 p (.tup vs)) := same_upd np
  refine q _ _ (s1.trans s2) (Post.of_flat (.tup (a := p) (xs := vs) ?_ (RA.of_get hl fun i x d e1 e2 => (p1 i x d e1 e2).r.mono (same_hid s2))) rfl)
  rw [hid_out ((g.ok.mono s1).trk.new np), upd_same]
theorem qe_lst {es : List Expr} {fs : FA} {c : Esc} (h : PA X es (tDA K 0 fs c)) (hκ : κ.one = true := by rfl) : PE X (.List es pos) (tD K κ (eLst fs) c) := (pe_lst h).imp fun σ H Q ⟨B, L, ρ, d, g, es, hf, q⟩ => by
  obtain ⟨ds, h1, h2⟩ := o1_some hf
  obtain ⟨hc, e⟩ := ite_some h2
  subst e
  refine ⟨B, L, ρ, ds, g, es, h1, fun vs H1 s1 hl p1 => ⟨by rw [hl, sz_eq]; exact hc, fun p np => ?_⟩⟩
  have s2 : Same H1 (upd H1 p (.lst vs)) := same_upd np
  refine q _ _ (s1.trans s2) (Post.new g.ok.trk (s1.free np) upd_same (RA.of_get hl fun i x d e1 e2 => (p1 i x d e1 e2).r.mono (same_hidW s2 fun a h => ?_)) hκ)
  rcases List.mem_cons.mp h with e | h
  · rw [e]; exact .inr np
  · exact .inl h

/-! ### operators -/
/-- an operator on values does what op does on trees -/
def OpD (K : PySem.W.Frag) (r : R2) (op : D → D → Option D) : Prop := ∀ (B : List Addr) (x y : V) (dx dy d : D) (H : Hp) (Q : VK), Ok B H → RL K B H 1 x dx → RL K B H 1 y dy → op dx dy = some d →
  (∀ v H', Same H H' → (∀ κ : Mo, κ.one = true → Post K B H H' κ v d) → Q v H') → r x y H Q
def eOp (op : D → D → Option D) (f g : FE) : FE := fun ρ => o2 (f ρ) (g ρ) op
theorem qe_op {o : Operator} {r : R2} {op : D → D → Option D} {a b : Expr} {fa fb : FE} {ca cb : Esc} (hr : OpR X (binaryOp o) r) (hd : OpD K r op) (ha : PE X a (tD K (.br 1) fa ca)) (hb : PE X b (tD K (.br 1) fb cb)) (hκ : κ.one = true := by rfl) :
    PE X (.BinOp a o b pos) (tD K κ (eOp op fa fb) (ca ++ cb)) := (pe_op hr ha hb).imp fun σ H Q ⟨B, L, ρ, d, g, es, hf, q⟩ => by
  obtain ⟨dx, dy, h1, h2, h3⟩ := o2_some hf
  refine ⟨B, L, ρ, dx, g, es.left, h1, fun x H1 s1 p1 => ⟨B, L, ρ, dy, g.mono s1, es.right, h2, fun y H2 s2 p2 => ?_⟩⟩
  refine hd B x y dx dy d H2 Q ((g.ok.mono s1).mono s2) (RL.mono s2 (same_hid s2) p1) p2 h3 fun v H3 s3 p3 => q v H3 ((s1.trans s2).trans s3) ?_
  have p := p3 κ hκ
  cases κ with
  | br m => exact p
  | fr =>
    obtain ⟨o, h1, h2, h3⟩ := p
    exact ⟨o, fun a z => (s1.trans s2).free (h1 a z), h2, h3⟩
  | fr2 => cases hκ
/-- ints to an int -/
theorem OpD.ii {C : Int → Int → Prop} {gV : Int → Int → Int} {op : D → D → Option D} (h : ∀ dx dy d, op dx dy = some d → ∃ i j, dx = .int i ∧ dy = .int j ∧ C i j ∧ d = .int (gV i j)) : OpD K (rI C fun i j => .int (gV i j)) op := by
  intro B x y dx dy d H Q hB rx ry ho q
  obtain ⟨i, j, rfl, rfl, c, rfl⟩ := h _ _ _ ho
  exact ⟨i, j, rx.int, ry.int, c, q _ H (Same.refl H) fun κ _ => Post.of_flat (.int _) rfl⟩
def dSub : D → D → Option D
  | .int i, .int j => some (.int (i - j))
  | _, _ => none
def mulOk (i j : Int) : Bool := decide (j.natAbs < 18446744073709551616) || decide (i.natAbs < 18446744073709551616) || decide (i.natAbs.log2 + j.natAbs.log2 < 1000000)
def fdivOk (j : Int) : Bool := decide (0 < j) && decide (j.natAbs.log2 < 9000)
def dFdiv : D → D → Option D
  | .int i, .int j => if fdivOk j = true then some (.int (i / j)) else none
  | _, _ => none
def dMod : D → D → Option D
  | .int i, .int j => if 0 < j then some (.int (i % j)) else none
  | _, _ => none
def powOk (i j : Int) : Bool := decide (0 ≤ j) && decide (j ≤ 1000000) && decide (i.natAbs < 18446744073709551616)
def dPow : D → D → Option D
  | .int i, .int j => if powOk i j = true then some (.int (i ^ j.toNat)) else none
  | _, _ => none
def dShl : D → D → Option D
  | .int i, .int j => if powOk i j = true then some (.int (i * 2 ^ j.toNat)) else none
  | _, _ => none
def dShr : D → D → Option D
  | .int i, .int j => if 0 ≤ j then some (.int (i / 2 ^ j.toNat)) else none
  | _, _ => none
end
theorem mulOk_ok {i j : Int} (h : mulOk i j = true) : IntMulOk i j := by
  unfold mulOk at h
  rw [Bool.or_eq_true, Bool.or_eq_true] at h
  rcases h with (h | h) | h
  · have h := of_decide_eq_true h
    exact .of_right (intBits_le_64 (by omega) (by omega))
  · have h := of_decide_eq_true h
    exact .of_left (intBits_le_64 (by omega) (by omega))
  · exact CMulW.ok (show i.natAbs.log2 + j.natAbs.log2 < 1000000 from of_decide_eq_true h)
theorem op_mulA {X : Cx} : OpR X (binaryOp .Mult) (rI (fun i j => mulOk i j = true) fun i j => .int (i * j)) := opI fun _ _ _ _ _ _ _ hc q => mul_int q (mulOk_ok hc)
theorem op_sub' {X : Cx} : OpR X (binaryOp .Sub) (rI (fun _ _ => True) fun i j => .int (i - j)) := opI fun _ _ _ _ _ _ _ _ q => sub_int q
theorem op_add' {X : Cx} : OpR X (binaryOp .Add) (rI (fun _ _ => True) fun i j => .int (i + j)) := opI fun _ _ _ _ _ _ _ _ q => add_int q
theorem op_fdivA {X : Cx} : OpR X (binaryOp .FloorDiv) (rI (fun _ j => fdivOk j = true) fun i j => .int (i / j)) := opI fun i j _ _ _ _ _ hc q => by
  unfold fdivOk at hc
  rw [Bool.and_eq_true] at hc
  have h1 := of_decide_eq_true hc.1
  exact floordiv_int (by omega) (by rw [Int.fdiv_eq_ediv_of_nonneg i (by omega)]; exact q) (.inl (PyProof.noPylong_of_log2 (of_decide_eq_true hc.2)))
section
variable {X : Cx} {K : PySem.W.Frag} {κ : Mo} {pos : Pos} {a b : Expr} {fa fb : FE} {ca cb : Esc}
theorem qe_sub (ha : PE X a (tD K (.br 1) fa ca)) (hb : PE X b (tD K (.br 1) fb cb)) (hκ : κ.one = true := by rfl) : PE X (.BinOp a .Sub b pos) (tD K κ (eOp dSub fa fb) (ca ++ cb)) :=
  qe_op op_sub' (OpD.ii fun dx dy d h => by
    unfold dSub at h
    split at h
    · exact ⟨_, _, rfl, rfl, trivial, (Option.some.inj h).symm⟩
    · cases h) ha hb hκ
theorem qe_fdiv (ha : PE X a (tD K (.br 1) fa ca)) (hb : PE X b (tD K (.br 1) fb cb)) (hκ : κ.one = true := by rfl) : PE X (.BinOp a .FloorDiv b pos) (tD K κ (eOp dFdiv fa fb) (ca ++ cb)) :=
  qe_op op_fdivA (OpD.ii fun dx dy d h => by
    unfold dFdiv at h
    split at h
    · obtain ⟨c, e⟩ := ite_some h
      exact ⟨_, _, rfl, rfl, c, e.symm⟩
    · cases h) ha hb hκ
theorem qe_mod (ha : PE X a (tD K (.br 1) fa ca)) (hb : PE X b (tD K (.br 1) fb cb)) (hκ : κ.one = true := by rfl) : PE X (.BinOp a .Mod b pos) (tD K κ (eOp dMod fa fb) (ca ++ cb)) :=
  qe_op op_mod (OpD.ii fun dx dy d h => by
    unfold dMod at h
    split at h
    · obtain ⟨c, e⟩ := ite_some h
      exact ⟨_, _, rfl, rfl, c, e.symm⟩
    · cases h) ha hb hκ
theorem powOk_ok {i j : Int} (h : powOk i j = true) : CPow i j := by
  unfold powOk at h
  rw [Bool.and_eq_true, Bool.and_eq_true] at h
  exact ⟨of_decide_eq_true h.1.1, of_decide_eq_true h.1.2, of_decide_eq_true h.2⟩
theorem qe_pow (ha : PE X a (tD K (.br 1) fa ca)) (hb : PE X b (tD K (.br 1) fb cb)) (hκ : κ.one = true := by rfl) : PE X (.BinOp a .Pow b pos) (tD K κ (eOp dPow fa fb) (ca ++ cb)) :=
  qe_op op_pow (OpD.ii fun dx dy d h => by
    unfold dPow at h
    split at h
    · obtain ⟨c, e⟩ := ite_some h
      exact ⟨_, _, rfl, rfl, powOk_ok c, e.symm⟩
    · cases h) ha hb hκ
theorem qe_shl (ha : PE X a (tD K (.br 1) fa ca)) (hb : PE X b (tD K (.br 1) fb cb)) (hκ : κ.one = true := by rfl) : PE X (.BinOp a .LShift b pos) (tD K κ (eOp dShl fa fb) (ca ++ cb)) :=
  qe_op op_shl (OpD.ii fun dx dy d h => by
    unfold dShl at h
    split at h
    · obtain ⟨c, e⟩ := ite_some h
      exact ⟨_, _, rfl, rfl, powOk_ok c, e.symm⟩
    · cases h) ha hb hκ
theorem qe_shr (ha : PE X a (tD K (.br 1) fa ca)) (hb : PE X b (tD K (.br 1) fb cb)) (hκ : κ.one = true := by rfl) : PE X (.BinOp a .RShift b pos) (tD K κ (eOp dShr fa fb) (ca ++ cb)) :=
  qe_op op_shr (OpD.ii fun dx dy d h => by
    unfold dShr at h
    split at h
    · obtain ⟨c, e⟩ := ite_some h
      exact ⟨_, _, rfl, rfl, c, e.symm⟩
    · cases h) ha hb hκ
/-! + : ints, tuples, lists -/
def dAdd : D → D → Option D
  | .int i, .int j => some (.int (i + j))
  | .tuple x, .tuple y => if x.length + y.length ≤ sz then some (.tuple (x ++ y)) else none
  | .list x, .list y => if x.length + y.length ≤ sz then some (.list (x ++ y)) else none
  | _, _ => none
theorem RL.list1' {B : List Addr} {H : Hp} {v : V} {ds : List D} (h : RL K B H 1 v (.list ds)) : ∃ a xs, v = .ref a ∧ H a = some (.lst xs) ∧ RA K (hid B H) xs ds := h.list1
theorem qe_add (ha : PE X a (tD K (.br 1) fa ca)) (hb : PE X b (tD K (.br 1) fb cb)) (hX : X.K = K := by rfl) (hκ : κ.one = true := by rfl) : PE X (.BinOp a .Add b pos) (tD K κ (eOp dAdd fa fb) (ca ++ cb)) := by
  subst hX
  refine qe_op (op_add'.or (op_catA.or op_cat)) ?_ ha hb hκ
  intro B x y dx dy d H Q hB rx ry ho q
  unfold dAdd at ho
  split at ho
  · exact .inl ⟨_, _, rx.int, ry.int, trivial, q _ H (Same.refl H) fun κ _ => by
      cases (Option.some.inj ho)
      exact Post.of_flat (.int _) rfl⟩
  · obtain ⟨c, rfl⟩ := ite_some ho
    obtain ⟨p, xs, rfl, h1, h1', h2⟩ := rx.tup
    obtain ⟨p', ys, rfl, h3, h3', h4⟩ := ry.tup
    refine .inr (.inl ⟨p, p', xs, ys, rfl, rfl, h1, h3, by rw [h2.length, h4.length, sz_eq]; exact c, fun e => ?_, fun _ e => ?_, fun _ _ t nt => ?_⟩)
    · subst e
      cases h2
      exact q _ H (Same.refl H) fun κ _ => Post.of_flat (.tup h3' h4) rfl
    · subst e
      cases h4
      rw [List.append_nil] at q
      exact q _ H (Same.refl H) fun κ _ => Post.of_flat (.tup h1' h2) rfl
    · have s := same_upd (o := HO.tup (xs ++ ys)) nt
      refine q _ _ s fun κ _ => Post.of_flat (.tup (a := t) (xs := xs ++ ys) ?_ ((h2.append h4).mono (same_hid s))) rfl
      rw [hid_out (hB.trk.new nt), upd_same]
  · obtain ⟨c, rfl⟩ := ite_some ho
    obtain ⟨p, xs, rfl, h1, h2⟩ := rx.list1
    obtain ⟨p', ys, rfl, h3, h4⟩ := ry.list1
    refine .inr (.inr ⟨p, p', xs, ys, rfl, rfl, h1, h3, by rw [h2.length, h4.length, sz_eq]; exact c, fun t nt => ?_⟩)
    have s := same_upd (o := HO.lst (xs ++ ys)) nt
    refine q _ _ s fun κ hκ => Post.new hB.trk nt upd_same ((h2.append h4).mono (same_hidW s fun b hb => ?_)) hκ
    rcases List.mem_cons.mp hb with e | hb
    · rw [e]; exact .inr nt
    · exact .inl hb
  · cases ho
/-! * : ints, a list times an int -/
def dMul : D → D → Option D
  | .int i, .int j => if mulOk i j = true then some (.int (i * j)) else none
  | .list x, .int j => if x.length * j.toNat ≤ sz ∧ -9223372036854775808 ≤ j ∧ j < 9223372036854775808 then some (.list (List.replicate j.toNat x).flatten) else none
  | _, _ => none
theorem qe_mul (ha : PE X a (tD K (.br 1) fa ca)) (hb : PE X b (tD K (.br 1) fb cb)) (hκ : κ.one = true := by rfl) : PE X (.BinOp a .Mult b pos) (tD K κ (eOp dMul fa fb) (ca ++ cb)) := by
  refine qe_op (op_mulA.or op_rep) ?_ ha hb hκ
  intro B x y dx dy d H Q hB rx ry ho q
  unfold dMul at ho
  split at ho
  · obtain ⟨c, rfl⟩ := ite_some ho
    exact .inl ⟨_, _, rx.int, ry.int, c, q _ H (Same.refl H) fun κ _ => Post.of_flat (.int _) rfl⟩
  · rename_i x' j'
    obtain ⟨⟨c, c1, c2⟩, rfl⟩ := ite_some ho
    obtain ⟨p, xs, rfl, h1, h2⟩ := rx.list1
    refine .inr ⟨p, _, xs, rfl, ry.int, h1, by omega, by omega, by rw [h2.length, sz_eq]; exact c, fun t nt => ?_⟩
    have s := same_upd (o := HO.lst (List.replicate j'.toNat xs).flatten) nt
    refine q _ _ s fun κ hκ => Post.new hB.trk nt upd_same ((h2.rep _).mono (same_hidW s fun b hb => ?_)) hκ
    rcases List.mem_cons.mp hb with e | hb
    · rw [e]; exact .inr nt
    · exact .inl hb
  · cases ho
/-! one operand -/
def dNeg : D → Option D
  | .int i => some (.int (-i))
  | _ => none
def eUn (op : D → Option D) (f : FE) : FE := fun ρ => o1 (f ρ) op
theorem qe_neg (ha : PE X a (tD K (.br 1) fa ca)) : PE X (.UnaryOp .USub a pos) (tD K κ (eUn dNeg fa) []) := (pe_un un_neg ha).imp fun σ H Q ⟨B, L, ρ, d, g, es, hf, q⟩ => by
  obtain ⟨dx, h1, h2⟩ := o1_some hf
  unfold dNeg at h2
  split at h2
  · cases (Option.some.inj h2)
    exact ⟨[], _, ρ, _, g.zero, .zero, h1, fun x H1 s1 p1 => ⟨_, RL.int p1, q _ H1 s1 (Post.of_flat (.int _) rfl)⟩⟩
  · cases h2
end
end DS
end

section
set_option Elab.async false
set_option linter.all false
set_option maxRecDepth 100000
/-! Part d: comparisons, tests, subscripts, calls. -/
namespace DS
open PySem PySem.Spec PyProof.Rows L2

/-! ### comparisons -/
def OpC (K : PySem.W.Frag) (r : R2) (op : D → D → Option Bool) : Prop := ∀ (x y : V) (dx dy : D) (b : Bool) (H : Hp) (Q : VK), R K H x dx → R K H y dy → op dx dy = some b → Q (.bl b) H → r x y H Q
def tCmp (op : D → D → Option Bool) (f g : FE) : FT := fun ρ => o2 (f ρ) (g ρ) op
def eB (f : FT) : FE := fun ρ => o1 (f ρ) fun b => some (.bool b)
section
variable {X : Cx} {K : PySem.W.Frag} {κ : Mo} {pos : Pos} {a b : Expr} {fa fb : FE} {ca cb : Esc}
theorem RL.r0 {H : Hp} {m : Nat} {v : V} {d : D} (h : RL K [] H m v d) : R K H v d := h.open
theorem qe_cmp {op : CmpOp} {r : R2} {o : D → D → Option Bool} (hr : OpR X (compareOp op) r) (hd : OpC K r o) (ha : PE X a (tD K (.br 1) fa ca)) (hb : PE X b (tD K (.br 1) fb cb)) (hm : behindInMarks op b = false) :
    PE X (.Compare a [op] [b] pos) (tD K κ (eB (tCmp o fa fb)) []) := (pe_cmpR hr ha hb hm).imp fun σ H Q ⟨B, L, ρ, d, g, es, hf, q⟩ => by
  obtain ⟨k, h1, h2⟩ := o1_some hf
  cases (Option.some.inj h2)
  obtain ⟨dx, dy, h3, h4, h5⟩ := o2_some h1
  exact ⟨[], _, ρ, dx, g.zero, .zero, h3, fun x H1 s1 p1 => ⟨[], _, ρ, dy, (g.mono s1).zero, .zero, h4, fun y H2 s2 p2 =>
    hd x y dx dy k H2 Q ((RL.r0 p1).mono s2) (RL.r0 p2) h5 (q _ H2 (s1.trans s2) (Post.of_flat (.bl k) rfl))⟩⟩
theorem qt_cmp {op : CmpOp} {r : R2} {o : D → D → Option Bool} (hr : OpR X (compareOp op) r) (hd : OpC K r o) (ha : PE X a (tD K (.br 1) fa ca)) (hb : PE X b (tD K (.br 1) fb cb)) (hm : behindInMarks op b = false) :
    PT X (.Compare a [op] [b] pos) (tT K (tCmp o fa fb)) := (pt_cmpR hr ha hb hm).imp fun σ H Q ⟨B, L, ρ, k, g, hf, q⟩ => by
  obtain ⟨dx, dy, h3, h4, h5⟩ := o2_some hf
  exact ⟨[], _, ρ, dx, g.zero, .zero, h3, fun x H1 s1 p1 => ⟨[], _, ρ, dy, (g.mono s1).zero, .zero, h4, fun y H2 s2 p2 =>
    hd x y dx dy k H2 _ ((RL.r0 p1).mono s2) (RL.r0 p2) h5 ⟨k, rfl, q H2 (s1.trans s2)⟩⟩⟩
/-- a < b < c -/
def tChn (op op' : D → D → Option Bool) (f g h : FE) : FT := fun ρ => match o2 (f ρ) (g ρ) op with
  | none => none
  | some false => some false
  | some true => o2 (g ρ) (h ρ) op'
theorem qt_chain {op op' : CmpOp} {r r' : R2} {o o' : D → D → Option Bool} {c : Expr} {fc : FE} {cc : Esc} (hr : OpR X (compareOp op) r) (hd : OpC K r o) (hr' : OpR X (compareOp op') r') (hd' : OpC K r' o')
    (ha : PE X a (tD K (.br 1) fa ca)) (hb : PE X b (tD K (.br 1) fb cb)) (hc : PE X c (tD K (.br 1) fc cc)) (pt : PT X (.Compare a [op, op'] [b, c] pos) (tTest (tChain r r' (tD K (.br 1) fa ca) (tD K (.br 1) fb cb) (tD K (.br 1) fc cc)))) :
    PT X (.Compare a [op, op'] [b, c] pos) (tT K (tChn o o' fa fb fc)) := pt.imp fun σ H Q ⟨B, L, ρ, k, g, hf, q⟩ => by
  unfold tChn at hf
  split at hf
  · cases hf
  · rename_i h1
    obtain ⟨dx, dy, h3, h4, h5⟩ := o2_some h1
    refine ⟨[], _, ρ, dx, g.zero, .zero, h3, fun x H1 s1 p1 => ⟨[], _, ρ, dy, (g.mono s1).zero, .zero, h4, fun y H2 s2 p2 =>
      hd x y dx dy false H2 _ ((RL.r0 p1).mono s2) (RL.r0 p2) h5 ⟨false, rfl, ?_⟩⟩⟩
    rw [if_neg (by decide)]
    cases (Option.some.inj hf)
    exact ⟨_, rfl, q H2 (s1.trans s2)⟩
  · rename_i h1
    obtain ⟨dx, dy, h3, h4, h5⟩ := o2_some h1
    obtain ⟨dy', dz, h6, h7, h8⟩ := o2_some hf
    rw [h4] at h6
    cases (Option.some.inj h6)
    refine ⟨[], _, ρ, dx, g.zero, .zero, h3, fun x H1 s1 p1 => ⟨[], _, ρ, dy, (g.mono s1).zero, .zero, h4, fun y H2 s2 p2 =>
      hd x y dx dy true H2 _ ((RL.r0 p1).mono s2) (RL.r0 p2) h5 ⟨true, rfl, ?_⟩⟩⟩
    rw [if_pos rfl]
    exact ⟨[], _, ρ, dz, ((g.mono s1).mono s2).zero, .zero, h7, fun z H3 s3 p3 => hd' y z dy dz k H3 _ ((RL.r0 p2).mono s3) (RL.r0 p3) h8 ⟨k, rfl, q H3 ((s1.trans s2).trans s3)⟩⟩
/-! == of any trees without dicts -/
mutual
theorem R.toDp {H : Hp} : ∀ {v : V} {d : D}, R K H v d → d.canLay0 = true → Dp K H v d
  | _, _, .non, _ => .non
  | _, _, .bl b, _ => .bl b
  | _, _, .int i, _ => .int i
  | _, _, .str x, _ => .str x
  | _, _, .lst h a, f => .lst (SqL.of h) (RA.toDp a (by simpa [PyData.canLay0] using f))
  | _, _, .frz h a, f => by simp [PyData.canLay0] at f
  | _, _, .rng h, f => by simp [PyData.canLay0] at f
  | _, _, .tup h a, f => .tup (.inl (.inl h)) (RA.toDp a (by simpa [PyData.canLay0] using f))
  | _, _, .dk h a, f => by simp [PyData.canLay0] at f
  | _, _, .dt h a, f => by simp [PyData.canLay0] at f
theorem RA.toDp {H : Hp} : ∀ {v : List V} {d : List D}, RA K H v d → PyData.canLayAll0 d = true → DpAll K H v d
  | _, _, .nil, _ => .nil
  | _, _, .cons h t, f => by
    have f' := f
    simp only [PyData.canLayAll0, Bool.and_eq_true] at f'
    exact .cons (R.toDp h f'.1) (RA.toDp t f'.2)
end
/-! the comparisons of ints, and of trees that are alike -/
def noneD : D → Bool
  | .none => true
  | _ => false
/-- both can be laid down, are alike, the first one isn't None, and not deep -/
def cmpOk (x y : D) : Bool := x.canLay0 && y.canLay0 && PySem.W.alike x y && !noneD x && decide (x.depth ≤ 60)
def rDat (K : PySem.W.Frag) (g : D → D → Bool) : R2 := fun x y H Q => ∃ d e, Dp K H x d ∧ Dp K H y e ∧ cmpOk d e = true ∧ Q (.bl (g d e)) H
theorem cmpOk_facts {x y : D} (h : cmpOk x y = true) : x.canLay0 = true ∧ y.canLay0 = true ∧ PySem.W.alike x y = true ∧ x ≠ .none ∧ x.depth ≤ 60 := by
  unfold cmpOk at h
  simp only [Bool.and_eq_true, decide_eq_true_eq] at h
  refine ⟨h.1.1.1.1, h.1.1.1.2, h.1.1.2, ?_, h.2⟩
  intro e
  rw [e] at h
  simp [noneD] at h
theorem cmp_room {A : Around} {x y : D} (hu : A.units + 64 < cLine) (h : x.depth ≤ 60) : A.units + min x.depth y.depth < cLine := by
  have := Nat.min_le_left x.depth y.depth
  omega
def dLt : D → D → Option Bool
  | .int i, .int j => some (decide (i < j))
  | x, y => if cmpOk x y = true then some (PySem.W.dataLt x y) else none
theorem op_ltA {X : Cx} (hu : X.A.units + 64 < cLine) : OpR X (compareOp .Lt) (fun x y H Q => rI0 (fun i j => .bl (decide (i < j))) x y H Q ∨ rDat X.K (fun d e => PySem.W.dataLt d e) x y H Q) := op_lt.or (by
  intro pins s σ H x y v u Q I rx ry h
  obtain ⟨d, e, hd, he, ok, q⟩ := h
  obtain ⟨as, r1⟩ := Dp.reads I d x v hd rx
  obtain ⟨bs, r2⟩ := Dp.reads I e y u he ry
  have f := cmpOk_facts ok
  exact PySem.W.lt_data r1 r2 f.2.2.1 f.2.2.2.1 (cmp_room hu f.2.2.2.2) ⟨.bl _, H, I, rfl, q⟩)
theorem oc_lt {K : PySem.W.Frag} : OpC K (fun x y H Q => rI0 (fun i j => .bl (decide (i < j))) x y H Q ∨ rDat K (fun d e => PySem.W.dataLt d e) x y H Q) dLt := by
  intro x y dx dy b H Q rx ry h q
  unfold dLt at h
  split at h
  · cases (Option.some.inj h); exact .inl ⟨_, _, rx.int', ry.int', q⟩
  · obtain ⟨hc, e⟩ := ite_some h
    subst e
    have f := cmpOk_facts hc
    exact .inr ⟨dx, dy, rx.toDp f.1, ry.toDp f.2.1, hc, q⟩
def dLe : D → D → Option Bool
  | .int i, .int j => some (decide (i ≤ j))
  | x, y => if cmpOk x y = true then some (!PySem.W.dataLt y x) else none
theorem op_leA {X : Cx} (hu : X.A.units + 64 < cLine) : OpR X (compareOp .LtE) (fun x y H Q => rI0 (fun i j => .bl (decide (i ≤ j))) x y H Q ∨ rDat X.K (fun d e => !PySem.W.dataLt e d) x y H Q) := op_le.or (by
  intro pins s σ H x y v u Q I rx ry h
  obtain ⟨d, e, hd, he, ok, q⟩ := h
  obtain ⟨as, r1⟩ := Dp.reads I d x v hd rx
  obtain ⟨bs, r2⟩ := Dp.reads I e y u he ry
  have f := cmpOk_facts ok
  exact PySem.W.le_data r1 r2 f.2.2.1 f.2.2.2.1 (cmp_room hu f.2.2.2.2) ⟨.bl _, H, I, rfl, q⟩)
theorem oc_le {K : PySem.W.Frag} : OpC K (fun x y H Q => rI0 (fun i j => .bl (decide (i ≤ j))) x y H Q ∨ rDat K (fun d e => !PySem.W.dataLt e d) x y H Q) dLe := by
  intro x y dx dy b H Q rx ry h q
  unfold dLe at h
  split at h
  · cases (Option.some.inj h); exact .inl ⟨_, _, rx.int', ry.int', q⟩
  · obtain ⟨hc, e⟩ := ite_some h
    subst e
    have f := cmpOk_facts hc
    exact .inr ⟨dx, dy, rx.toDp f.1, ry.toDp f.2.1, hc, q⟩
def dGt : D → D → Option Bool
  | .int i, .int j => some (decide (j < i))
  | x, y => if cmpOk x y = true then some (PySem.W.dataLt y x) else none
theorem op_gtA {X : Cx} (hu : X.A.units + 64 < cLine) : OpR X (compareOp .Gt) (fun x y H Q => rI0 (fun i j => .bl (decide (j < i))) x y H Q ∨ rDat X.K (fun d e => PySem.W.dataLt e d) x y H Q) := op_gt.or (by
  intro pins s σ H x y v u Q I rx ry h
  obtain ⟨d, e, hd, he, ok, q⟩ := h
  obtain ⟨as, r1⟩ := Dp.reads I d x v hd rx
  obtain ⟨bs, r2⟩ := Dp.reads I e y u he ry
  have f := cmpOk_facts ok
  exact PySem.W.gt_data r1 r2 f.2.2.1 f.2.2.2.1 (cmp_room hu f.2.2.2.2) ⟨.bl _, H, I, rfl, q⟩)
theorem oc_gt {K : PySem.W.Frag} : OpC K (fun x y H Q => rI0 (fun i j => .bl (decide (j < i))) x y H Q ∨ rDat K (fun d e => PySem.W.dataLt e d) x y H Q) dGt := by
  intro x y dx dy b H Q rx ry h q
  unfold dGt at h
  split at h
  · cases (Option.some.inj h); exact .inl ⟨_, _, rx.int', ry.int', q⟩
  · obtain ⟨hc, e⟩ := ite_some h
    subst e
    have f := cmpOk_facts hc
    exact .inr ⟨dx, dy, rx.toDp f.1, ry.toDp f.2.1, hc, q⟩
def dGe : D → D → Option Bool
  | .int i, .int j => some (decide (j ≤ i))
  | x, y => if cmpOk x y = true then some (!PySem.W.dataLt x y) else none
theorem op_geA {X : Cx} (hu : X.A.units + 64 < cLine) : OpR X (compareOp .GtE) (fun x y H Q => rI0 (fun i j => .bl (decide (j ≤ i))) x y H Q ∨ rDat X.K (fun d e => !PySem.W.dataLt d e) x y H Q) := op_ge.or (by
  intro pins s σ H x y v u Q I rx ry h
  obtain ⟨d, e, hd, he, ok, q⟩ := h
  obtain ⟨as, r1⟩ := Dp.reads I d x v hd rx
  obtain ⟨bs, r2⟩ := Dp.reads I e y u he ry
  have f := cmpOk_facts ok
  exact PySem.W.ge_data r1 r2 f.2.2.1 f.2.2.2.1 (cmp_room hu f.2.2.2.2) ⟨.bl _, H, I, rfl, q⟩)
theorem oc_ge {K : PySem.W.Frag} : OpC K (fun x y H Q => rI0 (fun i j => .bl (decide (j ≤ i))) x y H Q ∨ rDat K (fun d e => !PySem.W.dataLt d e) x y H Q) dGe := by
  intro x y dx dy b H Q rx ry h q
  unfold dGe at h
  split at h
  · cases (Option.some.inj h); exact .inl ⟨_, _, rx.int', ry.int', q⟩
  · obtain ⟨hc, e⟩ := ite_some h
    subst e
    have f := cmpOk_facts hc
    exact .inr ⟨dx, dy, rx.toDp f.1, ry.toDp f.2.1, hc, q⟩
def dEq (x y : D) : Option Bool := if (SeqAt.shaped x && SeqAt.shaped y) = true then some (PyData.eqv x y) else none
def dNe (x y : D) : Option Bool := if (SeqAt.shaped x && SeqAt.shaped y) = true then some (!PyData.eqv x y) else none
theorem oc_eq : OpC K (rEqD K) dEq := by
  intro x y dx dy b H Q rx ry h q
  obtain ⟨hc, e⟩ := ite_some h
  subst e
  rw [Bool.and_eq_true] at hc
  exact ⟨dx, dy, rx.toDp (SeqAt.canLay_of_shaped hc.1), ry.toDp (SeqAt.canLay_of_shaped hc.2), hc.1, hc.2, q⟩
theorem oc_ne : OpC K (rNeD K) dNe := by
  intro x y dx dy b H Q rx ry h q
  obtain ⟨hc, e⟩ := ite_some h
  subst e
  rw [Bool.and_eq_true] at hc
  exact ⟨dx, dy, rx.toDp (SeqAt.canLay_of_shaped hc.1), ry.toDp (SeqAt.canLay_of_shaped hc.2), hc.1, hc.2, q⟩
/-! is None -/
def isNon : D → Bool
  | .none => true
  | _ => false
def eIsN (f : FE) : FE := fun ρ => o1 (f ρ) fun d => some (.bool (isNon d))
def eNotN (f : FE) : FE := fun ρ => o1 (f ρ) fun d => some (.bool (!isNon d))
theorem R.isNon {H : Hp} {v : V} {d : D} (h : R K H v d) : decide (v = V.non) = DS.isNon d := by
  cases h <;> rfl
theorem qe_isN {j pos'} (ha : PE X a (tD K (.br 1) fa ca)) : PE X (.Compare a [.Is] [.Constant .none j pos'] pos) (tD K κ (eIsN fa) []) := (pe_cmp (pc_isN ha) rfl).imp fun σ H Q ⟨B, L, ρ, d, g, es, hf, q⟩ => by
  obtain ⟨k, h1, h2⟩ := o1_some hf
  cases (Option.some.inj h2)
  exact ⟨[], _, ρ, k, g.zero, .zero, h1, fun x H1 s1 p1 => show Q _ H1 from (RL.r0 p1).isNon ▸ q _ H1 s1 (Post.of_flat (.bl _) rfl)⟩
theorem qe_notN {j pos'} (ha : PE X a (tD K (.br 1) fa ca)) : PE X (.Compare a [.IsNot] [.Constant .none j pos'] pos) (tD K κ (eNotN fa) []) := (pe_cmp (pc_notN ha) rfl).imp fun σ H Q ⟨B, L, ρ, d, g, es, hf, q⟩ => by
  obtain ⟨k, h1, h2⟩ := o1_some hf
  cases (Option.some.inj h2)
  exact ⟨[], _, ρ, k, g.zero, .zero, h1, fun x H1 s1 p1 => show Q _ H1 from (RL.r0 p1).isNon ▸ q _ H1 s1 (Post.of_flat (.bl _) rfl)⟩
/-! is True, is False -/
/-! in: a list of any trees; a tuple of flat ones -/
def scal1 : D → Bool
  | .none => true
  | .bool _ => true
  | .int _ => true
  | .str _ => true
  | _ => false
def dIn : D → D → Option Bool
  | x, .list ds => if (SeqAt.shaped x && SeqAt.shaped (.list ds)) = true then some (ds.any fun z => PyData.eqv z x) else none
  | x, .tuple ds => if (scal1 x && ds.all scal1) = true then some (ds.any fun z => PyData.eqv z x) else none
  | _, _ => none
def dNotIn (x y : D) : Option Bool := o1 (dIn x y) fun b => some (!b)
theorem R.flatV {H : Hp} {v : V} {d : D} (h : R K H v d) (f : scal1 d = true) : L2.flatV v = true := by
  cases h <;> first | rfl | cases f
theorem RA.flatV {H : Hp} : ∀ {v : List V} {d : List D}, RA K H v d → d.all scal1 = true → v.all L2.flatV = true
  | _, _, .nil, _ => rfl
  | _, _, .cons h t, f => by
    rw [List.all_cons, Bool.and_eq_true] at f ⊢
    exact ⟨h.flatV f.1, RA.flatV t f.2⟩
theorem eqV_eqv {H : Hp} {v w : V} {d e : D} (h : R K H v d) (h' : R K H w e) (f : scal1 d = true) (f' : scal1 e = true) : eqV v w = PyData.eqv d e := by
  cases h <;> first | (cases f; done) | (cases h' <;> first | (cases f'; done) | rfl | simp [eqV, PyData.eqv])
theorem any_eqv {H : Hp} {w : V} {e : D} (h' : R K H w e) (f' : scal1 e = true) : ∀ {v : List V} {d : List D}, RA K H v d → d.all scal1 = true → (v.any fun y => eqV y w) = d.any fun z => PyData.eqv z e
  | _, _, .nil, _ => rfl
  | _, _, .cons h t, f => by
    rw [List.all_cons, Bool.and_eq_true] at f
    rw [List.any_cons, List.any_cons, any_eqv h' f' t f.2, eqV_eqv h h' f.1 f']
theorem oc_in : OpC K (fun x y H Q => rInD K x y H Q ∨ rIn K false x y H Q) dIn := by
  intro x y dx dy b H Q rx ry h q
  unfold dIn at h
  split at h
  · obtain ⟨hc, e⟩ := ite_some h
    subst e
    have hc := (Bool.and_eq_true _ _).mp hc
    exact .inl ⟨dx, _, rx.toDp (SeqAt.canLay_of_shaped hc.1), ry.toDp (SeqAt.canLay_of_shaped hc.2), hc.1, hc.2, q⟩
  · obtain ⟨hc, e⟩ := ite_some h
    subst e
    have hc := (Bool.and_eq_true _ _).mp hc
    cases ry with
    | tup h1 h2 =>
      refine .inr ⟨_, _, rfl, .inr (.inl (.inl h1)), rx.flatV hc.1, h2.flatV hc.2, ?_⟩
      rw [if_neg (by decide)]
      unfold inV
      rw [any_eqv rx hc.1 h2 hc.2]
      exact q
  · cases h
theorem oc_notIn : OpC K (fun x y H Q => rNotInD K x y H Q ∨ rIn K true x y H Q) dNotIn := by
  intro x y dx dy b H Q rx ry h q
  obtain ⟨c, h', e⟩ := o1_some h
  clear h
  cases (Option.some.inj e)
  have h := h'
  unfold dIn at h
  split at h
  · obtain ⟨hc, e⟩ := ite_some h
    subst e
    have hc := (Bool.and_eq_true _ _).mp hc
    exact .inl ⟨dx, _, rx.toDp (SeqAt.canLay_of_shaped hc.1), ry.toDp (SeqAt.canLay_of_shaped hc.2), hc.1, hc.2, q⟩
  · obtain ⟨hc, e⟩ := ite_some h
    subst e
    have hc := (Bool.and_eq_true _ _).mp hc
    cases ry with
    | tup h1 h2 =>
      refine .inr ⟨_, _, rfl, .inr (.inl (.inl h1)), rx.flatV hc.1, h2.flatV hc.2, ?_⟩
      rw [if_pos rfl]
      unfold inV
      rw [any_eqv rx hc.1 h2 hc.2]
      exact q
  · cases h
end

/-! ### truth, and, or, not -/
def dTru : D → Option Bool
  | .none => some false
  | .bool b => some b
  | .int i => some (i != 0)
  | .str y => if y.length ≤ sz then some ((y.length : Int) != 0) else none
  | .list ds => some !ds.isEmpty
  | .tuple ds => some !ds.isEmpty
  | .dict _ => none
def tTru (f : FE) : FT := fun ρ => o1 (f ρ) dTru
def tAndD (f g : FT) : FT := fun ρ => match f ρ with
  | none => none
  | some true => g ρ
  | some false => some false
def tOrD (f g : FT) : FT := fun ρ => match f ρ with
  | none => none
  | some true => some true
  | some false => g ρ
def tNotD (f : FT) : FT := fun ρ => o1 (f ρ) fun b => some !b
def eAndD (f g : FE) : FE := fun ρ => match f ρ with
  | none => none
  | some d => match dTru d with
    | none => none
    | some true => g ρ
    | some false => some d
def eOrD (f g : FE) : FE := fun ρ => match f ρ with
  | none => none
  | some d => match dTru d with
    | none => none
    | some true => some d
    | some false => g ρ
def eIfD (c : FT) (f g : FE) : FE := fun ρ => match c ρ with
  | none => none
  | some true => f ρ
  | some false => g ρ
section
variable {X : Cx} {K : PySem.W.Frag} {κ : Mo} {pos : Pos} {a b : Expr} {fa fb : FE} {ca cb : Esc} {f g : FT} {rest : List Expr}
theorem RA.isEmpty {H : Hp} {v : List V} {d : List D} (h : RA K H v d) : (!v.isEmpty) = !d.isEmpty := by
  cases h <;> rfl
theorem tru_of {H : Hp} {v : V} {d : D} {k : Bool} (h : R K H v d) (e : dTru d = some k) : TruV K v H k := by
  cases h with
  | non => exact (Option.some.inj e).symm
  | bl b => exact (Option.some.inj e).symm
  | int i => exact (Option.some.inj e).symm
  | str x =>
    obtain ⟨h1, h2⟩ := ite_some e
    exact ⟨by rw [sz_eq]; exact h1, h2.symm⟩
  | lst h1 h2 => exact .inl ⟨_, SqL.of h1, by rw [h2.isEmpty]; exact (Option.some.inj e).symm⟩
  | tup h1 h2 => exact .inr (.inl ⟨_, .inl (.inl h1), by rw [h2.isEmpty]; exact (Option.some.inj e).symm⟩)
  | frz _ _ => cases e
  | rng _ => cases e
  | dk _ _ => cases e
  | dt _ _ => cases e
theorem qt_tru (ha : PE X a (tD K (.br 1) fa ca)) (he : ∀ whole, isTrue a X.env whole = (do let v ← whole; standAt a.pos; holding [v] (truthy v))) (hX : X.K = K := by rfl) : PT X a (tT K (tTru fa)) := (pt_truth ha he).imp fun σ H Q ⟨B, L, ρ, k, g, hf, q⟩ => by
  subst hX
  obtain ⟨d, h1, h2⟩ := o1_some hf
  exact ⟨[], _, ρ, d, g.zero, .zero, h1, fun x H1 s1 p1 => ⟨k, tru_of (RL.r0 p1) h2, q H1 s1⟩⟩
/-- a bool's own test -/
def dBl : D → Option Bool
  | .bool b => some b
  | _ => none
theorem qt_not (h : PT X a (tT K f)) : PT X (.UnaryOp .Not a pos) (tT K (tNotD f)) := (pt_not h).imp fun σ H Q ⟨B, L, ρ, k, g, hf, q⟩ => by
  obtain ⟨c, h1, h2⟩ := o1_some hf
  cases (Option.some.inj h2)
  exact ⟨B, L, ρ, c, g, h1, fun H1 s1 => q H1 s1⟩
theorem qw_and1 (ha : PT X a (tT K f)) : PW X (.BoolOp .And [a] pos) (tT K f) := pw_and1 ha
theorem qw_or1 (ha : PT X a (tT K f)) : PW X (.BoolOp .Or [a] pos) (tT K f) := pw_or1 ha
theorem qw_and (ha : PT X a (tT K f)) (hb : PW X (.BoolOp .And (b :: rest) pos) (tT K g)) : PW X (.BoolOp .And (a :: b :: rest) pos) (tT K (tAndD f g)) := (pw_and ha hb).imp fun σ H Q ⟨B, L, ρ, k, gd, hf, q⟩ => by
  unfold tAndD at hf
  split at hf
  · cases hf
  · exact ⟨B, L, ρ, true, gd, by assumption, fun H1 s1 => iteT <| ⟨B, L, ρ, k, gd.mono s1, hf, fun H2 s2 => q H2 (s1.trans s2)⟩⟩
  · cases (Option.some.inj hf)
    exact ⟨B, L, ρ, false, gd, by assumption, fun H1 s1 => iteF <| q H1 s1⟩
theorem qw_or (ha : PT X a (tT K f)) (hb : PW X (.BoolOp .Or (b :: rest) pos) (tT K g)) : PW X (.BoolOp .Or (a :: b :: rest) pos) (tT K (tOrD f g)) := (pw_or ha hb).imp fun σ H Q ⟨B, L, ρ, k, gd, hf, q⟩ => by
  unfold tOrD at hf
  split at hf
  · cases hf
  · cases (Option.some.inj hf)
    exact ⟨B, L, ρ, true, gd, by assumption, fun H1 s1 => iteT <| q H1 s1⟩
  · exact ⟨B, L, ρ, false, gd, by assumption, fun H1 s1 => iteF <| ⟨B, L, ρ, k, gd.mono s1, hf, fun H2 s2 => q H2 (s1.trans s2)⟩⟩
theorem qe_if {c : Expr} (hc : PT X c (tT K f)) (ha : PE X a (tD K κ fa ca)) (hb : PE X b (tD K κ fb cb)) : PE X (.IfExp c a b pos) (tD K κ (eIfD f fa fb) (ca ++ cb)) := (pe_ifExp hc ha hb).imp fun σ H Q ⟨B, L, ρ, d, g, es, hf, q⟩ => by
  have fr : ∀ {H1 H' : Hp} {v : V}, Same H H1 → Post K B H1 H' κ v d → Post K B H H' κ v d := fun {H1 H' v} s p => by
    cases κ with
    | br m => exact p
    | fr =>
      obtain ⟨o, h1, h2, h3⟩ := p
      exact ⟨o, fun a z => s.free (h1 a z), h2, h3⟩
    | fr2 =>
      obtain ⟨o, h1, h2, h3⟩ := p
      exact ⟨o, fun a z => s.free (h1 a z), h2, h3⟩
  unfold eIfD at hf
  split at hf
  · cases hf
  · exact ⟨B, L, ρ, true, g, by assumption, fun H1 s1 => iteT <| ⟨B, L, ρ, d, g.mono s1, es.left, hf, fun v H2 s2 p => q v H2 (s1.trans s2) (fr s1 p)⟩⟩
  · exact ⟨B, L, ρ, false, g, by assumption, fun H1 s1 => iteF <| ⟨B, L, ρ, d, g.mono s1, es.right, hf, fun v H2 s2 p => q v H2 (s1.trans s2) (fr s1 p)⟩⟩
/-- as values: read at any freedom -/
theorem qe_one {op} {m : Nat} (h : PE X a (tD K (.br m) fa ca)) : PE X (.BoolOp op [a] pos) (tD K (.br m) fa ca) := pe_one h
theorem qe_and {m : Nat} (ha : PE X a (tD K (.br m) fa ca)) (hb : PE X (.BoolOp .And (b :: rest) pos) (tD K (.br m) fb cb)) (hX : X.K = K := by rfl) : PE X (.BoolOp .And (a :: b :: rest) pos) (tD K (.br m) (eAndD fa fb) (ca ++ cb)) :=
  (pe_andT ha hb).imp fun σ H Q ⟨B, L, ρ, d, g, es, hf, q⟩ => by
  subst hX
  unfold eAndD at hf
  split at hf
  · cases hf
  · rename_i d' h1
    split at hf
    · cases hf
    · rename_i h2
      exact ⟨B, L, ρ, _, g, es.left, h1, fun x H1 s1 p1 => ⟨true, tru_of (RL.open p1) h2, iteT <| ⟨B, L, ρ, d, g.mono s1, es.right, hf, fun v H2 s2 p => q v H2 (s1.trans s2) p⟩⟩⟩
    · rename_i h2
      cases (Option.some.inj hf)
      exact ⟨B, L, ρ, _, g, es.left, h1, fun x H1 s1 p1 => ⟨false, tru_of (RL.open p1) h2, iteF <| q x H1 s1 p1⟩⟩
theorem qe_or {m : Nat} (ha : PE X a (tD K (.br m) fa ca)) (hb : PE X (.BoolOp .Or (b :: rest) pos) (tD K (.br m) fb cb)) (hX : X.K = K := by rfl) : PE X (.BoolOp .Or (a :: b :: rest) pos) (tD K (.br m) (eOrD fa fb) (ca ++ cb)) :=
  (pe_orT ha hb).imp fun σ H Q ⟨B, L, ρ, d, g, es, hf, q⟩ => by
  subst hX
  unfold eOrD at hf
  split at hf
  · cases hf
  · rename_i d' h1
    split at hf
    · cases hf
    · rename_i h2
      cases (Option.some.inj hf)
      exact ⟨B, L, ρ, _, g, es.left, h1, fun x H1 s1 p1 => ⟨true, tru_of (RL.open p1) h2, iteT <| q x H1 s1 p1⟩⟩
    · rename_i h2
      exact ⟨B, L, ρ, _, g, es.left, h1, fun x H1 s1 p1 => ⟨false, tru_of (RL.open p1) h2, iteF <| ⟨B, L, ρ, d, g.mono s1, es.right, hf, fun v H2 s2 p => q v H2 (s1.trans s2) p⟩⟩⟩
theorem qe_not (ha : PE X a (tD K (.br 1) fa ca)) (hX : X.K = K := by rfl) : PE X (.UnaryOp .Not a pos) (tD K κ (eB (tNotD (tTru fa))) []) := (pe_notT ha).imp fun σ H Q ⟨B, L, ρ, d, g, es, hf, q⟩ => by
  subst hX
  obtain ⟨k, h1, h2⟩ := o1_some hf
  cases (Option.some.inj h2)
  obtain ⟨c, h3, h4⟩ := o1_some h1
  cases (Option.some.inj h4)
  obtain ⟨e, h5, h6⟩ := o1_some h3
  exact ⟨[], _, ρ, e, g.zero, .zero, h5, fun x H1 s1 p1 => ⟨c, tru_of (RL.r0 p1) h6, q _ H1 s1 (Post.of_flat (.bl _) rfl)⟩⟩
end

/-! ### subscripts -/
def dIx : D → D → Option D
  | .list ds, .int i => atI ds i
  | .tuple ds, .int i => atI ds i
  | .dict ((.none, .list ds) :: _), .int i => atI ds i
  | _, _ => none
def eIx (f g : FE) : FE := fun ρ => o2 (f ρ) (g ρ) dIx
section
variable {X : Cx} {K : PySem.W.Frag} {κ : Mo} {pos : Pos} {a b : Expr} {fa fb : FE} {ca cb : Esc}
theorem at_len {xs : List V} {ds : List D} {i : Int} {d : D} (hl : xs.length = ds.length) (h : atI ds i = some d) : ∃ (j : Nat) (x : V), atI xs i = some x ∧ xs[j]? = some x ∧ ds[j]? = some d := by
  unfold atI at h
  obtain ⟨j, h1, h2⟩ := Option.bind_eq_some_iff.mp h
  obtain ⟨hj, _⟩ := List.getElem?_eq_some_iff.mp h2
  have hj' : j < xs.length := by omega
  refine ⟨j, xs[j], ?_, List.getElem?_eq_getElem hj', h2⟩
  unfold atI
  rw [hl, h1]
  exact List.getElem?_eq_getElem hj'
theorem RK.key {H : Hp} {kvs : List (Key × V)} {k e : D} {r : List (D × D)} (h : RK K H kvs ((k, e) :: r)) : k ≠ .none := by
  cases h with
  | cons _ _ =>
    rename_i k _ _ _ _
    cases k <;> simp [keyD]
theorem RT.key {H : Hp} {kvs : List (List Key × V)} {k e : D} {r : List (D × D)} (h : RT K H kvs ((k, e) :: r)) : k ≠ .none := by
  cases h with
  | cons _ _ => simp
theorem RL.frz {B : List Addr} {H : Hp} {m : Nat} {v : V} {e : List D} {r : List (D × D)} (h : RL K B H m v (.dict ((.none, .list e) :: r))) : ∃ a xs ds, v = .ref a ∧ (.list e : D) = .list ds ∧ SqL K H a xs ∧ RA K (hid B H) xs ds := by
  generalize hd : PyData.dict ((PyData.none, PyData.list e) :: r) = d at h
  cases h with
  | z h =>
    cases h with
    | frz h1 h2 =>
      simp at hd
      exact ⟨_, _, _, rfl, congrArg PyData.list hd.1, (same_unhid (B := B)).seq h1, h2⟩
    | dk _ h2 =>
      cases hd
      exact absurd rfl h2.key
    | dt _ h2 =>
      cases hd
      exact absurd rfl h2.key
    | _ => cases hd
  | l => cases hd
  | dk _ h2 =>
    cases hd
    exact absurd rfl h2.key
  | dt _ h2 =>
    cases hd
    exact absurd rfl h2.key
theorem qe_ix {m : Nat} (ha : PE X a (tD K (.br (m + 1)) fa ca)) (hb : PE X b (tD K (.br 1) fb cb)) (hs : PlainIx b) (hX : X.K = K := by rfl) : PE X (.Subscript a b pos) (tD K (.br m) (eIx fa fb) ca) := (pe_ix ix_seq ha hb hs).imp fun σ H Q ⟨B, L, ρ, d, g, es, hf, q⟩ => by
  subst hX
  obtain ⟨dx, dy, h1, h2, h3⟩ := o2_some hf
  refine ⟨B, L, ρ, dx, g, es, h1, fun x H1 s1 p1 => ⟨[], _, ρ, dy, (g.mono s1).zero, .zero, h2, fun y H2 s2 p2 => ?_⟩⟩
  have p1 : RL X.K B H2 (m + 1) x dx := RL.mono s2 (same_hid s2) p1
  unfold dIx at h3
  split at h3
  · obtain ⟨p, xs, rfl, e1, e2, e3⟩ := p1.list
    obtain ⟨j, z, f1, f2, f3⟩ := at_len e2 h3
    exact .inl ⟨p, xs, _, z, rfl, RL.int p2, SqL.of e1, f1, q z H2 (s1.trans s2) (e3 j z d f2 f3)⟩
  · obtain ⟨p, xs, rfl, e1, _, e3⟩ := p1.tup
    obtain ⟨j, z, f1, f2, f3⟩ := at_len e3.length h3
    obtain ⟨z', f4, f5⟩ := e3.get f3
    rw [f2] at f4; cases f4
    exact .inr (.inl ⟨p, xs, _, z, rfl, RL.int p2, e1, f1, q z H2 (s1.trans s2) (.z f5)⟩)
  · rename_i ds r i
    obtain ⟨p, xs, ds', rfl, e0, e1, e3⟩ := p1.frz
    cases e0
    obtain ⟨j, z, f1, f2, f3⟩ := at_len e3.length h3
    obtain ⟨z', f4, f5⟩ := e3.get f3
    rw [f2] at f4; cases f4
    exact .inl ⟨_, _, _, z, rfl, RL.int p2, e1, f1, q z H2 (s1.trans s2) (.z f5)⟩
  · cases h3
end
end DS
end

section
set_option Elab.async false
set_option linter.all false
set_option maxRecDepth 100000
/-! Part e: calls. -/
namespace DS
open PySem PySem.Spec PyProof.Rows L2

/-! ### a def of the program as a function on trees -/
abbrev Fn := List D → Option D
def spD (K : PySem.W.Frag) (n : Nat) (F : Fn) : Sp := fun vs H Q _ => ∃ B ds d, Ok B H ∧ RA K (hid B H) vs ds ∧ ds.length = n ∧ F ds = some d ∧ ∀ v H', Same H H' → R K (hid B H') v d → Q v H'
theorem spD_len {K : PySem.W.Frag} {n : Nat} {F : Fn} : ∀ vs H Q E, spD K n F vs H Q E → vs.length = n := fun vs H Q E ⟨B, ds, d, _, h2, h3, _⟩ => by
  rw [h2.length, h3]
def eCall (n : Nat) (F : Fn) (fs : FA) : FE := fun ρ => o1 (fs ρ) fun ds => if ds.length = n then F ds else none
section
variable {X : Cx} {K : PySem.W.Frag} {κ : Mo} {p pos : Pos} {e : Expr} {es : List Expr} {fs : FA} {c : Esc} {k n m : Nat} {f : Addr} {fd : FuncData} {ps : List Str} {F : Fn} {x : Str}
theorem qe_call (G : FnOk X.prog X.w X.K X.mg X.base CX0 k f fd ps (spD K n F)) (hr : Room k X.A) (hg : Gl X x) (hm : X.mg x = some (.ref f)) (hk : PySem.W.keepIn X.K (.ref f) = true) (hb : Binds X.K fd ps [])
    (ha : PA X (e :: es) (tDA K 0 fs c)) (hdb : (x == ("__debug__" : Str)) = false := by decide) (he : starEach (e :: es) X.env = (false, eval e X.env) :: starEach es X.env := by rfl) (hpl : (backTo pos (starEach es X.env)).any (·.1) = false := by rfl) :
    PE X (.Call (.Name x p) (e :: es) [] pos) (tD K (.br m) (eCall n F fs) c) := (pe_call (E := E0) G hr hg hm hk hb .nil pass0 ha hdb he hpl).imp fun σ H Q ⟨B, L, ρ, d, g, es, hf, q⟩ => by
  obtain ⟨ds, h1, h2⟩ := o1_some hf
  have hn : ds.length = n := by
    split at h2
    · assumption
    · cases h2
  rw [if_pos hn] at h2
  refine ⟨B, L, ρ, ds, g, es, h1, fun vs H1 s1 hl p1 => ?_⟩
  show spD K n F (vs ++ []) H1 Q E0
  rw [List.append_nil]
  exact ⟨B, ds, d, g.ok.mono s1, RA.of_get hl fun i x y e1 e2 => (p1 i x y e1 e2).r, hn, h2, fun v H' s2 r => q v H' (s1.trans s2) (.z r)⟩
end

/-! ### built-ins -/
/-- a built-in on values does what op does on trees; the answer is flat -/
def CallF (K : PySem.W.Frag) (r : List V → Hp → VK → Prop) (op : List D → Option D) : Prop := ∀ (vs : List V) (ds : List D) (d : D) (H : Hp) (Q : VK), RA K H vs ds → op ds = some d → (∀ v, R K H v d → flat d = true → Q v H) → r vs H Q
/-- .. makes something new -/
def CallD (K : PySem.W.Frag) (r : List V → Hp → VK → Prop) (op : List D → Option D) : Prop := ∀ (B : List Addr) (vs : List V) (ds : List D) (d : D) (H : Hp) (Q : VK), Ok B H → vs.length = ds.length → (∀ (i : Nat) (x : V) (y : D), vs[i]? = some x → ds[i]? = some y → RL K B H 1 x y) → op ds = some d →
  (∀ v H', Same H H' → (∀ κ : Mo, κ.one = true → Post K B H H' κ v d) → Q v H') → r vs H Q
def eCB (op : List D → Option D) (fs : FA) : FE := fun ρ => o1 (fs ρ) op
section
variable {X : Cx} {K : PySem.W.Frag} {κ : Mo} {p pos : Pos} {e : Expr} {es : List Expr} {fs : FA} {c : Esc} {x : Str} {id T : String} {r : List V → Hp → VK → Prop} {op : List D → Option D}
theorem flat_top {d : D} (h : flat d = true) : isTop d = false := by
  cases d <;> first | rfl | cases h
theorem cbF (hd : CallF K r op) {t : TE} (ht : t = tCB r (tDA K 1 fs c)) : ∀ σ H Q, tD K κ (eCB op fs) [] σ H Q → t σ H Q := by
  subst ht
  intro σ H Q ⟨B, L, ρ, d, g, es, hf, q⟩
  obtain ⟨ds, h1, h2⟩ := o1_some hf
  exact ⟨[], _, ρ, ds, g.zero, .zero, h1, fun vs H1 s1 hl p1 => hd vs ds d H1 Q (RA.of_get hl fun i x y e1 e2 => RL.r0 (p1 i x y e1 e2)) h2 fun v rv fl => q v H1 s1 (Post.of_flat (rv.hidF (g.ok.mono s1).noTup fl) (flat_top fl))⟩
theorem cbD (hd : CallD K r op) (hκ : κ.one = true) {t : TE} (ht : t = tCB r (tDA K 1 fs c)) : ∀ σ H Q, tD K κ (eCB op fs) c σ H Q → t σ H Q := by
  subst ht
  intro σ H Q ⟨B, L, ρ, d, g, es, hf, q⟩
  obtain ⟨ds, h1, h2⟩ := o1_some hf
  refine ⟨B, L, ρ, ds, g, es, h1, fun vs H1 s1 hl p1 => hd B vs ds d H1 Q (g.ok.mono s1) hl p1 h2 fun v H' s2 p2 => q v H' (s1.trans s2) ?_⟩
  have p := p2 κ hκ
  cases κ with
  | br m => exact p
  | fr =>
    obtain ⟨o, h1, h2, h3⟩ := p
    exact ⟨o, fun a z => s1.free (h1 a z), h2, h3⟩
  | fr2 => cases hκ
theorem qe_bF (hc : CallR X (.builtin id) r) (hd : CallF K r op) (hg : Gl X x) (hm : X.mg x = none) (hv : bootBuiltins x = some (.builtin id)) (ha : PA X (e :: es) (tDA K 1 fs c)) (hn : x ≠ "__name__" := by decide) (hdb : (x == ("__debug__" : Str)) = false := by decide)
    (he : starEach (e :: es) X.env = (false, eval e X.env) :: starEach es X.env := by rfl) (hpl : (backTo pos (starEach es X.env)).any (·.1) = false := by rfl) : PE X (.Call (.Name x p) (e :: es) [] pos) (tD K κ (eCB op fs) []) :=
  (pe_callB hc hg hm hv ha hn hdb he hpl).imp (cbF hd rfl)
theorem qe_bD (hc : CallR X (.builtin id) r) (hd : CallD K r op) (hg : Gl X x) (hm : X.mg x = none) (hv : bootBuiltins x = some (.builtin id)) (ha : PA X (e :: es) (tDA K 1 fs c)) (hκ : κ.one = true := by rfl) (hn : x ≠ "__name__" := by decide) (hdb : (x == ("__debug__" : Str)) = false := by decide)
    (he : starEach (e :: es) X.env = (false, eval e X.env) :: starEach es X.env := by rfl) (hpl : (backTo pos (starEach es X.env)).any (·.1) = false := by rfl) : PE X (.Call (.Name x p) (e :: es) [] pos) (tD K κ (eCB op fs) c) :=
  (pe_callB hc hg hm hv ha hn hdb he hpl).imp (cbD hd hκ rfl)
theorem qe_tF (hc : CallR X (.type T) r) (hd : CallF K r op) (hg : Gl X x) (hm : X.mg x = none) (hv : bootBuiltins x = some (.type T)) (ha : PA X (e :: es) (tDA K 1 fs c)) (hn : x ≠ "__name__" := by decide) (hdb : (x == ("__debug__" : Str)) = false := by decide)
    (he : starEach (e :: es) X.env = (false, eval e X.env) :: starEach es X.env := by rfl) (hpl : (backTo pos (starEach es X.env)).any (·.1) = false := by rfl) : PE X (.Call (.Name x p) (e :: es) [] pos) (tD K κ (eCB op fs) []) :=
  (pe_callTy hc hg hm hv ha hn hdb he hpl).imp (cbF hd rfl)
theorem qe_tD (hc : CallR X (.type T) r) (hd : CallD K r op) (hg : Gl X x) (hm : X.mg x = none) (hv : bootBuiltins x = some (.type T)) (ha : PA X (e :: es) (tDA K 1 fs c)) (hκ : κ.one = true := by rfl) (hn : x ≠ "__name__" := by decide) (hdb : (x == ("__debug__" : Str)) = false := by decide)
    (he : starEach (e :: es) X.env = (false, eval e X.env) :: starEach es X.env := by rfl) (hpl : (backTo pos (starEach es X.env)).any (·.1) = false := by rfl) : PE X (.Call (.Name x p) (e :: es) [] pos) (tD K κ (eCB op fs) c) :=
  (pe_callTy hc hg hm hv ha hn hdb he hpl).imp (cbD hd hκ rfl)
end
/-! one argument -/
def d1 (op : D → Option D) : List D → Option D
  | [x] => op x
  | _ => none
def d2 (op : D → D → Option D) : List D → Option D
  | [x, y] => op x y
  | _ => none
theorem d1_some {op : D → Option D} {ds : List D} {d : D} (h : d1 op ds = some d) : ∃ x, ds = [x] ∧ op x = some d := by
  unfold d1 at h
  split at h
  · exact ⟨_, rfl, h⟩
  · cases h
theorem d2_some {op : D → D → Option D} {ds : List D} {d : D} (h : d2 op ds = some d) : ∃ x y, ds = [x, y] ∧ op x y = some d := by
  unfold d2 at h
  split at h
  · exact ⟨_, _, rfl, h⟩
  · cases h
section
variable {K : PySem.W.Frag} {H : Hp} {B : List Addr}
theorem RA.one {vs : List V} {x : D} (h : RA K H vs [x]) : ∃ v, vs = [v] ∧ R K H v x := by
  cases h with
  | cons h t => cases t; exact ⟨_, rfl, h⟩
theorem RA.two {vs : List V} {x y : D} (h : RA K H vs [x, y]) : ∃ v w, vs = [v, w] ∧ R K H v x ∧ R K H w y := by
  cases h with
  | cons h t =>
    cases t with
    | cons h' t => cases t; exact ⟨_, _, rfl, h, h'⟩
theorem one_of {vs : List V} {x : D} (hl : vs.length = [x].length) (h : ∀ (i : Nat) (v : V) (y : D), vs[i]? = some v → [x][i]? = some y → RL K B H 1 v y) : ∃ v, vs = [v] ∧ RL K B H 1 v x := by
  match vs, hl with
  | [v], _ => exact ⟨v, rfl, h 0 v x rfl rfl⟩
/-! len, int, abs, min, max, sum, all, any -/
def dLen : D → Option D
  | .list ds => some (.int ds.length)
  | .tuple ds => some (.int ds.length)
  | .dict ((.none, .list ds) :: _) => some (.int ds.length)
  | _ => none
theorem cf_len : CallF K (fun xs H Q => ∃ p ys, xs = [.ref p] ∧ (SqL K H p ys ∨ SqT K H p ys) ∧ Q (.int ys.length) H) (d1 dLen) := by
  intro vs ds d H Q r h q
  obtain ⟨x, rfl, h'⟩ := d1_some h
  clear h
  have h := h'
  clear h'
  obtain ⟨v, rfl, rv⟩ := r.one
  unfold dLen at h
  split at h
  · cases rv with
    | lst h1 h2 =>
      cases (Option.some.inj h)
      exact ⟨_, _, rfl, .inl (SqL.of h1), by rw [h2.length]; exact q _ (.int _) rfl⟩
  · cases rv with
    | tup h1 h2 =>
      cases (Option.some.inj h)
      exact ⟨_, _, rfl, .inr (.inl (.inl h1)), by rw [h2.length]; exact q _ (.int _) rfl⟩
  · obtain ⟨a, xs, ds, rfl, e, h1, h2⟩ := RL.frz (B := []) (m := 0) (.z (by rw [hid_nil]; exact rv))
    cases e
    cases (Option.some.inj h)
    exact ⟨_, _, rfl, .inl h1, by rw [h2.length]; exact q _ (.int _) rfl⟩
  · cases h
def dInt : D → Option D
  | .int i => some (.int i)
  | .bool b => some (.int (if b then 1 else 0))
  | _ => none
theorem cf_int : CallF K (fun xs H Q => (∃ i, xs = [.int i] ∧ Q (.int i) H) ∨ ∃ k, xs = [.bl k] ∧ Q (.int (if k then 1 else 0)) H) (d1 dInt) := by
  intro vs ds d H Q r h q
  obtain ⟨x, rfl, h'⟩ := d1_some h
  clear h
  have h := h'
  clear h'
  obtain ⟨v, rfl, rv⟩ := r.one
  unfold dInt at h
  split at h
  · cases (Option.some.inj h)
    exact .inl ⟨_, by rw [rv.int'], q _ (.int _) rfl⟩
  · cases (Option.some.inj h)
    exact .inr ⟨_, by rw [rv.bl'], q _ (.int _) rfl⟩
  · cases h
def dAbs : D → Option D
  | .int i => some (.int (if i < 0 then -i else i))
  | _ => none
theorem cf_abs : CallF K (fun xs H Q => ∃ i, xs = [.int i] ∧ Q (.int (if i < 0 then -i else i)) H) (d1 dAbs) := by
  intro vs ds d H Q r h q
  obtain ⟨x, rfl, h'⟩ := d1_some h
  clear h
  have h := h'
  clear h'
  obtain ⟨v, rfl, rv⟩ := r.one
  unfold dAbs at h
  split at h
  · cases (Option.some.inj h)
    exact ⟨_, by rw [rv.int'], q _ (.int _) rfl⟩
  · cases h
def dMax2 : D → D → Option D
  | .int i, .int j => some (.int (if j > i then j else i))
  | _, _ => none
def dMin2 : D → D → Option D
  | .int i, .int j => some (.int (if j < i then j else i))
  | _, _ => none
theorem cf_max2 : CallF K (fun xs H Q => ∃ i j, xs = [.int i, .int j] ∧ Q (.int (if j > i then j else i)) H) (d2 dMax2) := by
  intro vs ds d H Q r h q
  obtain ⟨x, y, rfl, h'⟩ := d2_some h
  clear h
  have h := h'
  clear h'
  obtain ⟨v, w, rfl, rv, rw'⟩ := r.two
  unfold dMax2 at h
  split at h
  · cases (Option.some.inj h)
    exact ⟨_, _, by rw [rv.int', rw'.int'], q _ (.int _) rfl⟩
  · cases h
theorem cf_min2 : CallF K (fun xs H Q => ∃ i j, xs = [.int i, .int j] ∧ Q (.int (if j < i then j else i)) H) (d2 dMin2) := by
  intro vs ds d H Q r h q
  obtain ⟨x, y, rfl, h'⟩ := d2_some h
  clear h
  have h := h'
  clear h'
  obtain ⟨v, w, rfl, rv, rw'⟩ := r.two
  unfold dMin2 at h
  split at h
  · cases (Option.some.inj h)
    exact ⟨_, _, by rw [rv.int', rw'.int'], q _ (.int _) rfl⟩
  · cases h
/-- the ints of a list -/
def intsD : List D → Option (List Int)
  | [] => some []
  | .int i :: r => o1 (intsD r) fun is => some (i :: is)
  | _ => none
theorem intsD_some : ∀ {ds : List D} {is : List Int}, intsD ds = some is → ds = is.map PyData.int
  | [], is, h => by cases (Option.some.inj h); rfl
  | .int i :: r, is, h => by
    obtain ⟨js, h1, h2⟩ := o1_some (show o1 (intsD r) (fun is => some (i :: is)) = some is from h)
    cases (Option.some.inj h2)
    rw [intsD_some h1]; rfl
  | .none :: _, _, h => by cases h
  | .bool _ :: _, _, h => by cases h
  | .str _ :: _, _, h => by cases h
  | .list _ :: _, _, h => by cases h
  | .tuple _ :: _, _, h => by cases h
  | .dict _ :: _, _, h => by cases h
def bools : List D → Option (List Bool)
  | [] => some []
  | .bool i :: r => o1 (bools r) fun is => some (i :: is)
  | _ => none
theorem bools_some : ∀ {ds : List D} {is : List Bool}, bools ds = some is → ds = is.map PyData.bool
  | [], is, h => by cases (Option.some.inj h); rfl
  | .bool i :: r, is, h => by
    obtain ⟨js, h1, h2⟩ := o1_some (show o1 (bools r) (fun is => some (i :: is)) = some is from h)
    cases (Option.some.inj h2)
    rw [bools_some h1]; rfl
  | .none :: _, _, h => by cases h
  | .int _ :: _, _, h => by cases h
  | .str _ :: _, _, h => by cases h
  | .list _ :: _, _, h => by cases h
  | .tuple _ :: _, _, h => by cases h
  | .dict _ :: _, _, h => by cases h
def dSum : D → Option D
  | .list ds => o1 (intsD ds) fun is => some (.int is.sum)
  | .tuple ds => o1 (intsD ds) fun is => some (.int is.sum)
  | _ => none
/-- sum(xs) of a list or a tuple of ints -/
def rSumA (K : PySem.W.Frag) : List V → Hp → VK → Prop := fun vs H Q => ∃ (a : Addr) (ns : List Int), vs = [V.ref a] ∧ (SqL K H a (ns.map V.int) ∨ SqT K H a (ns.map V.int)) ∧ Q (.int ns.sum) H
theorem sum_rawT {prog : Program} {w : World} {A : Around} {E : Value → Shared → Prop} {s : Shared} {l : Addr} {its : List Value} {ns : List Int} {Q : Value → Shared → Prop} (hh : A.handled = none) (hl : s.heap.IsTuple l its.toArray) (hi : IntsAre its ns)
    (h : ∀ h' tk t', (∀ b o, s.heap.get? b = some o → h'.get? b = some o) → Q (.int ns.sum t') { s with heap := h', toks := tk }) : wpAny (model prog w) A (call (.builtin "sum") [.ref l]) Q E s := by
  obtain ⟨xs, e⟩ := hi.allInts.items
  have hn : numsOf (intItems xs).toList = ns := by rw [← e]; exact hi.numsOf
  rw [nums_intItems] at hn
  rw [e] at hl
  refine PySem.W.ktm_sumG hh hl fun h' tk t' hk => ?_
  have := h h' tk t' hk
  rw [preSum_eq, List.take_of_length_le (by simp), hn]; exact this
theorem cr_sumA {X : Cx} (hc : X.calm = true) : CallR X (.builtin "sum") (rSumA X.K) := by
  intro pins s σ H vs us Q I r h
  obtain ⟨a, ns, rfl, hs, q⟩ := h
  rw [Vals.ref1 r]
  rcases hs with hs | hs
  · obtain ⟨its, rv, hl, _⟩ := I.list hs
    exact sum_raw (I.ok.hd hc) hl.isList rv.ints fun h' tk t' hk => ⟨.int _, H, I.kept hk, ⟨_, rfl⟩, q⟩
  · obtain ⟨its, rv, hl, _⟩ := I.tuple hs
    exact sum_rawT (I.ok.hd hc) hl rv.ints fun h' tk t' hk => ⟨.int _, H, I.kept hk, ⟨_, rfl⟩, q⟩
theorem cf_sum : CallF K (rSumA K) (d1 dSum) := by
  intro vs ds d H Q r h q
  obtain ⟨x, rfl, h'⟩ := d1_some h
  clear h
  have h := h'
  clear h'
  obtain ⟨v, rfl, rv⟩ := r.one
  unfold dSum at h
  split at h
  · obtain ⟨is, h1, h2⟩ := o1_some h
    cases (Option.some.inj h2)
    cases rv with
    | lst e1 e2 =>
      rw [intsD_some h1] at e2
      have e3 := e2.ints
      subst e3
      exact ⟨_, _, rfl, .inl (SqL.of e1), q _ (.int _) rfl⟩
  · obtain ⟨is, h1, h2⟩ := o1_some h
    cases (Option.some.inj h2)
    cases rv with
    | tup e1 e2 =>
      rw [intsD_some h1] at e2
      have e3 := e2.ints
      subst e3
      exact ⟨_, _, rfl, .inr (.inl (.inl e1)), q _ (.int _) rfl⟩
  · cases h
def dAll : D → Option D
  | .list ds => o1 (bools ds) fun is => some (.bool (is.all id))
  | _ => none
def dAny : D → Option D
  | .list ds => o1 (bools ds) fun is => some (.bool (is.any id))
  | _ => none
theorem cf_all : CallF K (rAll K) (d1 dAll) := by
  intro vs ds d H Q r h q
  obtain ⟨x, rfl, h'⟩ := d1_some h
  clear h
  have h := h'
  clear h'
  obtain ⟨v, rfl, rv⟩ := r.one
  unfold dAll at h
  split at h
  · obtain ⟨is, h1, h2⟩ := o1_some h
    cases (Option.some.inj h2)
    cases rv with
    | lst e1 e2 =>
      rw [bools_some h1] at e2
      have e3 := e2.bools
      subst e3
      exact ⟨_, _, rfl, SqL.of e1, q _ (.bl _) rfl⟩
  · cases h
theorem cf_any : CallF K (rAny K) (d1 dAny) := by
  intro vs ds d H Q r h q
  obtain ⟨x, rfl, h'⟩ := d1_some h
  clear h
  have h := h'
  clear h'
  obtain ⟨v, rfl, rv⟩ := r.one
  unfold dAny at h
  split at h
  · obtain ⟨is, h1, h2⟩ := o1_some h
    cases (Option.some.inj h2)
    cases rv with
    | lst e1 e2 =>
      rw [bools_some h1] at e2
      have e3 := e2.bools
      subst e3
      exact ⟨_, _, rfl, SqL.of e1, q _ (.bl _) rfl⟩
  · cases h
/-! tuple(xs), list(xs) -/
def dTuple : D → Option D
  | .list ds => some (.tuple ds)
  | .tuple ds => some (.tuple ds)
  | _ => none
theorem cd_tuple : CallD K (fun xs H Q => ∃ p ys, xs = [.ref p] ∧ ((SqL K H p ys ∧ ∀ l, H l = none → Q (.ref l) (upd H l (.tup ys))) ∨ (SqT K H p ys ∧ Q (.ref p) H))) (d1 dTuple) := by
  intro B vs ds d H Q ok hl r h q
  obtain ⟨x, rfl, h'⟩ := d1_some h
  clear h
  have h := h'
  clear h'
  obtain ⟨v, rfl, rv⟩ := one_of hl r
  unfold dTuple at h
  split at h
  · cases (Option.some.inj h)
    obtain ⟨p, ys, rfl, h1, h2⟩ := rv.list1
    refine ⟨p, ys, rfl, .inl ⟨SqL.of h1, fun l hn => ?_⟩⟩
    have s := same_upd (o := HO.tup ys) hn
    refine q _ _ s fun κ _ => Post.of_flat (.tup (a := l) (xs := ys) ?_ (h2.mono (same_hid s))) rfl
    rw [hid_out (ok.trk.new hn), upd_same]
  · cases (Option.some.inj h)
    obtain ⟨p, ys, rfl, h1, h1', h2⟩ := rv.tup
    exact ⟨p, ys, rfl, .inr ⟨h1, q _ _ (Same.refl H) fun κ _ => Post.of_flat (.tup h1' h2) rfl⟩⟩
  · cases h
def dList : D → Option D
  | .list ds => some (.list ds)
  | .tuple ds => some (.list ds)
  | _ => none
theorem same_hidC {p : Addr} {o : HO} (hn : H p = none) : Same (hid B H) (hid (p :: B) (upd H p o)) := same_hidW (same_upd hn) fun b hb => by
  rcases List.mem_cons.mp hb with e | hb
  · rw [e]; exact .inr hn
  · exact .inl hb
theorem cd_list : CallD K (fun xs H Q => ∃ p ys, xs = [.ref p] ∧ (SqL K H p ys ∨ SqT K H p ys) ∧ ∀ l, H l = none → Q (.ref l) (upd H l (.lst ys))) (d1 dList) := by
  intro B vs ds d H Q ok hl r h q
  obtain ⟨x, rfl, h'⟩ := d1_some h
  clear h
  have h := h'
  clear h'
  obtain ⟨v, rfl, rv⟩ := one_of hl r
  unfold dList at h
  split at h
  · cases (Option.some.inj h)
    obtain ⟨p, ys, rfl, h1, h2⟩ := rv.list1
    exact ⟨p, ys, rfl, .inl (SqL.of h1), fun l hn => q _ _ (same_upd hn) fun κ hκ => Post.new ok.trk hn upd_same (h2.mono (same_hidC hn)) hκ⟩
  · cases (Option.some.inj h)
    obtain ⟨p, ys, rfl, h1, h1', h2⟩ := rv.tup
    exact ⟨p, ys, rfl, .inr h1, fun l hn => q _ _ (same_upd hn) fun κ hκ => Post.new ok.trk hn upd_same (h2.mono (same_hidC hn)) hκ⟩
  · cases h
end
/-! isinstance(x, T) -/
def isTy : D → String → Option Bool
  | .none, n => kitB "NoneType" n
  | .bool _, n => kitB "bool" n
  | .int _, n => kitB "int" n
  | .str _, n => kitB "str" n
  | .list _, n => kitB "list" n
  | .tuple _, n => kitB "tuple" n
  | .dict _, _ => none
def eIsi (n : String) (f : FE) : FE := fun ρ => o1 (f ρ) fun d => o1 (isTy d n) fun b => some (.bool b)
section
variable {X : Cx} {K : PySem.W.Frag} {κ : Mo} {p pos p2 : Pos} {a : Expr} {fa : FE} {c : Esc} {n : String} {y : Str}
theorem seqT_ty {H : Hp} {q : Addr} {xs : List V} (h : SqT K H q xs) : TyX K H (.ref q) (.type "tuple") := by
  rcases h with (h | ⟨o, h⟩) | ⟨o, its, n, h1, h2, _⟩
  · exact .base (.tup h)
  · exact .fTuple h
  · exact .kTuple h1 h2
theorem isTy_ok {H : Hp} {v : V} {d : D} {b : Bool} (r : R K H v d) (h : isTy d n = some b) : ∃ t, TyX K H v t ∧ PySem.W.kitOne K t (.type n) = some b := by
  cases r with
  | non => exact ⟨_, .base .non, kit_ty h⟩
  | bl x => exact ⟨_, .base (.bl x), kit_ty h⟩
  | int x => exact ⟨_, .base (.int x), kit_ty h⟩
  | str x => exact ⟨_, .base (.str x), kit_ty h⟩
  | lst h1 _ => exact ⟨_, .base (.lst h1), kit_ty h⟩
  | tup h1 _ => exact ⟨_, seqT_ty (.inl (.inl h1)), kit_ty h⟩
  | frz _ _ => cases h
  | rng _ => cases h
  | dk _ _ => cases h
  | dt _ _ => cases h
theorem qe_isi (hg : Gl X "isinstance") (hm : X.mg "isinstance" = none) (ha : PE X a (tD K (.br 1) fa c)) (hg2 : Gl X y) (hm2 : X.mg y = none) (hv2 : bootBuiltins y = some (.type n)) (hX : X.K = K := by rfl) (hn : y ≠ "__name__" := by decide) (hd : (y == ("__debug__" : Str)) = false := by decide)
    (he : starEach [a, .Name y p2] X.env = (false, eval a X.env) :: starEach [.Name y p2] X.env := by rfl) (he2 : starEach [.Name y p2] X.env = (false, eval (.Name y p2) X.env) :: starEach [] X.env := by rfl) (hpl : (backTo pos (starEach [.Name y p2] X.env)).any (·.1) = false := by rfl) :
    PE X (.Call (.Name "isinstance" p) [a, .Name y p2] [] pos) (tD K κ (eIsi n fa) []) := by
  subst hX
  refine (pe_callB call_isi hg hm (by decide +kernel) (pa_cons ha (pa_cons (pe_bltn (v := .ty n) hg2 hm2 hv2 rfl hn hd) pa_nil he2) he) (by decide) (by decide) he hpl).imp fun σ H Q ⟨B, L, ρ, d, g, es, hf, q⟩ => ?_
  obtain ⟨dx, h1, h2⟩ := o1_some hf
  obtain ⟨b, h3, h4⟩ := o1_some h2
  cases (Option.some.inj h4)
  refine ⟨[], _, ρ, dx, g.zero, .zero, h1, fun x H1 s1 p1 => ?_⟩
  obtain ⟨t, h5, h6⟩ := isTy_ok (RL.r0 p1) h3
  exact ⟨x, .ty n, t, .type n, b, rfl, .ty n, h5, h6, q _ H1 s1 (Post.of_flat (.bl b) rfl)⟩
end

/-! ### slices -/
def cutD (ds : List D) (lo hi : Option Int) : List D := (ds.drop (HT.sIx ds.length 0 lo)).take (HT.sIx ds.length ds.length hi - HT.sIx ds.length 0 lo)
abbrev FO := PEnv → Option (Option Int)
def oNone : FO := fun _ => some none
def oSome (f : FE) : FO := fun ρ => o1 (f ρ) fun d => match d with
  | .int i => some (some i)
  | _ => none
def dSlice (lo hi : Option Int) : D → Option D
  | .list ds => some (.list (cutD ds lo hi))
  | .tuple ds => some (.tuple (cutD ds lo hi))
  | _ => none
def eSl (f : FE) (lo hi : FO) : FE := fun ρ => match f ρ, lo ρ, hi ρ with
  | some d, some l, some h => dSlice l h d
  | _, _, _ => none
def tO (K : PySem.W.Frag) (f : FO) : TO := fun σ H Q => ∃ B L ρ o, Good K B L σ H ρ ∧ f ρ = some o ∧ ∀ H', Same H H' → Q o H'
section
variable {X : Cx} {K : PySem.W.Frag} {κ : Mo} {pos p2 : Pos} {a e : Expr} {lo hi : Option Expr} {fa : FE} {fl fh : FO} {c : Esc}
theorem _root_.L2.PO.imp {e : Option Expr} {t t' : TO} (h : PO X e t) (w : ∀ σ H Q, t' σ H Q → t σ H Q) : PO X e t' := ⟨fun pins s σ H Q I q => h.run pins s σ H Q I (w σ H Q q)⟩
theorem qo_none : PO X none (tO K oNone) := po_none.imp fun σ H Q ⟨B, L, ρ, o, g, h, q⟩ => by
  cases (Option.some.inj h)
  exact q H (Same.refl H)
theorem qo_some (h : PE X e (tD K (.br 1) fa c)) : PO X (some e) (tO K (oSome fa)) := (po_some h).imp fun σ H Q ⟨B, L, ρ, o, g, h, q⟩ => by
  obtain ⟨d, h1, h2⟩ := o1_some h
  refine ⟨[], _, ρ, d, g.zero, .zero, h1, fun v H1 s1 p1 => ?_⟩
  split at h2
  · cases (Option.some.inj h2)
    exact ⟨_, RL.int p1, q H1 s1⟩
  · cases h2
theorem cutV_R {H : Hp} {xs : List V} {ds : List D} (h : RA K H xs ds) (lo hi : Option Int) : RA K H (cutV xs lo hi) (cutD ds lo hi) := by
  unfold cutV cutD
  rw [h.length]
  exact (h.drop _).take _
theorem qe_sl (ha : PE X a (tD K (.br 1) fa c)) (hl : PO X lo (tO K fl)) (hh : PO X hi (tO K fh)) (hX : X.K = K := by rfl) (hκ : κ.one = true := by rfl) : PE X (.Subscript a (.Slice lo hi none p2) pos) (tD K κ (eSl fa fl fh) c) := by
  subst hX
  refine (pe_slice (sl_list.or sl_tupA) ha hl hh).imp fun σ H Q ⟨B, L, ρ, d, g, es, hf, q⟩ => ?_
  unfold eSl at hf
  split at hf
  · rename_i dx l h e1 e2 e3
    refine ⟨B, L, ρ, dx, g, es, e1, fun x H1 s1 p1 => ⟨B, L, ρ, l, g.mono s1, e2, fun H2 s2 => ⟨B, L, ρ, h, (g.mono s1).mono s2, e3, fun H3 s3 => ?_⟩⟩⟩
    have s13 := s2.trans s3
    have ok := ((g.ok.mono s1).mono s13)
    have p1 : RL X.K B H3 1 x dx := RL.mono s13 (same_hid s13) p1
    unfold dSlice at hf
    split at hf
    · cases (Option.some.inj hf)
      obtain ⟨p, ys, rfl, h1, h2⟩ := p1.list1
      refine .inl ⟨p, ys, rfl, SqL.of h1, fun t nt => q _ _ ((s1.trans s13).trans (same_upd nt)) ?_⟩
      have := Post.new (κ := κ) (H' := upd H3 t (.lst (cutV ys l h))) g.ok.trk ((s1.trans s13).free nt) upd_same ((cutV_R h2 l h).mono (same_hidC nt)) hκ
      exact this
    · cases (Option.some.inj hf)
      obtain ⟨p, ys, rfl, h1, h1', h2⟩ := p1.tup
      refine .inr ⟨p, ys, rfl, h1, fun hw => ?_, fun _ t nt => ?_⟩
      · have e : ∀ {ds : List D}, ds.length = ys.length → cutD ds l h = ds := fun {ds} e => by
          unfold cutD
          rw [e, hw.1, hw.2, List.drop_zero, Nat.sub_zero, ← e, List.take_length]
        rw [e h2.length.symm] at q
        exact q _ _ (s1.trans s13) (Post.of_flat (.tup h1' h2) rfl)
      · have s := same_upd (o := HO.tup (cutV ys l h)) nt
        refine q _ _ ((s1.trans s13).trans s) (Post.of_flat (.tup (a := t) (xs := cutV ys l h) ?_ ((cutV_R h2 l h).mono (same_hid s))) rfl)
        rw [hid_out (ok.trk.new nt), upd_same]
    · cases hf
  · cases hf
end
end DS
end

section
set_option Elab.async false
set_option linter.all false
set_option maxRecDepth 100000
/-! Part f: targets, what is walked, comprehensions. -/
namespace DS
open PySem PySem.Spec PyProof.Rows L2

/-! ### targets: names and tuples of them -/
inductive Tg where
  | nm (i : Nat)
  | tp (ts : List Tg)
mutual
def Tg.go : Tg → D → Option (List (Nat × D))
  | .nm i, d => some [(i, d)]
  | .tp ts, .tuple ds => Tg.gos ts ds
  | .tp _, _ => none
def Tg.gos : List Tg → List D → Option (List (Nat × D))
  | [], [] => some []
  | t :: ts, d :: ds => match Tg.go t d, Tg.gos ts ds with
    | some l, some m => some (l ++ m)
    | _, _ => none
  | _, _ => none
end
mutual
def Tg.ix : Tg → List Nat
  | .nm i => [i]
  | .tp ts => Tg.ixs ts
def Tg.ixs : List Tg → List Nat
  | [] => []
  | t :: ts => Tg.ix t ++ Tg.ixs ts
end
mutual
theorem Tg.go_ix : ∀ {t : Tg} {d : D} {l : List (Nat × D)}, t.go d = some l → l.map (·.1) = t.ix
  | .nm i, d, l, h => by
    unfold Tg.go at h
    cases (Option.some.inj h); rfl
  | .tp ts, .tuple ds, l, h => by
    unfold Tg.go at h
    unfold Tg.ix
    exact Tg.gos_ix h
  | .tp ts, .none, l, h => by unfold Tg.go at h; cases h
  | .tp ts, .bool _, l, h => by unfold Tg.go at h; cases h
  | .tp ts, .int _, l, h => by unfold Tg.go at h; cases h
  | .tp ts, .str _, l, h => by unfold Tg.go at h; cases h
  | .tp ts, .list _, l, h => by unfold Tg.go at h; cases h
  | .tp ts, .dict _, l, h => by unfold Tg.go at h; cases h
theorem Tg.gos_ix : ∀ {t : List Tg} {d : List D} {l : List (Nat × D)}, Tg.gos t d = some l → l.map (·.1) = Tg.ixs t
  | [], [], l, h => by
    unfold Tg.gos at h
    cases (Option.some.inj h); rfl
  | t :: ts, d :: ds, l, h => by
    unfold Tg.gos at h
    split at h
    · rename_i l1 l2 h1 h2
      cases (Option.some.inj h)
      unfold Tg.ixs
      rw [List.map_append, Tg.go_ix h1, Tg.gos_ix h2]
    · cases h
  | [], _ :: _, l, h => by unfold Tg.gos at h; cases h
  | _ :: _, [], l, h => by unfold Tg.gos at h; cases h
end
def setsV (σ : St) (l : List (Nat × V)) : St := l.foldl (fun s p => s.set p.1 (some p.2)) σ
def setsD (ρ : PEnv) (l : List (Nat × D)) : PEnv := l.foldl (fun s p => s.set p.1 (some p.2)) ρ
inductive RS (K : PySem.W.Frag) (H : Hp) : List (Nat × V) → List (Nat × D) → Prop
  | nil : RS K H [] []
  | cons {i : Nat} {v : V} {d : D} {l : List (Nat × V)} {m : List (Nat × D)} : R K H v d → RS K H l m → RS K H ((i, v) :: l) ((i, d) :: m)
theorem RS.append {K : PySem.W.Frag} {H : Hp} : ∀ {l l' : List (Nat × V)} {m m' : List (Nat × D)}, RS K H l m → RS K H l' m' → RS K H (l ++ l') (m ++ m')
  | _, _, _, _, .nil, q => q
  | _, _, _, _, .cons h t, q => .cons h (RS.append t q)
theorem RS.ix {K : PySem.W.Frag} {H : Hp} : ∀ {l : List (Nat × V)} {m : List (Nat × D)}, RS K H l m → l.map (·.1) = m.map (·.1)
  | _, _, .nil => rfl
  | _, _, .cons _ t => by rw [List.map_cons, List.map_cons, RS.ix t]
theorem setsV_append (σ : St) (l m : List (Nat × V)) : setsV σ (l ++ m) = setsV (setsV σ l) m := by
  unfold setsV; rw [List.foldl_append]
/-- the reading of a target -/
def tG (K : PySem.W.Frag) (t : Tg) : TG := fun v σ H Q => ∃ B d l, R K (hid B H) v d ∧ t.go d = some l ∧ ∀ m, RS K (hid B H) m l → Q (setsV σ m) H
def tGs (K : PySem.W.Frag) (ts : List Tg) : TGs := fun vs σ H Q => ∃ B ds l, RA K (hid B H) vs ds ∧ Tg.gos ts ds = some l ∧ ∀ m, RS K (hid B H) m l → Q (setsV σ m) H
theorem _root_.L2.PG.imp {X : Cx} {e : Expr} {t t' : TG} (h : PG X e t) (w : ∀ v σ H Q, t' v σ H Q → t v σ H Q) : PG X e t' := ⟨fun pins s σ H v u Q I r q => h.run pins s σ H v u Q I r (w v σ H Q q)⟩
theorem _root_.L2.PGs.imp {X : Cx} {e : List Expr} {t t' : TGs} (h : PGs X e t) (w : ∀ v σ H Q, t' v σ H Q → t v σ H Q) : PGs X e t' := ⟨fun pins s σ H v u Q I r q => h.run pins s σ H v u Q I r (w v σ H Q q)⟩
section
variable {X : Cx} {K : PySem.W.Frag} {pos : Pos}
theorem gg_of {e : Expr} {i : Nat} (h : PG X e (gName i)) : PG X e (tG K (.nm i)) := h.imp fun v σ H Q ⟨B, d, l, h1, h2, q⟩ => by
  unfold Tg.go at h2
  cases (Option.some.inj h2)
  exact q [(i, v)] (.cons h1 .nil)
theorem gg (i : Nat) {x : Str} (hN : X.N.Nodup) (hi : X.N[i]? = some x := by rfl) (hx : Loc X.env.scope x := by first | exact Or.inl rfl | exact Or.inr rfl) (hf : X.fn x = true ∨ X.env.scope.names.lookup x = some .local := by first | exact .inl rfl | exact .inr rfl) : PG X (.Name x pos) (tG K (.nm i)) := gg_of (pg_name hN hi hx hf)
theorem ggs_nil : PGs X [] (tGs K []) := pgs_nil.imp fun v σ H Q ⟨B, ds, l, h1, h2, q⟩ => by
  cases ds with
  | nil =>
    cases h1
    unfold Tg.gos at h2
    cases (Option.some.inj h2)
    exact ⟨rfl, q [] .nil⟩
  | cons _ _ => unfold Tg.gos at h2; cases h2
theorem ggs_cons {e : Expr} {es : List Expr} {t : Tg} {ts : List Tg} (h : PG X e (tG K t)) (hs : PGs X es (tGs K ts)) (he : (assignEach (e :: es) X.env).map (·.2) = assign e X.env :: (assignEach es X.env).map (·.2) := by rfl) : PGs X (e :: es) (tGs K (t :: ts)) :=
  (pgs_cons h hs he).imp fun v σ H Q ⟨B, ds, l, h1, h2, q⟩ => by
  cases ds with
  | nil => unfold Tg.gos at h2; cases h2
  | cons d ds =>
    cases h1 with
    | cons r rs =>
      unfold Tg.gos at h2
      split at h2
      · rename_i l1 l2 e1 e2
        cases (Option.some.inj h2)
        exact ⟨_, _, rfl, B, d, l1, r, e1, fun m hm => ⟨B, ds, l2, rs, e2, fun m2 hm2 => by
          rw [← setsV_append]
          exact q _ (hm.append hm2)⟩⟩
      · cases h2
theorem Tg.gos_len : ∀ {ts : List Tg} {ds : List D} {l : List (Nat × D)}, Tg.gos ts ds = some l → ts.length = ds.length
  | [], [], _, _ => rfl
  | t :: ts, d :: ds, l, h => by
    unfold Tg.gos at h
    split at h
    · rename_i h2
      rw [List.length_cons, List.length_cons, Tg.gos_len h2]
    · cases h
  | [], _ :: _, l, h => by unfold Tg.gos at h; cases h
  | _ :: _, [], l, h => by unfold Tg.gos at h; cases h
theorem gg_tup {es : List Expr} {k : Nat} {ts : List Tg} (hc : X.calm = true) (h : PGs X es (tGs K ts)) (hX : X.K = K := by rfl)
    (hn : (assignEach es X.env).length = ts.length := by rfl) (hst : (assignEach es X.env).findIdx? (·.1) = none := by rfl) : PG X (.Tuple es k pos) (tG K (.tp ts)) := by
  subst hX
  refine (pg_tup hc h hn hst).imp fun v σ H Q ⟨B, d, l, h1, h2, q⟩ => ?_
  cases d with
  | tuple ds =>
    unfold Tg.go at h2
    cases h1 with
    | tup e1 e2 => exact ⟨_, _, rfl, seqT_mono same_unhid (.inl (.inl e1)), by rw [e2.length, Tg.gos_len h2], B, ds, l, e2, h2, q⟩
  | _ => unfold Tg.go at h2; cases h2
end

/-! ### what is walked -/
/-- while G stands, J gives the trees ds one by one, none of which leans on what B hides -/
structure Walks (K : PySem.W.Frag) (G : Hp) (B : List Addr) (J : It) (ds : List D) : Prop where
  go : ∀ i H, i < ds.length → Same G H → J.go i H
  stop : ∀ H, Same G H → J.stop ds.length H
  yld : ∀ i H x H' d, ds[i]? = some d → Same G H → J.yld i H x H' → Same H H' ∧ ∀ B', Ok B' H → (∀ a ∈ B', (a ∈ B ∨ G a = none) ∧ H a ≠ none) → R K (hid B' H') x d
/-- m = 0: what is walked leans on nothing hidden; m = 1: a list that is walked may itself be hidden -/
def gOf (m : Nat) (B : List Addr) (H : Hp) : Hp := match m with
  | 0 => hid B H
  | _ => H
def tI (K : PySem.W.Frag) (m : Nat) (f : FA) (c : Esc) : TI := fun σ H Rr => ∃ B L ρ ds, Good K B L σ H ρ ∧ EscOk c L ∧ f ρ = some ds ∧ ∀ J H1, Same H H1 → Walks K (gOf m B H1) B J ds → Rr J H1
theorem gOf_unhid {m : Nat} {B : List Addr} {H : Hp} : Same (gOf m B H) H := by
  cases m with
  | zero => exact same_unhid
  | succ m => exact Same.refl H
theorem same_gOf {m : Nat} {B : List Addr} {H : Hp} : Same (hid B H) (gOf m B H) := by
  cases m with
  | zero => exact Same.refl _
  | succ m => exact same_unhid
theorem gOf_none {m : Nat} {B : List Addr} {H : Hp} {a : Addr} (h : gOf m B H a = none) : a ∈ B ∨ H a = none := by
  cases m with
  | zero =>
    by_cases hb : a ∈ B
    · exact .inl hb
    · exact .inr (by
        have h' : hid B H a = none := h
        rw [hid_out hb] at h'; exact h')
  | succ m => exact .inr h
/-- a tree of what is below B, later -/
theorem keepR {m : Nat} {B B' : List Addr} {H1 H H' : Hp} (s : Same (gOf m B H1) H) (s' : Same H H') (h : ∀ a ∈ B', (a ∈ B ∨ gOf m B H1 a = none) ∧ H a ≠ none) : Same (hid B H1) (hid B' H') := fun b o q => by
  obtain ⟨q1, q2⟩ := hid_some q
  have q3 : gOf m B H1 b = some o := same_gOf b o q
  rw [hid_out fun z => ?_]
  · exact s' _ _ (s _ _ q3)
  · rcases (h b z).1 with z | z
    · exact q1 z
    · rw [q3] at z; cases z
section
variable {X : Cx} {K : PySem.W.Frag} {pos p tpos : Pos} {tg e : Expr} {f : FE} {c : Esc} {m : Nat}
def seqOf : D → Option (List D)
  | .list ds => some ds
  | .tuple ds => some ds
  | _ => none
def iSeq (f : FE) : FA := fun ρ => o1 (f ρ) seqOf
theorem RL.listG {B : List Addr} {H : Hp} {v : V} {ds : List D} (hm : m ≤ 1) (h : RL K B H m v (.list ds)) : ∃ a xs, v = .ref a ∧ gOf m B H a = some (.lst xs) ∧ RA K (hid B H) xs ds := by
  match m, hm with
  | 0, _ =>
    have := h.r
    cases this with
    | lst h1 h2 => exact ⟨_, _, rfl, h1, h2⟩
  | 1, _ => exact h.list1
theorem walks_list {B : List Addr} {H1 : Hp} {a : Addr} {xs : List V} {ds : List D} (h1 : gOf m B H1 a = some (.lst xs)) (h2 : RA K (hid B H1) xs ds) : Walks K (gOf m B H1) B (Itl K a) ds where
  go := fun i H hi s => ⟨xs, xs[i]'(by rw [h2.length]; exact hi), SqL.of (s _ _ h1), by simp⟩
  stop := fun H s => ⟨xs, SqL.of (s _ _ h1), by rw [h2.length]; exact Nat.le_refl _⟩
  yld := fun i H x H' d hd s y => by
    obtain ⟨e, y⟩ := y
    subst e
    obtain ⟨z, e1, r⟩ := h2.get hd
    have e2 := y xs (SqL.of (s _ _ h1))
    rw [e1] at e2
    cases (Option.some.inj e2)
    exact ⟨Same.refl _, fun B' _ hb => r.mono (keepR s (Same.refl _) hb)⟩
theorem walks_tup {B : List Addr} {H1 : Hp} {a : Addr} {xs : List V} {ds : List D} (h1 : SqT K (hid B H1) a xs) (h2 : RA K (hid B H1) xs ds) : Walks K (gOf m B H1) B (Itt K a) ds where
  go := fun i H hi s => ⟨xs, xs[i]'(by rw [h2.length]; exact hi), seqT_mono s (seqT_mono same_gOf h1), by simp⟩
  stop := fun H s => ⟨xs, seqT_mono s (seqT_mono same_gOf h1), by rw [h2.length]; exact Nat.le_refl _⟩
  yld := fun i H x H' d hd s y => by
    obtain ⟨e, y⟩ := y
    subst e
    obtain ⟨z, e1, r⟩ := h2.get hd
    have e2 := y xs (seqT_mono s (seqT_mono same_gOf h1))
    rw [e1] at e2
    cases (Option.some.inj e2)
    exact ⟨Same.refl _, fun B' _ hb => r.mono (keepR s (Same.refl _) hb)⟩
/-- a list or a tuple walked -/
def iLT (K : PySem.W.Frag) (tl : TE) : TI := fun σ H R => tl σ H fun x H1 => ∃ a, x = .ref a ∧ ((∃ xs, SqL K H1 a xs ∧ R (Itl K a) H1) ∨ (∃ xs, SqT K H1 a xs ∧ R (Itt K a) H1))
theorem pi_lt {l : Expr} {tl : TE} (hl : PE X l tl) : PI X tg l (iLT X.K tl) := by
  refine ⟨fun pins s σ H R I h => ?_⟩
  refine thn (hl.run pins s σ H _ I h) fun v s1 ⟨x, H1, I1, r1, q1⟩ => ?_
  obtain ⟨a, e, q⟩ := q1
  subst e
  cases r1
  rcases q with ⟨xs, hq, q⟩ | ⟨xs, hq, q⟩
  · obtain ⟨its, rv, p, hz⟩ := I1.list hq
    refine wpAny_pyIter_list p.isList ?_
    refine ⟨s1.heap.objs.size, [s1.heap.objs.size], _, _, H1, rfl, I1.kept (t' := s1.toks) fun b o e => Heap.get?_push_of_some _ e, turn_list a _, ⟨_, Heap.get?_push_size _ rfl, rfl, rfl⟩, fun b hb => ?_, q⟩
    have e : b = s1.heap.objs.size := by simpa using hb
    subst e
    exact I1.fpOk (Nat.le_refl _) (I1.hok.fresh (Nat.le_refl _))
  · obtain ⟨its, rv, p, hz⟩ := I1.tuple hq
    refine wpAny_pyIter_tuple (show s1.heap.IsTuple a its.toArray from p) ?_
    refine ⟨s1.heap.objs.size, [s1.heap.objs.size], _, _, H1, rfl, I1.kept (t' := s1.toks) fun b o e => Heap.get?_push_of_some _ e, turn_tuple a _, ⟨_, Heap.get?_push_size _ rfl, rfl, rfl⟩, fun b hb => ?_, q⟩
    have e : b = s1.heap.objs.size := by simpa using hb
    subst e
    exact I1.fpOk (Nat.le_refl _) (I1.hok.fresh (Nat.le_refl _))
theorem qi_seq (h : PE X e (tD K (.br m) f c)) (hm : m ≤ 1 := by decide) (hX : X.K = K := by rfl) : PI X tg e (tI K m (iSeq f) c) := by
  subst hX
  refine (pi_lt h).imp fun σ H Rr ⟨B, L, ρ, ds, g, es, hf, q⟩ => ?_
  obtain ⟨d, h1, h2⟩ := o1_some hf
  refine ⟨B, L, ρ, d, g, es, h1, fun v H1 s1 p1 => ?_⟩
  unfold seqOf at h2
  split at h2
  · cases (Option.some.inj h2)
    obtain ⟨a, xs, rfl, e1, e2⟩ := RL.listG hm p1
    exact ⟨a, rfl, .inl ⟨xs, SqL.of (gOf_unhid _ _ e1), q _ H1 s1 (walks_list e1 e2)⟩⟩
  · cases (Option.some.inj h2)
    obtain ⟨a, xs, rfl, e1, e1', e2⟩ := RL.tup p1
    exact ⟨a, rfl, .inr ⟨xs, e1, q _ H1 s1 (walks_tup (.inl (.inl e1')) e2)⟩⟩
  · cases h2
/-! ranges -/
def rngD (lo : Int) (n : Nat) : List D := (List.range n).map fun (i : Nat) => .int (lo + (i : Int))
theorem walks_rng {G : Hp} {B : List Addr} {lo : Int} {n : Nat} : Walks K G B (Itr lo n) (rngD lo n) where
  go := fun i H hi s => show i < n from by simpa [rngD] using hi
  stop := fun H s => by
    show n ≤ (rngD lo n).length
    simp [rngD]
  yld := fun i H x H' d hd s y => by
    obtain ⟨e, y⟩ := y
    subst e y
    refine ⟨Same.refl _, fun B' _ hb => ?_⟩
    have hi : i < n := by
      have := (List.getElem?_eq_some_iff.mp hd).1
      simpa [rngD] using this
    have : d = .int (lo + i) := by
      unfold rngD at hd
      rw [List.getElem?_map, List.getElem?_range hi] at hd
      exact (Option.some.inj hd).symm
    rw [this]
    exact .int _
def rngOk (lo hi : Int) : Bool := decide (-4611686018427387904 ≤ lo) && decide (lo < 4611686018427387904) && decide (-4611686018427387904 ≤ hi) && decide (hi < 4611686018427387904)
def iRange1 (f : FE) : FA := fun ρ => o1 (f ρ) fun d => match d with
  | .int j => if rngOk 0 j = true then some (rngD 0 j.toNat) else none
  | _ => none
def iRange2 (f g : FE) : FA := fun ρ => o2 (f ρ) (g ρ) fun d e => match d, e with
  | .int i, .int j => if rngOk i j = true then some (rngD i (j - i).toNat) else none
  | _, _ => none
theorem rngOk_ok {lo hi : Int} (h : rngOk lo hi = true) : -(2 ^ 62) ≤ lo ∧ lo < 2 ^ 62 ∧ -(2 ^ 62) ≤ hi ∧ hi < 2 ^ 62 := by
  unfold rngOk at h
  simp only [Bool.and_eq_true, decide_eq_true_eq] at h
  omega
theorem qi_range1 {a : Expr} (hg : Gl X "range") (hm : X.mg "range" = none) (ha : PE X a (tD K (.br 1) f c)) (hs : starEach [a] X.env = (false, eval a X.env) :: starEach [] X.env := by rfl) : PI X tg (.Call (.Name "range" p) [a] [] pos) (tI K m (iRange1 f) []) := by
  refine (pi_range1 hg hm (pa_cons ha pa_nil hs) hs).imp fun σ H Rr ⟨B, L, ρ, ds, g, es, hf, q⟩ => ?_
  obtain ⟨d, h1, h2⟩ := o1_some hf
  split at h2
  · obtain ⟨k, rfl⟩ := ite_some h2
    have k := rngOk_ok k
    refine ⟨[], _, ρ, _, g.zero, .zero, h1, fun v H1 s1 p1 => ?_⟩
    exact ⟨_, by rw [RL.int p1], k.2.2.1, k.2.2.2, q _ H1 s1 walks_rng⟩
  · cases h2
theorem qi_range2 {a b : Expr} {f2 : FE} {c2 : Esc} (hg : Gl X "range") (hm : X.mg "range" = none) (ha : PE X a (tD K (.br 1) f c)) (hb : PE X b (tD K (.br 1) f2 c2)) (hs : starEach [a, b] X.env = [(false, eval a X.env), (false, eval b X.env)] := by rfl) (hs2 : starEach [b] X.env = [(false, eval b X.env)] := by rfl) :
    PI X tg (.Call (.Name "range" p) [a, b] [] pos) (tI K m (iRange2 f f2) []) := by
  refine (pi_range2 hg hm (pa_cons ha (pa_cons hb pa_nil hs2) (by rw [hs, hs2])) hs hs2).imp fun σ H Rr ⟨B, L, ρ, ds, g, es, hf, q⟩ => ?_
  obtain ⟨d, d', h1, h1', h2⟩ := o2_some hf
  split at h2
  · obtain ⟨k, rfl⟩ := ite_some h2
    have k := rngOk_ok k
    refine ⟨[], _, ρ, _, g.zero, .zero, h1, fun v H1 s1 p1 => ⟨[], _, ρ, _, (g.mono s1).zero, .zero, h1', fun w H2 s2 p2 => ?_⟩⟩
    exact ⟨_, _, by rw [RL.int p1, RL.int p2], ⟨k.1, k.2.1, k.2.2.1, k.2.2.2⟩, q _ H2 (s1.trans s2) walks_rng⟩
  · cases h2
end

/-! ### comprehensions of one clause -/
def wipeD (ρ : PEnv) : List Nat → PEnv
  | [] => ρ
  | v :: vs => (wipeD ρ vs).set v none
/-- the list that a comprehension makes -/
def lcGo (t : Tg) (ft : FT) (fe : FE) (ρ : PEnv) : List D → Option (List D)
  | [] => some []
  | d :: ds => match t.go d with
    | none => none
    | some l => match ft (setsD ρ l) with
      | none => none
      | some false => lcGo t ft fe ρ ds
      | some true => match fe (setsD ρ l) with
        | none => none
        | some y => match lcGo t ft fe ρ ds with
          | none => none
          | some ys => some (y :: ys)
def eLc (fi : FA) (t : Tg) (ft : FT) (fe : FE) (vs : List Nat) : FE := fun ρ => o1 (fi ρ) fun ds => if ds.length ≤ sz then o1 (lcGo t ft fe (wipeD ρ vs) ds) fun ys => some (.list ys) else none
section
variable {X : Cx} {K : PySem.W.Frag} {κ : Mo}
theorem wipeD_length (ρ : PEnv) : ∀ vs : List Nat, (wipeD ρ vs).length = ρ.length
  | [] => rfl
  | v :: vs => by unfold wipeD; rw [List.length_set, wipeD_length ρ vs]
theorem wipe_get {σ : St} {ρ : PEnv} (hl : σ.length = ρ.length) : ∀ {vs : List Nat} {i : Nat} {d : D}, (wipeD ρ vs)[i]? = some (some d) → ρ[i]? = some (some d) ∧ ∀ v : V, σ[i]? = some (some v) → (wipe σ vs)[i]? = some (some v)
  | [], i, d, h => ⟨h, fun v e => e⟩
  | w :: vs, i, d, h => by
    unfold wipeD at h
    by_cases hi : w = i
    · subst hi
      by_cases hv : w < (wipeD ρ vs).length
      · rw [List.getElem?_set_self hv] at h; cases h
      · rw [List.getElem?_eq_none (by simpa using hv)] at h; cases h
    · rw [List.getElem?_set_ne hi] at h
      obtain ⟨h1, h2⟩ := wipe_get hl h
      refine ⟨h1, fun v e => ?_⟩
      unfold wipe
      rw [List.getElem?_set_ne hi]
      exact h2 v e
theorem Good.wipe {B : List Addr} {L : Nat → Nat} {σ : St} {H : Hp} {ρ : PEnv} (g : Good K B L σ H ρ) (vs : List Nat) : Good K B L (wipe σ vs) H (wipeD ρ vs) :=
  ⟨g.ok, by rw [wipe_length, wipeD_length, g.len], fun i d h => by
    obtain ⟨h1, h2⟩ := wipe_get g.len h
    obtain ⟨v, e, r⟩ := g.slot i d h1
    exact ⟨v, h2 v e, r⟩⟩
theorem Good.set {B : List Addr} {L : Nat → Nat} {σ : St} {H : Hp} {ρ : PEnv} {i : Nat} {v : V} {d : D} (g : Good K B L σ H ρ) (r : R K (hid B H) v d) : Good K B L (σ.set i (some v)) H (ρ.set i (some d)) :=
  ⟨g.ok, by rw [List.length_set, List.length_set, g.len], fun j e h => by
    by_cases hj : i = j
    · subst hj
      have hi : i < ρ.length := by
        have := (List.getElem?_eq_some_iff.mp h).1
        simpa using this
      rw [List.getElem?_set_self hi] at h
      cases h
      exact ⟨v, List.getElem?_set_self (by rw [g.len]; exact hi), .z r⟩
    · rw [List.getElem?_set_ne hj] at h ⊢
      exact g.slot j e h⟩
theorem Good.sets {B : List Addr} {L : Nat → Nat} {H : Hp} : ∀ {m : List (Nat × V)} {l : List (Nat × D)} {σ : St} {ρ : PEnv}, Good K B L σ H ρ → RS K (hid B H) m l → Good K B L (setsV σ m) H (setsD ρ l)
  | [], [], σ, ρ, g, .nil => g
  | (i, v) :: m, (_, d) :: l, σ, ρ, g, .cons r t => Good.sets (m := m) (l := l) (σ := σ.set i (some v)) (ρ := ρ.set i (some d)) (Good.set g r) t
theorem wipe_set {σ : St} {i : Nat} {x : Option V} : ∀ {vs : List Nat}, i ∈ vs → wipe (σ.set i x) vs = wipe σ vs
  | [], h => by simp at h
  | v :: vs, h => by
    unfold wipe
    by_cases hv : i ∈ vs
    · rw [wipe_set hv]
    · have e : i = v := by
        rcases List.mem_cons.mp h with e | h
        · exact e
        · exact absurd h hv
      subst e
      have : ∀ ws : List Nat, i ∉ ws → wipe (σ.set i x) ws = (wipe σ ws).set i x := by
        intro ws
        induction ws with
        | nil => intro _; rfl
        | cons w ws ih =>
          intro hn
          unfold wipe
          rw [ih (fun z => hn (List.mem_cons_of_mem _ z)), List.set_comm _ _ (fun z => hn (by rw [z]; exact List.mem_cons_self))]
      rw [this vs hv, List.set_set]
theorem wipe_sets : ∀ {m : List (Nat × V)} {σ : St} {vs : List Nat}, (∀ i ∈ m.map (·.1), i ∈ vs) → wipe (setsV σ m) vs = wipe σ vs
  | [], σ, vs, _ => rfl
  | (i, v) :: m, σ, vs, h => by
    show wipe (setsV (σ.set i (some v)) m) vs = _
    rw [wipe_sets fun j hj => h j (List.mem_cons_of_mem _ hj), wipe_set (h i List.mem_cons_self)]
theorem wipe_wipe (σ : St) : ∀ vs : List Nat, (∀ i ∈ vs, (wipe σ vs)[i]? = some none ∨ (wipe σ vs)[i]? = none) := fun vs i hi => by
  cases h : (wipe σ vs)[i]? with
  | none => exact .inr rfl
  | some x =>
    cases x with
    | none => exact .inl rfl
    | some v => exact absurd hi (wipe_some h).2
theorem wipe_idem {σ : St} {vs : List Nat} : ∀ ws : List Nat, (∀ i ∈ ws, i ∈ vs) → wipe (wipe σ vs) ws = wipe σ vs
  | [], _ => rfl
  | w :: ws, h => by
    show (L2.wipe (L2.wipe σ vs) ws).set w none = L2.wipe σ vs
    rw [wipe_idem ws fun i hi => h i (List.mem_cons_of_mem _ hi)]
    have hw := wipe_wipe σ vs w (h w List.mem_cons_self)
    apply List.ext_getElem?
    intro j
    by_cases hj : w = j
    · subst hj
      by_cases hl : w < (L2.wipe σ vs).length
      · rw [List.getElem?_set_self hl]
        rcases hw with e | e
        · exact e.symm
        · rw [List.getElem?_eq_getElem hl] at e; cases e
      · rw [List.getElem?_eq_none (by simpa using hl), List.getElem?_eq_none (by simpa using hl)]
    · rw [List.getElem?_set_ne hj]
/-- the reading of a comprehension -/
theorem lc_core {m : Nat} {fi : FA} {ci : Esc} {t : Tg} {ft : FT} {fe : FE} {ce : Esc} {vs : List Nat} {ti : TI} (hm : m = 1) (hv : t.ix.all (vs.contains ·) = true) (hκ : κ.one = true) :
    ∀ σ H Q B L ρ d, Good K B L σ H ρ → EscOk (ci ++ ce) L → eLc fi t ft fe vs ρ = some d → (∀ v H', Same H H' → Post K B H H' κ v d → Q v H') →
      (∀ ds Rr, fi ρ = some ds → (∀ J H1, Same H H1 → Walks K (gOf m B H1) B J ds → Rr J H1) → ti σ H Rr) → tLc ti (tG K t) (tT K ft) (tD K (.br 0) fe ce) vs σ H Q := by
  intro σ H Q B L ρ d g es hf q hti
  obtain ⟨ds, h1, h2⟩ := o1_some hf
  have hz : ds.length ≤ sz := by
    split at h2
    · assumption
    · cases h2
  rw [if_pos hz] at h2
  obtain ⟨ys, h3, h4⟩ := o1_some h2
  cases (Option.some.inj h4)
  refine hti ds _ h1 fun J H1 s1 wk D hD => ?_
  subst hm
  have hixs : ∀ {l : List (Nat × PyData)} {mm : List (Nat × V)} {d : PyData} {B' : List Addr} {Hh : Hp}, t.go d = some l → RS K (hid B' Hh) mm l → ∀ i ∈ mm.map (·.1), i ∈ vs := fun {l mm d B' Hh} e rs i hi => by
    rw [rs.ix, Tg.go_ix e] at hi
    have := List.all_eq_true.mp hv i hi
    simpa using this
  -- what holds behind i turns
  let W : Nat → Nat → Hp → Prop := fun i n H' => n = ds.length - i ∧ i ≤ ds.length ∧ Same H1 H' ∧ ∃ acc done rest, H' D = some (.lst acc) ∧ RA K (hid (D :: B) H') acc done ∧ acc.length ≤ i ∧ lcGo t ft fe (wipeD ρ vs) (ds.drop i) = some rest ∧ done ++ rest = ys
  refine ⟨W, ⟨ds.length, by simp, Nat.zero_le _, same_upd hD, [], [], ys, upd_same, .nil, Nat.le_refl _, by simpa using h3, rfl⟩, ?_⟩
  rintro i n H' ⟨rfl, hi, s', acc, done, rest, hacc, racc, hlen, hgo, hys⟩
  have okB : Ok (D :: B) H' := ((g.ok.mono s1).mono s').cons hacc rfl
  have gd : Good K (D :: B) L σ H' ρ := by
    refine ⟨okB, g.len, fun j e h => ?_⟩
    obtain ⟨v, e1, r⟩ := g.slot j e h
    refine ⟨v, e1, ((r.mono s1 (same_hid s1)).mono s' (same_hidW s' fun a ha => ?_))⟩
    rcases List.mem_cons.mp ha with z | z
    · rw [z]; exact .inr hD
    · exact .inl z
  by_cases hlt : i < ds.length
  · refine .inr ⟨wk.go i H' hlt s', fun H'' => W (i + 1) (ds.length - (i + 1)) H'', fun H'' w => ⟨_, by omega, w⟩, fun x H2 y => ?_⟩
    have hd : ds[i]? = some ds[i] := List.getElem?_eq_getElem hlt
    obtain ⟨s2, rx⟩ := wk.yld i H' x H2 _ hd s' y
    have rx := rx (D :: B) okB fun a ha => by
      refine ⟨?_, okB.trk a ha⟩
      rcases List.mem_cons.mp ha with z | z
      · rw [z]; exact .inr hD
      · exact .inl z
    rw [List.drop_eq_getElem_cons hlt] at hgo
    unfold lcGo at hgo
    have hacc2 := s2 _ _ hacc
    have racc2 := racc.mono (same_hid (B := D :: B) s2)
    split at hgo
    · cases hgo
    · rename_i l hl
      refine ⟨D :: B, _, l, rx, hl, fun mm rs => ⟨?_, ?_⟩⟩
      · rw [wipe_sets (hixs hl rs)]
        exact wipe_idem vs fun _ h => h
      · have gs : Good K (D :: B) L (setsV (wipe σ vs) mm) H2 (setsD (wipeD ρ vs) l) := ((gd.mono s2).wipe vs).sets rs
        split at hgo
        · cases hgo
        · rename_i hft
          refine ⟨D :: B, L, _, false, gs, hft, fun H3 s3 => ?_⟩
          refine iteF ?_
          exact ⟨rfl, hlt, (s'.trans s2).trans s3, acc, done, rest, s3 _ _ hacc2, racc2.mono (same_hid s3), by omega, hgo, hys⟩
        · rename_i hft
          split at hgo
          · cases hgo
          · rename_i yv hfe
            split at hgo
            · cases hgo
            · rename_i ys' hrest
              cases (Option.some.inj hgo)
              refine ⟨D :: B, L, _, true, gs, hft, fun H3 s3 => ?_⟩
              refine iteT ?_
              refine ⟨D :: B, L, _, yv, gs.mono s3, es.right, hfe, fun v H4 s4 p4 => ?_⟩
              have s34 := s3.trans s4
              have hacc4 := s34 _ _ hacc2
              have su : Same (hid (D :: B) H4) (hid (D :: B) (upd H4 D (.lst (acc ++ [v])))) := fun b o e => by
                obtain ⟨e1, e2⟩ := hid_some e
                rw [hid_out e1, upd_ne fun z => e1 (by rw [z]; exact List.mem_cons_self)]
                exact e2
              refine ⟨acc, hacc4, by rw [sz_eq]; omega, rfl, hlt, fun b o e => ?_, acc ++ [v], done ++ [yv], ys', upd_same, ((racc2.mono (same_hid s34)).append (.cons (RL.r p4) .nil)).mono su, by simp; omega, hrest, by rw [List.append_assoc]; exact hys⟩
              have hb : b ≠ D := ne_of_none e hD
              rw [upd_ne hb]
              exact ((s'.trans s2).trans s34) _ _ e
  · have e : i = ds.length := by omega
    subst e
    refine .inl ⟨wk.stop H' s', ?_⟩
    rw [List.drop_length] at hgo
    unfold lcGo at hgo
    cases (Option.some.inj hgo)
    rw [List.append_nil] at hys
    subst hys
    refine q _ H' (s1.trans s') (Post.new g.ok.trk (s1.free hD) hacc racc hκ)
theorem lc_ok {m : Nat} {fi : FA} {ci : Esc} {t : Tg} {ft : FT} {fe : FE} {ce : Esc} {vs : List Nat} (hm : m = 1) (hv : t.ix.all (vs.contains ·) = true) (hκ : κ.one = true) :
    ∀ σ H Q, tD K κ (eLc fi t ft fe vs) (ci ++ ce) σ H Q → tLc (tI K m fi ci) (tG K t) (tT K ft) (tD K (.br 0) fe ce) vs σ H Q := by
  intro σ H Q ⟨B, L, ρ, d, g, es, hf, q⟩
  exact lc_core hm hv hκ σ H Q B L ρ d g es hf q fun ds Rr h1 hR => ⟨B, L, ρ, ds, g, es.left, h1, hR⟩
theorem qe_lc {elt tg iter : Expr} {ifs : List Expr} {scope : Scope} {own : List (Str × Nat)} {pos : Pos} {fi : FA} {ci ce : Esc} {t : Tg} {ft : FT} {fe : FE} (hc : X.calm = true) (hN : X.N.Nodup) (hi : PI X tg iter (tI K 1 fi ci)) (ok : BlkOk X.N X.env.scope scope own)
    (hg : ∀ (s : Shared) (H : Hp) (C : Addr) (cl : List (Str × Addr)) (fp : List Addr), PG (X.blk s H scope (compEnvC scope cl C X.env) fp) tg (tG K t)) (ht : ∀ (s : Shared) (H : Hp) (C : Addr) (cl : List (Str × Addr)) (fp : List Addr), PTs (X.blk s H scope (compEnvC scope cl C X.env) fp) ifs (tT K ft))
    (he : ∀ (s : Shared) (H : Hp) (C : Addr) (cl : List (Str × Addr)) (fp : List Addr), PE (X.blk s H scope (compEnvC scope cl C X.env) fp) elt (tD K (.br 0) fe ce)) (hv : t.ix.all ((own.map (·.2)).contains ·) = true := by rfl) (hκ : κ.one = true := by rfl) (hs : ∀ x, foldedSetIterable iter X.env x = pure x := by intro _; rfl) :
    PE X (.ListComp elt [⟨tg, iter, ifs, 0⟩] scope pos) (tD K κ (eLc fi t ft fe (own.map (·.2))) (ci ++ ce)) := (pe_lc hc hN hi ok hg ht he hs).imp (lc_ok rfl hv hκ)
def tTrue : FT := fun _ => some true
theorem qts_nil : PTs X [] (tT K tTrue) := ⟨fun pins s σ H Q I ⟨B, L, ρ, b, g, h, q⟩ => pts_nil.run pins s σ H Q I (by cases (Option.some.inj h); exact q H (Same.refl H))⟩
theorem qts_one {c : Expr} {f : FT} (h : PT X c (tT K f)) : PTs X [c] (tT K f) := pts_one h
end
end DS
end

section
set_option Elab.async false
set_option linter.all false
set_option maxRecDepth 100000
/-! Part g: statements. -/
namespace DS
open PySem PySem.Spec PyProof.Rows L2

abbrev S := PEnv × List Nat
inductive Out where
  | stuck
  | next (s : S)
  | ret (d : D)
  | brk (s : S)
  | cont (s : S)
abbrev FS := S → Out
def lv (L : List Nat) (i : Nat) : Nat := L.getD i 0
def demote : Esc → List Nat → List Nat
  | [], L => L
  | (i, m) :: es, L => demote es (if lv L i ≤ m then L else L.set i 0)

structure GoodS (K : PySem.W.Frag) (B0 : List Addr) (G : Hp) (O : Nat → List Addr) (B : List Addr) (σ : St) (H : Hp) (ρ : PEnv) (L : List Nat) : Prop where
  memB : ∀ a, a ∈ B ↔ a ∈ B0 ∨ ∃ i, a ∈ O i
  ok : Ok B H
  same : Same G H
  g0 : ∀ a ∈ B0, G a ≠ none
  gO : ∀ i, ∀ a ∈ O i, G a = none
  nd : ∀ i, (O i).Nodup
  dj : ∀ i j, i ≠ j → ∀ a ∈ O i, a ∉ O j
  len : σ.length = ρ.length
  lenL : L.length = ρ.length
  slot : ∀ (i : Nat) (d : D), ρ[i]? = some (some d) → ∃ v, σ[i]? = some (some v) ∧ RO K B H (lv L i) (O i) v d
def GS (K : PySem.W.Frag) (B0 : List Addr) (G : Hp) (σ : St) (H : Hp) (s : S) : Prop := ∃ O B, GoodS K B0 G O B σ H s.1 s.2
section
variable {K : PySem.W.Frag} {B0 B : List Addr} {G H H' : Hp} {O : Nat → List Addr} {σ : St} {ρ : PEnv} {L : List Nat}
theorem GoodS.good (g : GoodS K B0 G O B σ H ρ L) : Good K B (lv L) σ H ρ := ⟨g.ok, g.len, fun i d h => let ⟨v, h1, h2⟩ := g.slot i d h; ⟨v, h1, h2.toRL_aux⟩⟩
theorem GoodS.mono (g : GoodS K B0 G O B σ H ρ L) (e : Same H H') : GoodS K B0 G O B σ H' ρ L :=
  ⟨g.memB, g.ok.mono e, g.same.trans e, g.g0, g.gO, g.nd, g.dj, g.len, g.lenL, fun i d h => let ⟨v, h1, h2⟩ := g.slot i d h; ⟨v, h1, h2.mono_aux (same_hid e) fun a ha => by
    obtain ⟨o, h3, _⟩ := g.ok a ((g.memB a).mpr (.inr ⟨i, ha⟩))
    rw [h3, e _ _ h3]⟩⟩
theorem lv_set {L : List Nat} {i j x : Nat} : lv (L.set i x) j = if i = j ∧ i < L.length then x else lv L j := by
  unfold lv
  rw [List.getD_eq_getElem?_getD, List.getD_eq_getElem?_getD]
  by_cases h : i = j
  · subst h
    by_cases hi : i < L.length
    · rw [List.getElem?_set_self hi, if_pos ⟨rfl, hi⟩]; rfl
    · rw [List.getElem?_eq_none (by simpa using hi), List.getElem?_eq_none (by omega), if_neg fun z => hi z.2]
  · rw [List.getElem?_set_ne h, if_neg fun z => h z.1]
/-- a name lets its own go -/
theorem GoodS.drop (g : GoodS K B0 G O B σ H ρ L) (i : Nat) : ∃ O' B', GoodS K B0 G O' B' σ H ρ (L.set i 0) ∧ (∀ a ∈ B', a ∈ B) := by
  refine ⟨fun j => if j = i then [] else O j, B.filter fun a => decide (a ∉ O i), ⟨fun a => ?_, g.ok.sub fun a h => (List.mem_filter.mp h).1, g.same, g.g0, fun j a h => ?_, fun j => ?_, fun j k hjk a h => ?_, g.len, by rw [List.length_set, g.lenL], fun j d h => ?_⟩, fun a h => (List.mem_filter.mp h).1⟩
  · rw [List.mem_filter, g.memB]
    constructor
    · rintro ⟨h | ⟨j, h⟩, h2⟩
      · exact .inl h
      · refine .inr ⟨j, ?_⟩
        have h2 := of_decide_eq_true h2
        by_cases hj : j = i
        · rw [hj] at h; exact absurd h h2
        · rw [if_neg hj]; exact h
    · rintro (h | ⟨j, h⟩)
      · exact ⟨.inl h, decide_eq_true fun z => g.g0 a h (g.gO i a z)⟩
      · by_cases hj : j = i
        · rw [if_pos hj] at h; simp at h
        · rw [if_neg hj] at h
          exact ⟨.inr ⟨j, h⟩, decide_eq_true (g.dj j i hj a h)⟩
  · by_cases hj : j = i
    · simp only [if_pos hj] at h; simp at h
    · simp only [if_neg hj] at h; exact g.gO j a h
  · by_cases hj : j = i
    · simp only [if_pos hj]; exact List.nodup_nil
    · simp only [if_neg hj]; exact g.nd j
  · by_cases hj : j = i
    · simp only [if_pos hj] at h; simp at h
    · simp only [if_neg hj] at h
      by_cases hk : k = i
      · simp only [if_pos hk]; simp
      · simp only [if_neg hk]; exact g.dj j k hjk a h
  · obtain ⟨v, h1, h2⟩ := g.slot j d h
    refine ⟨v, h1, ?_⟩
    by_cases hj : j = i
    · subst hj
      simp only [if_pos rfl]
      have hl : j < L.length := by
        have := (List.getElem?_eq_some_iff.mp h).1
        rw [g.lenL]; exact this
      rw [lv_set, if_pos ⟨rfl, hl⟩]
      exact .z (.inl rfl) (h2.toR_aux fun a q => ⟨(List.mem_filter.mp q).1, of_decide_eq_true (List.mem_filter.mp q).2⟩)
    · simp only [if_neg hj]
      rw [lv_set, if_neg fun z => hj z.1.symm]
      exact h2.mono_aux (same_hidW (Same.refl H) fun a q => .inl (List.mem_filter.mp q).1) fun _ _ => rfl
theorem demote_le : ∀ (es : Esc) (L : List Nat) (j : Nat), lv (demote es L) j ≤ lv L j
  | [], L, j => Nat.le_refl _
  | (i, m) :: es, L, j => by
    unfold demote
    refine Nat.le_trans (demote_le es _ j) ?_
    split
    · exact Nat.le_refl _
    · rw [lv_set]
      split
      · exact Nat.zero_le _
      · exact Nat.le_refl _
theorem demote_ok : ∀ (es : Esc) (L : List Nat), EscOk es (lv (demote es L))
  | [], L => EscOk.nil
  | (i, m) :: es, L => fun p hp => by
    unfold demote
    rcases List.mem_cons.mp hp with e | hp
    · rw [e]
      refine Nat.le_trans (demote_le es _ i) ?_
      split
      · assumption
      · rename_i h
        rw [lv_set]
        split
        · exact Nat.zero_le _
        · rename_i h2
          have : ¬ i < L.length := fun z => h2 ⟨rfl, z⟩
          unfold lv at h ⊢
          rw [List.getD_eq_getElem?_getD, List.getElem?_eq_none (by omega)] at h ⊢
          exact absurd (Nat.zero_le m) h
    · exact demote_ok es _ p hp
theorem demote_len : ∀ (es : Esc) (L : List Nat), (demote es L).length = L.length
  | [], L => rfl
  | (i, m) :: es, L => by
    unfold demote
    rw [demote_len es]
    split
    · rfl
    · rw [List.length_set]
theorem GoodS.demote (es : Esc) : ∀ {O : Nat → List Addr} {B : List Addr} {L : List Nat}, GoodS K B0 G O B σ H ρ L → ∃ O' B', GoodS K B0 G O' B' σ H ρ (DS.demote es L) ∧ ∀ a ∈ B', a ∈ B := by
  induction es with
  | nil => intro O B L g; exact ⟨O, B, g, fun _ h => h⟩
  | cons p es ih =>
    obtain ⟨i, m⟩ := p
    intro O B L g
    unfold DS.demote
    split
    · exact ih g
    · obtain ⟨O1, B1, g1, h1⟩ := g.drop i
      obtain ⟨O2, B2, g2, h2⟩ := ih g1
      exact ⟨O2, B2, g2, fun a h => h1 a (h2 a h)⟩
/-- a name is set -/
theorem GoodS.assign {i l : Nat} {v : V} {d : D} {o : List Addr} (g : GoodS K B0 G O B σ H ρ L) (e : Same H H') (hn : ∀ a ∈ o, H a = none) (ho : o.Nodup) (r : RO K (o ++ B) H' l o v d) : ∃ O' B', GoodS K B0 G O' B' (σ.set i (some v)) H' (ρ.set i (some d)) (L.set i l) ∧ ∀ a ∈ B', a ∈ o ++ B := by
  have hB' : ∀ a, a ∈ o ++ B.filter (fun a => decide (a ∉ O i)) → a ∈ o ++ B := fun a h => by
    rcases List.mem_append.mp h with h | h
    · exact List.mem_append_left _ h
    · exact List.mem_append_right _ (List.mem_filter.mp h).1
  have oB : ∀ a ∈ o, a ∉ B := fun a h z => g.ok.trk a z (hn a h)
  refine ⟨fun j => if j = i then o else O j, o ++ B.filter fun a => decide (a ∉ O i), ⟨fun a => ?_, ?_, g.same.trans e, g.g0, fun j a h => ?_, fun j => ?_, fun j k hjk a h => ?_, by rw [List.length_set, List.length_set, g.len], by rw [List.length_set, List.length_set, g.lenL], fun j d' h => ?_⟩, hB'⟩
  · rw [List.mem_append, List.mem_filter, g.memB]
    constructor
    · rintro (h | ⟨h | ⟨j, h⟩, h2⟩)
      · exact .inr ⟨i, by rw [if_pos rfl]; exact h⟩
      · exact .inl h
      · refine .inr ⟨j, ?_⟩
        have h2 := of_decide_eq_true h2
        by_cases hj : j = i
        · rw [hj] at h; exact absurd h h2
        · rw [if_neg hj]; exact h
    · rintro (h | ⟨j, h⟩)
      · exact .inr ⟨.inl h, decide_eq_true fun z => g.g0 a h (g.gO i a z)⟩
      · by_cases hj : j = i
        · rw [if_pos hj] at h; exact .inl h
        · rw [if_neg hj] at h
          exact .inr ⟨.inr ⟨j, h⟩, decide_eq_true (g.dj j i hj a h)⟩
  · have h1 : Ok o H' := r.mut_aux
    exact h1.append ((g.ok.mono e).sub fun a h => (List.mem_filter.mp h).1)
  · by_cases hj : j = i
    · simp only [if_pos hj] at h
      exact g.same.free (hn a h)
    · simp only [if_neg hj] at h; exact g.gO j a h
  · by_cases hj : j = i
    · simp only [if_pos hj]; exact ho
    · simp only [if_neg hj]; exact g.nd j
  · by_cases hj : j = i
    · simp only [if_pos hj] at h
      have hk : ¬ k = i := fun z => hjk (hj.trans z.symm)
      simp only [if_neg hk]
      exact fun z => oB a h ((g.memB a).mpr (.inr ⟨k, z⟩))
    · simp only [if_neg hj] at h
      by_cases hk : k = i
      · simp only [if_pos hk]
        exact fun z => oB a z ((g.memB a).mpr (.inr ⟨j, h⟩))
      · simp only [if_neg hk]; exact g.dj j k hjk a h
  · by_cases hj : j = i
    · subst hj
      have hi : j < ρ.length := by
        have := (List.getElem?_eq_some_iff.mp h).1
        simpa using this
      rw [List.getElem?_set_self hi] at h
      cases h
      refine ⟨v, List.getElem?_set_self (by rw [g.len]; exact hi), ?_⟩
      simp only [if_pos rfl]
      rw [lv_set, if_pos ⟨rfl, by rw [g.lenL]; exact hi⟩]
      exact r.mono_aux (same_hidW (Same.refl H') fun a q => .inl (hB' a q)) fun _ _ => rfl
    · rw [List.getElem?_set_ne (Ne.symm hj)] at h
      obtain ⟨w, h1, h2⟩ := g.slot j d' h
      refine ⟨w, by rw [List.getElem?_set_ne (Ne.symm hj)]; exact h1, ?_⟩
      simp only [if_neg hj]
      rw [lv_set, if_neg fun z => hj z.1.symm]
      refine h2.mono_aux (same_hidW e fun a q => ?_) fun a ha => ?_
      · rcases List.mem_append.mp q with q | q
        · exact .inr (hn a q)
        · exact .inl (List.mem_filter.mp q).1
      · obtain ⟨u, h3, _⟩ := g.ok a ((g.memB a).mpr (.inr ⟨j, ha⟩))
        rw [h3, e _ _ h3]
theorem GoodS.assign0 {i : Nat} {v : V} {d : D} (g : GoodS K B0 G O B σ H ρ L) (r : R K (hid B H) v d) : ∃ O' B', GoodS K B0 G O' B' (σ.set i (some v)) H (ρ.set i (some d)) (L.set i 0) ∧ ∀ a ∈ B', a ∈ B :=
  g.assign (o := []) (Same.refl H) (by simp) List.nodup_nil (.z (.inl rfl) r)
end

/-! ### the reading of a statement -/
def Fin (K : PySem.W.Frag) (B0 : List Addr) (G : Hp) (E : Ends) : Out → Prop
  | .stuck => False
  | .next s => ∀ σ' H', GS K B0 G σ' H' s → E.nx σ' H'
  | .brk s => ∀ σ' H', GS K B0 G σ' H' s → E.bk σ' H'
  | .cont s => ∀ σ' H', GS K B0 G σ' H' s → E.ct σ' H'
  | .ret d => ∀ v H', Same G H' → R K (hid B0 H') v d → E.rt v H'
def tS (K : PySem.W.Frag) (g : FS) : TS := fun E σ H => ∃ B0 G s, GS K B0 G σ H s ∧ Fin K B0 G E (g s)
def sNil : FS := fun s => .next s
def sSeq (f g : FS) : FS := fun s => match f s with
  | .next s' => g s'
  | o => o
section
variable {X : Cx} {K : PySem.W.Frag} {st : Stmt} {sts : List Stmt} {f g : FS}
theorem ss_nil : PSs X [] (tS K sNil) := pss_nil.imp fun E σ H ⟨B0, G, s, hs, q⟩ => q σ H hs
theorem ss_one (h : PS X st (tS K f)) : PSs X [st] (tS K f) := pss_one h
theorem ss_cons (h : PS X st (tS K f)) (t : PSs X sts (tS K g)) : PSs X (st :: sts) (tS K (sSeq f g)) := (pss_cons h t).imp fun E σ H ⟨B0, G, s, hs, q⟩ => by
  refine ⟨B0, G, s, hs, ?_⟩
  unfold sSeq at q
  cases hf : f s with
  | next s' => rw [hf] at q; exact fun σ' H' hs' => ⟨B0, G, s', hs', q⟩
  | stuck => rw [hf] at q; exact q
  | ret d => rw [hf] at q; exact q
  | brk s' => rw [hf] at q; exact q
  | cont s' => rw [hf] at q; exact q
theorem ss_pass {pos : Pos} : PS X (.Pass pos) (tS K sNil) := ps_pass.imp fun E σ H ⟨B0, G, s, hs, q⟩ => q σ H hs
def sBreak : FS := fun s => .brk s
def sCont : FS := fun s => .cont s
theorem ss_break {pos : Pos} : PS X (.Break pos) (tS K sBreak) := ps_break.imp fun E σ H ⟨B0, G, s, hs, q⟩ => q σ H hs
theorem ss_continue {pos : Pos} : PS X (.Continue pos) (tS K sCont) := ps_continue.imp fun E σ H ⟨B0, G, s, hs, q⟩ => q σ H hs
theorem ss_doc {x j pos pos'} : PS X (.Expr (.Constant (.str x) j pos) pos') (tS K sNil) := ps_doc.imp fun E σ H ⟨B0, G, s, hs, q⟩ => q σ H hs
/-! return -/
def sRet (f : FE) : FS := fun s => match f s.1 with
  | none => .stuck
  | some d => .ret d
theorem GS.value {κ : Mo} {B0 : List Addr} {G H : Hp} {σ : St} {s : S} {f : FE} {es : Esc} {d : D} {Q : VK} (h : GS K B0 G σ H s) (hf : f s.1 = some d)
    (q : ∀ O B v H', GoodS K B0 G O B σ H s.1 (demote es s.2) → Same H H' → Post K B H H' κ v d → Q v H') : tD K κ f es σ H Q := by
  obtain ⟨O, B, g⟩ := h
  obtain ⟨O', B', g', _⟩ := g.demote es
  exact ⟨B', lv (demote es s.2), s.1, d, g'.good, demote_ok es s.2, hf, fun v H' e p => q O' B' v H' g' e p⟩
theorem ss_ret {e : Expr} {pos : Pos} {f : FE} {c : Esc} (h : PE X e (tD K (.br 0) f c)) : PS X (.Return (some e) pos) (tS K (sRet f)) := (ps_ret h).imp fun E σ H ⟨B0, G, s, hs, q⟩ => by
  unfold sRet at q
  split at q
  · exact q.elim
  · rename_i d hd
    refine GS.value hs hd fun O B v H' g e p => q v H' (g.same.trans e) ((RL.r p).mono (same_hidW (Same.refl H') fun a ha => .inl ((g.memB a).mpr (.inl ha))))
theorem ss_retN {pos : Pos} : PS X (.Return none pos) (tS K fun _ => .ret .none) := ps_retN.imp fun E σ H ⟨B0, G, s, hs, q⟩ => by
  obtain ⟨O, B, g⟩ := hs
  exact q .non H g.same .non
/-! if -/
def sIf (c : FT) (f g : FS) : FS := fun s => match c s.1 with
  | none => .stuck
  | some true => f s
  | some false => g s
theorem GS.mono {B0 : List Addr} {G H H' : Hp} {σ : St} {s : S} (h : GS K B0 G σ H s) (e : Same H H') : GS K B0 G σ H' s := let ⟨O, B, g⟩ := h; ⟨O, B, g.mono e⟩
theorem GS.good {B0 : List Addr} {G H : Hp} {σ : St} {s : S} (h : GS K B0 G σ H s) : ∃ B L, Good K B L σ H s.1 := let ⟨_, _, g⟩ := h; ⟨_, _, g.good⟩
theorem ss_if {c : Expr} {a b : List Stmt} {pos : Pos} {t : FT} (hc : PT X c (tT K t)) (ha : PSs X a (tS K f)) (hb : PSs X b (tS K g)) : PS X (.If c a b pos) (tS K (sIf t f g)) := (ps_if hc ha hb).imp fun E σ H ⟨B0, G, s, hs, q⟩ => by
  obtain ⟨B, L, gd⟩ := hs.good
  unfold sIf at q
  split at q
  · exact q.elim
  · exact ⟨B, L, s.1, true, gd, by assumption, fun H1 s1 => iteT ⟨B0, G, s, hs.mono s1, q⟩⟩
  · exact ⟨B, L, s.1, false, gd, by assumption, fun H1 s1 => iteF ⟨B0, G, s, hs.mono s1, q⟩⟩
/-! name = value -/
def sSet (i l : Nat) (f : FE) (c : Esc) : FS := fun s => match f s.1 with
  | none => .stuck
  | some d => if flat d = true then .next (s.1.set i (some d), s.2.set i 0) else .next (s.1.set i (some d), (demote c s.2).set i l)
def moOf : Nat → Mo
  | 0 => .br 0
  | 1 => .fr
  | _ => .fr2
theorem Post.open {B : List Addr} {H0 H' : Hp} {κ : Mo} {v : V} {d : D} (h : Post K B H0 H' κ v d) : R K H' v d := by
  cases κ with
  | br m => exact RL.open h
  | fr => obtain ⟨o, _, _, h⟩ := h; exact h.toRL_aux.open
  | fr2 => obtain ⟨o, _, _, h⟩ := h; exact h.toRL_aux.open
theorem set_ok {i l : Nat} {f : FE} {c : Esc} (hl : l ≤ 2) : ∀ E σ H, tS K (sSet i l f c) E σ H → tAsg (tD K (moOf l) f c) (gName i) E σ H := fun E σ H ⟨B0, G, s, hs, q⟩ => by
  unfold sSet at q
  split at q
  · exact q.elim
  · rename_i d hd
    split at q
    · rename_i hfl
      obtain ⟨O, B, g⟩ := hs
      refine ⟨[], _, s.1, d, g.good.zero, .zero, hd, fun v H' e p => q _ H' ?_⟩
      obtain ⟨O', B', g', _⟩ := (g.mono e).assign0 (i := i) (p.open.hidF ((g.ok.mono e).noTup) hfl)
      exact ⟨O', B', g'⟩
    · refine GS.value hs hd fun O B v H' g e p => q _ H' ?_
      match l, hl with
      | 0, _ =>
        obtain ⟨O', B', g', _⟩ := (g.mono e).assign0 (i := i) (RL.r p)
        exact ⟨O', B', g'⟩
      | 1, _ =>
        obtain ⟨o, h1, h2, h3⟩ := p
        obtain ⟨O', B', g', _⟩ := g.assign (i := i) e h1 h2 h3
        exact ⟨O', B', g'⟩
      | 2, _ =>
        obtain ⟨o, h1, h2, h3⟩ := p
        obtain ⟨O', B', g', _⟩ := g.assign (i := i) e h1 h2 h3
        exact ⟨O', B', g'⟩
theorem ss_set (i l : Nat) {x : Str} {e : Expr} {f : FE} {c : Esc} {pos pos' : Pos} (hN : X.N.Nodup) (he : PE X e (tD K (moOf l) f c)) (hl : l ≤ 2 := by decide) (hi : X.N[i]? = some x := by rfl) (hx : Loc X.env.scope x := by first | exact Or.inl rfl | exact Or.inr rfl) (hs : swapsWith e (some (.Name x pos')) pos.line X.env = pure false := by rfl) (hf : X.fn x = true ∨ X.env.scope.names.lookup x = some .local := by first | exact .inl rfl | exact .inr rfl) :
    PS X (.Assign [.Name x pos'] e pos) (tS K (sSet i l f c)) := (ps_set hN hi hx he hs hf).imp (set_ok hl)
/-- name = [..] -/
theorem ss_setLc (i l : Nat) {y : Str} {py : Pos} {elt tg iter : Expr} {ifs : List Expr} {scope : Scope} {own : List (Str × Nat)} {pos spos : Pos} {fi : FA} {ci ce : Esc} {t : Tg} {ft : FT} {fe : FE} (hc : X.calm = true) (hN : X.N.Nodup) (hi : PI X tg iter (tI K 1 fi ci)) (ok : BlkOk X.N X.env.scope scope own)
    (hg : ∀ (s : Shared) (H : Hp) (C : Addr) (cl : List (Str × Addr)) (fp : List Addr), PG (X.blk s H scope (compEnvC scope cl C X.env) fp) tg (tG K t)) (ht : ∀ (s : Shared) (H : Hp) (C : Addr) (cl : List (Str × Addr)) (fp : List Addr), PTs (X.blk s H scope (compEnvC scope cl C X.env) fp) ifs (tT K ft))
    (he : ∀ (s : Shared) (H : Hp) (C : Addr) (cl : List (Str × Addr)) (fp : List Addr), PE (X.blk s H scope (compEnvC scope cl C X.env) fp) elt (tD K (.br 0) fe ce)) (hl : l ≤ 1 := by decide) (hy : X.N[i]? = some y := by rfl) (hyl : X.env.scope.names.lookup y = some .local := by rfl)
    (hsw : swapsWith (.ListComp elt [⟨tg, iter, ifs, 0⟩] scope pos) (some (.Name y py)) spos.line X.env = pure true := by exact sw_true rfl rfl rfl (by decide +kernel)) (hv : t.ix.all ((own.map (·.2)).contains ·) = true := by rfl) (hs : ∀ x, foldedSetIterable iter X.env x = pure x := by intro _; rfl) :
    PS X (.Assign [.Name y py] (.ListComp elt [⟨tg, iter, ifs, 0⟩] scope pos) spos) (tS K (sSet i l (eLc fi t ft fe (own.map (·.2))) (ci ++ ce))) := (ps_setLc hc hN hy hyl hsw hi ok hg ht he hs).imp fun E σ H h =>
  lc_ok (κ := moOf l) rfl hv (by match l, hl with | 0, _ => rfl | 1, _ => rfl) σ H _ (set_ok (by omega) E σ H h)
/-! (a, b) = value: names -/
def zeros (L : List Nat) (l : List (Nat × D)) : List Nat := l.foldl (fun L p => L.set p.1 0) L
def sTup (t : Tg) (f : FE) (c : Esc) : FS := fun s => match f s.1 with
  | none => .stuck
  | some d => match t.go d with
    | none => .stuck
    | some l => if flat d = true then .next (setsD s.1 l, zeros s.2 l) else .next (setsD s.1 l, zeros (demote c s.2) l)
theorem GS.sets {B0 : List Addr} {G H : Hp} : ∀ {m : List (Nat × V)} {l : List (Nat × D)} {σ : St} {ρ : PEnv} {L : List Nat} {O : Nat → List Addr} {B B1 : List Addr}, GoodS K B0 G O B σ H ρ L → (∀ a ∈ B, a ∈ B1) → RS K (hid B1 H) m l → GS K B0 G (setsV σ m) H (setsD ρ l, zeros L l)
  | [], [], σ, ρ, L, O, B, B1, g, hB, .nil => ⟨O, B, g⟩
  | (i, v) :: m, (_, d) :: l, σ, ρ, L, O, B, B1, g, hB, .cons r t => by
    obtain ⟨O', B', g', hB'⟩ := g.assign0 (i := i) (v := v) (d := d) (r.mono (same_hidW (Same.refl H) fun a h => .inl (hB a h)))
    exact GS.sets (m := m) (l := l) g' (fun a h => hB a (hB' a h)) t
theorem ss_tup {tg e : Expr} {t : Tg} {f : FE} {c : Esc} {pos : Pos} (he : PE X e (tD K (.br 0) f c)) (hg : PG X tg (tG K t)) (hs : swapsWithSole [tg] e pos.line X.env = pure false := by rfl) (hw : swappedStores [tg] e X.env = pure none := by rfl)
    (h1 : (assignEach [tg] X.env).map (·.2) = [assign tg X.env] := by rfl) : PS X (.Assign [tg] e pos) (tS K (sTup t f c)) := (ps_asg he hg hs hw h1).imp fun E σ H ⟨B0, G, s, hs, q⟩ => by
  unfold sTup at q
  split at q
  · exact q.elim
  · rename_i d hd
    split at q
    · exact q.elim
    · rename_i l hl
      split at q
      · rename_i hfl
        obtain ⟨O, B, g⟩ := hs
        refine ⟨[], _, s.1, d, g.good.zero, .zero, hd, fun v H' e p => ?_⟩
        exact ⟨B, d, l, p.open.hidF ((g.ok.mono e).noTup) hfl, hl, fun m rs => q _ H' (GS.sets (g.mono e) (fun _ h => h) rs)⟩
      · refine GS.value (κ := .br 0) hs hd fun O B v H' g e p => ?_
        exact ⟨B, d, l, RL.r p, hl, fun m rs => q _ H' (GS.sets (g.mono e) (fun _ h => h) rs)⟩
/-! a, b = x, y with names -/
def sPar (i j : Nat) (f g : FE) (c : Esc) : FS := fun s => match f s.1, g s.1 with
  | some d, some e => if (flat d && flat e) = true then .next ((s.1.set i (some d)).set j (some e), (s.2.set i 0).set j 0) else .next ((s.1.set i (some d)).set j (some e), ((demote c s.2).set i 0).set j 0)
  | _, _ => .stuck
theorem ss_par (i j : Nat) {x y : Str} {a b : Expr} {f g : FE} {c c' : Esc} {px py pt pos : Pos} {kt k2 pt2} (hc : X.calm = true) (hN : X.N.Nodup) (ha : PE X a (tD K (.br 0) f c)) (hb : PE X b (tD K (.br 0) g c'))
    (hw : swappedStores [.Tuple [.Name x px, .Name y py] kt pt] (.Tuple [a, b] k2 pt2) X.env = pure (some [x, y])) (hi : X.N[i]? = some x := by rfl) (hj : X.N[j]? = some y := by rfl) (hij : i ≠ j := by decide)
    (hx : X.env.scope.names.lookup x = some .local := by rfl) (hy : X.env.scope.names.lookup y = some .local := by rfl)
    (hs : swapsWithSole [.Tuple [.Name x px, .Name y py] kt pt] (.Tuple [a, b] k2 pt2) pos.line X.env = pure false := by rfl) (hs1 : starEach [a, b] X.env = (false, eval a X.env) :: starEach [b] X.env := by rfl) (hs2 : starEach [b] X.env = (false, eval b X.env) :: starEach [] X.env := by rfl) :
    PS X (.Assign [.Tuple [.Name x px, .Name y py] kt pt] (.Tuple [a, b] k2 pt2) pos) (tS K (sPar i j f g (c ++ c'))) := (ps_par hc hN hi hj hij hx hy (qa_cons ha (qa_cons hb qa_nil hs2) hs1) hw hs).imp fun E σ H ⟨B0, G, s, hs, q⟩ => by
  unfold sPar at q
  split at q
  · rename_i d e hd he
    have hf : aCons f (aCons g aNil) s.1 = some [d, e] := by
      unfold aCons aNil
      simp [hd, he, o2]
    split at q
    · rename_i hfl
      rw [Bool.and_eq_true] at hfl
      obtain ⟨O, B, gd⟩ := hs
      refine ⟨[], _, s.1, _, gd.good.zero, .zero, hf, fun vs H' e1 hl p => ?_⟩
      match vs, hl with
      | [v, w], _ =>
        refine ⟨v, w, rfl, q _ H' ?_⟩
        have hB := (gd.ok.mono e1).noTup
        exact GS.sets (m := [(i, v), (j, w)]) (l := [(i, d), (j, e)]) (gd.mono e1) (fun _ h => h) (.cons ((RL.r0 (p 0 v d rfl rfl)).hidF hB hfl.1) (.cons ((RL.r0 (p 1 w e rfl rfl)).hidF hB hfl.2) .nil))
    · obtain ⟨O, B, gd⟩ := hs
      obtain ⟨O', B', g', _⟩ := gd.demote (c ++ (c' ++ []))
      rw [List.append_nil] at g'
      refine ⟨B', lv (demote (c ++ c') s.2), s.1, _, g'.good, by rw [List.append_nil]; exact demote_ok _ s.2, hf, fun vs H' e1 hl p => ?_⟩
      match vs, hl with
      | [v, w], _ =>
        refine ⟨v, w, rfl, q _ H' ?_⟩
        exact GS.sets (m := [(i, v), (j, w)]) (l := [(i, d), (j, e)]) (g'.mono e1) (fun _ h => h) (.cons (RL.r (p 0 v d rfl rfl)) (.cons (RL.r (p 1 w e rfl rfl)) .nil))
  · exact q.elim
/-! name op= value -/
def sAug (i : Nat) (op : D → D → Option D) (f : FE) : FS := fun s => match o2 (eVar i s.1) (f s.1) op with
  | none => .stuck
  | some d => .next (s.1.set i (some d), s.2.set i 0)
theorem ss_aug (i : Nat) {x : Str} {e : Expr} {f : FE} {c : Esc} {o : Operator} {ti : TIp} {op : D → D → Option D} {pos pos' : Pos} (hp : PIp X o ti) (hop : ∀ (B : List Addr) (x y : V) (dx dy d : D) (H : Hp) (Q : VK), Ok B H → R K H x dx → R K H y dy → op dx dy = some d → (∀ v H', Same H H' → R K (hid B H') v d → Q v H') → ti x y H Q)
    (hN : X.N.Nodup) (he : PE X e (tD K (.br 1) f c)) (hi : X.N[i]? = some x := by rfl) (hx : Loc X.env.scope x := by first | exact Or.inl rfl | exact Or.inr rfl) (hf : X.fn x = true ∨ X.env.scope.names.lookup x = some .local := by first | exact .inl rfl | exact .inr rfl) :
    PS X (.AugAssign (.Name x pos') o e pos) (tS K (sAug i op f)) := (ps_aug hN hi hx he hp hf).imp fun E σ H ⟨B0, G, s, hs, q⟩ => by
  unfold sAug at q
  split at q
  · exact q.elim
  · rename_i d hd
    obtain ⟨dx, dy, h1, h2, h3⟩ := o2_some hd
    obtain ⟨O, B, g⟩ := hs
    obtain ⟨v, e1, r⟩ := g.good.slot i dx (eVar_some h1)
    refine ⟨v, e1, [], _, s.1, dy, g.good.zero, .zero, h2, fun w H1 s1 p1 => ?_⟩
    refine hop B v w dx dy d H1 _ (g.ok.mono s1) (r.open.mono s1) (RL.r0 p1) h3 fun z H2 s2 rz => q _ H2 ?_
    obtain ⟨O', B', g', _⟩ := ((g.mono s1).mono s2).assign0 (i := i) rz
    exact ⟨O', B', g'⟩
def dAddI : D → D → Option D
  | .int i, .int j => some (.int (i + j))
  | _, _ => none
theorem ss_augAdd (i : Nat) {x : Str} {e : Expr} {f : FE} {c : Esc} {pos pos' : Pos} (hN : X.N.Nodup) (he : PE X e (tD K (.br 1) f c)) (hi : X.N[i]? = some x := by rfl) (hx : Loc X.env.scope x := by first | exact Or.inl rfl | exact Or.inr rfl) (hf : X.fn x = true ∨ X.env.scope.names.lookup x = some .local := by first | exact .inl rfl | exact .inr rfl) :
    PS X (.AugAssign (.Name x pos') .Add e pos) (tS K (sAug i dAddI f)) := ss_aug i ip_add (fun B x y dx dy d H Q ok rx ry h q => by
      unfold dAddI at h
      split at h
      · cases (Option.some.inj h)
        exact ⟨_, _, rx.int', ry.int', q _ H (Same.refl H) (.int _)⟩
      · cases h) hN he hi hx hf
theorem ss_augSub (i : Nat) {x : Str} {e : Expr} {f : FE} {c : Esc} {pos pos' : Pos} (hN : X.N.Nodup) (he : PE X e (tD K (.br 1) f c)) (hi : X.N[i]? = some x := by rfl) (hx : Loc X.env.scope x := by first | exact Or.inl rfl | exact Or.inr rfl) (hf : X.fn x = true ∨ X.env.scope.names.lookup x = some .local := by first | exact .inl rfl | exact .inr rfl) :
    PS X (.AugAssign (.Name x pos') .Sub e pos) (tS K (sAug i dSub f)) := ss_aug i ip_sub (fun B x y dx dy d H Q ok rx ry h q => by
      unfold dSub at h
      split at h
      · cases (Option.some.inj h)
        exact ⟨_, _, rx.int', ry.int', q _ H (Same.refl H) (.int _)⟩
      · cases h) hN he hi hx hf
/-! x.append(e), x[i] = e: x owned -/
def sApp (i : Nat) (f : FE) (c : Esc) : FS := fun s => match f s.1, eVar i s.1 with
  | some d, some (.list ds) => if ds.length < sz then
      (if flat d = true then (if lv s.2 i = 1 then .next (s.1.set i (some (.list (ds ++ [d]))), s.2) else .stuck)
        else (if lv (demote c s.2) i = 1 then .next (s.1.set i (some (.list (ds ++ [d]))), demote c s.2) else .stuck)) else .stuck
  | _, _ => .stuck
/-- the owned list at a name, changed -/
theorem GoodS.write {B0 B : List Addr} {G H : Hp} {O : Nat → List Addr} {σ : St} {ρ : PEnv} {L : List Nat} {i : Nat} {ds : List D} (g : GoodS K B0 G O B σ H ρ L) (hd : ρ[i]? = some (some (.list ds))) (hl : lv L i = 1) :
    ∃ a xs, σ[i]? = some (some (.ref a)) ∧ H a = some (.lst xs) ∧ RA K (hid B H) xs ds ∧ ∀ xs' ds', RA K (hid B H) xs' ds' → GS K B0 G σ (upd H a (.lst xs')) (ρ.set i (some (.list ds')), L) := by
  obtain ⟨v, h1, h2⟩ := g.slot i _ hd
  rw [hl] at h2
  generalize hoi : O i = oi at h2
  cases h2 with
  | z h _ => rcases h with h | h <;> cases h
  | @l _ a os xs _ e ra =>
    have hra : RA K (hid B H) xs ds := by
      have : ∀ {os : List (List Addr)} {vs : List V} {ds : List D}, ROA K B H 0 os vs ds → RA K (hid B H) vs ds := fun {os vs ds} h => by
        refine ROA.rec (K := K) (B := B) (H := H) (motive_1 := fun l o v d _ => l = 0 → R K (hid B H) v d) (motive_2 := fun l os vs ds _ => l = 0 → RA K (hid B H) vs ds) ?_ ?_ ?_ ?_ ?_ ?_ h rfl
        · intro l v d _ r _; exact r
        · intro l a os xs ds _ _ _ z; cases z
        · intro l a kvs es _ _ _ z; cases z
        · intro l a kvs es _ _ _ z; cases z
        · intro l _; exact .nil
        · intro l o os v d vs ds _ _ i1 i2 z; exact .cons (i1 z) (i2 z)
      exact this ra
    have aB : a ∈ B := (g.memB a).mpr (.inr ⟨i, by rw [hoi]; exact List.mem_cons_self⟩)
    refine ⟨a, xs, h1, e, hra, fun xs' ds' r => ?_⟩
    have hsame : Same (hid B H) (hid B (upd H a (.lst xs'))) := fun b o q => by
      obtain ⟨q1, q2⟩ := hid_some q
      rw [hid_out q1, upd_ne fun z => q1 (by rw [z]; exact aB)]
      exact q2
    have hos : os.flatten = [] := by
      have : ∀ {os : List (List Addr)} {vs : List V} {ds : List D}, ROA K B H 0 os vs ds → os.flatten = [] := fun {os vs ds} h => by
        refine ROA.rec (K := K) (B := B) (H := H) (motive_1 := fun l o v d _ => l = 0 → o = []) (motive_2 := fun l os vs ds _ => l = 0 → os.flatten = []) ?_ ?_ ?_ ?_ ?_ ?_ h rfl
        · intro l v d _ r _; rfl
        · intro l a os xs ds _ _ _ z; cases z
        · intro l a kvs es _ _ _ z; cases z
        · intro l a kvs es _ _ _ z; cases z
        · intro l _; rfl
        · intro l o os v d vs ds _ _ i1 i2 z; rw [List.flatten_cons, i1 z, i2 z]; rfl
      exact this ra
    rw [hos] at hoi
    refine ⟨O, B, g.memB, fun b hb => ?_, fun b o q => ?_, g.g0, g.gO, g.nd, g.dj, by rw [List.length_set, g.len], by rw [List.length_set, g.lenL], fun j d h => ?_⟩
    · by_cases hba : b = a
      · rw [hba]; exact ⟨_, upd_same, rfl⟩
      · rw [upd_ne hba]; exact g.ok b hb
    · rw [upd_ne fun z => ?_]
      · exact g.same _ _ q
      · rw [z] at q
        have := g.gO i a (by rw [hoi]; exact List.mem_cons_self)
        rw [this] at q; cases q
    · by_cases hj : j = i
      · subst hj
        have hi : j < ρ.length := (List.getElem?_eq_some_iff.mp hd).1
        simp only [List.getElem?_set_self hi] at h
        cases h
        refine ⟨.ref a, h1, ?_⟩
        rw [hoi]
        show RO K B _ (lv L j) _ _ _
        rw [hl]
        exact RO.l1 upd_same (r.mono hsame)
      · simp only [List.getElem?_set_ne (Ne.symm hj)] at h
        obtain ⟨w, h3, h4⟩ := g.slot j d h
        refine ⟨w, h3, h4.mono_aux hsame fun b hb => upd_ne fun z => ?_⟩
        exact g.dj j i hj b hb (by rw [hoi, z]; exact List.mem_cons_self)
theorem app_ok {i : Nat} {f : FE} {c : Esc} : ∀ E σ H, tS K (sApp i f c) E σ H → tDrop (tBM K "list" rAppend (tVar i) (tCons (tD K (.br 0) f c) tNil)) E σ H := fun E σ H ⟨B0, G, s, hs, q⟩ => by
  unfold sApp at q
  split at q
  · rename_i d ds hd hi
    have hi := eVar_some hi
    split at q
    · rename_i hz
      split at q
      · rename_i hfl
        split at q
        · rename_i hl
          obtain ⟨O, B, g⟩ := hs
          obtain ⟨a, xs, h1, h2, h3, h4⟩ := g.write hi hl
          refine ⟨.ref a, h1, .inl ⟨rfl, _, SqL.of h2⟩, [], _, s.1, d, g.good.zero, .zero, hd, fun v H1 s1 p1 => ?_⟩
          obtain ⟨a', xs', h1', h2', h3', h4'⟩ := (g.mono s1).write hi hl
          rw [h1] at h1'
          cases h1'
          have h5 := s1 _ _ h2
          rw [h5] at h2'
          cases h2'
          refine ⟨a, xs, v, rfl, rfl, h5, by rw [h3.length, sz_eq]; exact hz, ?_⟩
          exact q _ _ (h4' _ _ (h3'.append (.cons ((RL.r0 p1).hidF ((g.ok.mono s1).noTup) hfl) .nil)))
        · exact q.elim
      · split at q
        · rename_i hl
          obtain ⟨O, B, g0⟩ := hs
          obtain ⟨O', B', g, _⟩ := g0.demote c
          obtain ⟨a, xs, h1, h2, h3, h4⟩ := g.write hi hl
          refine ⟨.ref a, h1, .inl ⟨rfl, _, SqL.of h2⟩, B', _, s.1, d, g.good, demote_ok c s.2, hd, fun v H1 s1 p1 => ?_⟩
          obtain ⟨a', xs', h1', h2', h3', h4'⟩ := (g.mono s1).write hi hl
          rw [h1] at h1'
          cases h1'
          have h5 := s1 _ _ h2
          rw [h5] at h2'
          cases h2'
          refine ⟨a, xs, v, rfl, rfl, h5, by rw [h3.length, sz_eq]; exact hz, ?_⟩
          exact q _ _ (h4' _ _ (h3'.append (.cons (RL.r p1) .nil)))
        · exact q.elim
    · exact q.elim
  · exact q.elim
theorem ss_app (i : Nat) {x : Str} {e : Expr} {f : FE} {c : Esc} {pos p p2 p3 : Pos} (ps : PS X (.Expr (.Call (.Attribute (.Name x p) "append" p2) [e] [] p3) pos) (tDrop (tBM K "list" rAppend (tVar i) (tCons (tD K (.br 0) f c) tNil)))) :
    PS X (.Expr (.Call (.Attribute (.Name x p) "append" p2) [e] [] p3) pos) (tS K (sApp i f c)) := ps.imp app_ok
/-! x[j] = e -/
def sPut (i : Nat) (j f : FE) (c : Esc) : FS := fun s => match f s.1, eVar i s.1, j s.1 with
  | some d, some (.list ds), some (.int k) => match ixN ds.length k with
    | none => .stuck
    | some n => if flat d = true then (if lv s.2 i = 1 then .next (s.1.set i (some (.list (ds.set n d))), s.2) else .stuck)
        else (if lv (demote c s.2) i = 1 then .next (s.1.set i (some (.list (ds.set n d))), demote c s.2) else .stuck)
  | _, _, _ => .stuck
theorem put_ok {i : Nat} {j f : FE} {c cj : Esc} : ∀ E σ H, tS K (sPut i j f c) E σ H → tAsg (tD K (.br 0) f c) (gSub (tVar i) (tD K (.br 1) j cj) rSetL) E σ H := fun E σ H ⟨B0, G, s, hs, q⟩ => by
  unfold sPut at q
  split at q
  · rename_i d ds k hd hi hk
    have hi := eVar_some hi
    split at q
    · exact q.elim
    · rename_i n hn
      split at q
      · rename_i hfl
        split at q
        · rename_i hl
          obtain ⟨O, B, g⟩ := hs
          refine ⟨[], _, s.1, d, g.good.zero, .zero, hd, fun v H1 s1 p1 => ?_⟩
          obtain ⟨a, xs, h1, h2, h3, _⟩ := (g.mono s1).write hi hl
          refine ⟨.ref a, h1, [], _, s.1, _, (g.mono s1).good.zero, .zero, hk, fun w H2 s2 p2 => ?_⟩
          obtain ⟨a', xs', h1', h2', h3', h4'⟩ := ((g.mono s1).mono s2).write hi hl
          rw [h1] at h1'
          cases h1'
          have h5 := s2 _ _ h2
          rw [h5] at h2'
          cases h2'
          refine ⟨a, xs, _, n, rfl, RL.int p2, h5, by rw [h3.length]; exact hn, ?_⟩
          exact q _ _ (h4' _ _ (h3'.set (((RL.r0 p1).mono s2).hidF (((g.ok.mono s1).mono s2).noTup) hfl) n))
        · exact q.elim
      · split at q
        · rename_i hl
          obtain ⟨O, B, g0⟩ := hs
          obtain ⟨O', B', g, _⟩ := g0.demote c
          refine ⟨B', _, s.1, d, g.good, demote_ok c s.2, hd, fun v H1 s1 p1 => ?_⟩
          obtain ⟨a, xs, h1, h2, h3, _⟩ := (g.mono s1).write hi hl
          refine ⟨.ref a, h1, [], _, s.1, _, (g.mono s1).good.zero, .zero, hk, fun w H2 s2 p2 => ?_⟩
          obtain ⟨a', xs', h1', h2', h3', h4'⟩ := ((g.mono s1).mono s2).write hi hl
          rw [h1] at h1'
          cases h1'
          have h5 := s2 _ _ h2
          rw [h5] at h2'
          cases h2'
          refine ⟨a, xs, _, n, rfl, RL.int p2, h5, by rw [h3.length]; exact hn, ?_⟩
          exact q _ _ (h4' _ _ (h3'.set ((RL.r p1).mono (same_hid s2)) n))
        · exact q.elim
  · exact q.elim
theorem ss_put (i : Nat) {x : Str} {e ix : Expr} {j f : FE} {c cj : Esc} {pos p p2 : Pos} (ps : PS X (.Assign [.Subscript (.Name x p) ix p2] e pos) (tAsg (tD K (.br 0) f c) (gSub (tVar i) (tD K (.br 1) j cj) rSetL))) :
    PS X (.Assign [.Subscript (.Name x p) ix p2] e pos) (tS K (sPut i j f c)) := ps.imp put_ok
/-! for -/
def forGo (t : Tg) (body : FS) : List D → S → Out
  | [], s => .next s
  | d :: ds, s => match t.go d with
    | none => .stuck
    | some l => match body (setsD s.1 l, zeros s.2 l) with
      | .next s' => forGo t body ds s'
      | .cont s' => forGo t body ds s'
      | .brk s' => .next s'
      | .ret d => .ret d
      | .stuck => .stuck
def sFor (fi : FA) (c : Esc) (t : Tg) (body : FS) : FS := fun s => match fi s.1 with
  | none => .stuck
  | some ds => forGo t body ds (s.1, demote c s.2)
theorem Fin.mono {B0 : List Addr} {G G' : Hp} {E : Ends} {o : Out} (hG : Same G G') (g0 : ∀ a ∈ B0, G a ≠ none) (h : Fin K B0 G E o) : Fin K B0 G' E o := by
  have gs : ∀ {σ : St} {H : Hp} {s : S}, GS K B0 G' σ H s → GS K B0 G σ H s := fun {σ H s} ⟨O, B, g⟩ => ⟨O, B, g.memB, g.ok, hG.trans g.same, g0, fun i a h => hG.free (g.gO i a h), g.nd, g.dj, g.len, g.lenL, g.slot⟩
  cases o with
  | stuck => exact h
  | next s => exact fun σ' H' z => h σ' H' (gs z)
  | brk s => exact fun σ' H' z => h σ' H' (gs z)
  | cont s => exact fun σ' H' z => h σ' H' (gs z)
  | ret d => exact fun v H' e r => h v H' (hG.trans e) r
theorem for_core {fi : FA} {c : Esc} {t : Tg} {fb : FS} {ti : TI} {E : Ends} {σ : St} {H : Hp} {B0 : List Addr} {G : Hp} {s : S} (hs : GS K B0 G σ H s) (q : Fin K B0 G E (sFor fi c t fb s))
    (hti : ∀ B L ds, Good K B L σ H s.1 → EscOk c L → fi s.1 = some ds → ∀ Rr, (∀ J H1, Same H H1 → Walks K (gOf 0 B H1) B J ds → Rr J H1) → ti σ H Rr) : tFor ti (tG K t) (tS K fb) E σ H := by
  unfold sFor at q
  split at q
  · exact q.elim
  · rename_i ds hds
    obtain ⟨O, B, g0⟩ := hs
    obtain ⟨O', B', g, _⟩ := g0.demote c
    refine hti B' _ ds g.good (demote_ok c s.2) hds _ fun J H1 s1 wk => ?_
    -- what stands through the loop: all that no name owns
    have g1 := g.mono s1
    let G1 : Hp := fun a => if a ∈ B' ∧ a ∉ B0 then none else H1 a
    have hG1 : Same G1 H1 := fun b o e => by
      simp only [G1] at e
      split at e
      · cases e
      · exact e
    have hGG : Same G G1 := fun b o e => by
      simp only [G1]
      rw [if_neg fun z => ?_]
      · exact g1.same _ _ e
      · rcases (g1.memB b).mp z.1 with h | ⟨i, h⟩
        · exact z.2 h
        · rw [g1.gO i b h] at e; cases e
    have hhG : Same (gOf 0 B' H1) G1 := fun b o e => by
      obtain ⟨e1, e2⟩ := hid_some (show hid B' H1 b = some o from e)
      simp only [G1]
      rw [if_neg fun z => e1 z.1]
      exact e2
    have gs1 : GS K B0 G1 σ H1 (s.1, demote c s.2) := ⟨O', B', g1.memB, g1.ok, hG1, fun a h z => g1.g0 a h (hGG.free z), fun i a h => by
      simp only [G1]
      rw [if_pos ⟨(g1.memB a).mpr (.inr ⟨i, h⟩), fun z => g1.g0 a z (g1.gO i a h)⟩], g1.nd, g1.dj, g1.len, g1.lenL, g1.slot⟩
    have q1 : Fin K B0 G1 E (forGo t fb ds (s.1, demote c s.2)) := q.mono hGG g0.g0
    refine ⟨fun i n σ' H' => n = ds.length - i ∧ i ≤ ds.length ∧ ∃ s', GS K B0 G1 σ' H' s' ∧ Fin K B0 G1 E (forGo t fb (ds.drop i) s'), ⟨ds.length, by simp, Nat.zero_le _, _, gs1, by simpa using q1⟩, ?_⟩
    rintro i n σ' H' ⟨rfl, hi, s', gs', q'⟩
    have sG : Same G1 H' := let ⟨_, _, g⟩ := gs'; g.same
    by_cases hlt : i < ds.length
    · refine .inr ⟨wk.go i H' hlt (hhG.trans sG), fun σ2 H2 => (ds.length - (i + 1) = ds.length - (i + 1) ∧ i + 1 ≤ ds.length ∧ ∃ s', GS K B0 G1 σ2 H2 s' ∧ Fin K B0 G1 E (forGo t fb (ds.drop (i + 1)) s')), fun σ2 H2 w => ⟨_, by omega, w⟩, fun x H2 y => ?_⟩
      rw [List.drop_eq_getElem_cons hlt] at q'
      obtain ⟨s2, rx⟩ := wk.yld i H' x H2 _ (List.getElem?_eq_getElem hlt) (hhG.trans sG) y
      obtain ⟨O2, B2, g2⟩ := gs'
      have rx := rx B2 g2.ok fun a ha => by
        refine ⟨?_, g2.ok.trk a ha⟩
        rcases (g2.memB a).mp ha with h | ⟨j, h⟩
        · exact .inl ((g1.memB a).mpr (.inl h))
        · exact .inr (hhG.free (g2.gO j a h))
      unfold forGo at q'
      split at q'
      · exact q'.elim
      · rename_i l hl
        refine ⟨B2, _, l, rx, hl, fun m rs => ⟨B0, G1, _, GS.sets (g2.mono s2) (fun _ h => h) rs, ?_⟩⟩
        cases hbd : fb (setsD s'.1 l, zeros s'.2 l) with
        | stuck => rw [hbd] at q'; exact q'.elim
        | next s3 => rw [hbd] at q'; exact fun σ3 H3 g3 => ⟨rfl, hlt, s3, g3, q'⟩
        | cont s3 => rw [hbd] at q'; exact fun σ3 H3 g3 => ⟨rfl, hlt, s3, g3, q'⟩
        | brk s3 => rw [hbd] at q'; exact q'
        | ret d => rw [hbd] at q'; exact q'
    · have e : i = ds.length := by omega
      subst e
      refine .inl ⟨wk.stop H' (hhG.trans sG), ?_⟩
      rw [List.drop_length] at q'
      exact q' σ' H' gs'
theorem ss_for {iter tg : Expr} {body : List Stmt} {pos : Pos} {fi : FA} {c : Esc} {t : Tg} {fb : FS} (hp : PassesOwn (model X.prog X.w) X.A X.env X.xe) (hc : X.calm = true) (hi : PI X tg iter (tI K 0 fi c)) (hg : PG X tg (tG K t)) (hb : PSs X body (tS K fb))
    (hs : ∀ x, foldedSetIterable iter X.env x = pure x := by intro _; rfl) : PS X (.For tg iter body [] pos) (tS K (sFor fi c t fb)) := (ps_for hp hc hi hg hb hs).imp fun E σ H ⟨B0, G, s, hs, q⟩ =>
  for_core hs q fun B L ds g es hd Rr h => ⟨B, L, s.1, ds, g, es, hd, h⟩
/-! while -/
def whGo (c : FT) (body : FS) : Nat → S → Out
  | 0, _ => .stuck
  | n + 1, s => match c s.1 with
    | none => .stuck
    | some false => .next s
    | some true => match body s with
      | .next s' => whGo c body n s'
      | .cont s' => whGo c body n s'
      | .brk s' => .next s'
      | .ret d => .ret d
      | .stuck => .stuck
def sWhile (fuel : Nat) (c : FT) (body : FS) : FS := whGo c body fuel
theorem ss_while (fuel : Nat) {test : Expr} {body : List Stmt} {pos : Pos} {c : FT} {fb : FS} (hp : PassesOwn (model X.prog X.w) X.A X.env X.xe) (hc : PT X test (tT K c)) (hb : PSs X body (tS K fb)) : PS X (.While test body [] pos) (tS K (sWhile fuel c fb)) := (ps_while hp hc hb).imp fun E σ H ⟨B0, G, s, hs, q⟩ => by
  refine ⟨fun m σ' H' => ∃ s', GS K B0 G σ' H' s' ∧ Fin K B0 G E (whGo c fb m s'), ⟨fuel, s, hs, q⟩, ?_⟩
  rintro m σ' H' ⟨s', gs', q'⟩
  cases m with
  | zero => exact q'.elim
  | succ m =>
    obtain ⟨B, L, gd⟩ := gs'.good
    unfold whGo at q'
    split at q'
    · exact q'.elim
    · exact ⟨B, L, s'.1, false, gd, by assumption, fun H1 s1 => iteF (q' σ' H1 (gs'.mono s1))⟩
    · refine ⟨B, L, s'.1, true, gd, by assumption, fun H1 s1 => iteT ⟨fun σ2 H2 => ∃ s2, GS K B0 G σ2 H2 s2 ∧ Fin K B0 G E (whGo c fb m s2), fun σ2 H2 w => ⟨m, Nat.lt_succ_self m, w⟩, B0, G, s', gs'.mono s1, ?_⟩⟩
      cases hbd : fb s' with
      | stuck => rw [hbd] at q'; exact q'.elim
      | next s3 => rw [hbd] at q'; exact fun σ3 H3 g3 => ⟨s3, g3, q'⟩
      | cont s3 => rw [hbd] at q'; exact fun σ3 H3 g3 => ⟨s3, g3, q'⟩
      | brk s3 => rw [hbd] at q'; exact q'
      | ret d => rw [hbd] at q'; exact q'
end

/-! ### a def -/
def dfun (N n : Nat) (body : FS) : Fn := fun ds => if ds.length = n then (match body (ds.map some ++ List.replicate (N - n) none, List.replicate N 0) with
  | .ret d => some d
  | .next _ => some .none
  | _ => none) else none
theorem getD_rep {i N : Nat} : lv (List.replicate N 0) i = 0 := by
  unfold lv
  rw [List.getD_eq_getElem?_getD, List.getElem?_replicate]
  split <;> rfl
theorem start_ok {K : PySem.W.Frag} {B : List Addr} {H : Hp} {vs : List V} {ds : List D} {N : List Str} (ok : Ok B H) (r : RA K (hid B H) vs ds) (hn : ds.length ≤ N.length) :
    GS K B H (L2.start N vs) H (ds.map some ++ List.replicate (N.length - ds.length) none, List.replicate N.length 0) := by
  refine ⟨fun _ => [], B, fun a => by simp, ok, Same.refl H, ok.trk, fun i a h => by simp at h, fun i => List.nodup_nil, fun i j _ a h => by simp at h, ?_, ?_, fun i d h => ?_⟩
  · unfold L2.start
    simp [r.length]
  · simp; omega
  · have hi : i < ds.length := by
      by_cases hi : i < ds.length
      · exact hi
      · simp only [List.getElem?_append_right (show (ds.map some).length ≤ i by simpa using hi), List.getElem?_replicate] at h
        split at h <;> cases h
    simp only [List.getElem?_append_left (show i < (ds.map some).length by simpa using hi), List.getElem?_map] at h
    obtain ⟨x, h1, h2⟩ := Option.map_eq_some_iff.mp h
    cases h2
    obtain ⟨v, h3, h4⟩ := r.get h1
    refine ⟨v, ?_, ?_⟩
    · unfold L2.start
      rw [List.getElem?_append_left (by have := r.length; simp; omega), List.getElem?_map, h3]
      rfl
    · show RO K B H (lv (List.replicate N.length 0) i) [] v d
      rw [getD_rep]
      exact .z (.inl rfl) h4
section
variable {P : Program} {w : World} {K : PySem.W.Frag} {mg : Str → Option Value} {base : Heap}
theorem fun_den {x qual : Str} {st : Stmt} {f : Addr} {fd : FuncData} {N ps : List Str} {k : Nat} {g : FS} {NN n : Nat} (F : Fun K x qual st f fd) (hS : FnScope N ps (defScope st)) (hNN : NN = N.length) (hn : n = ps.length) (hle : ps.length ≤ N.length)
    (hbody : ∀ (cdv : Value) (A : Around) (outer : List Env) (s : Shared) (H : Hp) (E : XK), Room k (A.deeper (envOfC qual (defScope st) s.heap.objs.size f cdv)) → PSs (cxOf CX0 P w K mg base N qual (defScope st) f cdv A outer s H E).nox (defBody st) (tS K g)) :
    FnOk P w K mg base CX0 (k + 1) f fd ps (spD K n (dfun NN n g)) := by
  subst hNN hn
  refine F.ok hS spD_len (fun cdv A outer s H vs Q E hr h => ?_)
  obtain ⟨B, ds, d, ok, r, hl, hd, q⟩ := h
  refine ⟨_, hbody cdv A outer s H E hr, B, H, _, start_ok ok r (by rw [hl]; exact hle), ?_⟩
  unfold dfun at hd
  rw [if_pos hl] at hd
  rw [hl]
  split at hd
  · rename_i e
    rw [e]
    cases (Option.some.inj hd)
    exact q
  · rename_i e
    rw [e]
    cases (Option.some.inj hd)
    intro σ' H' ⟨O, B', g⟩
    exact q .non H' g.same .non
  · cases hd
end
end DS
end

section
set_option Elab.async false
set_option linter.all false
set_option maxRecDepth 100000
/-! Part h: more statements and tests. -/
namespace DS
open PySem PySem.Spec PyProof.Rows L2

theorem hu_of64 {A : Around} {k : Nat} (hr : Room k A) : A.units + 64 < cLine := hr.units
theorem hu2_of {A : Around} {k : Nat} (hr : Room k A) : A.units + 65 < cLine := by have := hr.un; omega
section
variable {X : Cx} {K : PySem.W.Frag} {κ : Mo} {pos : Pos} {a b : Expr} {fa fb : FE} {ca cb : Esc}
def tIsND (f : FE) : FT := fun ρ => o1 (f ρ) fun d => some (isNon d)
def tNotND (f : FE) : FT := fun ρ => o1 (f ρ) fun d => some (!isNon d)
theorem qt_isN {j pos'} (ha : PE X a (tD K (.br 1) fa ca)) : PT X (.Compare a [.Is] [.Constant .none j pos'] pos) (tT K (tIsND fa)) := (pt_cmp (pc_isN ha) rfl).imp fun σ H Q ⟨B, L, ρ, k, g, hf, q⟩ => by
  obtain ⟨d, h1, h2⟩ := o1_some hf
  cases (Option.some.inj h2)
  exact ⟨[], _, ρ, d, g.zero, .zero, h1, fun x H1 s1 p1 => ⟨_, by rw [(RL.r0 p1).isNon], q H1 s1⟩⟩
theorem qt_notN {j pos'} (ha : PE X a (tD K (.br 1) fa ca)) : PT X (.Compare a [.IsNot] [.Constant .none j pos'] pos) (tT K (tNotND fa)) := (pt_cmp (pc_notN ha) rfl).imp fun σ H Q ⟨B, L, ρ, k, g, hf, q⟩ => by
  obtain ⟨d, h1, h2⟩ := o1_some hf
  cases (Option.some.inj h2)
  exact ⟨[], _, ρ, d, g.zero, .zero, h1, fun x H1 s1 p1 => ⟨_, by rw [(RL.r0 p1).isNon], q H1 s1⟩⟩
/-! x[j] op= e on an owned list of ints -/
def sPutOp (i : Nat) (op : D → D → Option D) (j f : FE) : FS := fun s => match f s.1, eVar i s.1, j s.1 with
  | some d, some (.list ds), some (.int k) => match ixN ds.length k with
    | none => .stuck
    | some n => match o1 ds[n]? (fun x => op x d) with
      | some (.int y) => if lv s.2 i = 1 then .next (s.1.set i (some (.list (ds.set n (.int y)))), s.2) else .stuck
      | _ => .stuck
  | _, _, _ => .stuck
/-- reading an item by values -/
def rGetL : V → V → Hp → VK → Prop := fun o i H Q => ∃ p xs k x, o = .ref p ∧ i = .int k ∧ H p = some (.lst xs) ∧ atI xs k = some x ∧ Q x H
theorem get_list : PGet X rGetL := by
  intro pins s σ H o i ov iv Q I ro ri h
  obtain ⟨p, xs, k, z, rfl, rfl, hq, he, q⟩ := h
  cases ro
  obtain ⟨t, rfl⟩ := ri
  obtain ⟨its, r, pl, hz⟩ := I.list (SqL.of hq)
  obtain ⟨j, h1, h2, h3, h4, h5⟩ := atI_get he
  obtain ⟨w, ew, rw'⟩ := r.get h2
  have hl := r.length
  have hn := line63
  have fin : EP X pins σ Q w s := ⟨z, H, I, rw', q⟩
  by_cases h0 : 0 ≤ k
  · have hj : k.toNat = j := by
      rw [seqIndex_of h0 h5] at h1
      exact Option.some.inj h1
    exact wpAny_getItem_list pl.isList h0 (by omega) (by rw [hj]; simpa using ew) fin
  · have hj : (k + (its.toArray.size : Int)).toNat = j := by
      rw [seqIndex_neg (by omega) h4] at h1
      rw [List.size_toArray, ← hl]
      exact Option.some.inj h1
    exact wpAny_getItem_list_neg pl.isList (by omega) (by rw [List.size_toArray] <;> omega) (by omega) (by rw [hj]; simpa using ew) fin
/-- what an operator in place does to ints -/
def PIO (ti : TIp) (op : D → D → Option D) : Prop := ∀ (x y : V) (dx dy : D) (z : Int) (H : Hp) (Q : VK) (K : PySem.W.Frag), R K H x dx → R K H y dy → op dx dy = some (.int z) → Q (.int z) H → ti x y H Q
theorem pio_add : PIO (ipI fun i j => i + j) dAddI := by
  intro x y dx dy z H Q K rx ry h q
  unfold dAddI at h
  split at h
  · cases (Option.some.inj h)
    exact ⟨_, _, rx.int', ry.int', q⟩
  · cases h
theorem pio_sub : PIO (ipI fun i j => i - j) dSub := by
  intro x y dx dy z H Q K rx ry h q
  unfold dSub at h
  split at h
  · cases (Option.some.inj h)
    exact ⟨_, _, rx.int', ry.int', q⟩
  · cases h
theorem atI_of {α : Type} {xs : List α} {k : Int} {n : Nat} (h : ixN xs.length k = some n) : atI xs k = xs[n]? := by
  unfold atI; rw [h]; rfl
theorem putOp_ok {i : Nat} {j f : FE} {c cj : Esc} {op : D → D → Option D} {ti : TIp} (hio : PIO ti op) : ∀ E σ H, tS K (sPutOp i op j f) E σ H → tAugS (tVar i) (tD K (.br 1) j cj) (tD K (.br 1) f c) rGetL ti rSetL E σ H := fun E σ H ⟨B0, G, s, hs, q⟩ => by
  unfold sPutOp at q
  split at q
  · rename_i d ds k hd hi hk
    have hi := eVar_some hi
    split at q
    · exact q.elim
    · rename_i n hn
      split at q
      · rename_i y hy
        split at q
        · rename_i hl
          obtain ⟨e, he, hop⟩ := o1_some hy
          obtain ⟨O, B, g⟩ := hs
          obtain ⟨a, xs, h1, h2, h3, _⟩ := g.write hi hl
          refine ⟨.ref a, h1, [], _, s.1, _, g.good.zero, .zero, hk, fun w H1 s1 p1 => ?_⟩
          obtain ⟨v, hv, rv⟩ := h3.get he
          refine ⟨a, xs, k, v, rfl, RL.int p1, s1 _ _ h2, by rw [atI_of (by rw [h3.length]; exact hn)]; exact hv, [], _, s.1, d, (g.mono s1).good.zero, .zero, hd, fun u H2 s2 p2 => ?_⟩
          have s12 := s1.trans s2
          refine hio v u e d y H2 _ K ((rv.mono same_unhid).mono s12) (RL.r0 p2) hop ?_
          obtain ⟨a', xs', h1', h2', h3', h4'⟩ := (g.mono s12).write hi hl
          rw [h1] at h1'
          cases h1'
          have h5 := s12 _ _ h2
          rw [h5] at h2'
          cases h2'
          refine ⟨a, xs, k, n, rfl, RL.int p1, h5, by rw [h3.length]; exact hn, ?_⟩
          exact q _ _ (h4' _ _ (h3'.set (.int y) n))
        · exact q.elim
      · exact q.elim
  · exact q.elim
theorem ss_putOp (i : Nat) {x : Str} {e ix : Expr} {j f : FE} {c cj : Esc} {pos p p2 : Pos} {o : Operator} {op : D → D → Option D} {ti : TIp} (hio : PIO ti op) (ps : PS X (.AugAssign (.Subscript (.Name x p) ix p2) o e pos) (tAugS (tVar i) (tD K (.br 1) j cj) (tD K (.br 1) f c) rGetL ti rSetL)) :
    PS X (.AugAssign (.Subscript (.Name x p) ix p2) o e pos) (tS K (sPutOp i op j f)) := ps.imp (putOp_ok hio)
/-! x.extend(e) -/
def sExt (i : Nat) (f : FE) (c : Esc) : FS := fun s => match f s.1, eVar i s.1 with
  | some (.list es), some (.list ds) => if ds.length + es.length ≤ sz ∧ lv (demote c s.2) i = 1 then .next (s.1.set i (some (.list (ds ++ es))), demote c s.2) else .stuck
  | _, _ => .stuck
theorem ext_ok {i : Nat} {f : FE} {c : Esc} : ∀ E σ H, tS K (sExt i f c) E σ H → tDrop (tBM K "list" rExtend (tVar i) (tCons (tD K (.br 1) f c) tNil)) E σ H := fun E σ H ⟨B0, G, s, hs, q⟩ => by
  unfold sExt at q
  split at q
  · rename_i es ds hd hi
    have hi := eVar_some hi
    split at q
    · rename_i hz
      obtain ⟨hz, hl⟩ := hz
      obtain ⟨O, B, g0⟩ := hs
      obtain ⟨O', B', g, _⟩ := g0.demote c
      obtain ⟨a, xs, h1, h2, h3, h4⟩ := g.write hi hl
      refine ⟨.ref a, h1, .inl ⟨rfl, _, SqL.of h2⟩, B', _, s.1, _, g.good, demote_ok c s.2, hd, fun v H1 s1 p1 => ?_⟩
      obtain ⟨a', xs', h1', h2', h3', h4'⟩ := (g.mono s1).write hi hl
      rw [h1] at h1'
      cases h1'
      have h5 := s1 _ _ h2
      rw [h5] at h2'
      cases h2'
      obtain ⟨b, ys, rfl, e1, e2⟩ := RL.list1 p1
      refine ⟨a, b, xs, ys, rfl, rfl, h5, e1, by rw [h3.length, e2.length, sz_eq]; exact hz, ?_⟩
      exact q _ _ (h4' _ _ (h3'.append e2))
    · exact q.elim
  · exact q.elim
theorem ss_ext (i : Nat) {x : Str} {e : Expr} {f : FE} {c : Esc} {pos p p2 p3 : Pos} (ps : PS X (.Expr (.Call (.Attribute (.Name x p) "extend" p2) [e] [] p3) pos) (tDrop (tBM K "list" rExtend (tVar i) (tCons (tD K (.br 1) f c) tNil)))) :
    PS X (.Expr (.Call (.Attribute (.Name x p) "extend" p2) [e] [] p3) pos) (tS K (sExt i f c)) := ps.imp ext_ok
end
section
variable {P : Program} {w : World} {K : PySem.W.Frag} {mg : Str → Option Value} {base : Heap}
/-- a def that is never called -/
theorem fun_none {x qual : Str} {st : Stmt} {f : Addr} {fd : FuncData} {N ps : List Str} {k n : Nat} (F : Fun K x qual st f fd) (hS : FnScope N ps (defScope st)) (hn : n = ps.length) : FnOk P w K mg base CX0 (k + 1) f fd ps (spD K n fun _ => none) := by
  subst hn
  refine F.ok hS spD_len (fun cdv A outer s H vs Q E hr h => ?_)
  obtain ⟨B, ds, d, ok, r, hl, hd, q⟩ := h
  cases hd
end
end DS
end

section
set_option Elab.async false
set_option linter.all false
set_option maxRecDepth 100000
set_option maxHeartbeats 1000000
/-! Part i: zip and enumerate of lists and tuples, mixed. -/
namespace DS
open PySem PySem.Spec PyProof.Rows L2

/-- b: a tuple; else a list -/
def SqB (b : Bool) (K : PySem.W.Frag) (H : Hp) (a : Addr) (xs : List V) : Prop := if b = true then SqT K H a xs else SqL K H a xs
def ItB (b : Bool) (h : Heap) (it l : Addr) (i : Nat) : Prop := if b = true then h.IsTupleIter it l i else h.IsListIter it l i
def IsB (b : Bool) (h : Heap) (l : Addr) (items : Array Value) : Prop := if b = true then h.IsTuple l items else h.IsList l items
def beginB (b : Bool) (l : Addr) : Obj := if b = true then { cls := .type "tuple_iterator", data := .fields #[.ref l, .int 0 0] } else { cls := .type "list_iterator", data := .fields #[.ref l, .int 0 0] }
section
variable {b : Bool} {K : PySem.W.Frag}
theorem SqB.mono {H H' : Hp} {a : Addr} {xs : List V} (e : Same H H') (h : SqB b K H a xs) : SqB b K H' a xs := by
  cases b with
  | true => exact seqT_mono e h
  | false => exact e.seq h
theorem beginsB (l : Addr) (items : Array Value) : Begins (.ref l) (beginB b l) fun h => IsB b h l items := by
  cases b with
  | true => exact begins_tuple l items
  | false => exact begins_list l items
theorem beginB_it {h : Heap} {it l : Addr} (e : h.get? it = some (beginB b l)) : ItB b h it l 0 := by
  cases b with
  | true => exact ⟨_, e, rfl, rfl⟩
  | false => exact ⟨_, e, rfl, rfl⟩
theorem ItB.at {h h' : Heap} {it l : Addr} {i : Nat} (x : ItB b h it l i) (e : ∀ o, h.get? it = some o → h'.get? it = some o) : ItB b h' it l i := by
  cases b with
  | true => exact Heap.IsTupleIter.at x e
  | false => exact Heap.IsListIter.at x e
theorem ItB.obj {h : Heap} {it l : Addr} {i : Nat} (x : ItB b h it l i) : ∃ o, h.get? it = some o ∧ ∀ v, o.data ≠ .cell v := by
  cases b with
  | true => obtain ⟨o, e, _, d⟩ := x; exact ⟨o, e, fun v z => by rw [d] at z; cases z⟩
  | false => obtain ⟨o, e, _, d⟩ := x; exact ⟨o, e, fun v z => by rw [d] at z; cases z⟩
theorem drawsB {prog : Program} {w : World} {A : Around} (hh : A.handled = none) (it l : Addr) (hne : l ≠ it) (items : Array Value) :
    Draws prog w A it [it, l] items.size (fun i v => items[i]? = some v) (fun i h => ItB b h it l i ∧ IsB b h l items) := by
  cases b with
  | true => exact Draws.tuple hh it l hne items
  | false => exact Draws.list hh it l hne items
theorem _root_.L2.Inv.seqB {X : Cx} {pins : List (Addr × Obj)} {σ : L2.St} {H : Hp} {s : Shared} {a : Addr} {xs : List V} (I : Inv X pins σ H s) (h : SqB b X.K H a xs) : ∃ its : List Value, Vals xs its ∧ IsB b s.heap a its.toArray := by
  cases b with
  | true =>
    obtain ⟨its, rv, p, _⟩ := I.tuple h
    exact ⟨its, rv, p⟩
  | false =>
    obtain ⟨its, rv, p, _⟩ := I.list h
    exact ⟨its, rv, p.isList⟩
theorem _root_.L2.Inv.seqB_inj {X : Cx} {pins : List (Addr × Obj)} {σ : L2.St} {H : Hp} {s : Shared} {a : Addr} {xs ys : List V} (I : Inv X pins σ H s) (h : SqB b X.K H a xs) (h' : SqB b X.K H a ys) : xs = ys := by
  cases b with
  | true => exact I.tuple_inj h h'
  | false => exact I.list_inj h h'
theorem IsB.lt {h : Heap} {l : Addr} {items : Array Value} (x : IsB b h l items) : l < h.objs.size := by
  cases b with
  | true => obtain ⟨o, e, _⟩ := x; exact Heap.lt_size e
  | false => obtain ⟨o, e, _⟩ := x; exact Heap.lt_size e
theorem IsB.keeps {h h' : Heap} {l : Addr} {items : Array Value} (x : IsB b h l items) (k : ∀ c o, h.get? c = some o → h'.get? c = some o) : IsB b h' l items := by
  cases b with
  | true => obtain ⟨o, e, r⟩ := x; exact ⟨o, k _ _ e, r⟩
  | false => obtain ⟨o, e, r⟩ := x; exact ⟨o, k _ _ e, r⟩
end
theorem nin2 {α : Type} {z a b : α} (h1 : z ≠ a) (h2 : z ≠ b) : z ∉ [a, b] := by simp [h1, h2]
theorem in2 {α : Type} {a b : α} : a ∈ [a, b] := by simp
theorem sep_facts {N a1 a2 : Nat} (l1 : a1 < N) (l2 : a2 < N) : (N + 2 ≠ N + 4 ∧ N + 3 ≠ N + 4 ∧ N + 2 ≠ N + 3 ∧ N + 2 ≠ N ∧ N + 4 ≠ N ∧ N + 4 ≠ a1 ∧ N + 3 ≠ N ∧ N + 3 ≠ a1) ∧ N + 2 ≠ N + 1 ∧ N + 4 ≠ N + 1 ∧ N + 4 ≠ a2 ∧ N + 3 ≠ N + 1 ∧ N + 3 ≠ a2 ∧ N ≠ N + 1 ∧ N ≠ a2 ∧ N + 1 ≠ N ∧ N + 1 ≠ a1 := by omega
theorem sep_of {N a1 a2 : Nat} (l1 : a1 < N) (l2 : a2 < N) : ZipSep2 (N + 4) (N + 2) (N + 3) N (N + 1) [N, a1] [N + 1, a2] :=
  let ⟨⟨f1, f2, f3, f4, f5, f6, f7, f8⟩, f9, f10, f11, f12, f13, f14, f15, f16, f17⟩ := sep_facts l1 l2
  ⟨f1, f2, f3, f4, in2, nin2 f5 f6, nin2 f7 f8, f9, in2, nin2 f10 f11, nin2 f12 f13, nin2 f14 f15, nin2 f16 f17⟩
theorem ne_of_ltN {N a : Nat} (l : a < N) : a ≠ N ∧ a ≠ N + 1 ∧ N + 1 ≠ a ∧ N + 1 ≠ N := by omega
theorem le5 {N c : Nat} (h : c ∈ [N + 4, N + 2, N + 3, N, N + 1]) : N ≤ c := by
  simp only [List.mem_cons, List.not_mem_nil, or_false] at h
  omega
theorem le2 {N c : Nat} (h : c ∈ [N + 1, N]) : N ≤ c := by
  simp only [List.mem_cons, List.not_mem_nil, or_false] at h
  omega
/-- a new pair at each turn: what f and g say -/
def ItP (Sx Sy : Hp → List V → Prop) : It :=
  ⟨fun i H => ∃ (xs ys : List V) (x y : V), Sx H xs ∧ Sy H ys ∧ xs[i]? = some x ∧ ys[i]? = some y,
    fun i H v H' => ∃ T x y, v = .ref T ∧ H T = none ∧ H' = upd H T (.tup [x, y]) ∧ (∀ xs, Sx H xs → xs[i]? = some x) ∧ ∀ ys, Sy H ys → ys[i]? = some y,
    fun i H => ∃ xs ys : List V, Sx H xs ∧ Sy H ys ∧ i = min xs.length ys.length⟩
abbrev ItZ (b1 b2 : Bool) (K : PySem.W.Frag) (a1 a2 : Addr) : It := ItP (fun H xs => SqB b1 K H a1 xs) (fun H xs => SqB b2 K H a2 xs)
theorem turn_zipB {P : Program} {w : World} {K : PySem.W.Frag} {elts : List Expr} {kk : Nat} {tpos : Pos} {b1 b2 : Bool} {a1 a2 z TI TO i1 i2 : Addr} (S : ZipSep2 z TI TO i1 i2 [i1, a1] [i2, a2]) (n1 : a1 ≠ i1) (n2 : a2 ≠ i2) :
    Turn P w K (.Tuple elts kk tpos) (ItZ b1 b2 K a1 a2) [z, TI, TO, i1, i2] z (fun i h => IsZip h z TI TO .none ∧ IsTupOf2 h TI (.ref i1) (.ref i2) ∧ (∃ x y, IsTupOf2 h TO x y) ∧ ItB b1 h i1 a1 i ∧ ItB b2 h i2 a2 i) where
  mem := List.mem_cons_self
  obj := fun i h ⟨hz, hTI, ⟨x, y, hTO⟩, h1, h2⟩ c hc => by
    simp only [List.mem_cons, List.not_mem_nil, or_false] at hc
    rcases hc with rfl | rfl | rfl | rfl | rfl
    · exact ⟨_, hz, fun v q => nomatch q⟩
    · exact ⟨_, hTI, fun v q => nomatch q⟩
    · exact ⟨_, hTO, fun v q => nomatch q⟩
    · exact h1.obj
    · exact h2.obj
  keep := fun i h h' ⟨hz, hTI, ⟨x, y, hTO⟩, h1, h2⟩ k => ⟨k z (by simp) _ hz, k TI (by simp) _ hTI, ⟨x, y, k TO (by simp) _ hTO⟩, h1.at fun o e => k i1 (by simp) o e, h2.at fun o e => k i2 (by simp) o e⟩
  item := by
    intro X hP hw hK hc i pins s σ H E I hf ⟨hz, hTI, hTO, h1, h2⟩ hg
    subst hP hw hK
    obtain ⟨xs, ys, x, y, hqx, hqy, hx, hy⟩ := hg
    obtain ⟨its, rv, p⟩ := I.seqB hqx
    obtain ⟨its2, rv2, p2⟩ := I.seqB hqy
    have W := GoesN.zip2 (prog := X.prog) (w := X.w) (A := X.A) (elts := elts) (x1 := kk) (pos := tpos) S (drawsB (b := b1) (show X.A.in1.handled = none from I.ok.hd hc) i1 a1 n1 its.toArray) (drawsB (b := b2) (show X.A.in1.handled = none from I.ok.hd hc) i2 a2 n2 its2.toArray)
    have hlx : i < xs.length := (List.getElem?_eq_some_iff.mp hx).1
    have hly : i < ys.length := (List.getElem?_eq_some_iff.mp hy).1
    have l1 := rv.length
    have l2 := rv2.length
    refine thn (W.goes i s _ E (by simp only [List.size_toArray]; omega) ⟨hz, hTI, hTO, ⟨h1, p⟩, ⟨h2, p2⟩⟩ fun v h' tk ⟨T, u, u2, hv, hT, hu, hu2, hTup⟩ st' hk _ => ?_) fun r s1 q => q
    subst hv
    obtain ⟨w1, e1, ru⟩ := rv.get hx
    obtain ⟨w2, e2, ru2⟩ := rv2.get hy
    have f1 : u = w1 := by
      have : its[i]? = some u := by simpa using hu
      rw [e1] at this; exact (Option.some.inj this).symm
    have f2 : u2 = w2 := by
      have : its2[i]? = some u2 := by simpa using hu2
      rw [e2] at this; exact (Option.some.inj this).symm
    subst f1 f2
    have new : ObjOk X.prog X.w (upd H T (.tup [x, y])) h' T (.tup [x, y]) := ⟨by show 2 ≤ sizeLine; decide, [u, u2], .cons ru (.cons ru2 .nil), hTup⟩
    have I1 := I.turnedNew (t' := tk) (ch := [z, TI, TO, i1, i2]) (fun c o hb q => hk c o (fun hm => hb (by
      simp only [List.mem_cons, List.not_mem_nil, or_false] at hm ⊢
      rcases hm with h | h | h | h <;> simp [h])) q) hf hT new
    refine ⟨.ref T, _, I1, rfl, ⟨T, x, y, rfl, I.hok.fresh hT, rfl, fun l hl => by rw [Inv.seqB_inj I hl hqx]; exact hx, fun l hl => by rw [Inv.seqB_inj I hl hqy]; exact hy⟩, ⟨st'.1, st'.2.1, st'.2.2.1, st'.2.2.2.1.1, st'.2.2.2.2.1⟩, fun c hcm => ?_⟩
    have hlt : c < s.heap.objs.size := by
      simp only [List.mem_cons, List.not_mem_nil, or_false] at hcm
      obtain ⟨_, _, hTO'⟩ := hTO
      rcases hcm with rfl | rfl | rfl | rfl | rfl
      · exact Heap.lt_size hz
      · exact Heap.lt_size hTI
      · exact Heap.lt_size hTO'
      · obtain ⟨_, e, _⟩ := h1.obj; exact Heap.lt_size e
      · obtain ⟨_, e, _⟩ := h2.obj; exact Heap.lt_size e
    rw [upd_ne (Nat.ne_of_lt (Nat.lt_of_lt_of_le hlt hT))]
    exact (hf c hcm).1
  done := by
    intro X hP hw hK hc i pins s σ H E I hf ⟨hz, hTI, hTO, h1, h2⟩ hg
    subst hP hw hK
    obtain ⟨xs, ys, hqx, hqy, hi⟩ := hg
    obtain ⟨its, rv, p⟩ := I.seqB hqx
    obtain ⟨its2, rv2, p2⟩ := I.seqB hqy
    have W := GoesN.zip2 (prog := X.prog) (w := X.w) (A := X.A) (elts := elts) (x1 := kk) (pos := tpos) S (drawsB (b := b1) (show X.A.in1.handled = none from I.ok.hd hc) i1 a1 n1 its.toArray) (drawsB (b := b2) (show X.A.in1.handled = none from I.ok.hd hc) i2 a2 n2 its2.toArray)
    have hi' : i = min its.toArray.size its2.toArray.size := by simp only [List.size_toArray]; rw [hi, rv.length, rv2.length]
    subst hi'
    exact W.stops s (fun s1 => Inv X pins σ H s1) E ⟨hz, hTI, hTO, ⟨h1, p⟩, ⟨h2, p2⟩⟩ fun h' tk hk _ => I.turnedL (t' := tk) (ch := [z, TI, TO, i1, i2]) (fun c o hb q => hk c o (fun hm => hb (by
      simp only [List.mem_cons, List.not_mem_nil, or_false] at hm ⊢
      rcases hm with h | h | h | h <;> simp [h])) q) hf
  self := fun A i s Q E st h => wpAny_pyIter_zip st.1 h
def iZipB (K : PySem.W.Frag) (ta : TA) : TI := fun σ H R => ta σ H fun vs H1 => ∃ a1 a2 xs ys b1 b2, vs = [.ref a1, .ref a2] ∧ SqB b1 K H1 a1 xs ∧ SqB b2 K H1 a2 ys ∧ R (ItZ b1 b2 K a1 a2) H1
theorem pi_zipB {X : Cx} {e e2 : Expr} {ta : TA} {p pos tpos : Pos} {elts : List Expr} {kk : Nat} (hg : Gl X "zip") (hm : X.mg "zip" = none) (ha : PA X [e, e2] ta)
    (hs : starEach [e, e2] X.env = (false, eval e X.env) :: starEach [e2] X.env := by rfl) (hpl : (backTo pos (starEach [e2] X.env)).any (·.1) = false := by rfl) :
    PI X (.Tuple elts kk tpos) (.Call (.Name "zip" p) [e, e2] [] pos) (iZipB X.K ta) := by
  refine ⟨fun pins s σ H R I h => ?_⟩
  refine Call_ (ld_blt I hg hm PyProof.Rows.boot_zip (PyProof.Rows.callWith_type1 (thn (ha.run pos pins s σ H _ I h) fun us s1 ⟨vs, H1, I1, r1, q1⟩ => ?_) hs hpl))
  obtain ⟨a1, a2, xs, ys, b1, b2, ex, hx, hy, q⟩ := q1
  subst ex
  obtain ⟨u, u2, rfl, r, r'⟩ := vals2 r1
  cases r
  cases r'
  obtain ⟨its, rv, p1⟩ := Inv.seqB I1 hx
  obtain ⟨its2, rv2, p2⟩ := Inv.seqB I1 hy
  have l1 := p1.lt
  have l2 := p2.lt
  refine zip_begins2 (beginsB (b := b1) a1 its.toArray) (beginsB (b := b2) a2 its2.toArray) p1 p2 fun h' hz hTI hTO h1 h2 hsz hk => wpAny_pyIter_zip hz ?_
  have I2 : Inv X pins σ H1 { s1 with heap := h' } := I1.kept (t' := s1.toks) hk
  have hD := sep_of l1 l2
  refine ⟨s1.heap.objs.size + 4, [s1.heap.objs.size + 4, s1.heap.objs.size + 2, s1.heap.objs.size + 3, s1.heap.objs.size, s1.heap.objs.size + 1], _, _, H1, rfl, I2, turn_zipB hD (ne_of_ltN l1).1 (ne_of_ltN l2).2.1, ⟨hz, hTI, ⟨_, _, hTO⟩, beginB_it h1, beginB_it h2⟩, fun c hcm => ?_, q⟩
  exact I1.fpOk (le5 hcm) (I1.hok.fresh (le5 hcm))

/-! enumerate -/
abbrev ItE (b : Bool) (K : PySem.W.Frag) (a : Addr) : It :=
  ⟨fun i H => ∃ (xs : List V) (x : V), SqB b K H a xs ∧ xs[i]? = some x,
    fun i H v H' => ∃ T x, v = .ref T ∧ H T = none ∧ H' = upd H T (.tup [.int (i : Nat), x]) ∧ ∀ xs, SqB b K H a xs → xs[i]? = some x,
    fun i H => ∃ xs : List V, SqB b K H a xs ∧ i = xs.length⟩
theorem turn_enumB {P : Program} {w : World} {K : PySem.W.Frag} {elts : List Expr} {kk : Nat} {tpos : Pos} {b : Bool} {a e it : Addr} (hei : e ≠ it) (hea : e ≠ a) (hai : a ≠ it) :
    Turn P w K (.Tuple elts kk tpos) (ItE b K a) [e, it] e (fun i h => (∃ old, IsEnum h e it (0 + (i : Int)) old) ∧ ItB b h it a i) where
  mem := List.mem_cons_self
  obj := fun i h ⟨⟨old, he⟩, h1⟩ c hc => by
    simp only [List.mem_cons, List.not_mem_nil, or_false] at hc
    rcases hc with rfl | rfl
    · exact ⟨_, he, fun v q => nomatch q⟩
    · exact h1.obj
  keep := fun i h h' ⟨⟨old, he⟩, h1⟩ k => ⟨⟨old, k e (by simp) _ he⟩, h1.at fun o q => k it (by simp) o q⟩
  item := by
    intro X hP hw hK hc i pins s σ H E I hf ⟨he, h1⟩ hg
    subst hP hw hK
    obtain ⟨xs, x, hqx, hx⟩ := hg
    obtain ⟨its, rv, p⟩ := I.seqB hqx
    have W := GoesN.enumFrom (prog := X.prog) (w := X.w) (A := X.A) (elts := elts) (x1 := kk) (pos := tpos) 0 (drawsB (b := b) (show X.A.in1.handled = none from I.ok.hd hc) it a hai its.toArray) e hei (fun z => by rcases List.mem_cons.mp z with z | z; exact hei z; exact hea (List.mem_singleton.mp z)) List.mem_cons_self
    have hlx : i < xs.length := (List.getElem?_eq_some_iff.mp hx).1
    have l1 := rv.length
    refine thn (W.goes i s _ E (by simp only [List.size_toArray]; omega) ⟨he, h1, p⟩ fun v h' tk ⟨T, t, u, hv, hT, hu, hTup⟩ st' hk _ => ?_) fun r s1 q => q
    subst hv
    obtain ⟨w1, e1, ru⟩ := rv.get hx
    have f1 : u = w1 := by
      have : its[i]? = some u := by simpa using hu
      rw [e1] at this; exact (Option.some.inj this).symm
    subst f1
    have e0 : (0 : Int) + (i : Int) = (i : Nat) := by omega
    rw [e0] at hTup
    have new : ObjOk X.prog X.w (upd H T (.tup [.int (i : Nat), x])) h' T (.tup [.int (i : Nat), x]) := ⟨by show 2 ≤ sizeLine; decide, [.int (i : Nat) t, u], .cons ⟨_, rfl⟩ (.cons ru .nil), hTup⟩
    have I1 := I.turnedNew (t' := tk) (ch := [e, it]) (fun c o hb q => hk c o hb q) hf hT new
    refine ⟨.ref T, _, I1, rfl, ⟨T, x, rfl, I.hok.fresh hT, rfl, fun l hl => by rw [Inv.seqB_inj I hl hqx]; exact hx⟩, ⟨st'.1, st'.2.1⟩, fun c hcm => ?_⟩
    have hlt : c < s.heap.objs.size := by
      simp only [List.mem_cons, List.not_mem_nil, or_false] at hcm
      obtain ⟨_, he'⟩ := he
      rcases hcm with rfl | rfl
      · exact Heap.lt_size he'
      · obtain ⟨_, e, _⟩ := h1.obj; exact Heap.lt_size e
    rw [upd_ne (Nat.ne_of_lt (Nat.lt_of_lt_of_le hlt hT))]
    exact (hf c hcm).1
  done := by
    intro X hP hw hK hc i pins s σ H E I hf ⟨he, h1⟩ hg
    subst hP hw hK
    obtain ⟨xs, hqx, hi⟩ := hg
    obtain ⟨its, rv, p⟩ := I.seqB hqx
    have W := GoesN.enumFrom (prog := X.prog) (w := X.w) (A := X.A) (elts := elts) (x1 := kk) (pos := tpos) 0 (drawsB (b := b) (show X.A.in1.handled = none from I.ok.hd hc) it a hai its.toArray) e hei (fun z => by rcases List.mem_cons.mp z with z | z; exact hei z; exact hea (List.mem_singleton.mp z)) List.mem_cons_self
    have hi' : i = its.toArray.size := by simp only [List.size_toArray]; rw [hi, rv.length]
    subst hi'
    exact W.stops s (fun s1 => Inv X pins σ H s1) E ⟨he, h1, p⟩ fun h' tk hk _ => I.turnedL (t' := tk) (ch := [e, it]) (fun c o hb q => hk c o hb q) hf
  self := fun A i s Q E st h => let ⟨⟨_, he⟩, _⟩ := st; wpAny_pyIter_enum he h
theorem meets_enum1 {v : Value} {o : Obj} {H : Heap → Prop} (B : Begins v o H) :
    Meets (Builtin.«enumerate.__new__» ⟨[.type "enumerate", v], []⟩) (fun _ R s => H s.heap ∧
      R (.ok (.ret (.ref (s.heap.push o).objs.size))) { s with heap := (s.heap.push o).push { cls := .type "enumerate", data := .fields #[.none, .bool false, .ref s.heap.objs.size, rawInt 0, .none, .none] } }) :=
  .of_wp fun prog w A R s h => by
    obtain ⟨hp, g, d, tk, os⟩ := s
    obtain ⟨h1, h⟩ := h
    have hsub := sub_enumerate
    have q1 : ∀ {A' : Around} {E : Value → Shared → Prop} {Q : Value → Shared → Prop}, Q (.ref hp.objs.size) ⟨hp.push o, g, d, tk, os⟩ → wpAny (model prog w) A' (pyIter v) Q E ⟨hp, g, d, tk, os⟩ := fun q => B.iter prog w _ _ ⟨hp, g, d, tk, os⟩ _ h1 q
    wp_walk using q1
    refine wpAny_stack_any fun st => wpAny_pure ?_
    split
    · rename_i c _ _ _ _ _
      cases (c == Value.type "enumerate") <;> (wp_walk using q1; exact ⟨_, rfl, h⟩)
    · wp_walk using q1
      exact ⟨_, rfl, h⟩
theorem enum_begins1 {prog : Program} {w : World} {A : Around} {E : Value → Shared → Prop} {s : Shared} {v : Value} {o : Obj} {H : Heap → Prop} {Q : Value → Shared → Prop} (B : Begins v o H) (h1 : H s.heap)
    (h : ∀ h', IsEnum h' (s.heap.objs.size + 1) s.heap.objs.size 0 .none → h'.get? s.heap.objs.size = some o → (∀ b o, s.heap.get? b = some o → h'.get? b = some o) → Q (.ref (s.heap.objs.size + 1)) { s with heap := h' }) :
    wpAny (model prog w) A (call (.type "enumerate") [v]) Q E s := by
  refine callType_new F.called_enumerate (by decide) (F.typeCall_enumerate_1 _) (F.newCall_enumerate_1 _) (fun obj => F.args_object_init_2 obj _) F.entry_enumerate_new (meets_enum1 B) ⟨h1, ?_⟩
  have hz : (s.heap.push o).objs.size = s.heap.objs.size + 1 := Heap.size_push ..
  show _ ∧ _
  rw [hz]
  have he : IsEnum ((s.heap.push o).push { cls := .type "enumerate", data := .fields #[.none, .bool false, .ref s.heap.objs.size, rawInt 0, .none, .none] }) (s.heap.objs.size + 1) s.heap.objs.size 0 .none := by
    have e := Heap.get?_push_size (s.heap.push o) (o := { cls := .type "enumerate", data := .fields #[.none, .bool false, .ref s.heap.objs.size, rawInt 0, .none, .none] }) rfl
    rw [hz] at e; exact e
  exact ⟨⟨_, he, rfl⟩, h _ he (Heap.get?_push_of_some _ (Heap.get?_push_size _ B.free)) fun b o x => Heap.get?_push_of_some _ (Heap.get?_push_of_some _ x)⟩
def iEnumB (K : PySem.W.Frag) (ta : TA) : TI := fun σ H R => ta σ H fun vs H1 => ∃ a xs b, vs = [.ref a] ∧ SqB b K H1 a xs ∧ R (ItE b K a) H1
theorem pi_enumB {X : Cx} {e : Expr} {ta : TA} {p pos tpos : Pos} {elts : List Expr} {kk : Nat} (hg : Gl X "enumerate") (hm : X.mg "enumerate" = none) (ha : PA X [e] ta)
    (hs : starEach [e] X.env = [(false, eval e X.env)] := by rfl) : PI X (.Tuple elts kk tpos) (.Call (.Name "enumerate" p) [e] [] pos) (iEnumB X.K ta) := by
  refine ⟨fun pins s σ H R I h => ?_⟩
  refine Call_ (ld_blt I hg hm boot_enumerate (PyProof.Rows.callWith_type1 (thn (ha.run pos pins s σ H _ I h) fun us s1 ⟨vs, H1, I1, r1, q1⟩ => ?_) hs rfl))
  obtain ⟨a, xs, b, ex, hx, q⟩ := q1
  subst ex
  obtain ⟨u, rfl, r⟩ := vals1 r1
  cases r
  obtain ⟨its, rv, p1⟩ := Inv.seqB I1 hx
  have l1 := p1.lt
  refine enum_begins1 (beginsB (b := b) a its.toArray) p1 fun h' he h1 hk => wpAny_pyIter_enum he ?_
  have I2 : Inv X pins σ H1 { s1 with heap := h' } := I1.kept (t' := s1.toks) hk
  refine ⟨s1.heap.objs.size + 1, [s1.heap.objs.size + 1, s1.heap.objs.size], _, _, H1, rfl, I2, turn_enumB (b := b) (a := a) (ne_of_ltN l1).2.2.2 (ne_of_ltN l1).2.2.1 (ne_of_ltN l1).1, ⟨⟨_, he⟩, beginB_it h1⟩, fun c hcm => ?_, q⟩
  exact I1.fpOk (le2 hcm) (I1.hok.fresh (le2 hcm))

/-! ### the same on trees -/
section
variable {X : Cx} {K : PySem.W.Frag} {m : Nat}
theorem sq_of {B : List Addr} {H : Hp} {v : V} {d : D} {ds : List D} (hm : m ≤ 1) (h : RL K B H m v d) (hd : seqOf d = some ds) : ∃ a xs b, v = .ref a ∧ SqB b K (gOf m B H) a xs ∧ RA K (hid B H) xs ds := by
  unfold seqOf at hd
  split at hd
  · cases (Option.some.inj hd)
    obtain ⟨a, xs, rfl, e1, e2⟩ := RL.listG hm h
    exact ⟨a, xs, false, rfl, SqL.of e1, e2⟩
  · cases (Option.some.inj hd)
    obtain ⟨a, xs, rfl, e1, e1', e2⟩ := RL.tup h
    exact ⟨a, xs, true, rfl, seqT_mono same_gOf (.inl (.inl e1')), e2⟩
  · cases hd
theorem walks_pair {B : List Addr} {H1 : Hp} {Sx Sy : Hp → List V → Prop} {xs ys : List V} {ds es : List D} (hx : ∀ H, Same (gOf m B H1) H → Sx H xs) (hy : ∀ H, Same (gOf m B H1) H → Sy H ys) (rx : RA K (hid B H1) xs ds) (ry : RA K (hid B H1) ys es) :
    Walks K (gOf m B H1) B (ItP Sx Sy) ((ds.zip es).map fun p => .tuple [p.1, p.2]) where
  go := fun i H hi s => by
    simp only [List.length_map, List.length_zip] at hi
    have e1 := rx.length
    have e2 := ry.length
    exact ⟨xs, ys, xs[i]'(by omega), ys[i]'(by omega), hx H s, hy H s, by simp, by simp⟩
  stop := fun H s => ⟨xs, ys, hx H s, hy H s, by simp [rx.length, ry.length]⟩
  yld := fun i H v H' d hd s ⟨T, x, y, hv, hT, hH, h1, h2⟩ => by
    subst hv hH
    rw [List.getElem?_map] at hd
    obtain ⟨p, hp, e⟩ := Option.map_eq_some_iff.mp hd
    subst e
    rw [List.getElem?_zip_eq_some] at hp
    obtain ⟨x', f1, r1⟩ := rx.get hp.1
    obtain ⟨y', f2, r2⟩ := ry.get hp.2
    have g1 := h1 xs (hx H s)
    have g2 := h2 ys (hy H s)
    rw [f1] at g1
    rw [f2] at g2
    cases g1
    cases g2
    refine ⟨same_upd hT, fun B' _ hb => .tup (a := T) (xs := [x, y]) ?_ (.cons (r1.mono (keepR s (same_upd hT) hb)) (.cons (r2.mono (keepR s (same_upd hT) hb)) .nil))⟩
    rw [hid_out fun z => (hb T z).2 hT, upd_same]
def iZip2 (f g : FE) : FA := fun ρ => o2 (f ρ) (g ρ) fun d e => o2 (seqOf d) (seqOf e) fun ds es => some ((ds.zip es).map fun p => .tuple [p.1, p.2])
theorem qi_zip {e e2 : Expr} {f g : FE} {c c2 : Esc} {p pos tpos : Pos} {elts : List Expr} {kk : Nat} (hg : Gl X "zip") (hm : X.mg "zip" = none) (ha : PE X e (tD K (.br m) f c)) (hb : PE X e2 (tD K (.br m) g c2)) (hm1 : m ≤ 1 := by decide) (hX : X.K = K := by rfl)
    (hs : starEach [e, e2] X.env = (false, eval e X.env) :: starEach [e2] X.env := by rfl) (hs2 : starEach [e2] X.env = (false, eval e2 X.env) :: starEach [] X.env := by rfl) (hpl : (backTo pos (starEach [e2] X.env)).any (·.1) = false := by rfl) :
    PI X (.Tuple elts kk tpos) (.Call (.Name "zip" p) [e, e2] [] pos) (tI K m (iZip2 f g) (c ++ c2)) := by
  subst hX
  refine (pi_zipB hg hm (pa_cons ha (pa_cons hb pa_nil hs2) hs) hs hpl).imp fun σ H Rr ⟨B, L, ρ, ds, g, es, hf, q⟩ => ?_
  obtain ⟨d, d', h1, h2, h3⟩ := o2_some hf
  obtain ⟨xs, ys, h4, h5, h6⟩ := o2_some h3
  cases (Option.some.inj h6)
  refine ⟨B, L, ρ, d, g, es.left, h1, fun v H1 s1 p1 => ⟨B, L, ρ, d', g.mono s1, es.right, h2, fun w H2 s2 p2 => ?_⟩⟩
  obtain ⟨a1, vs1, b1, rfl, k1, r1⟩ := sq_of hm1 (RL.mono s2 (same_hid s2) p1) h4
  obtain ⟨a2, vs2, b2, rfl, k2, r2⟩ := sq_of hm1 p2 h5
  exact ⟨a1, a2, vs1, vs2, b1, b2, rfl, k1.mono gOf_unhid, k2.mono gOf_unhid, q _ H2 (s1.trans s2) (walks_pair (fun H s => k1.mono s) (fun H s => k2.mono s) r1 r2)⟩
def enumD (ds : List D) : List D := (ds.zipIdx).map fun p => .tuple [.int (p.2 : Nat), p.1]
def iEnumD (f : FE) : FA := fun ρ => o1 (f ρ) fun d => o1 (seqOf d) fun ds => some (enumD ds)
theorem walks_enum {B : List Addr} {H1 : Hp} {b : Bool} {a : Addr} {xs : List V} {ds : List D} (hx : SqB b K (gOf m B H1) a xs) (rx : RA K (hid B H1) xs ds) : Walks K (gOf m B H1) B (ItE b K a) (enumD ds) where
  go := fun i H hi s => by
    simp only [enumD, List.length_map, List.length_zipIdx] at hi
    have e1 := rx.length
    exact ⟨xs, xs[i]'(by omega), hx.mono s, by simp⟩
  stop := fun H s => ⟨xs, hx.mono s, by simp [enumD, rx.length]⟩
  yld := fun i H v H' d hd s ⟨T, x, hv, hT, hH, h1⟩ => by
    subst hv hH
    unfold enumD at hd
    rw [List.getElem?_map, List.getElem?_zipIdx] at hd
    obtain ⟨p, hp, e⟩ := Option.map_eq_some_iff.mp hd
    subst e
    obtain ⟨y, hy, e⟩ := Option.map_eq_some_iff.mp hp
    subst e
    obtain ⟨x', f1, r1⟩ := rx.get hy
    have g1 := h1 xs (hx.mono s)
    rw [f1] at g1
    cases g1
    refine ⟨same_upd hT, fun B' _ hb => .tup (a := T) (xs := [.int (i : Nat), x]) ?_ (.cons ?_ (.cons (r1.mono (keepR s (same_upd hT) hb)) .nil))⟩
    · rw [hid_out fun z => (hb T z).2 hT, upd_same]
    · have e0 : (((0 + i : Nat) : Int)) = ((i : Nat) : Int) := by omega
      show R K _ (.int (i : Nat)) (.int ((0 + i : Nat) : Int))
      rw [e0]
      exact .int _
theorem qi_enum {e : Expr} {f : FE} {c : Esc} {p pos tpos : Pos} {elts : List Expr} {kk : Nat} (hg : Gl X "enumerate") (hm : X.mg "enumerate" = none) (ha : PE X e (tD K (.br m) f c)) (hm1 : m ≤ 1 := by decide) (hX : X.K = K := by rfl)
    (hs : starEach [e] X.env = (false, eval e X.env) :: starEach [] X.env := by rfl) : PI X (.Tuple elts kk tpos) (.Call (.Name "enumerate" p) [e] [] pos) (tI K m (iEnumD f) c) := by
  subst hX
  refine (pi_enumB hg hm (pa_cons ha pa_nil hs) hs).imp fun σ H Rr ⟨B, L, ρ, ds, g, es, hf, q⟩ => ?_
  obtain ⟨d, h1, h3⟩ := o1_some hf
  obtain ⟨xs, h4, h6⟩ := o1_some h3
  cases (Option.some.inj h6)
  refine ⟨B, L, ρ, d, g, es, h1, fun v H1 s1 p1 => ?_⟩
  obtain ⟨a1, vs1, b1, rfl, k1, r1⟩ := sq_of hm1 p1 h4
  exact ⟨a1, vs1, b1, rfl, k1.mono gOf_unhid, q _ H1 s1 (walks_enum k1 r1)⟩
end
end DS
end

section
set_option Elab.async false
set_option linter.all false
set_option maxRecDepth 100000
set_option maxHeartbeats 1000000
/-! Part j: list.index, list(range(..)), a, b, c = x, y, z. -/
namespace DS
open PySem PySem.Spec PyProof.Rows L2

section
variable {X : Cx} {K : PySem.W.Frag} {κ : Mo} {o e : Expr} {fo fe : FE} {co ce : Esc} {T id : String} {r : V → List V → Hp → VK → Prop} {dop : D → D → Option D}
/-- a method of a built-in type with one argument and a flat answer -/
structure MethF (K : PySem.W.Frag) (T : String) (r : V → List V → Hp → VK → Prop) (dop : D → D → Option D) : Prop where
  ty : ∀ (x : V) (dx dy d : D) (H : Hp), R K H x dx → dop dx dy = some d → tyV K T x H
  run : ∀ (x y : V) (dx dy d : D) (H : Hp) (Q : VK), R K H x dx → R K H y dy → dop dx dy = some d → (∀ v, R K H v d → flat d = true → Q v H) → r x [y] H Q
theorem qe_m1F (hd : MethF K T r dop) (h : PE X e (tBM K T r (tD K (.br 1) fo co) (tCons (tD K (.br 1) fe ce) tNil))) : PE X e (tD K κ (eOp dop fo fe) []) := h.imp fun σ H Q ⟨B, L, ρ, d, g, es, hf, q⟩ => by
  obtain ⟨dx, dy, h1, h2, h3⟩ := o2_some hf
  refine ⟨[], _, ρ, dx, g.zero, .zero, h1, fun x H1 s1 p1 => ⟨hd.ty x dx dy d H1 (RL.r0 p1) h3, [], _, ρ, dy, (g.mono s1).zero, .zero, h2, fun y H2 s2 p2 => ?_⟩⟩
  exact hd.run x y dx dy d H2 Q ((RL.r0 p1).mono s2) (RL.r0 p2) h3 fun v rv fl => q v H2 (s1.trans s2) (Post.of_flat (rv.hidF ((g.ok.mono s1).mono s2).noTup fl) (flat_top fl))
def dIndex : D → D → Option D
  | .list ds, d => if (SeqAt.shaped (.list ds) && SeqAt.shaped d) = true then (match ds.findIdx? fun z => PyData.eqv z d with
    | some j => some (.int (j : Nat))
    | none => none) else none
  | _, _ => none
theorem mf_index : MethF K "list" (rIndexD K) dIndex where
  ty := fun x dx dy d H rx h => by
    unfold dIndex at h
    split at h
    · cases rx with
      | lst h1 h2 => exact .inl ⟨rfl, _, SqL.of h1⟩
    · cases h
  run := fun x y dx dy d H Q rx ry h q => by
    unfold dIndex at h
    split at h
    · split at h
      · rename_i hs
        split at h
        · rename_i j hj
          cases (Option.some.inj h)
          have hs := (Bool.and_eq_true _ _).mp hs
          cases rx with
          | lst h1 h2 =>
            have hj := List.findIdx?_eq_some_iff_getElem.mp hj
            obtain ⟨hlt, he, hno⟩ := hj
            refine ⟨_, y, dy, _, j, _, rfl, rfl, (R.lst h1 h2).toDp (SeqAt.canLay_of_shaped hs.1), ry.toDp (SeqAt.canLay_of_shaped hs.2), hs.1, hs.2, List.getElem?_eq_getElem hlt, he, fun m z' hm hz => ?_, q _ (.int _) rfl⟩
            obtain ⟨hml, hz'⟩ := List.getElem?_eq_some_iff.mp hz
            have hh := hno m hm
            rw [hz'] at hh
            simpa using hh
        · cases h
      · cases h
    · cases h
end
section
variable {X : Cx} {K : PySem.W.Frag} {κ : Mo} {pos : Pos} {a b c : Expr} {f g h : FE} {ca cb cc : Esc}
/-! a, b, c = x, y, z with names -/
def sPar3 (i j k : Nat) (f g h : FE) (c : Esc) : FS := fun s => match f s.1, g s.1, h s.1 with
  | some d, some e, some u => .next (((s.1.set i (some d)).set j (some e)).set k (some u), (((demote c s.2).set i 0).set j 0).set k 0)
  | _, _, _ => .stuck
theorem ss_par3 (i j k : Nat) {x y z : Str} {px py pz pt pos : Pos} {kt k2 pt2} (hc : X.calm = true) (hN : X.N.Nodup) (ha : PE X a (tD K (.br 0) f ca)) (hb : PE X b (tD K (.br 0) g cb)) (hcc : PE X c (tD K (.br 0) h cc))
    (hw : swappedStores [.Tuple [.Name x px, .Name y py, .Name z pz] kt pt] (.Tuple [a, b, c] k2 pt2) X.env = pure (some [x, y, z])) (hi : X.N[i]? = some x := by rfl) (hj : X.N[j]? = some y := by rfl) (hk : X.N[k]? = some z := by rfl) (hij : i ≠ j := by decide) (hik : i ≠ k := by decide) (hjk : j ≠ k := by decide)
    (hx : X.env.scope.names.lookup x = some .local := by rfl) (hy : X.env.scope.names.lookup y = some .local := by rfl) (hz : X.env.scope.names.lookup z = some .local := by rfl)
    (hs : swapsWithSole [.Tuple [.Name x px, .Name y py, .Name z pz] kt pt] (.Tuple [a, b, c] k2 pt2) pos.line X.env = pure false := by rfl) (hs1 : starEach [a, b, c] X.env = (false, eval a X.env) :: starEach [b, c] X.env := by rfl) (hs2 : starEach [b, c] X.env = (false, eval b X.env) :: starEach [c] X.env := by rfl) (hs3 : starEach [c] X.env = (false, eval c X.env) :: starEach [] X.env := by rfl) :
    PS X (.Assign [.Tuple [.Name x px, .Name y py, .Name z pz] kt pt] (.Tuple [a, b, c] k2 pt2) pos) (tS K (sPar3 i j k f g h (ca ++ (cb ++ cc)))) := (ps_par3 hc hN hi hj hk hij hik hjk hx hy hz (qa_cons ha (qa_cons hb (qa_cons hcc qa_nil hs3) hs2) hs1) hw hs).imp fun E σ H ⟨B0, G, s, hs, q⟩ => by
  unfold sPar3 at q
  split at q
  · rename_i d e u hd he hu
    have hf : aCons f (aCons g (aCons h aNil)) s.1 = some [d, e, u] := by
      unfold aCons aNil
      simp [hd, he, hu, o2]
    obtain ⟨O, B, gd⟩ := hs
    obtain ⟨O', B', g', _⟩ := gd.demote (ca ++ (cb ++ (cc ++ [])))
    rw [List.append_nil] at g'
    refine ⟨B', lv (demote (ca ++ (cb ++ cc)) s.2), s.1, _, g'.good, by rw [List.append_nil]; exact demote_ok _ s.2, hf, fun vs H' e1 hl p => ?_⟩
    match vs, hl with
    | [v1, v2, v3], _ =>
      refine ⟨v1, v2, v3, rfl, q _ H' ?_⟩
      exact GS.sets (m := [(i, v1), (j, v2), (k, v3)]) (l := [(i, d), (j, e), (k, u)]) (g'.mono e1) (fun _ h => h) (.cons (RL.r (p 0 v1 d rfl rfl)) (.cons (RL.r (p 1 v2 e rfl rfl)) (.cons (RL.r (p 2 v3 u rfl rfl)) .nil)))
  · exact q.elim
/-! list(range(..)), tuple(range(..)) -/
def rgOk (a b : Int) : Bool := rngOk a b && decide ((b - a).toNat ≤ 16777216)
theorem rgOk_ok {a b : Int} (h : rgOk a b = true) : RgOk a b := by
  unfold rgOk at h
  rw [Bool.and_eq_true] at h
  have h1 := rngOk_ok h.1
  have h2 := of_decide_eq_true h.2
  exact ⟨h1.1, h1.2.1, h1.2.2.1, h1.2.2.2, by omega⟩
def eRg (t : List D → D) (f g : FE) : FE := fun ρ => o2 (f ρ) (g ρ) fun d e => match d, e with
  | .int i, .int j => if rgOk i j = true then some (t (rngD i (j - i).toNat)) else none
  | _, _ => none
def tRgD (K : PySem.W.Frag) (f g : FE) : St → Hp → (Int → Int → Hp → Prop) → Prop := fun σ H Q => ∃ B L ρ i j, Good K B L σ H ρ ∧ f ρ = some (.int i) ∧ g ρ = some (.int j) ∧ ∀ H', Same H H' → Q i j H'
theorem qrg_1 {p : Pos} (hg : Gl X "range") (hm : X.mg "range" = none) (ha : PE X a (tD K (.br 1) f ca)) (na : starEach [a] X.env = (false, eval a X.env) :: starEach [] X.env := by rfl) : PRg X (.Call (.Name "range" p) [a] [] pos) (tRgD K (eC (.int 0)) f) := by
  intro pins s σ H Q I ⟨B, L, ρ, i, j, gd, h1, h2, q⟩
  cases (Option.some.inj h1)
  exact prg_1 hg hm ha na pins s σ H Q I ⟨[], _, ρ, _, gd.zero, .zero, h2, fun v H1 s1 p1 => ⟨j, RL.int p1, q H1 s1⟩⟩
theorem qrg_2 {p : Pos} (hg : Gl X "range") (hm : X.mg "range" = none) (ha : PE X a (tD K (.br 1) f ca)) (hb : PE X b (tD K (.br 1) g cb)) (na : starEach [a, b] X.env = (false, eval a X.env) :: starEach [b] X.env := by rfl) (nb : starEach [b] X.env = (false, eval b X.env) :: starEach [] X.env := by rfl) (hp : (backTo pos (starEach [b] X.env)).any (·.1) = false := by rfl) :
    PRg X (.Call (.Name "range" p) [a, b] [] pos) (tRgD K f g) := by
  intro pins s σ H Q I ⟨B, L, ρ, i, j, gd, h1, h2, q⟩
  exact prg_2 hg hm ha hb na nb hp pins s σ H Q I ⟨[], _, ρ, _, gd.zero, .zero, h1, fun v H1 s1 p1 => ⟨[], _, ρ, _, (gd.mono s1).zero, .zero, h2, fun w H2 s2 p2 => ⟨i, j, RL.int p1, RL.int p2, q H2 (s1.trans s2)⟩⟩⟩
theorem rgV_R {H : Hp} (i : Int) (n : Nat) : RA K H ((List.range n).map fun k => V.int (i + (k : Nat))) (rngD i n) := by
  unfold rngD
  generalize List.range n = l
  induction l with
  | nil => exact .nil
  | cons k r ih => exact .cons (.int _) ih
theorem qe_listRg {p : Pos} {e : Expr} (hc : X.calm = true) (hg : Gl X "list") (hm : X.mg "list" = none) (he : PRg X e (tRgD K f g)) (hκ : κ.one = true := by rfl) (na : starEach [e] X.env = (false, eval e X.env) :: starEach [] X.env := by rfl) : PE X (.Call (.Name "list" p) [e] [] pos) (tD K κ (eRg .list f g) []) :=
  (pe_listRg hc hg hm he na).imp fun σ H Q ⟨B, L, ρ, d, gd, es, hf, q⟩ => by
  obtain ⟨d1, d2, h1, h2, h3⟩ := o2_some hf
  split at h3
  · rename_i i j
    obtain ⟨hok, e⟩ := ite_some h3
    subst e
    refine ⟨B, L, ρ, i, j, gd, h1, h2, fun H1 s1 => ⟨rgOk_ok hok, fun t nt => q _ _ (s1.trans (same_upd nt)) (Post.new gd.ok.trk (s1.free nt) upd_same (rgV_R i _) hκ)⟩⟩
  · cases h3
theorem qe_tupRg {p : Pos} {e : Expr} (hc : X.calm = true) (hg : Gl X "tuple") (hm : X.mg "tuple" = none) (he : PRg X e (tRgD K f g)) (na : starEach [e] X.env = (false, eval e X.env) :: starEach [] X.env := by rfl) : PE X (.Call (.Name "tuple" p) [e] [] pos) (tD K κ (eRg .tuple f g) []) :=
  (pe_tupRg hc hg hm he na).imp fun σ H Q ⟨B, L, ρ, d, gd, es, hf, q⟩ => by
  obtain ⟨d1, d2, h1, h2, h3⟩ := o2_some hf
  split at h3
  · rename_i i j
    obtain ⟨hok, e⟩ := ite_some h3
    subst e
    refine ⟨B, L, ρ, i, j, gd, h1, h2, fun H1 s1 => ⟨rgOk_ok hok, fun t nt => q _ _ (s1.trans (same_upd nt)) (Post.of_flat (.tup (a := t) (xs := rgV i j) ?_ (rgV_R i _)) rfl)⟩⟩
    rw [hid_out ((gd.ok.mono s1).trk.new nt), upd_same]
  · cases h3
end
end DS
end

section
set_option Elab.async false
set_option linter.all false
set_option maxRecDepth 100000
/-! Part k: the law's own promise. -/
namespace DS
open PySem PySem.Spec PyProof.Rows L2
/-- the script as a tree: a list that is never written -/
def scr (ns : List Int) : D := .dict [(.none, .list (ns.map PyData.int))]
theorem law_sp {K : PySem.W.Frag} {F : Fn} {H : Hp} {a : Addr} {ns : List Int} (h : F [scr ns] = some (.bool true)) (hS : SqL K H a (ns.map V.int)) : spD K 1 F [.ref a] H (fun v _ => v = .bl true) fun _ _ _ => False :=
  ⟨[], [scr ns], .bool true, Ok.nil, by rw [hid_nil]; exact .cons (.frz hS (RA.ofInts ns)) .nil, rfl, h, fun v H' _ r => r.bl'⟩
end DS
end

section
set_option Elab.async false
set_option linter.all false
set_option maxRecDepth 100000
set_option maxHeartbeats 1000000
/-! Part m: min, max, sorted of trees that are alike. -/
namespace DS
open PySem PySem.Spec PyProof.Rows L2

/-- trees that can be compared with each other -/
def allCmp (ds : List D) : Bool := PyData.canLayAll0 ds && decide (PyData.depthAll ds ≤ 60) && ds.all fun x => !noneD x && ds.all fun y => PySem.W.alike x y
theorem noneD_ne {x : D} (h : (!noneD x) = true) : x ≠ .none := by
  intro e
  rw [e] at h
  simp [noneD] at h
theorem allCmp_facts {ds : List D} (h : allCmp ds = true) : PyData.canLayAll0 ds = true ∧ PyData.depthAll ds ≤ 60 ∧ PySem.W.AlikeAll ds := by
  unfold allCmp at h
  simp only [Bool.and_eq_true, decide_eq_true_eq, List.all_eq_true] at h
  exact ⟨h.1.1, h.1.2, fun x hx y hy => (h.2 x hx).2 y hy, fun x hx => noneD_ne (h.2 x hx).1⟩
theorem fold_mem (f : D → D → Bool) : ∀ (r : List D) (x : D), r.foldl (fun a y => if f y a = true then y else a) x ∈ x :: r
  | [], x => .head _
  | y :: r, x => by
    have := fold_mem f r (if f y x = true then y else x)
    rw [List.foldl_cons]
    rcases List.mem_cons.mp this with e | e
    · rw [e]
      split
      · exact .tail _ (.head _)
      · exact .head _
    · exact .tail _ (.tail _ e)
theorem minD_mem (x : D) (r : List D) : PySem.W.minD x r ∈ x :: r := fold_mem (fun y a => PySem.W.dataLt y a) r x
theorem maxD_mem (x : D) (r : List D) : PySem.W.maxD x r ∈ x :: r := fold_mem (fun y a => PySem.W.dataLt a y) r x
/-- min(xs), max(xs) as g tells -/
def rBest (K : PySem.W.Frag) (g : D → List D → D) : List V → Hp → VK → Prop := fun vs H Q => ∃ a xs ds x r, vs = [.ref a] ∧ (SqL K H a xs ∨ SqT K H a xs) ∧ DpAll K H xs ds ∧ ds = x :: r ∧ allCmp ds = true ∧ ∀ (i : Nat) (y : V), xs[i]? = some y → ds[i]? = some (g x r) → Q y H
section
variable {X : Cx} {K : PySem.W.Frag} {pins : List (Addr × Obj)} {s : Shared} {σ : St} {H : Hp}
theorem best_at {its : List Value} {xs : List V} {ds : List D} {as : List Addr} {i : Nat} {v : Value} {d : D} {h' : Heap} {bs : List Addr} (rv : Vals xs its) (ra : ReadsAll s.heap its ds as) (al : PySem.W.AlikeAll ds) (hd : d ∈ ds)
    (hk : ∀ b o, s.heap.get? b = some o → h'.get? b = some o) (hv : its.toArray[i]? = some v) (rd : Reads h' v d bs) : ∃ y, xs[i]? = some y ∧ RelV y v ∧ ds[i]? = some d := by
  have hv' : its[i]? = some v := by simpa using hv
  obtain ⟨bs', r1, hi, hm, _⟩ := PySem.W.readsAll_at ra i v hv'
  have e := PySem.W.alike_unique _ _ _ _ _ (al.1 _ hm _ hd) (PyProof.Rows.Reads.keeps hk r1) rd
  have hl : i < its.length := (List.getElem?_eq_some_iff.mp hv').1
  have hx : i < xs.length := by rw [rv.length]; exact hl
  obtain ⟨u, hu, ru⟩ := rv.get (List.getElem?_eq_getElem hx)
  rw [hv'] at hu
  cases hu
  refine ⟨xs[i], List.getElem?_eq_getElem hx, ru, ?_⟩
  rw [← e, List.getD_eq_getElem?_getD, List.getElem?_eq_getElem hi]
  rfl
theorem cr_minD (hc : X.calm = true) (hu : X.A.units + 64 < cLine) : CallR X (.builtin "min") (rBest X.K PySem.W.minD) := by
  intro pins s σ H vs us Q I r h
  obtain ⟨a, xs, ds, x, l, rfl, hs, dp, rfl, ok, q⟩ := h
  obtain ⟨f1, f2, f3⟩ := allCmp_facts ok
  rw [Vals.ref1 r]
  rcases hs with hs | hs
  · obtain ⟨its, rv, hl, _⟩ := I.list hs
    obtain ⟨as, ra⟩ := Dp.readsAll I _ _ _ dp rv
    refine PySem.W.min_list_data (I.ok.hd hc) hl.isList (by simpa using ra) f3 (by omega) fun i v h' tk bs hv rd hk => ?_
    obtain ⟨y, e1, e2, e3⟩ := best_at rv ra f3 (minD_mem x l) hk hv rd
    exact ⟨y, H, I.kept hk, e2, q i y e1 e3⟩
  · obtain ⟨its, rv, hl, _⟩ := I.tuple hs
    obtain ⟨as, ra⟩ := Dp.readsAll I _ _ _ dp rv
    refine PySem.W.min_tuple_data (I.ok.hd hc) hl (by simpa using ra) f3 (by omega) fun i v h' tk bs hv rd hk => ?_
    obtain ⟨y, e1, e2, e3⟩ := best_at rv ra f3 (minD_mem x l) hk hv rd
    exact ⟨y, H, I.kept hk, e2, q i y e1 e3⟩
theorem cr_maxD (hc : X.calm = true) (hu : X.A.units + 64 < cLine) : CallR X (.builtin "max") (rBest X.K PySem.W.maxD) := by
  intro pins s σ H vs us Q I r h
  obtain ⟨a, xs, ds, x, l, rfl, hs, dp, rfl, ok, q⟩ := h
  obtain ⟨f1, f2, f3⟩ := allCmp_facts ok
  rw [Vals.ref1 r]
  rcases hs with hs | hs
  · obtain ⟨its, rv, hl, _⟩ := I.list hs
    obtain ⟨as, ra⟩ := Dp.readsAll I _ _ _ dp rv
    refine PySem.W.max_list_data (I.ok.hd hc) hl.isList (by simpa using ra) f3 (by omega) fun i v h' tk bs hv rd hk => ?_
    obtain ⟨y, e1, e2, e3⟩ := best_at rv ra f3 (maxD_mem x l) hk hv rd
    exact ⟨y, H, I.kept hk, e2, q i y e1 e3⟩
  · obtain ⟨its, rv, hl, _⟩ := I.tuple hs
    obtain ⟨as, ra⟩ := Dp.readsAll I _ _ _ dp rv
    refine PySem.W.max_tuple_data (I.ok.hd hc) hl (by simpa using ra) f3 (by omega) fun i v h' tk bs hv rd hk => ?_
    obtain ⟨y, e1, e2, e3⟩ := best_at rv ra f3 (maxD_mem x l) hk hv rd
    exact ⟨y, H, I.kept hk, e2, q i y e1 e3⟩
end
/-- min(xs) of a list or a tuple -/
def bestOf (g : D → List D → D) : List D → Option D
  | x :: r => if (allCmp (x :: r) && flat (g x r)) = true then some (g x r) else none
  | [] => none
def dMin1 : D → Option D
  | .list ds => bestOf PySem.W.minD ds
  | .tuple ds => bestOf PySem.W.minD ds
  | _ => none
def dMax1 : D → Option D
  | .list ds => bestOf PySem.W.maxD ds
  | .tuple ds => bestOf PySem.W.maxD ds
  | _ => none
section
variable {K : PySem.W.Frag}
theorem best_ok {g : D → List D → D} {a : Addr} {xs : List V} {ds : List D} {d : D} {H : Hp} {Q : VK} (hs : SqL K H a xs ∨ SqT K H a xs) (ra : RA K H xs ds) (h : bestOf g ds = some d) (q : ∀ v, R K H v d → flat d = true → Q v H) : rBest K g [.ref a] H Q := by
  unfold bestOf at h
  split at h
  · rename_i x r
    obtain ⟨hc, e⟩ := ite_some h
    subst e
    rw [Bool.and_eq_true] at hc
    refine ⟨a, xs, _, x, r, rfl, hs, RA.toDp ra (allCmp_facts hc.1).1, rfl, hc.1, fun i y e1 e2 => ?_⟩
    obtain ⟨y', e3, rr⟩ := ra.get e2
    rw [e1] at e3
    cases e3
    exact q y rr hc.2
  · cases h
theorem cf_min1 : CallF K (rBest K PySem.W.minD) (d1 dMin1) := by
  intro vs ds d H Q r h q
  obtain ⟨x, rfl, h'⟩ := d1_some h
  obtain ⟨v, rfl, rv⟩ := r.one
  unfold dMin1 at h'
  split at h'
  · cases rv with
    | lst e1 e2 => exact best_ok (.inl (SqL.of e1)) e2 h' q
  · cases rv with
    | tup e1 e2 => exact best_ok (.inr (.inl (.inl e1))) e2 h' q
  · cases h'
theorem cf_max1 : CallF K (rBest K PySem.W.maxD) (d1 dMax1) := by
  intro vs ds d H Q r h q
  obtain ⟨x, rfl, h'⟩ := d1_some h
  obtain ⟨v, rfl, rv⟩ := r.one
  unfold dMax1 at h'
  split at h'
  · cases rv with
    | lst e1 e2 => exact best_ok (.inl (SqL.of e1)) e2 h' q
  · cases rv with
    | tup e1 e2 => exact best_ok (.inr (.inl (.inl e1))) e2 h' q
  · cases h'
end
end DS
end

section
set_option Elab.async false
set_option linter.all false
set_option maxRecDepth 100000
set_option maxHeartbeats 1000000
/-! Part n: comprehensions with two fors. -/
namespace DS
open PySem PySem.Spec PyProof.Rows L2
/-- the list that the outer for makes -/
def lc2Go (t : Tg) (ft : FT) (inner : PEnv → Option (List D)) (ρ : PEnv) : List D → Option (List D)
  | [] => some []
  | d :: ds => match t.go d with
    | none => none
    | some l => match ft (setsD ρ l) with
      | none => none
      | some false => lc2Go t ft inner ρ ds
      | some true => match inner (setsD ρ l) with
        | none => none
        | some ys => match lc2Go t ft inner ρ ds with
          | none => none
          | some zs => some (ys ++ zs)
def inLc (fi : FA) (t : Tg) (ft : FT) (fe : FE) (vs : List Nat) (ρ : PEnv) : Option (List D) := o1 (fi ρ) fun ds => lcGo t ft fe (wipeD ρ vs) ds
def eLc2 (fi : FA) (t : Tg) (ft : FT) (fi1 : FA) (t1 : Tg) (ft1 : FT) (fe : FE) (vs vs1 : List Nat) : FE := fun ρ => o1 (fi ρ) fun ds => o1 (lc2Go t ft (inLc fi1 t1 ft1 fe vs1) (wipeD ρ vs) ds) fun ys => if ys.length ≤ sz then some (.list ys) else none
section
variable {X : Cx} {K : PySem.W.Frag} {κ : Mo}
theorem RS.mono {H H' : Hp} (e : Same H H') : ∀ {l : List (Nat × V)} {m : List (Nat × D)}, RS K H l m → RS K H' l m
  | _, _, .nil => .nil
  | _, _, .cons h t => .cons (h.mono e) (RS.mono e t)
theorem lc2_ok {fi fi1 : FA} {ci ci1 : Esc} {t t1 : Tg} {ft ft1 : FT} {fe : FE} {ce : Esc} {vs vs1 : List Nat} (hv : t.ix.all (vs.contains ·) = true) (hv1 : t1.ix.all (vs1.contains ·) = true) (hκ : κ.one = true) :
    ∀ σ H Q, tD K κ (eLc2 fi t ft fi1 t1 ft1 fe vs vs1) (ci ++ (ci1 ++ ce)) σ H Q → tLc2 (tI K 1 fi ci) (tG K t) (tT K ft) (tI K 0 fi1 ci1) (tG K t1) (tT K ft1) (tD K (.br 0) fe ce) vs vs1 σ H Q := by
  intro σ H Q ⟨B, L, ρ, d, g, es, hf, q⟩
  obtain ⟨ds, h1, h2⟩ := o1_some hf
  obtain ⟨ys, h3, h4⟩ := o1_some h2
  have hz : ys.length ≤ sz := by
    split at h4
    · assumption
    · cases h4
  rw [if_pos hz] at h4
  cases (Option.some.inj h4)
  refine ⟨B, L, ρ, ds, g, es.left, h1, fun J H1 s1 wk D hD => ?_⟩
  have hixs : ∀ {t : Tg} {vs : List Nat} {l : List (Nat × PyData)} {mm : List (Nat × V)} {d : PyData} {B' : List Addr} {Hh : Hp}, t.ix.all (vs.contains ·) = true → t.go d = some l → RS K (hid B' Hh) mm l → ∀ i ∈ mm.map (·.1), i ∈ vs := fun {t vs l mm d B' Hh} hv e rs i hi => by
    rw [rs.ix, Tg.go_ix e] at hi
    have := List.all_eq_true.mp hv i hi
    simpa using this
  -- hiding D : what is behind it may change
  have okB : ∀ {H' : Hp} {acc : List V}, Same H1 H' → H' D = some (.lst acc) → Ok (D :: B) H' := fun s' hacc => ((g.ok.mono s1).mono s').cons hacc rfl
  have gd : ∀ {H' : Hp} {acc : List V}, Same H1 H' → H' D = some (.lst acc) → Good K (D :: B) L σ H' ρ := fun {H' acc} s' hacc => by
    refine ⟨okB s' hacc, g.len, fun j e h => ?_⟩
    obtain ⟨v, e1, r⟩ := g.slot j e h
    refine ⟨v, e1, ((r.mono s1 (same_hid s1)).mono s' (same_hidW s' fun a ha => ?_))⟩
    rcases List.mem_cons.mp ha with z | z
    · rw [z]; exact .inr hD
    · exact .inl z
  let W : Nat → Nat → Hp → Prop := fun i n H' => n = ds.length - i ∧ i ≤ ds.length ∧ Same H1 H' ∧ ∃ acc done rest, H' D = some (.lst acc) ∧ RA K (hid (D :: B) H') acc done ∧ lc2Go t ft (inLc fi1 t1 ft1 fe vs1) (wipeD ρ vs) (ds.drop i) = some rest ∧ done ++ rest = ys
  refine ⟨W, ⟨ds.length, by simp, Nat.zero_le _, same_upd hD, [], [], ys, upd_same, .nil, by simpa using h3, rfl⟩, ?_⟩
  rintro i n H' ⟨rfl, hi, s', acc, done, rest, hacc, racc, hgo, hys⟩
  by_cases hlt : i < ds.length
  · refine .inr ⟨wk.go i H' hlt s', fun H'' => W (i + 1) (ds.length - (i + 1)) H'', fun H'' w => ⟨_, by omega, w⟩, fun x H2 y => ?_⟩
    have hd : ds[i]? = some ds[i] := List.getElem?_eq_getElem hlt
    obtain ⟨s2, rx⟩ := wk.yld i H' x H2 _ hd s' y
    have rx := rx (D :: B) (okB s' hacc) fun a ha => by
      refine ⟨?_, (okB s' hacc).trk a ha⟩
      rcases List.mem_cons.mp ha with z | z
      · rw [z]; exact .inr hD
      · exact .inl z
    rw [List.drop_eq_getElem_cons hlt] at hgo
    unfold lc2Go at hgo
    have hacc2 := s2 _ _ hacc
    have racc2 := racc.mono (same_hid (B := D :: B) s2)
    split at hgo
    · cases hgo
    · rename_i l hl
      refine ⟨D :: B, _, l, rx, hl, fun mm rs => ⟨?_, ?_⟩⟩
      · rw [wipe_sets (hixs hv hl rs)]
        exact wipe_idem vs fun _ h => h
      · have gs : Good K (D :: B) L (setsV (wipe σ vs) mm) H2 (setsD (wipeD ρ vs) l) := ((gd (s'.trans s2) hacc2).wipe vs).sets rs
        split at hgo
        · cases hgo
        · rename_i hft
          refine ⟨D :: B, L, _, false, gs, hft, fun H3 s3 => ?_⟩
          refine iteF ?_
          exact ⟨rfl, hlt, (s'.trans s2).trans s3, acc, done, rest, s3 _ _ hacc2, racc2.mono (same_hid s3), hgo, hys⟩
        · rename_i hft
          split at hgo
          · cases hgo
          · rename_i zs hin
            split at hgo
            · cases hgo
            · rename_i ys' hrest
              cases (Option.some.inj hgo)
              refine ⟨D :: B, L, _, true, gs, hft, fun H3 s3 => ?_⟩
              refine iteT ?_
              obtain ⟨ds1, g1, g2⟩ := o1_some hin
              refine ⟨D :: B, L, _, ds1, gs.mono s3, es.right.left, g1, fun J1 H4 s4 wk1 => ?_⟩
              have hacc4 := s4 _ _ (s3 _ _ hacc2)
              have racc4 := racc2.mono (same_hid (B := D :: B) (s3.trans s4))
              have s14 := ((s'.trans s2).trans s3).trans s4
              have rs4 := rs.mono (same_hid (B := D :: B) (s3.trans s4))
              -- the inner loop
              let W1 : Nat → Nat → Hp → Prop := fun j k H' => k = ds1.length - j ∧ j ≤ ds1.length ∧ Same H1 H' ∧ Same (hid (D :: B) H4) (hid (D :: B) H') ∧ ∃ acc done2 rest2, H' D = some (.lst acc) ∧ RA K (hid (D :: B) H') acc done2 ∧ lcGo t1 ft1 fe (wipeD (setsD (wipeD ρ vs) l) vs1) (ds1.drop j) = some rest2 ∧ done2 ++ (rest2 ++ ys') = ys
              refine ⟨W1, ⟨ds1.length, by simp, Nat.zero_le _, s14, Same.refl _, acc, done, zs, hacc4, racc4, by simpa using g2, hys⟩, ?_⟩
              rintro j k H5 ⟨rfl, hj, s15, s45, acc5, done5, rest5, hacc5, racc5, hgo5, hys5⟩
              have st5 : Same (gOf 0 (D :: B) H4) H5 := s45.trans same_unhid
              by_cases hlt1 : j < ds1.length
              · refine .inr ⟨wk1.go j H5 hlt1 st5, fun H'' => W1 (j + 1) (ds1.length - (j + 1)) H'', fun H'' w => ⟨_, by omega, w⟩, fun x1 H6 y1 => ?_⟩
                have hd1 : ds1[j]? = some ds1[j] := List.getElem?_eq_getElem hlt1
                obtain ⟨s6, rx1⟩ := wk1.yld j H5 x1 H6 _ hd1 st5 y1
                have rx1 := rx1 (D :: B) (okB s15 hacc5) fun a ha => ⟨.inl ha, (okB s15 hacc5).trk a ha⟩
                rw [List.drop_eq_getElem_cons hlt1] at hgo5
                unfold lcGo at hgo5
                have hacc6 := s6 _ _ hacc5
                have racc6 := racc5.mono (same_hid (B := D :: B) s6)
                split at hgo5
                · cases hgo5
                · rename_i l1 hl1
                  refine ⟨D :: B, _, l1, rx1, hl1, fun mm1 rs1 => ⟨?_, ?_⟩⟩
                  · rw [wipe_sets (hixs hv1 hl1 rs1)]
                    exact wipe_idem vs1 fun _ h => h
                  · have gs6 : Good K (D :: B) L (setsV (wipe σ vs) mm) H6 (setsD (wipeD ρ vs) l) := ((gd (s15.trans s6) hacc6).wipe vs).sets (rs4.mono (s45.trans (same_hid s6)))
                    have gt : Good K (D :: B) L (setsV (wipe (setsV (wipe σ vs) mm) vs1) mm1) H6 (setsD (wipeD (setsD (wipeD ρ vs) l) vs1) l1) := (gs6.wipe vs1).sets rs1
                    split at hgo5
                    · cases hgo5
                    · rename_i hft1
                      refine ⟨D :: B, L, _, false, gt, hft1, fun H7 s7 => ?_⟩
                      refine iteF ?_
                      exact ⟨rfl, hlt1, (s15.trans s6).trans s7, s45.trans (same_hid (s6.trans s7)), acc5, done5, rest5, s7 _ _ hacc6, racc6.mono (same_hid s7), hgo5, hys5⟩
                    · rename_i hft1
                      split at hgo5
                      · cases hgo5
                      · rename_i yv hfe
                        split at hgo5
                        · cases hgo5
                        · rename_i rest6 hrest6
                          cases (Option.some.inj hgo5)
                          refine ⟨D :: B, L, _, true, gt, hft1, fun H7 s7 => ?_⟩
                          refine iteT ?_
                          refine ⟨D :: B, L, _, yv, gt.mono s7, es.right.right, hfe, fun v H8 s8 p8 => ?_⟩
                          have s78 := s7.trans s8
                          have hacc8 := s78 _ _ hacc6
                          have su : Same (hid (D :: B) H8) (hid (D :: B) (upd H8 D (.lst (acc5 ++ [v])))) := fun b o e => by
                            obtain ⟨e1, e2⟩ := hid_some e
                            rw [hid_out e1, upd_ne fun z => e1 (by rw [z]; exact List.mem_cons_self)]
                            exact e2
                          have hl5 : acc5.length < sizeLine := by
                            rw [sz_eq, racc5.length]
                            have hlen : done5.length < ys.length := by
                              rw [← hys5]
                              simp only [List.length_append, List.length_cons]
                              omega
                            omega
                          refine ⟨acc5, hacc8, hl5, rfl, hlt1, fun b o e => ?_, (s45.trans (same_hid (s6.trans s78))).trans su, acc5 ++ [v], done5 ++ [yv], rest6, upd_same, ((racc6.mono (same_hid s78)).append (.cons (RL.r p8) .nil)).mono su, hrest6, by simpa using hys5⟩
                          have hb : b ≠ D := ne_of_none e hD
                          rw [upd_ne hb]
                          exact ((s15.trans s6).trans s78) _ _ e
              · have e : j = ds1.length := by omega
                subst e
                refine .inl ⟨wk1.stop H5 st5, ?_⟩
                rw [List.drop_length] at hgo5
                unfold lcGo at hgo5
                cases (Option.some.inj hgo5)
                exact ⟨rfl, hlt, s15, acc5, done5, ys', hacc5, racc5, hrest, by simpa using hys5⟩
  · have e : i = ds.length := by omega
    subst e
    refine .inl ⟨wk.stop H' s', ?_⟩
    rw [List.drop_length] at hgo
    unfold lc2Go at hgo
    cases (Option.some.inj hgo)
    rw [List.append_nil] at hys
    subst hys
    refine q _ H' (s1.trans s') (Post.new g.ok.trk (s1.free hD) hacc racc hκ)
theorem qe_lc2 {elt tg iter tg1 iter1 : Expr} {ifs ifs1 : List Expr} {scope : Scope} {own : List (Str × Nat)} {vs1 : List Nat} {pos : Pos} {fi fi1 : FA} {ci ci1 ce : Esc} {t t1 : Tg} {ft ft1 : FT} {fe : FE} (hc : X.calm = true) (hN : X.N.Nodup) (hi : PI X tg iter (tI K 1 fi ci)) (ok : BlkOk X.N X.env.scope scope own) (hvs : vs1.all ((own.map (·.2)).contains ·) = true)
    (hg : ∀ (s : Shared) (H : Hp) (C : Addr) (cl : List (Str × Addr)) (fp : List Addr), PG (X.blk s H scope (compEnvC scope cl C X.env) fp) tg (tG K t)) (ht : ∀ (s : Shared) (H : Hp) (C : Addr) (cl : List (Str × Addr)) (fp : List Addr), PTs (X.blk s H scope (compEnvC scope cl C X.env) fp) ifs (tT K ft))
    (hi1 : ∀ (s : Shared) (H : Hp) (C : Addr) (cl : List (Str × Addr)) (fp : List Addr), PI (X.blk s H scope (compEnvC scope cl C X.env) fp) tg1 iter1 (tI K 0 fi1 ci1))
    (hg1 : ∀ (s : Shared) (H : Hp) (C : Addr) (cl : List (Str × Addr)) (fp : List Addr), PG (X.blk s H scope (compEnvC scope cl C X.env) fp) tg1 (tG K t1)) (ht1 : ∀ (s : Shared) (H : Hp) (C : Addr) (cl : List (Str × Addr)) (fp : List Addr), PTs (X.blk s H scope (compEnvC scope cl C X.env) fp) ifs1 (tT K ft1))
    (he : ∀ (s : Shared) (H : Hp) (C : Addr) (cl : List (Str × Addr)) (fp : List Addr), PE (X.blk s H scope (compEnvC scope cl C X.env) fp) elt (tD K (.br 0) fe ce)) (hv : t.ix.all ((own.map (·.2)).contains ·) = true := by rfl) (hv1 : t1.ix.all (vs1.contains ·) = true := by rfl) (hκ : κ.one = true := by rfl) (hs : ∀ x, foldedSetIterable iter X.env x = pure x := by intro _; rfl) (hs1 : ∀ env x, foldedSetIterable iter1 env x = pure x := by intro _ _; rfl) :
    PE X (.ListComp elt [⟨tg, iter, ifs, 0⟩, ⟨tg1, iter1, ifs1, 0⟩] scope pos) (tD K κ (eLc2 fi t ft fi1 t1 ft1 fe (own.map (·.2)) vs1) (ci ++ (ci1 ++ ce))) :=
  (pe_lc2 hc hN hi ok (fun i hi => by simpa using List.all_eq_true.mp hvs i hi) hg ht hi1 hg1 ht1 he hs hs1).imp (lc2_ok hv hv1 hκ)
theorem ss_setLc2 (i l : Nat) {y : Str} {py : Pos} {elt tg iter tg1 iter1 : Expr} {ifs ifs1 : List Expr} {scope : Scope} {own : List (Str × Nat)} {vs1 : List Nat} {pos spos : Pos} {fi fi1 : FA} {ci ci1 ce : Esc} {t t1 : Tg} {ft ft1 : FT} {fe : FE} (hc : X.calm = true) (hN : X.N.Nodup) (hi : PI X tg iter (tI K 1 fi ci)) (ok : BlkOk X.N X.env.scope scope own) (hvs : vs1.all ((own.map (·.2)).contains ·) = true)
    (hg : ∀ (s : Shared) (H : Hp) (C : Addr) (cl : List (Str × Addr)) (fp : List Addr), PG (X.blk s H scope (compEnvC scope cl C X.env) fp) tg (tG K t)) (ht : ∀ (s : Shared) (H : Hp) (C : Addr) (cl : List (Str × Addr)) (fp : List Addr), PTs (X.blk s H scope (compEnvC scope cl C X.env) fp) ifs (tT K ft))
    (hi1 : ∀ (s : Shared) (H : Hp) (C : Addr) (cl : List (Str × Addr)) (fp : List Addr), PI (X.blk s H scope (compEnvC scope cl C X.env) fp) tg1 iter1 (tI K 0 fi1 ci1))
    (hg1 : ∀ (s : Shared) (H : Hp) (C : Addr) (cl : List (Str × Addr)) (fp : List Addr), PG (X.blk s H scope (compEnvC scope cl C X.env) fp) tg1 (tG K t1)) (ht1 : ∀ (s : Shared) (H : Hp) (C : Addr) (cl : List (Str × Addr)) (fp : List Addr), PTs (X.blk s H scope (compEnvC scope cl C X.env) fp) ifs1 (tT K ft1))
    (he : ∀ (s : Shared) (H : Hp) (C : Addr) (cl : List (Str × Addr)) (fp : List Addr), PE (X.blk s H scope (compEnvC scope cl C X.env) fp) elt (tD K (.br 0) fe ce)) (hl : l ≤ 1 := by decide) (hy : X.N[i]? = some y := by rfl) (hyl : X.env.scope.names.lookup y = some .local := by rfl)
    (hsw : swapsWith (.ListComp elt [⟨tg, iter, ifs, 0⟩, ⟨tg1, iter1, ifs1, 0⟩] scope pos) (some (.Name y py)) spos.line X.env = pure true := by exact sw_true rfl rfl rfl (by decide +kernel)) (hv : t.ix.all ((own.map (·.2)).contains ·) = true := by rfl) (hv1 : t1.ix.all (vs1.contains ·) = true := by rfl) (hs : ∀ x, foldedSetIterable iter X.env x = pure x := by intro _; rfl) (hs1 : ∀ env x, foldedSetIterable iter1 env x = pure x := by intro _ _; rfl) :
    PS X (.Assign [.Name y py] (.ListComp elt [⟨tg, iter, ifs, 0⟩, ⟨tg1, iter1, ifs1, 0⟩] scope pos) spos) (tS K (sSet i l (eLc2 fi t ft fi1 t1 ft1 fe (own.map (·.2)) vs1) (ci ++ (ci1 ++ ce)))) := (ps_setLc2 hc hN hy hyl hsw hi ok (fun i hi => by simpa using List.all_eq_true.mp hvs i hi) hg ht hi1 hg1 ht1 he hs hs1).imp fun E σ H h =>
  lc2_ok (κ := moOf l) hv hv1 (by match l, hl with | 0, _ => rfl | 1, _ => rfl) σ H _ (set_ok (by omega) E σ H h)
end
end DS
end

section
set_option Elab.async false
set_option linter.all false
set_option maxRecDepth 100000
set_option maxHeartbeats 1000000
/-! Part o: range(i, j, -1), max(.., default=), found *= x, tuples times a number. -/
namespace DS
open PySem PySem.Spec PyProof.Rows L2
/-- i, i - 1, .. (n of them) -/
def rngDn (i : Int) (n : Nat) : List D := (List.range n).map fun (k : Nat) => .int (i - (k : Int))
theorem walks_down {K : PySem.W.Frag} {G : Hp} {B : List Addr} {lo : Int} {n : Nat} : Walks K G B (Itc lo (-1) n) (rngDn lo n) where
  go := fun i H hi s => show i < n from by simpa [rngDn] using hi
  stop := fun H s => by
    show n ≤ (rngDn lo n).length
    simp [rngDn]
  yld := fun i H x H' d hd s y => by
    obtain ⟨e, y⟩ := y
    subst e y
    refine ⟨Same.refl _, fun B' _ hb => ?_⟩
    have hi : i < n := by
      have := (List.getElem?_eq_some_iff.mp hd).1
      simpa [rngDn] using this
    have : d = .int (lo + (i : Nat) * (-1)) := by
      unfold rngDn at hd
      rw [List.getElem?_map, List.getElem?_range hi] at hd
      have e := Option.some.inj hd
      rw [← e]
      show PyData.int (lo - (i : Int)) = PyData.int (lo + (i : Int) * (-1))
      rw [Int.mul_neg_one]
      rfl
    rw [this]
    exact .int _
def iRange3 (f g h : FE) : FA := fun ρ => match f ρ, g ρ, h ρ with
  | some (.int i), some (.int j), some (.int c) => if (rngOk i j && decide (c = -1)) = true then some (rngDn i (i - j).toNat) else none
  | _, _, _ => none
section
variable {X : Cx} {K : PySem.W.Frag} {tg : Expr} {p pos : Pos} {m : Nat} {f f2 f3 : FE} {c c2 c3 : Esc}
theorem qi_range3 {a b d : Expr} (hg : Gl X "range") (hm : X.mg "range" = none) (ha : PE X a (tD K (.br 1) f c)) (hb : PE X b (tD K (.br 1) f2 c2)) (hd : PE X d (tD K (.br 1) f3 c3))
    (hs : starEach [a, b, d] X.env = (false, eval a X.env) :: starEach [b, d] X.env := by rfl) (hs2 : starEach [b, d] X.env = (false, eval b X.env) :: starEach [d] X.env := by rfl) (hs3 : starEach [d] X.env = (false, eval d X.env) :: starEach [] X.env := by rfl) (hpl : (backTo pos (starEach [b, d] X.env)).any (·.1) = false := by rfl) :
    PI X tg (.Call (.Name "range" p) [a, b, d] [] pos) (tI K m (iRange3 f f2 f3) []) := by
  refine (pi_range3 hg hm (pa_cons ha (pa_cons hb (pa_cons hd pa_nil hs3) hs2) hs) hs hpl).imp fun σ H Rr ⟨B, L, ρ, ds, g, es, hf, q⟩ => ?_
  unfold iRange3 at hf
  split at hf
  · rename_i i j k h1 h2 h3
    obtain ⟨hc, rfl⟩ := ite_some hf
    rw [Bool.and_eq_true, decide_eq_true_eq] at hc
    have r := rngOk_ok hc.1
    have hk := hc.2
    subst hk
    refine ⟨[], _, ρ, _, g.zero, .zero, h1, fun v H1 s1 p1 => ⟨[], _, ρ, _, (g.mono s1).zero, .zero, h2, fun w H2 s2 p2 => ⟨[], _, ρ, _, ((g.mono s1).mono s2).zero, .zero, h3, fun u H3 s3 p3 => ?_⟩⟩⟩
    exact ⟨_, _, _, _, by rw [RL.int p1, RL.int p2, RL.int p3], RgC.neg r.1 r.2.1 r.2.2.1 r.2.2.2, q _ H3 ((s1.trans s2).trans s3) walks_down⟩
  · cases hf
end
end DS
end

section
set_option Elab.async false
set_option linter.all false
set_option maxRecDepth 100000
set_option maxHeartbeats 1000000
/-! Sorting of alike trees, tuples among which some may be (). -/
namespace PySem.W
open PySem PySem.Calls PyProof.Rows PySem.SeqAt
section
variable {A : Around} {s : Shared}
theorem call_tuple_lt' {prog : Program} {w : World} {E : Value → Shared → Prop} {Q : Value → Shared → Prop} {l b : Addr} {items items2 : Array Value} {e r : Nat → Bool} (hl : s.heap.IsTuple l items) (hb : s.heap.IsTuple b items2)
    (he : ∀ j (h1 : j < items.size) (h2 : j < items2.size), EqAt A.in1 s items[j] items2[j] (e j)) (hr : ∀ j (h1 : j < items.size) (h2 : j < items2.size), e j = false → RcLt A.in1 s items[j] items2[j] (r j))
    (h : Q (.bool (firstLt e r (decide (items.size < items2.size)) (List.range (min items.size items2.size)))) s) : wpAny (model prog w) A (call (.builtin "tuple.__lt__") [.ref l, .ref b]) Q E s := by
  obtain ⟨⟨cls, dd, data, sl⟩, ho, hc, n, hd⟩ := id hl
  obtain ⟨⟨cls2, dd2, data2, sl2⟩, ho2, hc2, n2, hd2⟩ := id hb
  simp only at hc hd hc2 hd2
  subst hc hd hc2 hd2
  exact call_meets F.slot_tuple_lt ⟨_, ho, rfl⟩ F.entry_tuple_lt (F.args_tuple_lt_2 _ _) (tuple_ltAt l b items items2 n n2 dd dd2 sl sl2 e r) ⟨ho, ho2, he, hr, h⟩
end
section
variable {prog : Program} {w : World} {A : Around} {E : Value → Shared → Prop} {s : Shared}
theorem oneLt_any {f : Bool} {da db : PyData} {a b : Value} {as bs : List Addr} {Q : Bool → Shared → Prop} (ra : Reads s.heap a da as) (rb : Reads s.heap b db bs) (h : alike da db = true) (hn : da ≠ .none)
    (hu : A.units + min da.depth db.depth < cLine) (hq : Q (dataLt da db) s) : wpAny (model prog w) A (oneLt' f a b) Q E s := by
  by_cases ht : f = true → ∀ xs, da ≠ .tuple xs
  · exact oneLt_alike ht ra rb h hn hu hq
  · obtain ⟨hf, xs, rfl⟩ : f = true ∧ ∃ xs, da = .tuple xs := by
      by_cases hf : f = true
      · refine ⟨hf, ?_⟩
        by_cases z : ∃ xs, da = .tuple xs
        · exact z
        · exact absurd (fun _ xs e => z ⟨xs, e⟩) ht
      · exact absurd (fun z => absurd z hf) ht
    subst hf
    cases db with
    | tuple ys =>
      have hal : alikeAll xs ys = true := by simpa [alike] using h
      cases ra with
      | @tuple l o vs n _ as₁ h1 h2 h3 h4 =>
        cases rb with
        | @tuple l' o' vs' n' _ bs₁ k1 k2 k3 k4 =>
          have n1 : vs.size = xs.length := by simpa using ReadsAll.length _ _ _ h4
          have n2 : vs'.size = ys.length := by simpa using ReadsAll.length _ _ _ k4
          rw [dataLt_tuple, ← firstLt_toks xs ys hal, ← n1, ← n2] at hq
          rw [oneLt'_eq]
          simp only [if_true]
          refine wpAny_bind (wpAny_cRoomFor (room_here hu) ?_)
          refine wpAny_bind (wpAny_callSpecialIfBound?_slot (T := "tuple") ⟨_, h1, h2⟩ F.slot_tuple_lt (call_tuple_lt' (e := pairEq xs ys) (r := fun j => dataLt (xs.getD j .none) (ys.getD j .none)) ⟨_, h1, h2, _, h3⟩ ⟨_, k1, k2, _, k3⟩ (fun j j1 j2 => ?_) (fun j j1 j2 hj => ?_) ?_))
          · have := eqAt_alikeAll xs ys A.in1 s vs.toList vs'.toList _ _ h4 k4 hal (room_in hu) j (by simpa using j1) (by simpa using j2)
            simpa using this
          · have := rcLt_alikeAll xs ys A.in1 s vs.toList vs'.toList _ _ h4 k4 hal (room_in hu) j (by simpa using j1) (by simpa using j2) hj
            simpa using this
          · exact wpAny_truthy_bool hq
    | _ => exact absurd h (by simp [alike])
end
/-- tuples, the first item of each, if it has one -/
inductive Mix (h : Heap) : List Value → List (Option Value) → Prop
  | nil : Mix h [] []
  | cons {a : Addr} {o : Obj} {xs : Array Value} {n : Nat} {vs : List Value} {fs : List (Option Value)} (ho : h.get? a = some o) (hc : o.cls = .type "tuple") (hd : o.data = .seq xs n) (r : Mix h vs fs) : Mix h (.ref a :: vs) (xs[0]? :: fs)
section
variable {M : Model} {A : Around} {E : Value → Shared → Prop} {s : Shared}
theorem mix_firsts : ∀ {vs : List Value} {fs : List (Option Value)} {Q : List (Option Value) → Shared → Prop}, Mix s.heap vs fs → Q fs s → wpAny M A (vs.mapM firstOfTuple') Q E s
  | _, _, _, .nil, h => by rw [List.mapM_nil]; exact wpAny_pure h
  | _, _, Q, .cons (a := a) (o := o) (xs := xs) (fs := fs) ho hc hd t, h => by
    rw [List.mapM_cons]
    refine wpAny_bind ?_
    rw [kas_first_eq]
    refine wpAny_bind (Looks.here (show Looks M s.heap (typeOf (.ref a)) o.cls from (Looks.ld ho).andThen .now) ?_)
    rw [hc, if_neg (by first | decide | simp)]
    refine wpAny_bind (listItems_at ho hd (wpAny_pure ?_))
    exact wpAny_bind (mix_firsts (Q := fun bs s' => wpAny M A (pure (xs[0]? :: bs)) Q E s') t (wpAny_pure h))
theorem Mix.length {h : Heap} : ∀ {vs : List Value} {fs : List (Option Value)}, Mix h vs fs → vs.length = fs.length
  | _, _, .nil => rfl
  | _, _, .cons _ _ _ t => congrArg (· + 1) t.length
theorem Mix.looks {h : Heap} : ∀ {vs : List Value} {fs : List (Option Value)}, Mix h vs fs → ∀ v ∈ vs, Looks M h (typeOf v) (Value.type "tuple")
  | _, _, .nil, v, hv => by simp at hv
  | _, _, .cons (a := a) (o := o) ho hc hd t, v, hv => by
    rcases List.mem_cons.mp hv with e | hv
    · rw [e]
      exact hc ▸ (Looks.ld ho).andThen .now
    · exact t.looks v hv
/-- one of them is (): then the first one tells -/
theorem mix_kind {vs : List Value} {fs : List (Option Value)} {f : Option Value} {fr : List (Option Value)} {Q : SortKind → Shared → Prop} (t : Mix s.heap vs fs) (hf : fs = f :: fr) (hno : (fs.all fun x => x.isSome) = false) (h : Q (if f.isSome = true then general' else oneType') s) :
    wpAny M A (keyKind' vs.toArray) Q E s := by
  subst hf
  rw [keyKind'_eq, List.mapM_toArray, map_eq_pure_bind]
  refine wpAny_bind (wpAny_bind (mix_firsts t (wpAny_pure ?_)))
  have h1 : ((f :: fr).toArray.all fun x => x.isSome) = false := by simpa using hno
  rw [h1, if_neg (by simp)]
  have h2 : ((f :: fr).toArray[0]?.bind id) = f := by simp
  rw [h2]
  by_cases hs : f.isSome = true
  · rw [if_pos hs]
    rw [if_pos hs] at h
    exact wpAny_pure h
  · rw [if_neg hs]
    rw [if_neg hs] at h
    rw [oneTypeOnly'_eq, List.mapM_toArray, map_eq_pure_bind]
    refine wpAny_bind (wpAny_bind (wpAny_bind (kas_mapM (r := Value.type "tuple") _ (fun v hv Q' hq => (t.looks v hv).here hq) (wpAny_pure ?_))))
    obtain ⟨v₁, rest, rfl⟩ : ∃ v₁ rest, vs = v₁ :: rest := by
      cases t with
      | cons ho hc hd r => exact ⟨_, _, rfl⟩
    have hall : ((List.map (fun _ => Value.type "tuple") (v₁ :: rest)).toArray.all fun x => x == Value.type "tuple") = true := by
      simp only [List.all_toArray, List.all_map, List.all_eq_true]
      intro _ _
      exact beq_self_eq_true _
    have h0 : (List.map (fun _ => Value.type "tuple") (v₁ :: rest)).toArray[0]? = some (Value.type "tuple") := by simp
    rw [h0]
    simp only [hall, if_true]
    exact wpAny_pure (wpAny_pure h)
end
theorem each_mix {h : Heap} : ∀ {vs : List Value} {ds : List PyData}, EachIs (fun v d => ∃ as, Reads h v d as) vs ds → (∀ d, d ∈ ds → ∃ xs, d = .tuple xs) → ∃ fs, Mix h vs fs ∧ ∀ i : Nat, (∀ d : PyData, ds[i]? = some d → (∃ f, fs[i]? = some f ∧ (f.isSome = true ↔ ∃ x r, d = .tuple (x :: r))))
  | _, _, .nil, _ => ⟨[], .nil, fun i d hd => by simp at hd⟩
  | _, _, .cons (b := d) ⟨as, r⟩ t, ht => by
    obtain ⟨fs, h1, h2⟩ := each_mix t fun d hd => ht d (List.mem_cons_of_mem _ hd)
    obtain ⟨xs, rfl⟩ := ht d (List.mem_cons_self ..)
    cases r with
    | @tuple a o its n _ _ ho hc hd hr =>
      refine ⟨its[0]? :: fs, .cons ho hc hd h1, fun i d' hi => ?_⟩
      cases i with
      | succ i => exact h2 i d' (by simpa using hi)
      | zero =>
        have e : d' = .tuple xs := by simpa using hi.symm
        subst e
        refine ⟨_, rfl, ?_⟩
        have hl : its.size = xs.length := by simpa using SeqAt.ReadsAll.length _ _ _ hr
        cases xs with
        | nil =>
          have : its[0]? = none := by
            rw [Array.getElem?_eq_none]
            simp at hl
            simp [hl]
          rw [this]
          simp
        | cons x r =>
          have : its[0]?.isSome = true := by
            have : 0 < its.size := by rw [hl]; simp
            simp [this]
          exact ⟨fun _ => ⟨x, r, rfl⟩, fun _ => this⟩
section
variable {prog : Program} {w : World} {A : Around} {s : Shared}
/-- any alike values but None can be sorted -/
theorem SortsAt.any {vs : List Value} {ds : List PyData} (e : EachIs (fun v d => ∃ as, Reads s.heap v d as) vs ds) (hal : AllAlike ds) (hn : ∀ d, d ∈ ds → d ≠ .none) (hu : ∀ d, d ∈ ds → A.units + d.depth < cLine) : SortsAt prog w A s (dataKind s.heap ds) vs := by
  by_cases hk : Sortable ds
  · exact SortsAt.data e hal hk hu
  · have room : ∀ {d d' : PyData}, d ∈ ds → A.units + min d.depth d'.depth < cLine := fun {d d'} hd => Nat.lt_of_le_of_lt (Nat.add_le_add_left (Nat.min_le_left _ _) _) (hu d hd)
    have ht : ∀ d, d ∈ ds → ∃ xs, d = .tuple xs := by
      by_cases z : ∃ d ∈ ds, ∃ xs, d = .tuple xs
      · obtain ⟨d0, h0, xs0, rfl⟩ := z
        intro d hd
        have := hal d hd _ h0
        cases d with
        | tuple xs => exact ⟨xs, rfl⟩
        | _ => exact absurd this (by simp [alike])
      · exact absurd (.inr fun d hd => ⟨hn d hd, fun xs ex => z ⟨d, hd, xs, ex⟩⟩) hk
    obtain ⟨fs, m, hm⟩ := each_mix e ht
    have hne : ∃ d ∈ ds, d = .tuple [] := by
      by_cases z : ∃ d ∈ ds, d = .tuple []
      · exact z
      · refine absurd (.inl fun d hd => ?_) hk
        obtain ⟨xs, rfl⟩ := ht d hd
        cases xs with
        | nil => exact absurd ⟨_, hd, rfl⟩ z
        | cons x r => exact ⟨x, r, rfl⟩
    obtain ⟨d0, hd0, rfl⟩ := hne
    obtain ⟨i0, hi0⟩ := List.getElem?_of_mem hd0
    obtain ⟨f0, hf0, q0⟩ := hm i0 _ hi0
    have hno : (fs.all fun x => x.isSome) = false := by
      rw [Bool.eq_false_iff]
      intro z
      rw [List.all_eq_true] at z
      have := q0.mp (z f0 (List.mem_of_getElem? hf0))
      obtain ⟨x, r, h⟩ := this
      cases h
    cases hfs : fs with
    | nil =>
      rw [hfs] at hf0
      simp at hf0
    | cons f fr =>
      have lt : ∀ b : Bool, H.LtAt prog w A s (dataKind s.heap ds) (if b = true then general' else oneType') := by
        intro b E x y a b' Q ha hb hq
        obtain ⟨d, as, hd, ra, rfl⟩ := dataKind_inv ha
        obtain ⟨d', as', hd', rb, rfl⟩ := dataKind_inv hb
        cases b with
        | true => exact oneLt_any (f := false) ra rb (hal d hd d' hd') (hn d hd) (room hd) hq
        | false => exact oneLt_any (f := true) ra rb (hal d hd d' hd') (hn d hd) (room hd) hq
      refine ⟨fun v hv => ?_, (if f.isSome = true then general' else oneType'), lt _, fun _ E Q hq => mix_kind m hfs hno hq⟩
      obtain ⟨d, hd, as, r⟩ := e.left v hv
      exact ⟨_, dataKind_some hal hd r⟩
end
end PySem.W
end

section
set_option Elab.async false
set_option linter.all false
set_option maxRecDepth 100000
set_option maxHeartbeats 1000000
/-! Part q: sorted(xs) of a list of alike trees. -/
namespace PySem.W
open PySem PySem.Calls PyProof.Rows
section
variable {prog : Program} {w : World} {A : Around} {E : Value → Shared → Prop} {s : Shared} {β : Type} {vs : List Value} {bs : List β} {enc : β → PyData} {R : Value → β → Prop}
theorem sorted_any' {l : Addr} {Q : Value → Shared → Prop} (hl : s.heap.IsList l vs.toArray) (e : EachIs R vs bs) (er : EachIs (fun v b => ∃ as, Reads s.heap v (enc b) as) vs bs) (hal : AllAlike (bs.map enc)) (hk : ∀ d, d ∈ bs.map enc → d ≠ .none) (hL : bs.length ≤ sizeLine)
    (hu : ∀ b, b ∈ bs → A.units + 2 + (enc b).depth < cLine) (h : ∀ out, out.length = bs.length → EachIs R out (bs.mergeSort (dataLe false enc)) → Q (.ref (s.heap.objs.size + 1)) { s with heap := sortedAll s.heap vs (List.toArray out) }) :
    wpAny (model prog w) A (call (.builtin "sorted") [.ref l]) Q E s := by
  have er' : EachIs (fun v b => ∃ as, Reads (sortingHeap (copyHeap s.heap vs) (s.heap.objs.size + 1) vs) v (enc b) as) vs bs := er.mono fun _ _ ⟨as, r⟩ => ⟨as, PyProof.Rows.Reads.keeps (fun _ _ => sorting_copy_old) r⟩
  exact sorted_vals hl (SortsAt.any (s := { s with heap := sortingHeap (copyHeap s.heap vs) (s.heap.objs.size + 1) vs }) (each_map (R := fun v d => ∃ as, Reads (sortingHeap (copyHeap s.heap vs) (s.heap.objs.size + 1) vs) v d as) enc er') hal hk (bound_map hu)) (by rw [e.length]; exact hL)
    (h _ (by rw [sortVals_length false rfl]; exact e.length) (sortVals_data false e er' hal))
end
end PySem.W
namespace DS
open PySem PySem.Spec PyProof.Rows L2
/-- a before b in a sorted list, or as good -/
def leD (a b : D) : Bool := !PySem.W.dataLt b a
def rSortA (K : PySem.W.Frag) : List V → Hp → VK → Prop := fun vs H Q => ∃ a xs ds, vs = [.ref a] ∧ SqL K H a xs ∧ DpAll K H xs ds ∧ xs.length = ds.length ∧ allCmp ds = true ∧ ∀ p, H p = none → Q (.ref p) (upd H p (.lst (((xs.zip ds).mergeSort (fun u v => leD u.2 v.2)).map (·.1))))
section
variable {X : Cx} {K : PySem.W.Frag}
theorem each_zip {R : Value → V → Prop} : ∀ {us : List Value} {xs : List V} {ds : List D}, us.length = xs.length → xs.length = ds.length → (∀ (i : Nat) (u : Value) (x : V), us[i]? = some u → xs[i]? = some x → R u x) → PySem.W.EachIs (fun u b => R u b.1) us (xs.zip ds)
  | [], [], [], _, _, _ => .nil
  | u :: us, x :: xs, d :: ds, h1, h2, h => .cons (h 0 u x rfl rfl) (each_zip (by simpa using h1) (by simpa using h2) fun i u' x' e1 e2 => h (i + 1) u' x' (by simpa using e1) (by simpa using e2))
  | [], _ :: _, _, h1, _, _ => by simp at h1
  | _ :: _, [], _, h1, _, _ => by simp at h1
  | [], [], _ :: _, _, h2, _ => by simp at h2
  | _ :: _, _ :: _, [], _, h2, _ => by simp at h2
theorem each_reads {h : Heap} : ∀ {us : List Value} {xs : List V} {ds : List D} {as : List Addr}, ReadsAll h us ds as → xs.length = ds.length → PySem.W.EachIs (fun u b => ∃ as, Reads h u b.2 as) us (xs.zip ds)
  | _, [], _, _, .nil, _ => .nil
  | _, x :: xs, _, _, .cons r t, hl => .cons ⟨_, r⟩ (each_reads t (by simpa using hl))
  | _, _ :: _, _, _, .nil, hl => by simp at hl
  | _, [], _, _, .cons r t, hl => by simp at hl
theorem each_vals : ∀ {us : List Value} {zs : List (V × D)}, PySem.W.EachIs (fun u b => RelV b.1 u) us zs → Vals (zs.map (·.1)) us
  | _, _, .nil => .nil
  | _, _, .cons r t => .cons r (each_vals t)
theorem zip_snd {α β : Type} : ∀ {xs : List α} {ds : List β}, xs.length = ds.length → (xs.zip ds).map (·.2) = ds
  | [], [], _ => rfl
  | x :: xs, d :: ds, h => by
    simp only [List.zip_cons_cons, List.map_cons]
    rw [zip_snd (by simpa using h)]
  | [], _ :: _, h => by simp at h
  | _ :: _, [], h => by simp at h
theorem depth_mem : ∀ {ds : List D} {d : D}, d ∈ ds → d.depth ≤ PyData.depthAll ds
  | x :: ds, d, h => by
    rw [PyData.depthAll]
    rcases List.mem_cons.mp h with e | h
    · rw [e]; omega
    · have := depth_mem h
      omega
theorem cr_sortedA (hu : X.A.units + 64 < cLine) : CallR X (.builtin "sorted") (rSortA X.K) := by
  intro pins s σ H vs us Q I r h
  obtain ⟨a, xs, ds, rfl, hs, dp, hlen, ok, q⟩ := h
  obtain ⟨f1, f2, f3⟩ := allCmp_facts ok
  obtain ⟨its, rv, hl, hz⟩ := I.list hs
  rw [Vals.ref1 r]
  obtain ⟨as, ra⟩ := Dp.readsAll I _ _ _ dp rv
  have zs : (xs.zip ds).map (fun b : V × D => b.2) = ds := zip_snd hlen
  refine PySem.W.sorted_any' (bs := xs.zip ds) (enc := fun b => b.2) (R := fun u b => RelV b.1 u) hl.isList
    (each_zip rv.length.symm hlen fun i u x e1 e2 => by
      obtain ⟨u', e3, r3⟩ := rv.get e2
      rw [e1] at e3
      cases e3
      exact r3)
    (each_reads ra hlen) (by rw [zs]; exact f3.1) (by rw [zs]; exact f3.2) (by rw [List.length_zip, ← hlen, Nat.min_self]; exact hz) (fun b hb => ?_) (fun out hol ho => ?_)
  · have : b.2 ∈ ds := (List.of_mem_zip hb).2
    have := depth_mem this
    omega
  · obtain ⟨ep, he'⟩ := PyProof.Rows.sortedAll_at s.heap its out.toArray
    have hv := each_vals ho
    refine ⟨.ref (s.heap.objs.size + 1), upd H (s.heap.objs.size + 1) (.lst (((xs.zip ds).mergeSort (fun u v => leD u.2 v.2)).map (·.1))), I.laid (t' := s.toks) (fun _ _ => PyProof.Rows.sortedAll_old) (Nat.le_succ _) ⟨?_, out, ep, hv, he'⟩, rfl, q _ (I.hok.fresh (Nat.le_succ _))⟩
    rw [List.length_map, List.length_mergeSort, List.length_zip, ← hlen, Nat.min_self]
    exact hz
end
def dSorted : D → Option D
  | .list ds => if allCmp ds = true then some (.list (ds.mergeSort leD)) else none
  | _ => none
section
variable {K : PySem.W.Frag}
theorem sort_snd {xs : List V} {ds : List D} (h : xs.length = ds.length) : ((xs.zip ds).mergeSort (fun u v => leD u.2 v.2)).map (·.2) = ds.mergeSort leD := by
  have := PySem.W.sort_maps (r := fun u v : V × D => leD u.2 v.2) (s := leD) (fun b : V × D => b.2) (l := xs.zip ds) fun _ _ _ _ => rfl
  rw [this, zip_snd h]
theorem RA.sorted {H : Hp} {xs : List V} {ds : List D} (r : RA K H xs ds) : RA K H (((xs.zip ds).mergeSort (fun u v => leD u.2 v.2)).map (·.1)) (ds.mergeSort leD) := by
  rw [← sort_snd r.length]
  have all : ∀ p ∈ xs.zip ds, R K H p.1 p.2 := by
    intro p hp
    obtain ⟨i, hi⟩ := List.getElem?_of_mem hp
    have := List.getElem?_zip_eq_some.mp hi
    obtain ⟨y, e, ry⟩ := r.get this.2
    rw [this.1] at e
    cases e
    exact ry
  have go : ∀ l : List (V × D), (∀ p ∈ l, R K H p.1 p.2) → RA K H (l.map (·.1)) (l.map (·.2)) := by
    intro l hl
    induction l with
    | nil => exact .nil
    | cons p l ih => exact .cons (hl p (.head _)) (ih fun q hq => hl q (.tail _ hq))
  exact go _ fun p hp => all p ((List.mergeSort_perm _ _).mem_iff.mp hp)
theorem cd_sorted : CallD K (rSortA K) (d1 dSorted) := by
  intro B vs ds d H Q ok hl r h q
  obtain ⟨x, rfl, h'⟩ := d1_some h
  obtain ⟨v, rfl, rv⟩ := one_of hl r
  unfold dSorted at h'
  split at h'
  · rename_i es
    obtain ⟨hc, e⟩ := ite_some h'
    subst e
    obtain ⟨p, ys, rfl, h1, h2⟩ := rv.list1
    have h3 := h2.mono same_unhid
    refine ⟨p, ys, es, rfl, SqL.of h1, RA.toDp h3 (allCmp_facts hc).1, h2.length, hc, fun l hn => q _ _ (same_upd hn) fun κ hκ => Post.new ok.trk hn upd_same (h2.sorted.mono (same_hidC hn)) hκ⟩
  · cases h'
end
end DS
end

section
set_option Elab.async false
set_option linter.all false
set_option maxRecDepth 100000
set_option maxHeartbeats 1000000
/-! Part r: min(xs, default=d), max(xs, default=d). -/
namespace DS
open PySem PySem.Spec PyProof.Rows L2
def rBestD (K : PySem.W.Frag) (g : D → List D → D) : List V → List V → Hp → VK → Prop := fun vs zs H Q => ∃ a xs ds z, vs = [.ref a] ∧ zs = [z] ∧ (SqL K H a xs ∨ SqT K H a xs) ∧ DpAll K H xs ds ∧ allCmp ds = true ∧ (ds = [] → Q z H) ∧ ∀ (x : D) (r : List D), ds = x :: r → ∀ (i : Nat) (y : V), xs[i]? = some y → ds[i]? = some (g x r) → Q y H
section
variable {X : Cx} {K : PySem.W.Frag}
theorem crk_maxD (hc : X.calm = true) (hu : X.A.units + 64 < cLine) : CallRK X (.builtin "max") [Str.ofString "default"] (rBestD X.K PySem.W.maxD) := by
  intro pins s σ H vs zs us ws Q I r rz h
  obtain ⟨a, xs, ds, z, rfl, rfl, hs, dp, ok, q0, q⟩ := h
  obtain ⟨f1, f2, f3⟩ := allCmp_facts ok
  rw [Vals.ref1 r]
  obtain ⟨wz, rfl, rw'⟩ := vals1 rz
  show wpAny _ _ (call (.builtin "max") [.ref a] [(Str.ofString "default", wz)]) _ _ _
  rcases hs with hs | hs
  · obtain ⟨its, rv, hl, _⟩ := I.list hs
    obtain ⟨as, ra⟩ := Dp.readsAll I _ _ _ dp rv
    refine PySem.W.max_list_default (I.ok.hd hc) hl.isList (by simpa using ra) f3 (by omega) (fun e h' tk hk => ⟨z, H, I.kept hk, rw', q0 e⟩) fun y ys i v h' tk bs e hv rd hk => ?_
    subst e
    obtain ⟨y', e1, e2, e3⟩ := best_at rv ra f3 (maxD_mem y ys) hk hv rd
    exact ⟨y', H, I.kept hk, e2, q y ys rfl i y' e1 e3⟩
  · obtain ⟨its, rv, hl, _⟩ := I.tuple hs
    obtain ⟨as, ra⟩ := Dp.readsAll I _ _ _ dp rv
    refine PySem.W.max_tuple_default (I.ok.hd hc) hl (by simpa using ra) f3 (by omega) (fun e h' tk hk => ⟨z, H, I.kept hk, rw', q0 e⟩) fun y ys i v h' tk bs e hv rd hk => ?_
    subst e
    obtain ⟨y', e1, e2, e3⟩ := best_at rv ra f3 (maxD_mem y ys) hk hv rd
    exact ⟨y', H, I.kept hk, e2, q y ys rfl i y' e1 e3⟩
theorem crk_minD (hc : X.calm = true) (hu : X.A.units + 64 < cLine) : CallRK X (.builtin "min") [Str.ofString "default"] (rBestD X.K PySem.W.minD) := by
  intro pins s σ H vs zs us ws Q I r rz h
  obtain ⟨a, xs, ds, z, rfl, rfl, hs, dp, ok, q0, q⟩ := h
  obtain ⟨f1, f2, f3⟩ := allCmp_facts ok
  rw [Vals.ref1 r]
  obtain ⟨wz, rfl, rw'⟩ := vals1 rz
  show wpAny _ _ (call (.builtin "min") [.ref a] [(Str.ofString "default", wz)]) _ _ _
  rcases hs with hs | hs
  · obtain ⟨its, rv, hl, _⟩ := I.list hs
    obtain ⟨as, ra⟩ := Dp.readsAll I _ _ _ dp rv
    refine PySem.W.min_list_default (I.ok.hd hc) hl.isList (by simpa using ra) f3 (by omega) (fun e h' tk hk => ⟨z, H, I.kept hk, rw', q0 e⟩) fun y ys i v h' tk bs e hv rd hk => ?_
    subst e
    obtain ⟨y', e1, e2, e3⟩ := best_at rv ra f3 (minD_mem y ys) hk hv rd
    exact ⟨y', H, I.kept hk, e2, q y ys rfl i y' e1 e3⟩
  · obtain ⟨its, rv, hl, _⟩ := I.tuple hs
    obtain ⟨as, ra⟩ := Dp.readsAll I _ _ _ dp rv
    refine PySem.W.min_tuple_default (I.ok.hd hc) hl (by simpa using ra) f3 (by omega) (fun e h' tk hk => ⟨z, H, I.kept hk, rw', q0 e⟩) fun y ys i v h' tk bs e hv rd hk => ?_
    subst e
    obtain ⟨y', e1, e2, e3⟩ := best_at rv ra f3 (minD_mem y ys) hk hv rd
    exact ⟨y', H, I.kept hk, e2, q y ys rfl i y' e1 e3⟩
end
/-- the best of xs, or z where there is none -/
def bestOr (g : D → List D → D) : List D → D → Option D
  | [], z => if flat z = true then some z else none
  | x :: r, _ => bestOf g (x :: r)
def dMaxD : D → D → Option D
  | .list ds, z => bestOr PySem.W.maxD ds z
  | .tuple ds, z => bestOr PySem.W.maxD ds z
  | _, _ => none
def dMinD : D → D → Option D
  | .list ds, z => bestOr PySem.W.minD ds z
  | .tuple ds, z => bestOr PySem.W.minD ds z
  | _, _ => none
def CallKF (K : PySem.W.Frag) (r : List V → List V → Hp → VK → Prop) (op : D → D → Option D) : Prop := ∀ (v z : V) (dv dz d : D) (H : Hp) (Q : VK), R K H v dv → R K H z dz → op dv dz = some d → (∀ u, R K H u d → flat d = true → Q u H) → r [v] [z] H Q
section
variable {K : PySem.W.Frag}
theorem bestOr_ok {g : D → List D → D} {a : Addr} {xs : List V} {ds : List D} {z : V} {dz d : D} {H : Hp} {Q : VK} (hs : SqL K H a xs ∨ SqT K H a xs) (ra : RA K H xs ds) (rz : R K H z dz) (h : bestOr g ds dz = some d) (q : ∀ v, R K H v d → flat d = true → Q v H) : rBestD K g [.ref a] [z] H Q := by
  unfold bestOr at h
  split at h
  · obtain ⟨hc, e⟩ := ite_some h
    subst e
    exact ⟨a, xs, [], z, rfl, rfl, hs, RA.toDp ra rfl, rfl, fun _ => q z rz hc, fun x r e => by cases e⟩
  · rename_i x r z'
    unfold bestOf at h
    obtain ⟨hc, e⟩ := ite_some h
    subst e
    rw [Bool.and_eq_true] at hc
    refine ⟨a, xs, _, z, rfl, rfl, hs, RA.toDp ra (allCmp_facts hc.1).1, hc.1, fun e => by (cases e), fun x' r' e i y e1 e2 => ?_⟩
    cases e
    obtain ⟨y', e3, rr⟩ := ra.get e2
    rw [e1] at e3
    cases e3
    exact q y rr hc.2
theorem ck_max : CallKF K (rBestD K PySem.W.maxD) dMaxD := by
  intro v z dv dz d H Q rv rz h q
  unfold dMaxD at h
  split at h
  · cases rv with
    | lst e1 e2 => exact bestOr_ok (.inl (SqL.of e1)) e2 rz h q
  · cases rv with
    | tup e1 e2 => exact bestOr_ok (.inr (.inl (.inl e1))) e2 rz h q
  · cases h
theorem ck_min : CallKF K (rBestD K PySem.W.minD) dMinD := by
  intro v z dv dz d H Q rv rz h q
  unfold dMinD at h
  split at h
  · cases rv with
    | lst e1 e2 => exact bestOr_ok (.inl (SqL.of e1)) e2 rz h q
  · cases rv with
    | tup e1 e2 => exact bestOr_ok (.inr (.inl (.inl e1))) e2 rz h q
  · cases h
end
section
variable {X : Cx} {K : PySem.W.Frag} {κ : Mo} {x : Str} {p pos kpos : Pos} {e o : Expr} {f g : FE} {c c2 : Esc} {id : String} {nm : Str} {r : List V → List V → Hp → VK → Prop} {op : D → D → Option D}
/-- f(e, nm=o) -/
theorem qe_k1 (hc : CallRK X (.builtin id) [nm] r) (hd : CallKF K r op) (hg : Gl X x) (hm : X.mg x = none) (hv : bootBuiltins x = some (.builtin id)) (ha : PE X e (tD K (.br 1) f c)) (hk : PE X o (tD K (.br 1) g c2)) (hn : x ≠ "__name__" := by decide) (hdb : (x == ("__debug__" : Str)) = false := by decide)
    (hs : starEach [e] X.env = (false, eval e X.env) :: starEach [] X.env := by rfl)
    (he : backTo pos (starEach [e] X.env) = (false, eval e X.env) :: backTo pos (starEach [] X.env) := by rfl) (hpl : (backTo pos (starEach [e] X.env)).any (·.1) = false := by rfl)
    (hall : (backToKw pos (keywordEach [{ arg := some nm, value := o, pos := kpos }] X.env)).all (·.1.isSome) = true := by rfl) (hnone : (backToKw pos (keywordEach [{ arg := some nm, value := o, pos := kpos }] X.env)).any (·.1.isNone) = false := by rfl) (hks : (backToKw pos (keywordEach [{ arg := some nm, value := o, pos := kpos }] X.env)).filterMap (·.1) = [nm] := by rfl) :
    PE X (.Call (.Name x p) [e] [{ arg := some nm, value := o, pos := kpos }] pos) (tD K κ (eOp op f g) []) :=
  (pe_callBK hc hg hm hv (pa_cons ha pa_nil hs) (pk_cons hk pk_nil) hn hdb he hpl hall hnone hks).imp fun σ H Q ⟨B, L, ρ, d, gd, es, hf, q⟩ => by
    obtain ⟨dx, dy, h1, h2, h3⟩ := o2_some hf
    refine ⟨[], _, ρ, dx, gd.zero, .zero, h1, fun v H1 s1 p1 => ⟨[], _, ρ, dy, (gd.mono s1).zero, .zero, h2, fun z H2 s2 p2 => ?_⟩⟩
    exact hd v z dx dy d H2 Q ((RL.r0 p1).mono s2) (RL.r0 p2) h3 fun u ru fl => q u H2 (s1.trans s2) (Post.of_flat (ru.hidF ((gd.ok.mono s1).mono s2).noTup fl) (flat_top fl))
end
end DS
end

section
set_option Elab.async false
set_option linter.all false
set_option maxRecDepth 100000
set_option maxHeartbeats 1000000
/-! Part t: is, is not of truth values; found *= x. -/
namespace DS
open PySem PySem.Spec PyProof.Rows L2
def dIs : D → D → Option Bool
  | .bool a, .bool b => some (decide (a = b))
  | _, _ => none
def dIsNot : D → D → Option Bool
  | .bool a, .bool b => some (!decide (a = b))
  | _, _ => none
section
variable {X : Cx} {K : PySem.W.Frag}
theorem oc_is : OpC K rIsB dIs := by
  intro x y dx dy b H Q rx ry h q
  unfold dIs at h
  split at h
  · cases (Option.some.inj h)
    exact ⟨_, _, rx.bl', ry.bl', q⟩
  · cases h
theorem oc_isNot : OpC K rNotB dIsNot := by
  intro x y dx dy b H Q rx ry h q
  unfold dIsNot at h
  split at h
  · cases (Option.some.inj h)
    exact ⟨_, _, rx.bl', ry.bl', q⟩
  · cases h
def ipM : TIp := fun x y H Q => ∃ i j, x = .int i ∧ y = .int j ∧ mulOk i j = true ∧ Q (.int (i * j)) H
theorem ip_mul : PIp X .Mult ipM := by
  intro pins s σ H x y v u Q I r1 r2 h
  obtain ⟨i, j, e1, e2, hm, q⟩ := h
  subst e1; subst e2
  obtain ⟨t, rfl⟩ := r1
  obtain ⟨t', rfl⟩ := r2
  exact imul_int ⟨.int _, H, I.tok _, ⟨_, rfl⟩, q⟩ (mulOk_ok hm)
def dMulI : D → D → Option D
  | .int i, .int j => if mulOk i j = true then some (.int (i * j)) else none
  | _, _ => none
theorem ss_augMul (i : Nat) {x : Str} {e : Expr} {f : FE} {c : Esc} {pos pos' : Pos} (hN : X.N.Nodup) (he : PE X e (tD K (.br 1) f c)) (hi : X.N[i]? = some x := by rfl) (hx : Loc X.env.scope x := by first | exact Or.inl rfl | exact Or.inr rfl) (hf : X.fn x = true ∨ X.env.scope.names.lookup x = some .local := by first | exact .inl rfl | exact .inr rfl) :
    PS X (.AugAssign (.Name x pos') .Mult e pos) (tS K (sAug i dMulI f)) := ss_aug i ip_mul (fun B x y dx dy d H Q ok rx ry h q => by
      unfold dMulI at h
      split at h
      · obtain ⟨hc, e⟩ := ite_some h
        subst e
        exact ⟨_, _, rx.int', ry.int', hc, q _ H (Same.refl H) (.int _)⟩
      · cases h) hN he hi hx hf
end
end DS
end

section
set_option Elab.async false
set_option linter.all false
set_option maxRecDepth 100000
set_option maxHeartbeats 1000000
/-! Part u: x[i], y[j] = a, b with flat values. -/
namespace DS
open PySem PySem.Spec PyProof.Rows L2
def sPutC (i : Nat) (j : FE) (d : D) : FS := fun s => match eVar i s.1, j s.1 with
  | some (.list ds), some (.int k) => match ixN ds.length k with
    | none => .stuck
    | some n => if lv s.2 i = 1 then .next (s.1.set i (some (.list (ds.set n d))), s.2) else .stuck
  | _, _ => .stuck
def sPut2 (i1 : Nat) (j1 : FE) (i2 : Nat) (j2 : FE) (f : FE) : FS := fun s => match f s.1 with
  | some (.tuple [a, b]) => if (flat a && flat b) = true then (match sPutC i1 j1 a s with
    | .next s1 => sPutC i2 j2 b s1
    | _ => .stuck) else .stuck
  | _ => .stuck
section
variable {X : Cx} {K : PySem.W.Frag}
theorem flat_write {H : Hp} {a : Addr} {xs xs' : List V} {w : V} {e : D} (r : R K H w e) (hf : flat e = true) (ha : H a = some (.lst xs)) : R K (upd H a (.lst xs')) w e := by
  have nt : NoTup [a] H := fun b hb ys rd => by
    have : b = a := by simpa using hb
    subst this
    rcases rd with rd | ⟨u, rd⟩ <;> rw [rd] at ha <;> cases ha
  refine (r.hidF nt hf).mono fun b o q => ?_
  obtain ⟨q1, q2⟩ := hid_some q
  rw [upd_ne fun z => q1 (by rw [z]; exact List.mem_cons_self)]
  exact q2
theorem putC_ok {B0 : List Addr} {G H : Hp} {σ : St} {s s' : S} {i : Nat} {j : FE} {cj : Esc} {d : D} {v : V} {Q : St → Hp → Prop} (hs : GS K B0 G σ H s) (hv : R K H v d) (hfl : flat d = true) (he : sPutC i j d s = .next s')
    (q : ∀ H', GS K B0 G σ H' s' → (∀ w e, R K H w e → flat e = true → R K H' w e) → Q σ H') : gSub (tVar i) (tD K (.br 1) j cj) rSetL v σ H Q := by
  unfold sPutC at he
  split at he
  · rename_i ds k hi hk
    have hi := eVar_some hi
    split at he
    · cases he
    · rename_i n hn
      split at he
      · rename_i hl
        cases he
        obtain ⟨O, B, g⟩ := hs
        obtain ⟨a, xs, h1, h2, h3, _⟩ := g.write hi hl
        refine ⟨.ref a, h1, [], _, s.1, _, g.good.zero, .zero, hk, fun w H2 s2 p2 => ?_⟩
        obtain ⟨a', xs', h1', h2', h3', h4'⟩ := (g.mono s2).write hi hl
        rw [h1] at h1'
        cases h1'
        have h5 := s2 _ _ h2
        rw [h5] at h2'
        cases h2'
        refine ⟨a, xs, _, n, rfl, RL.int p2, h5, by rw [h3.length]; exact hn, ?_⟩
        exact q _ (h4' _ _ (h3'.set ((hv.mono s2).hidF ((g.ok.mono s2).noTup) hfl) n)) fun w' e' r' f' => flat_write (r'.mono s2) f' h5
      · cases he
  · cases he
theorem put2_ok {i1 i2 : Nat} {j1 j2 f : FE} {c c1 c2 : Esc} : ∀ E σ H, tS K (sPut2 i1 j1 i2 j2 f) E σ H →
    tAsg (tD K (.br 0) f c) (gTup K 2 (gCons (gSub (tVar i1) (tD K (.br 1) j1 c1) rSetL) (gCons (gSub (tVar i2) (tD K (.br 1) j2 c2) rSetL) gNil))) E σ H := fun E σ H ⟨B0, G, s, hs, q⟩ => by
  unfold sPut2 at q
  split at q
  · rename_i a b hd
    split at q
    · rename_i hfl
      rw [Bool.and_eq_true] at hfl
      split at q
      · rename_i s1 e1
        cases e2 : sPutC i2 j2 b s1 with
        | next s2 =>
          rw [e2] at q
          obtain ⟨O, B, g⟩ := id hs
          refine ⟨[], _, s.1, _, g.good.zero, .zero, hd, fun v H1 st p1 => ?_⟩
          have rv := RL.r0 p1
          cases rv with
          | tup t1 t2 =>
            cases t2 with
            | cons ra t3 =>
              cases t3 with
              | cons rb t4 =>
                cases t4
                refine ⟨_, _, rfl, (.inl (.inl t1)), rfl, _, _, rfl, ?_⟩
                have hs1 : GS K B0 G σ H1 s := ⟨O, B, g.mono st⟩
                refine putC_ok hs1 ra hfl.1 e1 fun H2 gs2 kp => ?_
                refine ⟨_, _, rfl, putC_ok gs2 (kp _ _ rb hfl.2) hfl.2 e2 fun H3 gs3 _ => ⟨rfl, q σ H3 gs3⟩⟩
        | ret d =>
          unfold sPutC at e2
          split at e2
          · split at e2
            · cases e2
            · split at e2 <;> cases e2
          · cases e2
        | brk s2 =>
          unfold sPutC at e2
          split at e2
          · split at e2
            · cases e2
            · split at e2 <;> cases e2
          · cases e2
        | cont s2 =>
          unfold sPutC at e2
          split at e2
          · split at e2
            · cases e2
            · split at e2 <;> cases e2
          · cases e2
        | stuck => rw [e2] at q; exact q.elim
      · exact q.elim
    · exact q.elim
  · exact q.elim
theorem ss_put2 (i1 i2 : Nat) {tg e : Expr} {j1 j2 f : FE} {c c1 c2 : Esc} {pos : Pos} (ps : PS X (.Assign [tg] e pos) (tAsg (tD K (.br 0) f c) (gTup K 2 (gCons (gSub (tVar i1) (tD K (.br 1) j1 c1) rSetL) (gCons (gSub (tVar i2) (tD K (.br 1) j2 c2) rSetL) gNil))))) :
    PS X (.Assign [tg] e pos) (tS K (sPut2 i1 j1 i2 j2 f)) := ps.imp put2_ok
end
end DS
end

section
set_option Elab.async false
set_option linter.all false
set_option maxRecDepth 100000
set_option maxHeartbeats 1000000
/-! Part v: sorted(xs, reverse=True). -/
namespace PySem.W
open PySem PySem.Calls PyProof.Rows
section
variable {prog : Program} {w : World} {A : Around} {E : Value → Shared → Prop} {s : Shared} {β : Type} {vs : List Value} {bs : List β} {enc : β → PyData} {R : Value → β → Prop}
theorem sorted_rev_any' {l : Addr} {b : Bool} {Q : Value → Shared → Prop} (hl : s.heap.IsList l vs.toArray) (e : EachIs R vs bs) (er : EachIs (fun v b => ∃ as, Reads s.heap v (enc b) as) vs bs) (hal : AllAlike (bs.map enc)) (hk : ∀ d, d ∈ bs.map enc → d ≠ .none) (hL : bs.length ≤ sizeLine)
    (hu : ∀ b, b ∈ bs → A.units + 2 + (enc b).depth < cLine) (h : ∀ out, out.length = bs.length → EachIs R out (bs.mergeSort (dataLe b enc)) → Q (.ref (s.heap.objs.size + 1)) { s with heap := sortedAll s.heap vs (List.toArray out) }) :
    wpAny (model prog w) A (call (.builtin "sorted") [.ref l] [(Str.ofString "reverse", .bool b)]) Q E s := by
  have er' : EachIs (fun v b => ∃ as, Reads (sortingHeap (copyHeap s.heap vs) (s.heap.objs.size + 1) vs) v (enc b) as) vs bs := er.mono fun _ _ ⟨as, r⟩ => ⟨as, PyProof.Rows.Reads.keeps (fun _ _ => sorting_copy_old) r⟩
  exact sorted_rev_vals hl (SortsAt.any (s := { s with heap := sortingHeap (copyHeap s.heap vs) (s.heap.objs.size + 1) vs }) (each_map (R := fun v d => ∃ as, Reads (sortingHeap (copyHeap s.heap vs) (s.heap.objs.size + 1) vs) v d as) enc er') hal hk (bound_map hu)) (by rw [e.length]; exact hL)
    (h _ (by rw [sortVals_length b rfl]; exact e.length) (sortVals_data b e er' hal))
end
end PySem.W
namespace DS
open PySem PySem.Spec PyProof.Rows L2
/-- a before b in a list sorted downwards, or as good -/
def geD (a b : D) : Bool := !PySem.W.dataLt a b
def rSortRv (K : PySem.W.Frag) : List V → List V → Hp → VK → Prop := fun vs zs H Q => ∃ a xs ds, vs = [.ref a] ∧ zs = [.bl true] ∧ SqL K H a xs ∧ DpAll K H xs ds ∧ xs.length = ds.length ∧ allCmp ds = true ∧ ∀ p, H p = none → Q (.ref p) (upd H p (.lst (((xs.zip ds).mergeSort (fun u v => geD u.2 v.2)).map (·.1))))
section
variable {X : Cx} {K : PySem.W.Frag}
theorem crk_sortedRv (hu : X.A.units + 64 < cLine) : CallRK X (.builtin "sorted") [Str.ofString "reverse"] (rSortRv X.K) := by
  intro pins s σ H vs zs us ws Q I r rz h
  obtain ⟨a, xs, ds, rfl, rfl, hs, dp, hlen, ok, q⟩ := h
  obtain ⟨f1, f2, f3⟩ := allCmp_facts ok
  obtain ⟨its, rv, hl, hz⟩ := I.list hs
  rw [Vals.ref1 r]
  obtain ⟨wz, rfl, rw'⟩ := vals1 rz
  cases (show wz = Value.bool true from rw')
  show wpAny _ _ (call (.builtin "sorted") [.ref a] [(Str.ofString "reverse", .bool true)]) _ _ _
  obtain ⟨as, ra⟩ := Dp.readsAll I _ _ _ dp rv
  have zz : (xs.zip ds).map (fun b : V × D => b.2) = ds := zip_snd hlen
  refine PySem.W.sorted_rev_any' (b := true) (bs := xs.zip ds) (enc := fun b => b.2) (R := fun u b => RelV b.1 u) hl.isList
    (each_zip rv.length.symm hlen fun i u x e1 e2 => by
      obtain ⟨u', e3, r3⟩ := rv.get e2
      rw [e1] at e3
      cases e3
      exact r3)
    (each_reads ra hlen) (by rw [zz]; exact f3.1) (by rw [zz]; exact f3.2) (by rw [List.length_zip, ← hlen, Nat.min_self]; exact hz) (fun b hb => ?_) (fun out hol ho => ?_)
  · have : b.2 ∈ ds := (List.of_mem_zip hb).2
    have := depth_mem this
    omega
  · obtain ⟨ep, he'⟩ := PyProof.Rows.sortedAll_at s.heap its out.toArray
    have hv := each_vals ho
    refine ⟨.ref (s.heap.objs.size + 1), upd H (s.heap.objs.size + 1) (.lst (((xs.zip ds).mergeSort (fun u v => geD u.2 v.2)).map (·.1))), I.laid (t' := s.toks) (fun _ _ => PyProof.Rows.sortedAll_old) (Nat.le_succ _) ⟨?_, out, ep, hv, he'⟩, rfl, q _ (I.hok.fresh (Nat.le_succ _))⟩
    rw [List.length_map, List.length_mergeSort, List.length_zip, ← hlen, Nat.min_self]
    exact hz
end
def dSortRv : D → D → Option D
  | .list ds, .bool true => if allCmp ds = true then some (.list (ds.mergeSort geD)) else none
  | _, _ => none
/-- f(e, nm=o) makes something new -/
def CallKD (K : PySem.W.Frag) (r : List V → List V → Hp → VK → Prop) (op : D → D → Option D) : Prop := ∀ (B : List Addr) (v z : V) (dv dz d : D) (H : Hp) (Q : VK), Ok B H → RL K B H 1 v dv → RL K B H 1 z dz → op dv dz = some d →
  (∀ u H', Same H H' → (∀ κ : Mo, κ.one = true → Post K B H H' κ u d) → Q u H') → r [v] [z] H Q
section
variable {K : PySem.W.Frag}
theorem sort_snd' {xs : List V} {ds : List D} (h : xs.length = ds.length) : ((xs.zip ds).mergeSort (fun u v => geD u.2 v.2)).map (·.2) = ds.mergeSort geD := by
  have := PySem.W.sort_maps (r := fun u v : V × D => geD u.2 v.2) (s := geD) (fun b : V × D => b.2) (l := xs.zip ds) fun _ _ _ _ => rfl
  rw [this, zip_snd h]
theorem RA.sorted' {H : Hp} {xs : List V} {ds : List D} (r : RA K H xs ds) : RA K H (((xs.zip ds).mergeSort (fun u v => geD u.2 v.2)).map (·.1)) (ds.mergeSort geD) := by
  rw [← sort_snd' r.length]
  have all : ∀ p ∈ xs.zip ds, R K H p.1 p.2 := by
    intro p hp
    obtain ⟨i, hi⟩ := List.getElem?_of_mem hp
    have := List.getElem?_zip_eq_some.mp hi
    obtain ⟨y, e, ry⟩ := r.get this.2
    rw [this.1] at e
    cases e
    exact ry
  have go : ∀ l : List (V × D), (∀ p ∈ l, R K H p.1 p.2) → RA K H (l.map (·.1)) (l.map (·.2)) := by
    intro l hl
    induction l with
    | nil => exact .nil
    | cons p l ih => exact .cons (hl p (.head _)) (ih fun q hq => hl q (.tail _ hq))
  exact go _ fun p hp => all p ((List.mergeSort_perm _ _).mem_iff.mp hp)
theorem ckd_sortedRv : CallKD K (rSortRv K) dSortRv := by
  intro B v z dv dz d H Q ok rv rz h q
  unfold dSortRv at h
  split at h
  · rename_i es
    obtain ⟨hc, e⟩ := ite_some h
    subst e
    obtain ⟨p, ys, rfl, h1, h2⟩ := rv.list1
    have h3 := h2.mono same_unhid
    have ez : z = .bl true := (RL.open rz).bl'
    subst ez
    refine ⟨p, ys, es, rfl, rfl, SqL.of h1, RA.toDp h3 (allCmp_facts hc).1, h2.length, hc, fun l hn => q _ _ (same_upd hn) fun κ hκ => Post.new ok.trk hn upd_same (h2.sorted'.mono (same_hidC hn)) hκ⟩
  · cases h
end
section
variable {X : Cx} {K : PySem.W.Frag} {κ : Mo} {x : Str} {p pos kpos : Pos} {e o : Expr} {f g : FE} {c c2 : Esc} {id : String} {nm : Str} {r : List V → List V → Hp → VK → Prop} {op : D → D → Option D}
theorem qe_k1D (hc : CallRK X (.builtin id) [nm] r) (hd : CallKD K r op) (hg : Gl X x) (hm : X.mg x = none) (hv : bootBuiltins x = some (.builtin id)) (ha : PE X e (tD K (.br 1) f c)) (hk : PE X o (tD K (.br 1) g c2)) (hκ : κ.one = true := by rfl) (hn : x ≠ "__name__" := by decide) (hdb : (x == ("__debug__" : Str)) = false := by decide)
    (hs : starEach [e] X.env = (false, eval e X.env) :: starEach [] X.env := by rfl)
    (he : backTo pos (starEach [e] X.env) = (false, eval e X.env) :: backTo pos (starEach [] X.env) := by rfl) (hpl : (backTo pos (starEach [e] X.env)).any (·.1) = false := by rfl)
    (hall : (backToKw pos (keywordEach [{ arg := some nm, value := o, pos := kpos }] X.env)).all (·.1.isSome) = true := by rfl) (hnone : (backToKw pos (keywordEach [{ arg := some nm, value := o, pos := kpos }] X.env)).any (·.1.isNone) = false := by rfl) (hks : (backToKw pos (keywordEach [{ arg := some nm, value := o, pos := kpos }] X.env)).filterMap (·.1) = [nm] := by rfl) :
    PE X (.Call (.Name x p) [e] [{ arg := some nm, value := o, pos := kpos }] pos) (tD K κ (eOp op f g) (c ++ c2)) :=
  (pe_callBK hc hg hm hv (pa_cons ha pa_nil hs) (pk_cons hk pk_nil) hn hdb he hpl hall hnone hks).imp fun σ H Q ⟨B, L, ρ, d, gd, es, hf, q⟩ => by
    obtain ⟨dx, dy, h1, h2, h3⟩ := o2_some hf
    refine ⟨B, L, ρ, dx, gd, es.left, h1, fun v H1 s1 p1 => ⟨B, L, ρ, dy, gd.mono s1, es.right, h2, fun z H2 s2 p2 => ?_⟩⟩
    refine hd B v z dx dy d H2 Q ((gd.ok.mono s1).mono s2) (RL.mono s2 (same_hid s2) p1) p2 h3 fun u H' s3 p3 => q u H' ((s1.trans s2).trans s3) ?_
    have p := p3 κ hκ
    cases κ with
    | br m => exact p
    | fr =>
      obtain ⟨o, h1, h2, h3⟩ := p
      exact ⟨o, fun a z => (s1.trans s2).free (h1 a z), h2, h3⟩
    | fr2 => cases hκ
end
end DS
end

section
set_option Elab.async false
set_option linter.all false
set_option maxRecDepth 100000
set_option maxHeartbeats 1000000
/-! Part x: y = o + (l.pop(e),) of an owned list l. -/
namespace DS
open PySem PySem.Spec PyProof.Rows L2
theorem RA.erase {K : PySem.W.Frag} {H : Hp} : ∀ {v : List V} {d : List D} (n : Nat), RA K H v d → RA K H (v.eraseIdx n) (d.eraseIdx n)
  | _, _, _, .nil => .nil
  | _, _, 0, .cons h t => t
  | _, _, n + 1, .cons h t => .cons h (RA.erase n t)
/-- the list at l without its item at j, and that item -/
def popAt (l : Nat) (j : FE) (s : S) : Option (S × D) := match eVar l s.1, j s.1 with
  | some (.list ds), some (.int k) => match ixN ds.length k with
    | none => none
    | some n => match ds[n]? with
      | none => none
      | some d => if (flat d && decide (lv s.2 l = 1) && decide (ds.length ≤ sz)) = true then some ((s.1.set l (some (.list (ds.eraseIdx n))), s.2), d) else none
  | _, _ => none
def sPopCat (i o l : Nat) (j : FE) : FS := fun s => match eVar o s.1, popAt l j s with
  | some (.tuple xs), some (s1, d) => if (flats xs && decide (xs.length + 1 ≤ sz)) = true then .next (s1.1.set i (some (.tuple (xs ++ [d]))), s1.2.set i 0) else .stuck
  | _, _ => .stuck
section
variable {X : Cx} {K : PySem.W.Frag}
abbrev tPop (K : PySem.W.Frag) (l : Nat) (j : FE) (cj : Esc) : TE := tBM K "list" rPopAt (tVar l) (tCons (tD K (.br 1) j cj) tNil)
theorem pop_ok {B0 : List Addr} {G H : Hp} {σ : St} {s s1 : S} {l : Nat} {j : FE} {cj : Esc} {d : D} {Q : VK} (hs : GS K B0 G σ H s) (he : popAt l j s = some (s1, d))
    (q : ∀ y H', GS K B0 G σ H' s1 → R K H' y d → (∀ w e, R K H w e → flat e = true → R K H' w e) → Q y H') : tPop K l j cj σ H Q := by
  unfold popAt at he
  split at he
  · rename_i ds k hi hk
    have hi := eVar_some hi
    split at he
    · cases he
    · rename_i n hn
      split at he
      · cases he
      · rename_i d' hd
        obtain ⟨hc, e⟩ := ite_some he
        cases e
        simp only [Bool.and_eq_true, decide_eq_true_eq] at hc
        obtain ⟨⟨hfl, hl⟩, hz⟩ := hc
        obtain ⟨O, B, g⟩ := hs
        obtain ⟨a, xs, h1, h2, h3, _⟩ := g.write hi hl
        refine ⟨.ref a, h1, .inl ⟨rfl, xs, SqL.of h2⟩, [], _, s.1, _, g.good.zero, .zero, hk, fun w H2 s2 p2 => ?_⟩
        obtain ⟨a', xs', h1', h2', h3', h4'⟩ := (g.mono s2).write hi hl
        rw [h1] at h1'
        cases h1'
        have h5 := s2 _ _ h2
        rw [h5] at h2'
        cases h2'
        obtain ⟨y, hy, ry⟩ := h3'.get hd
        have sq := ixN_seq (n := xs.length) (i := k) (j := n) (by rw [h3.length]; exact hn)
        have hlen : (xs.length : Int) ≤ 16777216 := by
          have : xs.length ≤ 16777216 := by rw [h3.length]; exact hz
          omega
        refine ⟨a, xs, k, n, y, rfl, by rw [RL.int p2], h5, by omega, by omega, sq.1, hy, ?_⟩
        exact q y _ (h4' _ _ (h3'.erase n)) (flat_write (ry.mono same_unhid) hfl h5) fun w' e' r' f' => flat_write (r'.mono s2) f' h5
  · cases he
theorem popCat_ok {i o l : Nat} {j : FE} {cj : Esc} : ∀ E σ H, tS K (sPopCat i o l j) E σ H → tAsg (tOp (rCatA K) (tVar o) (tTup (tCons (tPop K l j cj) tNil))) (gName i) E σ H := fun E σ H ⟨B0, G, s, hs, q⟩ => by
  unfold sPopCat at q
  split at q
  · rename_i xs s1 d ho hp
    split at q
    · rename_i hc
      simp only [Bool.and_eq_true, decide_eq_true_eq] at hc
      obtain ⟨O, B, g⟩ := id hs
      obtain ⟨v, e1, rv⟩ := g.good.slot o _ (eVar_some ho)
      have rv0 : R K H v (.tuple xs) := rv.open
      refine ⟨v, e1, pop_ok hs hp fun y H1 gs1 ry kp => ?_⟩
      have rv1 := kp _ _ rv0 (by simpa [flat] using hc.1)
      have fd : flat d = true := by
        unfold popAt at hp
        split at hp
        · split at hp
          · cases hp
          · split at hp
            · cases hp
            · obtain ⟨hc', e⟩ := ite_some hp
              cases e
              simp only [Bool.and_eq_true] at hc'
              exact hc'.1.1
        · cases hp
      refine ⟨by rw [sz_eq]; show 1 ≤ sz; decide, fun p np => ?_⟩
      have st : Same H1 (upd H1 p (.tup [y])) := same_upd np
      have ft : flat (.tuple (xs ++ [d])) = true := by
        have : ∀ (l : List D), flats l = true → flats (l ++ [d]) = true := by
          intro l
          induction l with
          | nil => intro _; simp [flats, fd]
          | cons x l ih =>
            intro h
            simp only [flats, Bool.and_eq_true, List.cons_append] at h ⊢
            exact ⟨h.1, ih h.2⟩
        simpa [flat] using this xs hc.1
      have fin : ∀ (u : V) (H3 : Hp), Same H1 H3 → R K H3 u (.tuple (xs ++ [d])) → E.nx (σ.set i (some u)) H3 := fun u H3 s3 ru => by
        obtain ⟨O1, B1, g1⟩ := gs1
        obtain ⟨O', B', g', _⟩ := (g1.mono s3).assign0 (i := i) (ru.hidF ((g1.ok.mono s3).noTup) ft)
        exact q _ _ ⟨O', B', g'⟩
      have rv2 := rv1.mono st
      cases rv2 with
      | @tup a0 vs0 _ t1 t2 =>
        have hp' : SqT K (upd H1 p (.tup [y])) p [y] := .inl (.inl upd_same)
        refine ⟨_, p, _, [y], rfl, rfl, (.inl (.inl t1)), hp', by rw [t2.length, sz_eq]; exact hc.2, fun e => ?_, fun _ e => by (cases e), fun _ _ t nt => ?_⟩
        · subst e
          cases t2
          exact fin _ _ st (.tup upd_same (.cons (ry.mono st) .nil))
        · have s' := same_upd (o := HO.tup (vs0 ++ [y])) nt
          exact fin _ _ (st.trans s') (.tup upd_same ((t2.mono s').append (.cons (ry.mono (st.trans s')) .nil)))
    · exact q.elim
  · exact q.elim
theorem ss_popCat (i o l : Nat) {tg e : Expr} {j : FE} {cj : Esc} {pos : Pos} (ps : PS X (.Assign [tg] e pos) (tAsg (tOp (rCatA K) (tVar o) (tTup (tCons (tPop K l j cj) tNil))) (gName i))) :
    PS X (.Assign [tg] e pos) (tS K (sPopCat i o l j)) := ps.imp popCat_ok
end
end DS
end

section
set_option Elab.async false
set_option linter.all false
set_option maxRecDepth 100000
set_option maxHeartbeats 1000000
/-! Part y: a, b = [..], flat: the new list is a's own. -/
namespace DS
open PySem PySem.Spec PyProof.Rows L2
def sParF (i j : Nat) (f g : FE) (c : Esc) : FS := fun s => match f s.1, g s.1 with
  | some d, some e => if flat e = true then .next ((s.1.set i (some d)).set j (some e), ((demote c s.2).set i 1).set j 0) else .stuck
  | _, _ => .stuck
section
variable {X : Cx} {K : PySem.W.Frag}
theorem fresh_two {B0 : List Addr} {G H : Hp} {O : Nat → List Addr} {B : List Addr} {σ : St} {ρ : PEnv} {L : List Nat} {H1 H2 : Hp} {v : V} {d : D} {i : Nat} (g : GoodS K B0 G O B σ H ρ L) (e1 : Same H H1) (e2 : Same H1 H2) (p : Post K B H H1 .fr v d) :
    ∃ O' B', GoodS K B0 G O' B' (σ.set i (some v)) H2 (ρ.set i (some d)) (L.set i 1) := by
  obtain ⟨o, hn, hd, ro⟩ := p
  have r2 : RO K (o ++ B) H2 1 o v d := ro.mono_aux (same_hid e2) fun a ha => by
    obtain ⟨x, hx, _⟩ := ro.mut_aux a ha
    rw [hx, e2 _ _ hx]
  obtain ⟨O', B', g', _⟩ := g.assign (i := i) (e1.trans e2) hn hd r2
  exact ⟨O', B', g'⟩
theorem ss_parF (i j : Nat) {x y : Str} {a b : Expr} {f g : FE} {c c' : Esc} {px py pt pos : Pos} {kt k2 pt2} (hc : X.calm = true) (hN : X.N.Nodup) (ha : PE X a (tD K .fr f c)) (hb : PE X b (tD K (.br 0) g c'))
    (hw : swappedStores [.Tuple [.Name x px, .Name y py] kt pt] (.Tuple [a, b] k2 pt2) X.env = pure (some [x, y])) (hi : X.N[i]? = some x := by rfl) (hj : X.N[j]? = some y := by rfl) (hij : i ≠ j := by decide)
    (hx : X.env.scope.names.lookup x = some .local := by rfl) (hy : X.env.scope.names.lookup y = some .local := by rfl)
    (hs : swapsWithSole [.Tuple [.Name x px, .Name y py] kt pt] (.Tuple [a, b] k2 pt2) pos.line X.env = pure false := by rfl) (hs1 : starEach [a, b] X.env = (false, eval a X.env) :: starEach [b] X.env := by rfl) (hs2 : starEach [b] X.env = (false, eval b X.env) :: starEach [] X.env := by rfl) :
    PS X (.Assign [.Tuple [.Name x px, .Name y py] kt pt] (.Tuple [a, b] k2 pt2) pos) (tS K (sParF i j f g c)) := (ps_par hc hN hi hj hij hx hy (pa_cons ha (pa_cons hb pa_nil hs2) hs1) hw hs).imp fun E σ H ⟨B0, G, s, hs, q⟩ => by
  unfold sParF at q
  split at q
  · rename_i d e hd he
    split at q
    · rename_i hfl
      obtain ⟨O, B, gd⟩ := hs
      obtain ⟨O', B', g', _⟩ := gd.demote c
      refine ⟨B', lv (demote c s.2), s.1, d, g'.good, demote_ok _ s.2, hd, fun v H1 e1 p1 => ?_⟩
      refine ⟨[], _, s.1, e, (gd.mono e1).good.zero, .zero, he, fun w H2 e2 p2 => ?_⟩
      refine ⟨v, w, rfl, q _ H2 ?_⟩
      obtain ⟨O1, B1, g1⟩ := fresh_two (i := i) g' e1 e2 p1
      obtain ⟨O2, B2, g2, _⟩ := g1.assign0 (i := j) ((RL.r0 p2).hidF g1.ok.noTup hfl)
      exact ⟨O2, B2, g2⟩
    · exact q.elim
  · exact q.elim
end
def sPar3A (i j k : Nat) (f g h : FE) (c : Esc) : FS := fun s => match f s.1, g s.1, h s.1 with
  | some d, some e, some u => if (flat e && flat u) = true then .next (((s.1.set i (some d)).set j (some e)).set k (some u), (((demote c s.2).set i 1).set j 0).set k 0) else .stuck
  | _, _, _ => .stuck
section
variable {X : Cx} {K : PySem.W.Frag}
theorem ss_sPar3A (i j k : Nat) {x y z : Str} {a b c : Expr} {f g h : FE} {ca cb cc : Esc} {px py pz pt pos : Pos} {kt k2 pt2} (hc : X.calm = true) (hN : X.N.Nodup) (ha : PE X a (tD K (.fr) f ca)) (hb : PE X b (tD K (.br 0) g cb)) (hcc : PE X c (tD K (.br 0) h cc))
    (hw : swappedStores [.Tuple [.Name x px, .Name y py, .Name z pz] kt pt] (.Tuple [a, b, c] k2 pt2) X.env = pure (some [x, y, z])) (hi : X.N[i]? = some x := by rfl) (hj : X.N[j]? = some y := by rfl) (hk : X.N[k]? = some z := by rfl) (hij : i ≠ j := by decide) (hik : i ≠ k := by decide) (hjk : j ≠ k := by decide)
    (hx : X.env.scope.names.lookup x = some .local := by rfl) (hy : X.env.scope.names.lookup y = some .local := by rfl) (hz : X.env.scope.names.lookup z = some .local := by rfl)
    (hs : swapsWithSole [.Tuple [.Name x px, .Name y py, .Name z pz] kt pt] (.Tuple [a, b, c] k2 pt2) pos.line X.env = pure false := by rfl) (hs1 : starEach [a, b, c] X.env = (false, eval a X.env) :: starEach [b, c] X.env := by rfl) (hs2 : starEach [b, c] X.env = (false, eval b X.env) :: starEach [c] X.env := by rfl) (hs3 : starEach [c] X.env = (false, eval c X.env) :: starEach [] X.env := by rfl) :
    PS X (.Assign [.Tuple [.Name x px, .Name y py, .Name z pz] kt pt] (.Tuple [a, b, c] k2 pt2) pos) (tS K (sPar3A i j k f g h ca)) := (ps_par3 hc hN hi hj hk hij hik hjk hx hy hz (pa_cons ha (pa_cons hb (pa_cons hcc pa_nil hs3) hs2) hs1) hw hs).imp fun E σ H ⟨B0, G, s, hs, q⟩ => by
  unfold sPar3A at q
  split at q
  · rename_i d e u hd he hu
    split at q
    · rename_i hfl
      rw [Bool.and_eq_true] at hfl
      obtain ⟨O, B, gd⟩ := hs
      obtain ⟨O', B', g', _⟩ := gd.demote ca
      refine ⟨B', lv (demote ca s.2), s.1, d, g'.good, demote_ok _ s.2, hd, fun v1 H1 e1 p1 => ?_⟩
      refine ⟨[], _, s.1, e, (gd.mono e1).good.zero, .zero, he, fun v2 H2 e2 p2 => ?_⟩
      refine ⟨[], _, s.1, u, ((gd.mono e1).mono e2).good.zero, .zero, hu, fun v3 H3 e3 p3 => ?_⟩
      refine ⟨v1, v2, v3, rfl, q _ H3 ?_⟩
      obtain ⟨O1, B1, g1⟩ := fresh_two (i := i) g' e1 (e2.trans e3) p1
      obtain ⟨O2, B2, g2, _⟩ := g1.assign0 (i := j) (((RL.r0 p2).mono e3).hidF g1.ok.noTup hfl.1)
      obtain ⟨O3, B3, g3, _⟩ := g2.assign0 (i := k) ((RL.r0 p3).hidF g2.ok.noTup hfl.2)
      exact ⟨O3, B3, g3⟩
    · exact q.elim
  · exact q.elim
end
def sPar3B (i j k : Nat) (f g h : FE) (c : Esc) : FS := fun s => match f s.1, g s.1, h s.1 with
  | some d, some e, some u => if (flat d && flat u) = true then .next (((s.1.set i (some d)).set j (some e)).set k (some u), (((demote c s.2).set i 0).set j 1).set k 0) else .stuck
  | _, _, _ => .stuck
section
variable {X : Cx} {K : PySem.W.Frag}
theorem ss_sPar3B (i j k : Nat) {x y z : Str} {a b c : Expr} {f g h : FE} {ca cb cc : Esc} {px py pz pt pos : Pos} {kt k2 pt2} (hc : X.calm = true) (hN : X.N.Nodup) (ha : PE X a (tD K (.br 0) f ca)) (hb : PE X b (tD K (.fr) g cb)) (hcc : PE X c (tD K (.br 0) h cc))
    (hw : swappedStores [.Tuple [.Name x px, .Name y py, .Name z pz] kt pt] (.Tuple [a, b, c] k2 pt2) X.env = pure (some [x, y, z])) (hi : X.N[i]? = some x := by rfl) (hj : X.N[j]? = some y := by rfl) (hk : X.N[k]? = some z := by rfl) (hij : i ≠ j := by decide) (hik : i ≠ k := by decide) (hjk : j ≠ k := by decide)
    (hx : X.env.scope.names.lookup x = some .local := by rfl) (hy : X.env.scope.names.lookup y = some .local := by rfl) (hz : X.env.scope.names.lookup z = some .local := by rfl)
    (hs : swapsWithSole [.Tuple [.Name x px, .Name y py, .Name z pz] kt pt] (.Tuple [a, b, c] k2 pt2) pos.line X.env = pure false := by rfl) (hs1 : starEach [a, b, c] X.env = (false, eval a X.env) :: starEach [b, c] X.env := by rfl) (hs2 : starEach [b, c] X.env = (false, eval b X.env) :: starEach [c] X.env := by rfl) (hs3 : starEach [c] X.env = (false, eval c X.env) :: starEach [] X.env := by rfl) :
    PS X (.Assign [.Tuple [.Name x px, .Name y py, .Name z pz] kt pt] (.Tuple [a, b, c] k2 pt2) pos) (tS K (sPar3B i j k f g h cb)) := (ps_par3 hc hN hi hj hk hij hik hjk hx hy hz (pa_cons ha (pa_cons hb (pa_cons hcc pa_nil hs3) hs2) hs1) hw hs).imp fun E σ H ⟨B0, G, s, hs, q⟩ => by
  unfold sPar3B at q
  split at q
  · rename_i d e u hd he hu
    split at q
    · rename_i hfl
      rw [Bool.and_eq_true] at hfl
      obtain ⟨O, B, gd⟩ := hs
      obtain ⟨O', B', g', _⟩ := gd.demote cb
      refine ⟨[], _, s.1, d, gd.good.zero, .zero, hd, fun v1 H1 e1 p1 => ?_⟩
      refine ⟨B', lv (demote cb s.2), s.1, e, (g'.mono e1).good, demote_ok _ s.2, he, fun v2 H2 e2 p2 => ?_⟩
      refine ⟨[], _, s.1, u, ((gd.mono e1).mono e2).good.zero, .zero, hu, fun v3 H3 e3 p3 => ?_⟩
      refine ⟨v1, v2, v3, rfl, q _ H3 ?_⟩
      obtain ⟨O1, B1, g1⟩ := fresh_two (i := j) (g'.mono e1) e2 e3 p2
      obtain ⟨O2, B2, g2, _⟩ := g1.assign0 (i := i) (((RL.r0 p1).mono (e2.trans e3)).hidF g1.ok.noTup hfl.1)
      obtain ⟨O3, B3, g3, _⟩ := g2.assign0 (i := k) ((RL.r0 p3).hidF g2.ok.noTup hfl.2)
      rw [List.set_comm _ _ (Ne.symm hij), List.set_comm _ _ (Ne.symm hij), List.set_comm _ _ (Ne.symm hij)] at g3
      exact ⟨O3, B3, g3⟩
    · exact q.elim
  · exact q.elim
end
end DS
end

section
set_option Elab.async false
set_option linter.all false
set_option maxRecDepth 100000
set_option maxHeartbeats 4000000
/-! Part z: (x, ..) * n for any n. -/
namespace DS
open PySem PySem.Spec PyProof.Rows L2
theorem tuple_mul1 (l : Addr) (items : Array Value) (n : Nat) (dd : Option Addr) (sl : Array (Option Value)) (u : Tok) :
    Meets (Builtin.«tuple.__mul__» ⟨[.ref l, .int 1 u], []⟩) (fun _ R s => s.heap.get? l = some { cls := .type "tuple", dict := dd, data := .seq items n, slots := sl } ∧
      R (.ok (.ret (Value.ref l))) s) :=
  .of_wp fun prog w A R s h => by
    obtain ⟨hp, g, d, tk, os⟩ := s
    obtain ⟨hl, h⟩ := h
    have f1 := AutoSeq1.idx_int
    wp_walk using wpAny_loadPart' hl
    repeat (first
      | (refine wpAny_ite_false (by simp) ?_; wp_walk using wpAny_loadPart' hl)
      | (refine wpAny_ite_true (by simp) ?_; wp_walk using wpAny_loadPart' hl))
    exact ⟨_, rfl, h⟩
theorem tuple_mul0 (l : Addr) (items : Array Value) (n : Nat) (dd : Option Addr) (sl : Array (Option Value)) (x : Int) (u : Tok) (c0 : (decide (x < -(2 ^ 63)) || decide (x ≥ 2 ^ 63)) = false) (c1 : (items.isEmpty || x == 1) = false) (c2 : (decide (x ≤ 0) || items.isEmpty) = true) :
    Meets (Builtin.«tuple.__mul__» ⟨[.ref l, .int x u], []⟩) (fun _ R s => s.heap.get? l = some { cls := .type "tuple", dict := dd, data := .seq items n, slots := sl } ∧
      R (.ok (.ret (Value.ref s.heap.objs.size))) { s with heap := s.heap.push { cls := Value.type "tuple", data := Data.seq #[] }, toks := s.toks }) :=
  .of_wp fun prog w A R s h => by
    obtain ⟨hp, g, d, tk, os⟩ := s
    obtain ⟨hl, h⟩ := h
    have f1 := AutoSeq1.idx_int
    wp_walk using wpAny_loadPart' hl
    repeat (first
      | (refine wpAny_ite_false (decide_eq_false (by rw [c0]; exact Bool.false_ne_true)) ?_; wp_walk using wpAny_loadPart' hl)
      | (refine wpAny_ite_false (decide_eq_false (by rw [c1]; exact Bool.false_ne_true)) ?_; wp_walk using wpAny_loadPart' hl)
      | (refine wpAny_ite_true (decide_eq_true c2) ?_; wp_walk using wpAny_loadPart' hl))
    exact ⟨_, rfl, h⟩
def rRep01 (K : PySem.W.Frag) : R2 := fun x y H Q => ∃ l k xs, x = .ref l ∧ y = .int k ∧ SqT K H l xs ∧ xs ≠ [] ∧ -1000000 ≤ k ∧ ((k = 1 ∧ Q (.ref l) H) ∨ (k ≤ 0 ∧ ∀ p, H p = none → Q (.ref p) (upd H p (.tup []))))
section
variable {X : Cx}
theorem op_rep01 : OpR X (binaryOp .Mult) (rRep01 X.K) := by
  intro pins s σ H x y v u Q I rx ry h
  obtain ⟨l, k, xs, rfl, rfl, hT, hne, hk, q⟩ := h
  cases rx
  obtain ⟨t, rfl⟩ := ry
  obtain ⟨its, r, ⟨⟨cls, dd, data, sl⟩, ho, hc, n, hd⟩, hs⟩ := I.tuple hT
  simp only at hc hd
  subst hc hd
  have hle : its.length = xs.length := r.length.symm
  have hn : its ≠ [] := fun e => hne (by
    rw [e] at hle
    exact List.eq_nil_of_length_eq_zero hle.symm)
  have hi : its.toArray.isEmpty = false := by
    cases its with
    | nil => exact absurd rfl hn
    | cons a b => rfl
  rcases q with ⟨rfl, q⟩ | ⟨h0, q⟩
  · refine wpAny_binaryOp_repeat_ref (T := "tuple") (U := "int") (by decide) ⟨_, ho, rfl⟩ (fun s' => typeIs_int s' 1 t) noFill_tuple_mul F.fills_int_mul F.slot_int_rmul repeat_tuple F.slot_int_index.lookup
      (call_meets F.slot_int_rmul (typeIs_int s 1 t) F.entry_int_rmul (F.args_int_rmul_2 _ _) (int_rmul_tuple 1 t l its.toArray n dd sl)
        ⟨ho, rfl, ⟨_, ho, rfl⟩, call_meets F.slot_tuple_mul ⟨_, ho, rfl⟩ F.entry_tuple_mul (F.args_tuple_mul_2 _ _) (tuple_mul1 l its.toArray n dd sl t) ⟨ho, ?_⟩⟩)
    exact ⟨.ref l, H, I, rfl, q⟩
  · have c0 : (decide (k < -(2 ^ 63)) || decide (k ≥ 2 ^ 63)) = false := by
      rw [decide_eq_false (by omega), decide_eq_false (by omega)] <;> rfl
    have c1 : (its.toArray.isEmpty || k == 1) = false := by
      rw [hi, Bool.false_or]
      exact beq_eq_false_iff_ne.mpr (by omega)
    have c2 : (decide (k ≤ 0) || its.toArray.isEmpty) = true := by
      rw [decide_eq_true h0]; rfl
    refine wpAny_binaryOp_repeat_ref (T := "tuple") (U := "int") (by decide) ⟨_, ho, rfl⟩ (fun s' => typeIs_int s' k t) noFill_tuple_mul F.fills_int_mul F.slot_int_rmul repeat_tuple F.slot_int_index.lookup
      (call_meets F.slot_int_rmul (typeIs_int s k t) F.entry_int_rmul (F.args_int_rmul_2 _ _) (int_rmul_tuple k t l its.toArray n dd sl)
        ⟨ho, rfl, ⟨_, ho, rfl⟩, call_meets F.slot_tuple_mul ⟨_, ho, rfl⟩ F.entry_tuple_mul (F.args_tuple_mul_2 _ _) (tuple_mul0 l its.toArray n dd sl k t c0 c1 c2) ⟨ho, ?_⟩⟩)
    refine ⟨.ref s.heap.objs.size, _, I.laid (t' := s.toks) (o := .tup []) (fun b ob q => Heap.get?_push_of_some _ q) (Nat.le_refl _) ?_, rfl, q _ (I.hok.fresh (Nat.le_refl _))⟩
    exact ⟨by rw [sizeLine_eq]; decide, [], .nil, IsTup.new _ _⟩
end
/-- (x, ..) * n -/
def dMulT : D → D → Option D
  | .tuple x, .int j => if x ≠ [] ∧ x.length ≤ 1000 ∧ -1000000 ≤ j ∧ j ≤ 1000 then some (.tuple (List.replicate j.toNat x).flatten) else none
  | _, _ => none
section
variable {X : Cx} {K : PySem.W.Frag} {κ : Mo} {a b : Expr} {fa fb : FE} {ca cb : Esc} {pos : Pos}
theorem qe_mulT (ha : PE X a (tD K (.br 1) fa ca)) (hb : PE X b (tD K (.br 1) fb cb)) (hX : X.K = K := by rfl) (hκ : κ.one = true := by rfl) : PE X (.BinOp a .Mult b pos) (tD K κ (eOp dMulT fa fb) (ca ++ cb)) := by
  subst hX
  refine qe_op (op_repT.or op_rep01) ?_ ha hb hκ
  intro B x y dx dy d H Q hB rx ry ho q
  unfold dMulT at ho
  split at ho
  · rename_i x' j'
    obtain ⟨⟨c0, c1, c2, c3⟩, rfl⟩ := ite_some ho
    obtain ⟨p, xs, rfl, h1, h1', h2⟩ := rx.tup
    have hne : xs ≠ [] := fun e => c0 (by
      subst e
      cases h2
      rfl)
    by_cases h2' : 2 ≤ j'
    · refine .inl ⟨p, _, xs, rfl, ry.int, h1, hne, h2', c3, by rw [h2.length]; exact c1, fun t nt => ?_⟩
      have s := same_upd (o := HO.tup (List.replicate j'.toNat xs).flatten) nt
      refine q _ _ s fun κ _ => Post.of_flat (.tup (a := t) (xs := (List.replicate j'.toNat xs).flatten) ?_ ((h2.rep _).mono (same_hid s))) rfl
      rw [hid_out (hB.trk.new nt), upd_same]
    · refine .inr ⟨p, _, xs, rfl, ry.int, h1, hne, c2, ?_⟩
      by_cases h1' : j' = 1
      · subst h1'
        refine .inl ⟨rfl, ?_⟩
        have e : (List.replicate (1 : Int).toNat x').flatten = x' := by simp
        rw [e] at q
        refine q _ H (Same.refl H) fun κ _ => Post.of_flat (.tup ?_ h2) rfl
        assumption
      · refine .inr ⟨by omega, fun t nt => ?_⟩
        have e : j'.toNat = 0 := by omega
        rw [e] at q
        have s := same_upd (o := HO.tup []) nt
        refine q _ _ s fun κ _ => Post.of_flat (.tup (a := t) (xs := []) ?_ .nil) rfl
        rw [hid_out (hB.trk.new nt), upd_same]
  · cases ho
end
end DS
end

section
set_option Elab.async false
set_option linter.all false
set_option maxRecDepth 100000
set_option maxHeartbeats 4000000
/-! Part w: range(n) as a value; a range walked. -/
namespace DS
open PySem PySem.Spec PyProof.Rows L2
def rgd (lo hi : Int) : D := .dict [(.none, .tuple [.int lo, .int hi])]
section
variable {X : Cx} {K : PySem.W.Frag} {κ : Mo} {m : Nat} {tg : Expr} {B : List Addr} {H : Hp}
theorem RL.rng {v : V} {lo hi : Int} (h : RL K B H m v (rgd lo hi)) : ∃ a, v = .ref a ∧ hid B H a = some (.rng lo hi) := by
  generalize hd : rgd lo hi = d at h
  cases h with
  | z h =>
    cases h with
    | rng h1 =>
      unfold rgd at hd
      simp at hd
      obtain ⟨rfl, rfl⟩ := hd
      exact ⟨_, rfl, h1⟩
    | frz _ _ => unfold rgd at hd; simp at hd
    | dk _ h2 =>
      unfold rgd at hd
      cases hd
      exact absurd rfl h2.key
    | dt _ h2 =>
      unfold rgd at hd
      cases hd
      exact absurd rfl h2.key
    | _ => cases hd
  | l => cases hd
  | dk _ h2 =>
    unfold rgd at hd
    cases hd
    exact absurd rfl h2.key
  | dt _ h2 =>
    unfold rgd at hd
    cases hd
    exact absurd rfl h2.key
/-- range(n) -/
def eRgV (f : FE) : FE := fun ρ => o1 (f ρ) fun d => match d with
  | .int n => some (rgd 0 n)
  | _ => none
theorem qe_rgV {a : Expr} {f : FE} {c : Esc} {p pos : Pos} (hg : Gl X "range") (hm : X.mg "range" = none) (ha : PE X a (tD K (.br 1) f c)) (hX : X.K = K := by rfl) (na : starEach [a] X.env = (false, eval a X.env) :: starEach [] X.env := by rfl) : PE X (.Call (.Name "range" p) [a] [] pos) (tD K κ (eRgV f) c) := by
  subst hX
  refine ⟨fun pins s σ H Q I ⟨B, L, ρ, d, g, es, hf, q⟩ => ?_⟩
  obtain ⟨e, h1, h2⟩ := o1_some hf
  refine Call_ (ld_blt I hg hm boot_range (PyProof.Rows.callWith_type1 (one_arg ha I ⟨B, L, ρ, e, g, es, h1, fun v H1 s1 p1 => (⟨s1, p1⟩ : Same H H1 ∧ RL X.K B H1 1 v e)⟩ (fun v s2 x H2 I2 r q2 => ?_) na) na))
  obtain ⟨s12, p12⟩ := q2
  split at h2
  · rename_i n
    cases (Option.some.inj h2)
    obtain rfl := RL.int p12
    obtain ⟨t, rfl⟩ := r
    have hok := (g.mono s12).ok
    have nt := I2.hok.fresh (Nat.le_refl _)
    refine call_range_1 ⟨.ref s2.heap.objs.size, upd H2 s2.heap.objs.size (.rng 0 n), I2.laid (t' := s2.toks + 1 + 1) (fun b o e => Heap.get?_push_of_some _ e) (Nat.le_refl _) ?_, rfl, q _ _ (s12.trans (same_upd nt)) (Post.of_flat (.rng ?_) rfl)⟩
    · exact ⟨s2.toks, t, s2.toks + 1, Heap.get?_push_size _ rfl⟩
    · rw [hid_out (hok.trk.new nt), upd_same]
  · cases h2
/-- a name that holds a range, walked -/
def iRgV (f : FE) : FA := fun ρ => o1 (f ρ) fun d => match d with
  | .dict [(.none, .tuple [.int lo, .int hi])] => if rngOk lo hi = true then some (rngD lo (hi - lo).toNat) else none
  | _ => none
def iRV (tl : TE) : TI := fun σ H R => tl σ H fun x H1 => ∃ a lo hi, x = .ref a ∧ H1 a = some (.rng lo hi) ∧ (-(2 ^ 62) ≤ lo ∧ lo < 2 ^ 62 ∧ -(2 ^ 62) ≤ hi ∧ hi < 2 ^ 62) ∧ R (Itr lo (hi - lo).toNat) H1
theorem pi_rv {l : Expr} {tl : TE} (hl : PE X l tl) : PI X tg l (iRV tl) := by
  refine ⟨fun pins s σ H R I h => ?_⟩
  refine thn (hl.run pins s σ H _ I h) fun v s1 ⟨x, H1, I1, r1, q1⟩ => ?_
  obtain ⟨a, lo, hi, e, ha, ⟨h1, h2, h3, h4⟩, q⟩ := q1
  subst e
  cases r1
  obtain ⟨t, u, v, ho⟩ := I1.hok a _ ha
  refine wpAny_pyIter_range (a := lo) (b := hi) (c := 1) (t := t) (u := u) (v := v) ho (small_one h1 h2 h3 h4) ?_
  refine ⟨s1.heap.objs.size, [s1.heap.objs.size], _, _, H1, rfl, I1.kept (t' := s1.toks) fun b o e => Heap.get?_push_of_some _ e, turn_range _ lo (hi - lo).toNat, ?_, fun b hb => ?_, q⟩
  · have e1 : lo + ((0 : Nat) : Int) * 1 = lo := by simp
    have e2 : (((hi - lo).toNat : Nat) : Int) - ((0 : Nat) : Int) = Builtin.Range.rangeSize lo hi 1 := by rw [rangeSize_one]; split <;> omega
    show IsRangeIter _ _ (lo + ((0 : Nat) : Int) * 1) ((((hi - lo).toNat : Nat) : Int) - ((0 : Nat) : Int)) 1
    rw [e1, e2]
    exact Heap.get?_push_size _ rfl
  · have e : b = s1.heap.objs.size := by simpa using hb
    subst e
    exact I1.fpOk (Nat.le_refl _) (I1.hok.fresh (Nat.le_refl _))
theorem qi_rgV {e : Expr} {f : FE} {c : Esc} (h : PE X e (tD K (.br m) f c)) (hX : X.K = K := by rfl) : PI X tg e (tI K m (iRgV f) c) := by
  subst hX
  refine (pi_rv h).imp fun σ H Rr ⟨B, L, ρ, ds, g, es, hf, q⟩ => ?_
  obtain ⟨d, h1, h2⟩ := o1_some hf
  refine ⟨B, L, ρ, d, g, es, h1, fun v H1 s1 p1 => ?_⟩
  split at h2
  · rename_i lo hi
    obtain ⟨h3, h4⟩ := ite_some h2
    subst h4
    obtain ⟨a, rfl, e1⟩ := RL.rng (lo := lo) (hi := hi) p1
    exact ⟨a, lo, hi, rfl, (hid_some e1).2, rngOk_ok h3, q _ H1 s1 walks_rng⟩
  · cases h2
end
end DS
end

section
set_option Elab.async false
set_option linter.all false
set_option maxRecDepth 100000
/-! Dicts, part a: a dict that is locked while it is walked. -/
namespace DS
open PySem PySem.Spec PyProof.Rows L2
def IsDk : HO → Prop
  | .dK _ => True
  | .dT _ => True
  | _ => False
theorem IsDk.mut {u : HO} (h : IsDk u) : Mut (some u) := by cases u <;> first | exact True.intro | exact h.elim
theorem nf_lst (xs : List V) : ∀ o x, HO.lst xs ≠ .frz o x := fun _ _ z => nomatch z
theorem nf_tup (xs : List V) : ∀ o x, HO.tup xs ≠ .frz o x := fun _ _ z => nomatch z
theorem nf_rng (a b : Int) : ∀ o x, HO.rng a b ≠ .frz o x := fun _ _ z => nomatch z
theorem nf_dk (k : List (Key × V)) : ∀ o x, HO.dK k ≠ .frz o x := fun _ _ z => nomatch z
theorem nf_dt (k : List (List Key × V)) : ∀ o x, HO.dT k ≠ .frz o x := fun _ _ z => nomatch z
theorem IsDk.nf {u : HO} (h : IsDk u) : ∀ o w, u ≠ .frz o w := fun o w e => by subst e; exact h
section
variable {K : PySem.W.Frag} {H : Hp} {d : Addr} {od : Obj} {u : HO}
theorem rd_lock (hd : H d = some u) (hu : IsDk u) {a : Addr} {w : HO} (h : Rd H a w) : Rd (upd H d (.frz od u)) a w := by
  by_cases e : a = d
  · subst e
    rcases h with h | ⟨o, h⟩
    · rw [hd] at h; cases h; exact .inr ⟨od, upd_same⟩
    · rw [hd] at h; cases h; exact hu.elim
  · rcases h with h | ⟨o, h⟩
    · exact .inl (by rw [upd_ne e]; exact h)
    · exact .inr ⟨o, by rw [upd_ne e]; exact h⟩
theorem rd_unlock (hd : H d = some (.frz od u)) {a : Addr} {w : HO} (hw : ∀ o x, w ≠ .frz o x) (h : Rd H a w) : Rd (upd H d u) a w := by
  by_cases e : a = d
  · subst e
    rcases h with h | ⟨o, h⟩
    · rw [hd] at h; cases h; exact absurd rfl (hw _ _)
    · rw [hd] at h; cases h; exact .inl upd_same
  · rcases h with h | ⟨o, h⟩
    · exact .inl (by rw [upd_ne e]; exact h)
    · exact .inr ⟨o, by rw [upd_ne e]; exact h⟩
theorem sqL_lock (hd : H d = some u) (hu : IsDk u) {a : Addr} {xs : List V} (h : SqL K H a xs) : SqL K (upd H d (.frz od u)) a xs := by
  rcases h with h | h
  · exact .inl (rd_lock hd hu h)
  · exact .inr h
theorem sqT_lock (hd : H d = some u) (hu : IsDk u) {a : Addr} {xs : List V} (h : SqT K H a xs) : SqT K (upd H d (.frz od u)) a xs := by
  rcases h with h | h
  · exact .inl (rd_lock hd hu h)
  · exact .inr h
theorem sqL_unlock (hd : H d = some (.frz od u)) {a : Addr} {xs : List V} (h : SqL K H a xs) : SqL K (upd H d u) a xs := by
  rcases h with h | h
  · exact .inl (rd_unlock hd (fun _ _ z => nomatch z) h)
  · exact .inr h
theorem sqT_unlock (hd : H d = some (.frz od u)) {a : Addr} {xs : List V} (h : SqT K H a xs) : SqT K (upd H d u) a xs := by
  rcases h with h | h
  · exact .inl (rd_unlock hd (fun _ _ z => nomatch z) h)
  · exact .inr h
theorem ne_dk {a : Addr} {w : HO} (hd : H d = some u) (hu : IsDk u) (h : H a = some w) (hw : ¬ IsDk w) : a ≠ d := fun e => by
  subst e; rw [hd] at h; cases h; exact hw hu
theorem ne_fz {a : Addr} {w : HO} (hd : H d = some (.frz od u)) (h : H a = some w) (hw : ∀ o x, w ≠ .frz o x) : a ≠ d := fun e => by
  subst e; rw [hd] at h; cases h; exact hw _ _ rfl
mutual
theorem R.lock (hd : H d = some u) (hu : IsDk u) : ∀ {v : V} {e : D}, R K H v e → R K (upd H d (.frz od u)) v e
  | _, _, .non => .non
  | _, _, .bl b => .bl b
  | _, _, .int i => .int i
  | _, _, .str x => .str x
  | _, _, .lst h a => .lst (by rw [upd_ne (ne_dk hd hu h (fun z => z))]; exact h) (RA.lock hd hu a)
  | _, _, .frz h a => .frz (sqL_lock hd hu h) (RA.lock hd hu a)
  | _, _, .tup h a => .tup (by rw [upd_ne (ne_dk hd hu h (fun z => z))]; exact h) (RA.lock hd hu a)
  | _, _, .rng h => .rng (by rw [upd_ne (ne_dk hd hu h (fun z => z))]; exact h)
  | _, _, .dk h a => .dk (rd_lock hd hu h) (RK.lock hd hu a)
  | _, _, .dt h a => .dt (rd_lock hd hu h) (RT.lock hd hu a)
theorem RA.lock (hd : H d = some u) (hu : IsDk u) : ∀ {v : List V} {e : List D}, RA K H v e → RA K (upd H d (.frz od u)) v e
  | _, _, .nil => .nil
  | _, _, .cons h t => .cons (R.lock hd hu h) (RA.lock hd hu t)
theorem RK.lock (hd : H d = some u) (hu : IsDk u) : ∀ {v : List (Key × V)} {e : List (D × D)}, RK K H v e → RK K (upd H d (.frz od u)) v e
  | _, _, .nil => .nil
  | _, _, .cons h t => .cons (R.lock hd hu h) (RK.lock hd hu t)
theorem RT.lock (hd : H d = some u) (hu : IsDk u) : ∀ {v : List (List Key × V)} {e : List (D × D)}, RT K H v e → RT K (upd H d (.frz od u)) v e
  | _, _, .nil => .nil
  | _, _, .cons h t => .cons (R.lock hd hu h) (RT.lock hd hu t)
end
mutual
theorem R.unlock (hd : H d = some (.frz od u)) : ∀ {v : V} {e : D}, R K H v e → R K (upd H d u) v e
  | _, _, .non => .non
  | _, _, .bl b => .bl b
  | _, _, .int i => .int i
  | _, _, .str x => .str x
  | _, _, .lst h a => .lst (by rw [upd_ne (ne_fz hd h (nf_lst _))]; exact h) (RA.unlock hd a)
  | _, _, .frz h a => .frz (sqL_unlock hd h) (RA.unlock hd a)
  | _, _, .tup h a => .tup (by rw [upd_ne (ne_fz hd h (nf_tup _))]; exact h) (RA.unlock hd a)
  | _, _, .rng h => .rng (by rw [upd_ne (ne_fz hd h (nf_rng _ _))]; exact h)
  | _, _, .dk h a => .dk (rd_unlock hd (nf_dk _) h) (RK.unlock hd a)
  | _, _, .dt h a => .dt (rd_unlock hd (nf_dt _) h) (RT.unlock hd a)
theorem RA.unlock (hd : H d = some (.frz od u)) : ∀ {v : List V} {e : List D}, RA K H v e → RA K (upd H d u) v e
  | _, _, .nil => .nil
  | _, _, .cons h t => .cons (R.unlock hd h) (RA.unlock hd t)
theorem RK.unlock (hd : H d = some (.frz od u)) : ∀ {v : List (Key × V)} {e : List (D × D)}, RK K H v e → RK K (upd H d u) v e
  | _, _, .nil => .nil
  | _, _, .cons h t => .cons (R.unlock hd h) (RK.unlock hd t)
theorem RT.unlock (hd : H d = some (.frz od u)) : ∀ {v : List (List Key × V)} {e : List (D × D)}, RT K H v e → RT K (upd H d u) v e
  | _, _, .nil => .nil
  | _, _, .cons h t => .cons (R.unlock hd h) (RT.unlock hd t)
end
theorem hid_upd {B : List Addr} {o : HO} (h : d ∉ B) : hid B (upd H d o) = upd (hid B H) d o := by
  funext a
  by_cases e : a = d
  · subst e; rw [hid_out h, upd_same, upd_same]
  · rw [upd_ne e]
    unfold hid
    rw [upd_ne e]
end
section
variable {K : PySem.W.Frag} {B : List Addr} {H : Hp} {d : Addr} {od : Obj} {u : HO}
theorem RL.lock (hB : d ∉ B) (hd : H d = some u) (hu : IsDk u) {m : Nat} {v : V} {e : D} (h : RL K B H m v e) : RL K B (upd H d (.frz od u)) m v e := by
  have hd' : hid B H d = some u := by rw [hid_out hB]; exact hd
  induction h with
  | z r => exact .z (by rw [hid_upd hB]; exact r.lock hd' hu)
  | l h1 h2 _ ih => exact .l (by rw [upd_ne (ne_dk hd hu h1 (fun z => z))]; exact h1) h2 ih
  | @dk m a kvs es h1 h2 =>
    by_cases e : a = d
    · subst e
      refine .z (.dk (kvs := kvs) ?_ (by rw [hid_upd hB]; exact h2.lock hd' hu))
      rw [hid_upd hB]
      exact rd_lock hd' hu (.inl (by rw [hid_out hB]; exact h1))
    · exact .dk (by rw [upd_ne e]; exact h1) (by rw [hid_upd hB]; exact h2.lock hd' hu)
  | @dt m a kvs es h1 h2 =>
    by_cases e : a = d
    · subst e
      refine .z (.dt (kvs := kvs) ?_ (by rw [hid_upd hB]; exact h2.lock hd' hu))
      rw [hid_upd hB]
      exact rd_lock hd' hu (.inl (by rw [hid_out hB]; exact h1))
    · exact .dt (by rw [upd_ne e]; exact h1) (by rw [hid_upd hB]; exact h2.lock hd' hu)
theorem RL.unlock (hB : d ∉ B) (hd : H d = some (.frz od u)) {m : Nat} {v : V} {e : D} (h : RL K B H m v e) : RL K B (upd H d u) m v e := by
  have hd' : hid B H d = some (.frz od u) := by rw [hid_out hB]; exact hd
  induction h with
  | z r => exact .z (by rw [hid_upd hB]; exact r.unlock hd')
  | l h1 h2 _ ih => exact .l (by rw [upd_ne (ne_fz hd h1 (fun _ _ z => nomatch z))]; exact h1) h2 ih
  | dk h1 h2 => exact .dk (by rw [upd_ne (ne_fz hd h1 (fun _ _ z => nomatch z))]; exact h1) (by rw [hid_upd hB]; exact h2.unlock hd')
  | dt h1 h2 => exact .dt (by rw [upd_ne (ne_fz hd h1 (fun _ _ z => nomatch z))]; exact h1) (by rw [hid_upd hB]; exact h2.unlock hd')
theorem RO.lock (hB : d ∉ B) (hd : H d = some u) (hu : IsDk u) {l : Nat} {o : List Addr} {v : V} {e : D} (h : RO K B H l o v e) : d ∉ o → RO K B (upd H d (.frz od u)) l o v e := by
  have hd' : hid B H d = some u := by rw [hid_out hB]; exact hd
  refine RO.rec (K := K) (B := B) (H := H) (motive_1 := fun l o v e _ => d ∉ o → RO K B (upd H d (.frz od u)) l o v e)
    (motive_2 := fun l os vs ds _ => d ∉ os.flatten → ROA K B (upd H d (.frz od u)) l os vs ds) ?_ ?_ ?_ ?_ ?_ ?_ h
  · intro l v e hl r _
    exact .z hl (by rw [hid_upd hB]; exact r.lock hd' hu)
  · intro l a os xs ds h1 _ ih hn
    exact .l (by rw [upd_ne (ne_dk hd hu h1 (fun z => z))]; exact h1) (ih fun z => hn (List.mem_cons_of_mem _ z))
  · intro l a kvs es ht h1 h2 hn
    exact .dk ht (by rw [upd_ne (fun z => hn (by rw [z]; exact List.mem_cons_self))]; exact h1) (by rw [hid_upd hB]; exact h2.lock hd' hu)
  · intro l a kvs es ht h1 h2 hn
    exact .dt ht (by rw [upd_ne (fun z => hn (by rw [z]; exact List.mem_cons_self))]; exact h1) (by rw [hid_upd hB]; exact h2.lock hd' hu)
  · intro l _
    exact .nil
  · intro l o os v e vs ds _ _ ih1 ih2 hn
    exact .cons (ih1 fun z => hn (by rw [List.flatten_cons]; exact List.mem_append_left _ z)) (ih2 fun z => hn (by rw [List.flatten_cons]; exact List.mem_append_right _ z))
theorem RO.unlock (hB : d ∉ B) (hd : H d = some (.frz od u)) {l : Nat} {o : List Addr} {v : V} {e : D} (h : RO K B H l o v e) : RO K B (upd H d u) l o v e := by
  have hd' : hid B H d = some (.frz od u) := by rw [hid_out hB]; exact hd
  refine RO.rec (K := K) (B := B) (H := H) (motive_1 := fun l o v e _ => RO K B (upd H d u) l o v e)
    (motive_2 := fun l os vs ds _ => ROA K B (upd H d u) l os vs ds) ?_ ?_ ?_ ?_ ?_ ?_ h
  · intro l v e hl r
    exact .z hl (by rw [hid_upd hB]; exact r.unlock hd')
  · intro l a os xs ds h1 _ ih
    exact .l (by rw [upd_ne (ne_fz hd h1 (fun _ _ z => nomatch z))]; exact h1) ih
  · intro l a kvs es ht h1 h2
    exact .dk ht (by rw [upd_ne (ne_fz hd h1 (fun _ _ z => nomatch z))]; exact h1) (by rw [hid_upd hB]; exact h2.unlock hd')
  · intro l a kvs es ht h1 h2
    exact .dt ht (by rw [upd_ne (ne_fz hd h1 (fun _ _ z => nomatch z))]; exact h1) (by rw [hid_upd hB]; exact h2.unlock hd')
  · intro l
    exact .nil
  · intro l o os v e vs ds _ _ ih1 ih2
    exact .cons ih1 ih2
theorem Ok.lock (h : Ok B H) (hB : d ∉ B) {o : HO} : Ok B (upd H d o) := fun a ha => by
  obtain ⟨x, h1, h2⟩ := h a ha
  exact ⟨x, by rw [upd_ne fun e => hB (by rw [← e]; exact ha)]; exact h1, h2⟩
theorem Good.lock {L : Nat → Nat} {σ : St} {ρ : PEnv} (g : Good K B L σ H ρ) (hB : d ∉ B) (hd : H d = some u) (hu : IsDk u) : Good K B L σ (upd H d (.frz od u)) ρ :=
  ⟨g.ok.lock hB, g.len, fun i e h => let ⟨v, h1, h2⟩ := g.slot i e h; ⟨v, h1, h2.lock hB hd hu⟩⟩
theorem same_back {H' : Hp} (s : Same (upd H d (.frz od u)) H') (hd : H d = some u) : H' d = some (.frz od u) ∧ Same H (upd H' d u) :=
  ⟨s _ _ upd_same, fun a o h => by
    by_cases e : a = d
    · subst e; rw [hd] at h; cases h; exact upd_same
    · rw [upd_ne e]; exact s a o (by rw [upd_ne e]; exact h)⟩
theorem Post.unlock {H' : Hp} {κ : Mo} {v : V} {e : D} (hB : d ∉ B) (hd : H d = some u) (hd' : H' d = some (.frz od u)) (h : Post K B (upd H d (.frz od u)) H' κ v e) : Post K B H (upd H' d u) κ v e := by
  have go : ∀ (l : Nat), (∃ o : List Addr, (∀ a ∈ o, (upd H d (.frz od u)) a = none) ∧ o.Nodup ∧ RO K (o ++ B) H' l o v e) → ∃ o : List Addr, (∀ a ∈ o, H a = none) ∧ o.Nodup ∧ RO K (o ++ B) (upd H' d u) l o v e := by
    rintro l ⟨o, h1, h2, h3⟩
    have hno : ∀ a ∈ o, a ≠ d := fun a ha z => by
      have := h1 a ha
      rw [z, upd_same] at this
      cases this
    refine ⟨o, fun a ha => ?_, h2, h3.unlock (fun z => ?_) hd'⟩
    · have := h1 a ha
      rw [upd_ne (hno a ha)] at this
      exact this
    · rcases List.mem_append.mp z with z | z
      · exact hno d z rfl
      · exact hB z
  cases κ with
  | br m => exact RL.unlock hB hd' h
  | fr => exact go 1 h
  | fr2 => exact go 2 h
/-- a dict that can be seen -/
theorem dict_seen {v : V} {es : List (D × D)} (hn : ∀ k r, es = k :: r → k.1 ≠ .none) (h : R K (hid B H) v (.dict es)) : ∃ a, v = .ref a ∧ a ∉ B ∧ ∃ u, IsDk u ∧ Rd H a u ∧
    ((∃ kvs, u = .dK kvs ∧ RK K (hid B H) kvs es) ∨ ∃ kvs, u = .dT kvs ∧ RT K (hid B H) kvs es) := by
  have vis : ∀ {a : Addr} {w : HO}, Rd (hid B H) a w → a ∉ B ∧ Rd H a w := fun {a w} h => by
    rcases h with h | ⟨o, h⟩
    · exact ⟨(hid_some h).1, .inl (hid_some h).2⟩
    · exact ⟨(hid_some h).1, .inr ⟨o, (hid_some h).2⟩⟩
  cases h with
  | frz _ _ => exact absurd rfl (hn _ _ rfl)
  | rng _ => exact absurd rfl (hn _ _ rfl)
  | dk h1 h2 => exact ⟨_, rfl, (vis h1).1, .dK _, True.intro, (vis h1).2, .inl ⟨_, rfl, h2⟩⟩
  | dt h1 h2 => exact ⟨_, rfl, (vis h1).1, .dT _, True.intro, (vis h1).2, .inr ⟨_, rfl, h2⟩⟩
end
end DS
end

section
set_option Elab.async false
set_option linter.all false
set_option maxRecDepth 100000
/-! Dicts, part b: for k in d, [.. for k in d ..]. -/
namespace DS
open PySem PySem.Spec PyProof.Rows L2
/-- the keys of a dict -/
def keysD : D → Option (List D)
  | .dict ((.none, _) :: _) => none
  | .dict es => some (es.map (·.1))
  | _ => none
def iDk (f : FE) : FA := fun ρ => o1 (f ρ) keysD
theorem keysD_some {d : D} {ds : List D} (h : keysD d = some ds) : ∃ es, d = .dict es ∧ ds = es.map (·.1) ∧ ∀ k r, es = k :: r → k.1 ≠ .none := by
  unfold keysD at h
  split at h
  · cases h
  · rename_i es hne
    refine ⟨es, rfl, (Option.some.inj h).symm, fun k r e z => ?_⟩
    subst e
    obtain ⟨k1, k2⟩ := k
    simp only at z
    subst z
    exact hne _ _ rfl
  · cases h
section
variable {K : PySem.W.Frag} {H : Hp}
theorem R.key (k : Key) : R K H (kV k) (keyD k) := by
  cases k with
  | inl i => exact .int i
  | inr x => exact .str x
theorem RA.keys : ∀ (k : List Key), RA K H (k.map kV) (k.map keyD)
  | [] => .nil
  | k :: r => .cons (R.key k) (RA.keys r)
theorem RK.keys : ∀ {kvs : List (Key × V)} {es : List (D × D)}, RK K H kvs es → es.map (·.1) = kvs.map fun p => keyD p.1
  | _, _, .nil => rfl
  | _, _, .cons _ t => by rw [List.map_cons, List.map_cons, RK.keys t]
theorem RT.keys : ∀ {kvs : List (List Key × V)} {es : List (D × D)}, RT K H kvs es → es.map (·.1) = kvs.map fun p => .tuple (p.1.map keyD)
  | _, _, .nil => rfl
  | _, _, .cons _ t => by rw [List.map_cons, List.map_cons, RT.keys t]
theorem walks_dk {G : Hp} {B : List Addr} {a : Addr} {od : Obj} {kvs : List (Key × V)} {ds : List D} (h : G a = some (.frz od (.dK kvs))) (e : ds = kvs.map fun p => keyD p.1) : Walks K G B (Itk a od kvs) ds where
  go := fun i H hi s => ⟨s _ _ h, by rw [e, List.length_map] at hi; exact hi⟩
  stop := fun H s => ⟨s _ _ h, by rw [e, List.length_map]; exact Nat.le_refl _⟩
  yld := fun i H x H' d hd s y => by
    obtain ⟨rfl, k, v, hk, rfl⟩ := y
    refine ⟨Same.refl _, fun B' _ _ => ?_⟩
    rw [e, List.getElem?_map, hk] at hd
    cases (Option.some.inj hd)
    exact R.key k
theorem walks_dt {G : Hp} {B : List Addr} {a : Addr} {od : Obj} {kvs : List (List Key × V)} {ds : List D} (h : G a = some (.frz od (.dT kvs))) (e : ds = kvs.map fun p => .tuple (p.1.map keyD)) : Walks K G B (Itkt a od kvs) ds where
  go := fun i H hi s => ⟨s _ _ h, by rw [e, List.length_map] at hi; exact hi⟩
  stop := fun H s => ⟨s _ _ h, by rw [e, List.length_map]; exact Nat.le_refl _⟩
  yld := fun i H x H' d hd s y => by
    obtain ⟨rfl, k, v, q, hk, rfl, hq⟩ := y
    refine ⟨Same.refl _, fun B' ok _ => ?_⟩
    rw [e, List.getElem?_map, hk] at hd
    cases (Option.some.inj hd)
    refine .tup (xs := k.map kV) ?_ (RA.keys k)
    rw [hid_out fun z => ?_]
    · exact hq
    · obtain ⟨o, h1, h2⟩ := ok q z
      rw [hq] at h1; cases h1; cases h2
theorem hti_dict {m : Nat} {B : List Addr} {L : Nat → Nat} {ds : List D} {σ : St} {ρ : PEnv} {i : Nat} {a : Addr} {od : Obj} {u : HO} (g : Good K B L σ H ρ) (hL : L i ≤ 0) (hf : iDk (eVar i) ρ = some ds) (hv : σ[i]? = some (some (.ref a))) (hfz : H a = some (.frz od u))
    (Rr : It → Hp → Prop) (hR : ∀ J H1, Same H H1 → Walks K (gOf m B H1) B J ds → Rr J H1) : iKeys (tVar i) σ H Rr := by
  obtain ⟨d, h1, h2⟩ := o1_some hf
  obtain ⟨es, rfl, rfl, hn⟩ := keysD_some h2
  have hρ : ρ[i]? = some (some (.dict es)) := by
    unfold eVar at h1
    split at h1
    · rename_i x hx
      cases (Option.some.inj h1)
      exact hx
    · cases h1
  obtain ⟨v, e1, r⟩ := g.slot i _ hρ
  rw [hv] at e1
  cases e1
  have e0 : L i = 0 := by omega
  rw [e0] at r
  have r := r.r
  refine ⟨.ref a, hv, a, od, rfl, ?_⟩
  have gof : ∀ {w : HO}, a ∉ B → H a = some w → gOf m B H a = some w := fun {w} hb hw => by
    cases m with
    | zero => show hid B H a = _; rw [hid_out hb]; exact hw
    | succ m => exact hw
  cases r with
  | frz _ _ => exact absurd rfl (hn _ _ rfl)
  | rng _ => exact absurd rfl (hn _ _ rfl)
  | @dk a kvs es hr rk =>
    rcases hr with hr | ⟨o, hr⟩
    · have := (hid_some hr).2
      rw [hfz] at this
      cases this
    · obtain ⟨nb, hr⟩ := hid_some hr
      rw [hfz] at hr
      cases hr
      exact .inl ⟨kvs, hfz, hR _ H (Same.refl H) (walks_dk (gof nb hfz) rk.keys)⟩
  | @dt a kvs es hr rk =>
    rcases hr with hr | ⟨o, hr⟩
    · have := (hid_some hr).2
      rw [hfz] at this
      cases this
    · obtain ⟨nb, hr⟩ := hid_some hr
      rw [hfz] at hr
      cases hr
      exact .inr ⟨kvs, hfz, hR _ H (Same.refl H) (walks_dt (gof nb hfz) rk.keys)⟩
end
section
variable {X : Cx} {K : PySem.W.Frag} {κ : Mo}
/-- the ends of what runs while the dict at d is locked -/
def lockE (E : Ends) (d : Addr) (od : Obj) (u : HO) : Ends := ⟨fun σ' H' => H' d = some (.frz od u) ∧ E.nx σ' (upd H' d u), fun v H' => H' d = some (.frz od u) ∧ E.rt v (upd H' d u), fun σ' H' => H' d = some (.frz od u) ∧ E.bk σ' (upd H' d u), fun σ' H' => H' d = some (.frz od u) ∧ E.ct σ' (upd H' d u)⟩
/-- what stands, all that no name owns -/
theorem GS.lock {B0 B : List Addr} {G : Hp} {O : Nat → List Addr} {σ : St} {H : Hp} {ρ : PEnv} {L : List Nat} {d : Addr} {od : Obj} {u : HO} (g : GoodS K B0 G O B σ H ρ L) (hB : d ∉ B) (hd : H d = some u) (hu : IsDk u) :
    ∃ G', (∀ σ' H' s', GS K B0 G' σ' H' s' → H' d = some (.frz od u) ∧ GS K B0 G σ' (upd H' d u) s') ∧ (∀ H', Same G' H' → H' d = some (.frz od u) ∧ Same G (upd H' d u)) ∧ GS K B0 G' σ (upd H d (.frz od u)) (ρ, L) := by
  let H_f : Hp := upd H d (.frz od u)
  let G' : Hp := fun a => if a ∈ B ∧ a ∉ B0 then none else H_f a
  have hGd : G' d = some (.frz od u) := by
    simp only [G']
    rw [if_neg fun z => hB z.1]
    exact upd_same
  have hs : ∀ H', Same G' H' → H' d = some (.frz od u) ∧ Same G (upd H' d u) := fun H' s => by
    refine ⟨s _ _ hGd, fun a o e => ?_⟩
    have eH := g.same _ _ e
    by_cases ea : a = d
    · subst ea
      rw [hd] at eH
      cases eH
      exact upd_same
    · rw [upd_ne ea]
      refine s a o ?_
      simp only [G']
      rw [if_neg fun z => ?_]
      · show upd H d _ a = _
        rw [upd_ne ea]; exact eH
      · rcases (g.memB a).mp z.1 with h | ⟨i, h⟩
        · exact z.2 h
        · rw [g.gO i a h] at e; cases e
  refine ⟨G', ?_, hs, ?_⟩
  · rintro σ' H' s' ⟨O2, B2, g2⟩
    obtain ⟨e1, e2⟩ := hs H' g2.same
    have hd2 : d ∉ B2 := fun z => by
      obtain ⟨o, h1, h2⟩ := g2.ok d z
      rw [e1] at h1; cases h1; cases h2
    refine ⟨e1, O2, B2, g2.memB, fun a ha => ?_, e2, g.g0, fun i a h => ?_, g2.nd, g2.dj, g2.len, g2.lenL, fun i e h => ?_⟩
    · obtain ⟨o, h1, h2⟩ := g2.ok a ha
      exact ⟨o, by rw [upd_ne fun z => hd2 (by rw [← z]; exact ha)]; exact h1, h2⟩
    · have hn := g2.gO i a h
      cases eg : G a with
      | none => rfl
      | some o =>
        exfalso
        have eH := g.same _ _ eg
        simp only [G'] at hn
        by_cases q : a ∈ B ∧ a ∉ B0
        · rcases (g.memB a).mp q.1 with h | ⟨j, h⟩
          · exact q.2 h
          · rw [g.gO j a h] at eg; cases eg
        · rw [if_neg q] at hn
          have : H_f a = none := hn
          by_cases ea : a = d
          · subst ea
            rw [show H_f a = some (.frz od u) from upd_same] at this; cases this
          · rw [show H_f a = H a from upd_ne ea, eH] at this; cases this
    · obtain ⟨v, h1, h2⟩ := g2.slot i e h
      exact ⟨v, h1, h2.unlock hd2 e1⟩
  · refine ⟨O, B, g.memB, g.ok.lock hB, fun b o e => ?_, fun a ha => ?_, fun i a h => ?_, g.nd, g.dj, g.len, g.lenL, fun i e h => ?_⟩
    · simp only [G'] at e
      split at e
      · cases e
      · exact e
    · simp only [G']
      rw [if_neg fun z => z.2 ha]
      intro z
      have hx := g.g0 a ha
      cases eg : G a with
      | none => exact hx eg
      | some o =>
        have eH := g.same _ _ eg
        by_cases ea : a = d
        · subst ea
          rw [show H_f a = some (.frz od u) from upd_same] at z; cases z
        · rw [show H_f a = H a from upd_ne ea, eH] at z; cases z
    · simp only [G']
      rw [if_pos ⟨(g.memB a).mpr (.inr ⟨i, h⟩), fun z => g.g0 a z (g.gO i a h)⟩]
    · obtain ⟨v, h1, h2⟩ := g.slot i e h
      exact ⟨v, h1, h2.lock hB hd hu fun z => hB ((g.memB d).mpr (.inr ⟨i, z⟩))⟩
theorem Fin.lock {B0 : List Addr} {G G' : Hp} {E : Ends} {d : Addr} {od : Obj} {u : HO} {o : Out} (hg : ∀ σ' H' s', GS K B0 G' σ' H' s' → H' d = some (.frz od u) ∧ GS K B0 G σ' (upd H' d u) s') (hs : ∀ H', Same G' H' → H' d = some (.frz od u) ∧ Same G (upd H' d u)) (h0 : d ∉ B0) (q : Fin K B0 G E o) :
    Fin K B0 G' (lockE E d od u) o := by
  cases o with
  | stuck => exact q
  | next s => exact fun σ' H' z => let ⟨e, z'⟩ := hg σ' H' s z; ⟨e, q σ' _ z'⟩
  | brk s => exact fun σ' H' z => let ⟨e, z'⟩ := hg σ' H' s z; ⟨e, q σ' _ z'⟩
  | cont s => exact fun σ' H' z => let ⟨e, z'⟩ := hg σ' H' s z; ⟨e, q σ' _ z'⟩
  | ret x =>
    intro v H' s r
    obtain ⟨e, s'⟩ := hs H' s
    refine ⟨e, q v _ s' ?_⟩
    rw [hid_upd h0]
    exact r.unlock (by rw [hid_out h0]; exact e)
theorem PS.either {st : Stmt} {t t' : TS} (h : PS X st t) (h' : PS X st t') : PS X st (fun E σ H => t E σ H ∨ t' E σ H) :=
  ⟨fun pins s σ H D I q => q.elim (h.run pins s σ H D I) (h'.run pins s σ H D I)⟩
theorem PE.either {e : Expr} {t t' : TE} (h : PE X e t) (h' : PE X e t') : PE X e (fun σ H Q => t σ H Q ∨ t' σ H Q) :=
  ⟨fun pins s σ H Q I q => q.elim (h.run pins s σ H Q I) (h'.run pins s σ H Q I)⟩
/-- for k in d -/
theorem ss_forD (i : Nat) {tg : Expr} {x : Str} {p : Pos} {body : List Stmt} {pos : Pos} {t : Tg} {fb : FS} (hp : PassesOwn (model X.prog X.w) X.A X.env X.xe) (hc : X.calm = true) (hx : PE X (.Name x p) (tVar i)) (hg : PG X tg (tG K t)) (hb : PSs X body (tS K fb))
    (hs : ∀ y, foldedSetIterable (.Name x p) X.env y = pure y := by intro _; rfl) : PS X (.For tg (.Name x p) body [] pos) (tS K (sFor (iDk (eVar i)) [(i, 0)] t fb)) :=
  (PS.either (ps_lock (ps_for hp hc (pi_keys hx) hg hb hs)) (ps_for hp hc (pi_keys hx) hg hb hs)).imp fun E σ H ⟨B0, G, s, hs, q⟩ => by
    have q0 := q
    unfold sFor at q
    split at q
    · exact q.elim
    · rename_i ds hds
      obtain ⟨O, B, g0⟩ := hs
      obtain ⟨O', B', g, _⟩ := g0.demote [(i, 0)]
      have hL : lv (demote [(i, 0)] s.2) i ≤ 0 := demote_ok [(i, 0)] s.2 (i, 0) List.mem_cons_self
      obtain ⟨d, h1, h2⟩ := o1_some hds
      obtain ⟨es, rfl, rfl, hn⟩ := keysD_some h2
      obtain ⟨v, e1, r⟩ := g.good.slot i _ (eVar_some h1)
      rw [show lv (demote [(i, 0)] s.2) i = 0 by omega] at r
      obtain ⟨a, rfl, ha, u, hu, hr, _⟩ := dict_seen hn r.r
      have zero : ∀ {L : Nat → Nat}, EscOk [(i, 0)] L → L i ≤ 0 := fun es => es (i, 0) List.mem_cons_self
      rcases hr with hr | ⟨od, hr⟩
      · refine .inl ⟨a, u, hr, hu.mut, fun od => ?_⟩
        obtain ⟨G', k1, k2, k3⟩ := GS.lock (od := od) g ha hr hu
        refine for_core (c := [(i, 0)]) (fi := iDk (eVar i)) k3 (E := lockE E a od u) (G := G') ?_ fun B L ds g es hf Rr hR => hti_dict g (zero es) hf e1 upd_same Rr hR
        have h0 : a ∉ B0 := fun z => ha ((g.memB a).mpr (.inl z))
        refine Fin.lock k1 k2 h0 ?_
        have e2 : sFor (iDk (eVar i)) [(i, 0)] t fb (s.1, demote [(i, 0)] s.2) = sFor (iDk (eVar i)) [(i, 0)] t fb s := by
          unfold sFor
          have : demote [(i, 0)] (demote [(i, 0)] s.2) = demote [(i, 0)] s.2 := by
            show (if lv (demote [(i, 0)] s.2) i ≤ 0 then demote [(i, 0)] s.2 else _) = _
            rw [if_pos hL]
          rw [this]
        rw [e2]
        exact q0
      · exact .inr (for_core (c := [(i, 0)]) (fi := iDk (eVar i)) ⟨O, B, g0⟩ q0 fun B L ds g es hf Rr hR => hti_dict g (zero es) hf e1 hr Rr hR)
end
end DS
end

section
set_option Elab.async false
set_option linter.all false
set_option maxRecDepth 100000
/-! Dicts, part c: looking up, storing, displays, comprehensions over keys. -/
namespace DS
open PySem PySem.Spec PyProof.Rows L2
/-! keys as trees -/
def keyOf : D → Option Key
  | .int i => some (.inl i)
  | .str x => some (.inr x)
  | _ => none
def keysOf : List D → Option (List Key)
  | [] => some []
  | d :: ds => match keyOf d, keysOf ds with
    | some k, some ks => some (k :: ks)
    | _, _ => none
def keyK : D → Option (Key ⊕ List Key)
  | .tuple ds => (keysOf ds).map .inr
  | d => (keyOf d).map .inl
def isT : D → Bool
  | .tuple _ => true
  | _ => false
def dFind (es : List (D × D)) (k : D) : Option D := (es.find? fun p => PyData.eqv p.1 k).map (·.2)
def putD (es : List (D × D)) (k v : D) : List (D × D) := if (es.any fun p => PyData.eqv p.1 k) = true then es.map fun p => if PyData.eqv p.1 k = true then (p.1, v) else p else es ++ [(k, v)]
/-- the key may be asked of the dict: one of its kind, or the dict is empty -/
def kindOk : List (D × D) → D → Bool
  | [], k => (keyK k).isSome
  | p :: _, k => (keyK k).isSome && !noneD p.1 && (isT p.1 == isT k)
def dGetD : D → D → Option D
  | .dict es, k => if kindOk es k = true then dFind es k else none
  | _, _ => none
def dInD : D → D → Option Bool
  | k, .dict es => if kindOk es k = true then some (dFind es k).isSome else none
  | _, _ => none
def dNotInD (k d : D) : Option Bool := o1 (dInD k d) fun b => some (!b)
theorem keyOf_some {d : D} {k : Key} (h : keyOf d = some k) : d = keyD k := by
  cases d <;> simp [keyOf] at h <;> subst h <;> rfl
theorem keysOf_some : ∀ {ds : List D} {ks : List Key}, keysOf ds = some ks → ds = ks.map keyD
  | [], ks, h => by simp [keysOf] at h; subst h; rfl
  | d :: ds, ks, h => by
    unfold keysOf at h
    split at h
    · rename_i k ks' h1 h2
      cases (Option.some.inj h)
      rw [List.map_cons, ← keyOf_some h1, ← keysOf_some h2]
    · cases h
theorem eqv_key (a b : Key) : PyData.eqv (keyD a) (keyD b) = decide (a = b) := by
  cases a with
  | inl i => cases b with
    | inl j => simp [keyD, PyData.eqv]; rw [Bool.eq_iff_iff]; simp
    | inr y => simp [keyD, PyData.eqv]
  | inr x => cases b with
    | inl j => simp [keyD, PyData.eqv]
    | inr y => simp [keyD, PyData.eqv]; rw [Bool.eq_iff_iff]; simp
theorem eqv_keys : ∀ (a b : List Key), PyData.eqv (.tuple (a.map keyD)) (.tuple (b.map keyD)) = decide (a = b) := by
  have go : ∀ (a b : List Key), PyData.eqvAll (a.map keyD) (b.map keyD) = decide (a = b) := by
    intro a
    induction a with
    | nil => intro b; cases b <;> simp [PyData.eqvAll]
    | cons x a ih =>
      intro b
      cases b with
      | nil => simp [PyData.eqvAll]
      | cons y b =>
        simp only [List.map_cons, PyData.eqvAll, eqv_key, ih]
        rw [Bool.eq_iff_iff]; simp
  intro a b
  rw [← go]
  simp [PyData.eqv]
section
variable {K : PySem.W.Frag} {H : Hp}
theorem RA.key_inv : ∀ {ks : List Key} {xs : List V}, RA K H xs (ks.map keyD) → xs = ks.map kV
  | [], _, .nil => rfl
  | k :: ks, _, .cons h t => by
    rw [RA.key_inv t, List.map_cons]
    cases k with
    | inl i => rw [h.int']; rfl
    | inr x => rw [h.str']; rfl
/-- what a key is -/
theorem key_is {y : V} {k : D} (h : R K H y k) (hk : (keyK k).isSome = true) : (∃ kk : Key, k = keyD kk ∧ y = kV kk ∧ isT k = false) ∨ ∃ (ks : List Key) (b : Addr), k = .tuple (ks.map keyD) ∧ y = .ref b ∧ H b = some (.tup (ks.map kV)) ∧ isT k = true := by
  cases k with
  | int i => exact .inl ⟨.inl i, rfl, h.int', rfl⟩
  | str x => exact .inl ⟨.inr x, rfl, h.str', rfl⟩
  | tuple ds =>
    have hk : ((keysOf ds).map Sum.inr : Option (Key ⊕ List Key)).isSome = true := hk
    cases e : keysOf ds with
    | none => rw [e] at hk; cases hk
    | some ks =>
      have e := keysOf_some e
      subst e
      cases h with
      | tup h1 h2 =>
        have := h2.key_inv
        subst this
        exact .inr ⟨ks, _, rfl, rfl, h1, rfl⟩
  | none => simp [keyK, keyOf] at hk
  | bool b => simp [keyK, keyOf] at hk
  | list ds => simp [keyK, keyOf] at hk
  | dict es => simp [keyK, keyOf] at hk
theorem RK.find : ∀ {kvs : List (Key × V)} {es : List (D × D)} (k : Key), RK K H kvs es → (valV kvs k = none ∧ dFind es (keyD k) = none) ∨ ∃ v d, valV kvs k = some v ∧ dFind es (keyD k) = some d ∧ R K H v d
  | _, _, k, .nil => .inl ⟨rfl, rfl⟩
  | (a, v) :: kvs, _, k, .cons (d := d) (ds := es) h t => by
    by_cases e : a = k
    · refine .inr ⟨v, d, valV_pos e, ?_, h⟩
      unfold dFind
      rw [List.find?_cons_of_pos (by rw [eqv_key]; exact decide_eq_true e)]
      rfl
    · rw [valV_neg e]
      have : dFind ((keyD a, d) :: es) (keyD k) = dFind es (keyD k) := by
        unfold dFind
        rw [List.find?_cons_of_neg (by rw [eqv_key]; simpa using e)]
      rw [this]
      exact RK.find k t
theorem RT.find : ∀ {kvs : List (List Key × V)} {es : List (D × D)} (k : List Key), RT K H kvs es → (valV kvs k = none ∧ dFind es (.tuple (k.map keyD)) = none) ∨ ∃ v d, valV kvs k = some v ∧ dFind es (.tuple (k.map keyD)) = some d ∧ R K H v d
  | _, _, k, .nil => .inl ⟨rfl, rfl⟩
  | (a, v) :: kvs, _, k, .cons (d := d) (ds := es) h t => by
    by_cases e : a = k
    · refine .inr ⟨v, d, valV_pos e, ?_, h⟩
      unfold dFind
      rw [List.find?_cons_of_pos (by rw [eqv_keys]; exact decide_eq_true e)]
      rfl
    · rw [valV_neg e]
      have : dFind ((.tuple (a.map keyD), d) :: es) (.tuple (k.map keyD)) = dFind es (.tuple (k.map keyD)) := by
        unfold dFind
        rw [List.find?_cons_of_neg (by rw [eqv_keys]; simpa using e)]
      rw [this]
      exact RT.find k t
theorem RK.head {kvs : List (Key × V)} {p : D × D} {es : List (D × D)} (h : RK K H kvs (p :: es)) : isT p.1 = false := by
  cases h with
  | @cons k _ _ _ _ _ _ => cases k <;> rfl
theorem RT.head {kvs : List (List Key × V)} {p : D × D} {es : List (D × D)} (h : RT K H kvs (p :: es)) : isT p.1 = true := by
  cases h with
  | cons _ _ => rfl
theorem RK.nil_inv {kvs : List (Key × V)} (h : RK K H kvs []) : kvs = [] := by cases h; rfl
theorem RT.nil_inv {kvs : List (List Key × V)} (h : RT K H kvs []) : kvs = [] := by cases h; rfl
/-- a dict seen through, whatever its levels -/
theorem dict_open {v : V} {es : List (D × D)} (hn : ∀ k r, es = k :: r → noneD k.1 = false) (h : R K H v (.dict es)) : ∃ a, v = .ref a ∧ ((∃ kvs, Rd H a (.dK kvs) ∧ RK K H kvs es) ∨ ∃ kvs, Rd H a (.dT kvs) ∧ RT K H kvs es) := by
  cases h with
  | frz _ _ => exact absurd (hn _ _ rfl) (by simp [noneD])
  | rng _ => exact absurd (hn _ _ rfl) (by simp [noneD])
  | dk h1 h2 => exact ⟨_, rfl, .inl ⟨_, h1, h2⟩⟩
  | dt h1 h2 => exact ⟨_, rfl, .inr ⟨_, h1, h2⟩⟩
theorem kind_none {es : List (D × D)} {k : D} (h : kindOk es k = true) : (keyK k).isSome = true ∧ (∀ p r, es = p :: r → noneD p.1 = false) ∧ ∀ p r, es = p :: r → isT p.1 = isT k := by
  cases es with
  | nil => exact ⟨h, fun _ _ e => (by cases e), fun _ _ e => (by cases e)⟩
  | cons p es =>
    simp only [kindOk, Bool.and_eq_true, Bool.not_eq_true', beq_iff_eq] at h
    exact ⟨h.1.1, fun _ _ e => (by cases e; exact h.1.2), fun _ _ e => (by cases e; exact h.2)⟩
end
/-- what a dict holds at a key, or nothing: an empty dict is asked for a key of the other kind -/
def DGet' (H : Hp) (a : Addr) (y : V) (o : Option V) : Prop := DGet H a y o ∨ (o = none ∧ ((Rd H a (.dK []) ∧ ∃ (ks : List Key) (b : Addr), y = .ref b ∧ H b = some (.tup (ks.map kV))) ∨ (Rd H a (.dT []) ∧ ∃ kk : Key, y = kV kk)))
section
variable {K : PySem.W.Frag} {H : Hp}
theorem get_ok {v y : V} {es : List (D × D)} {k : D} (hv : R K H v (.dict es)) (hy : R K H y k) (hk : kindOk es k = true) : ∃ a o, v = .ref a ∧ DGet' H a y o ∧ o.isSome = (dFind es k).isSome ∧ ∀ d, dFind es k = some d → ∃ z, o = some z ∧ R K H z d ∧ DGet H a y o := by
  obtain ⟨k1, k2, k3⟩ := kind_none hk
  obtain ⟨a, rfl, h⟩ := dict_open k2 hv
  rcases key_is hy k1 with ⟨kk, rfl, rfl, ht⟩ | ⟨ks, b, rfl, rfl, hb, ht⟩
  · rcases h with ⟨kvs, h1, h2⟩ | ⟨kvs, h1, h2⟩
    · have g : DGet H a (kV kk) (valV kvs kk) := .inl ⟨kvs, kk, h1, rfl, rfl⟩
      rcases h2.find kk with ⟨e1, e2⟩ | ⟨z, d, e1, e2, r⟩
      · exact ⟨a, _, rfl, .inl g, by rw [e1, e2]; rfl, fun d e => by rw [e2] at e; cases e⟩
      · exact ⟨a, _, rfl, .inl g, by rw [e1, e2]; rfl, fun d' e => by rw [e2] at e; cases e; exact ⟨z, e1, r, g⟩⟩
    · cases es with
      | nil =>
        have := h2.nil_inv
        subst this
        exact ⟨a, none, rfl, .inr ⟨rfl, .inr ⟨h1, kk, rfl⟩⟩, rfl, fun d e => by cases e⟩
      | cons p es =>
        have := h2.head
        rw [k3 _ _ rfl, ht] at this
        cases this
  · rcases h with ⟨kvs, h1, h2⟩ | ⟨kvs, h1, h2⟩
    · cases es with
      | nil =>
        have := h2.nil_inv
        subst this
        exact ⟨a, none, rfl, .inr ⟨rfl, .inl ⟨h1, ks, b, rfl, hb⟩⟩, rfl, fun d e => by cases e⟩
      | cons p es =>
        have := h2.head
        rw [k3 _ _ rfl, ht] at this
        cases this
    · have g : DGet H a (.ref b) (valV kvs ks) := .inr ⟨kvs, ks, b, h1, rfl, hb, rfl⟩
      rcases h2.find ks with ⟨e1, e2⟩ | ⟨z, d, e1, e2, r⟩
      · exact ⟨a, _, rfl, .inl g, by rw [e1, e2]; rfl, fun d e => by rw [e2] at e; cases e⟩
      · exact ⟨a, _, rfl, .inl g, by rw [e1, e2]; rfl, fun d' e => by rw [e2] at e; cases e; exact ⟨z, e1, r, g⟩⟩
end
section
variable {P : Program} {w : World} {H : Hp} {h : Heap} {a : Addr}
theorem nil_K_T (ok : HOk P w H h) (e : Rd H a (.dK [])) : (a == sysModules) = false ∧ h.DictOfH (tupleKind (mixKind P w)) a [] := by
  obtain ⟨_, hd, vs, rel, o, es, ep, h1, h2, h3, _, pr, _⟩ := dk_rd ok e
  cases rel
  have : es.toList = [] := by
    cases q : es.toList with
    | nil => rfl
    | cons x xs => rw [q] at pr; exact absurd pr.length (by simp)
  exact ⟨hd, o, es, ep, h1, h2, h3, by rw [this]; rfl, (fun x hx => by simp at hx), List.nodup_nil⟩
theorem nil_T_K (ok : HOk P w H h) (e : Rd H a (.dT [])) : (a == sysModules) = false ∧ h.DictOf (mixKind P w) a [] := by
  obtain ⟨_, hd, xs, rel, o, es, ep, h1, h2, h3, h4, _, _⟩ := dt_rd ok e
  cases rel
  have h5 : es = #[] := by
    apply Array.ext'
    simpa using h4
  subst h5
  refine ⟨hd, o, #[], ep, h1, h2, h3, ?_, ?_, List.nodup_nil⟩
  · intro en hen
    simp at hen
  · first | exact .nil | trivial | exact List.Forall₂.nil
end
end DS
end

section
set_option Elab.async false
set_option linter.all false
set_option maxRecDepth 100000
/-! Dicts, part d: k in d, d[k], d[k] = v, {}, {k: v}, [.. for k in d ..]. -/
namespace DS
open PySem PySem.Spec PyProof.Rows L2
section
variable {X : Cx} {K : PySem.W.Frag} {κ : Mo}
def rInDk : R2 := fun x y H Q => ∃ a o, y = .ref a ∧ DGet' H a x o ∧ Q (.bl o.isSome) H
def rNotInDk : R2 := fun x y H Q => ∃ a o, y = .ref a ∧ DGet' H a x o ∧ Q (.bl (!o.isSome)) H
theorem op_inDk (hu : X.A.units + 1 < cLine) : OpR X (compareOp .In) rInDk := by
  intro pins s σ H x y v u Q I rx ry h
  obtain ⟨a, o, rfl, g, q⟩ := h
  obtain rfl : u = Value.ref a := ry
  rcases g with g | ⟨rfl, g⟩
  · exact d_in hu I g rx fun s3 I3 => ⟨.bl o.isSome, H, I3, rfl, q⟩
  · rcases g with ⟨e, ks, b, rfl, hb⟩ | ⟨e, kk, rfl⟩
    · cases (show v = Value.ref b from rx)
      obtain ⟨hd, dd⟩ := nil_K_T I.hok e
      exact wpAny_in_heap (tupleKind_room_in1 hu) (key_of I.hok hb) hd dd ⟨.bl false, H, I.tok _, rfl, q⟩
    · obtain ⟨hd, dd⟩ := nil_T_K I.hok e
      exact wpAny_in_of (kV_is rx) hd dd.mapOf ⟨.bl false, H, I.tok _, rfl, q⟩
theorem op_notInDk (hu : X.A.units + 1 < cLine) : OpR X (compareOp .NotIn) rNotInDk := by
  intro pins s σ H x y v u Q I rx ry h
  obtain ⟨a, o, rfl, g, q⟩ := h
  obtain rfl : u = Value.ref a := ry
  rcases g with g | ⟨rfl, g⟩
  · exact d_notIn hu I g rx fun s3 I3 => ⟨.bl (!o.isSome), H, I3, rfl, q⟩
  · rcases g with ⟨e, ks, b, rfl, hb⟩ | ⟨e, kk, rfl⟩
    · cases (show v = Value.ref b from rx)
      obtain ⟨hd, dd⟩ := nil_K_T I.hok e
      exact wpAny_notIn_heap (tupleKind_room_in1 hu) (key_of I.hok hb) hd dd ⟨.bl true, H, I.tok _, rfl, q⟩
    · obtain ⟨hd, dd⟩ := nil_T_K I.hok e
      exact wpAny_notIn_of (kV_is rx) hd dd.mapOf ⟨.bl true, H, I.tok _, rfl, q⟩
theorem oc_inDk : OpC K rInDk dInD := by
  intro x y dx dy b H Q rx ry h q
  unfold dInD at h
  split at h
  · rename_i es
    obtain ⟨hk, rfl⟩ := ite_some h
    obtain ⟨a, o, rfl, g, e, _⟩ := get_ok ry rx hk
    exact ⟨a, o, rfl, g, by rw [e]; exact q⟩
  · cases h
theorem oc_notInDk : OpC K rNotInDk dNotInD := by
  intro x y dx dy b H Q rx ry h q
  unfold dNotInD at h
  obtain ⟨b', h1, h2⟩ := o1_some h
  cases (Option.some.inj h2)
  unfold dInD at h1
  split at h1
  · rename_i es
    obtain ⟨hk, rfl⟩ := ite_some h1
    obtain ⟨a, o, rfl, g, e, _⟩ := get_ok ry rx hk
    exact ⟨a, o, rfl, g, by rw [e]; exact q⟩
  · cases h1
/-- d[k] -/
theorem qe_dget {a b : Expr} {fa fb : FE} {ca cb : Esc} {pos : Pos} {m : Nat} (hu : X.A.units + 1 < cLine) (ha : PE X a (tD K (.br 1) fa ca)) (hb : PE X b (tD K (.br 1) fb cb)) (hs : NoSl b) (hX : X.K = K := by rfl) :
    PE X (.Subscript a b pos) (tD K (.br m) (eOp dGetD fa fb) ca) := (pe_dget hu ha hb hs).imp fun σ H Q ⟨B, L, ρ, d, g, es, hf, q⟩ => by
  obtain ⟨dx, dy, h1, h2, h3⟩ := o2_some hf
  refine ⟨B, L, ρ, dx, g, es, h1, fun x H1 s1 p1 => ⟨[], _, ρ, dy, (g.mono s1).zero, .zero, h2, fun y H2 s2 p2 => ?_⟩⟩
  have p1 : RL K B H2 1 x dx := RL.mono s2 (same_hid s2) p1
  unfold dGetD at h3
  split at h3
  · rename_i es' _
    obtain ⟨hk, hd⟩ : kindOk es' dy = true ∧ dFind es' dy = some d := by
      split at h3
      · rename_i hk; exact ⟨hk, h3⟩
      · cases h3
    obtain ⟨a, o, rfl, g1, e, hz⟩ := get_ok p1.open (RL.r0 p2) hk
    obtain ⟨z, rfl, rz, g2⟩ := hz d hd
    refine ⟨a, z, rfl, g2, ?_⟩
    refine q z H2 (s1.trans s2) ?_
    -- the value is seen
    obtain ⟨k1, k2, k3⟩ := kind_none hk
    have hv : ∃ a', V.ref a = .ref a' ∧ ((∃ kvs, Rd H2 a' (.dK kvs) ∧ RK K (hid B H2) kvs es') ∨ ∃ kvs, Rd H2 a' (.dT kvs) ∧ RT K (hid B H2) kvs es') := by
      cases p1 with
      | z r =>
        obtain ⟨a', e', h⟩ := dict_open k2 r
        refine ⟨a', e', ?_⟩
        rcases h with ⟨kvs, h1, h2⟩ | ⟨kvs, h1, h2⟩
        · exact .inl ⟨kvs, rd_mono same_unhid h1, h2⟩
        · exact .inr ⟨kvs, rd_mono same_unhid h1, h2⟩
      | dk h1 h2 => exact ⟨_, rfl, .inl ⟨_, .inl h1, h2⟩⟩
      | dt h1 h2 => exact ⟨_, rfl, .inr ⟨_, .inl h1, h2⟩⟩
    obtain ⟨a', e', hv⟩ := hv
    cases e'
    have one : ∀ {u w : HO}, IsDk u → IsDk w → Rd H2 a u → Rd H2 a w → u = w := fun {u w} hu hw h h' => by
      rcases h with h | ⟨o, h⟩ <;> rcases h' with h' | ⟨o', h'⟩ <;> rw [h] at h' <;> cases h'
      · rfl
      · exact hu.elim
      · exact hw.elim
      · rfl
    rcases g2 with ⟨kvs, kk, e1, e2, e3⟩ | ⟨kvs, ks, b, e1, e2, e3, e4⟩
    · rcases hv with ⟨kvs', w1, w2⟩ | ⟨kvs', w1, w2⟩
      · cases one (u := .dK kvs) (w := .dK kvs') True.intro True.intro e1 w1
        subst e2
        rcases key_is (RL.r0 p2) k1 with ⟨kk', rfl, hy, _⟩ | ⟨ks, b, rfl, hy, _, _⟩
        · cases kV_inj hy
          rcases w2.find kk with ⟨f1, f2⟩ | ⟨z', d', f1, f2, r⟩
          · rw [f1] at e3; cases e3
          · rw [f1] at e3; cases e3
            rw [hd] at f2; cases f2
            exact .z r
        · cases kk <;> cases hy
      · have := one (u := .dK kvs) (w := .dT kvs') True.intro True.intro e1 w1
        cases this
    · rcases hv with ⟨kvs', w1, w2⟩ | ⟨kvs', w1, w2⟩
      · have := one (u := .dT kvs) (w := .dK kvs') True.intro True.intro e1 w1
        cases this
      · cases one (u := .dT kvs) (w := .dT kvs') True.intro True.intro e1 w1
        subst e2
        rcases key_is (RL.r0 p2) k1 with ⟨kk', rfl, hy, _⟩ | ⟨ks', b', rfl, hy, hb', _⟩
        · cases kk' <;> cases hy
        · cases hy
          rw [e3] at hb'
          have ek : ks = ks' := kVs_inj (HO.tup.inj (Option.some.inj hb'))
          subst ek
          rcases w2.find ks with ⟨f1, f2⟩ | ⟨z', d', f1, f2, r⟩
          · rw [f1] at e4; cases e4
          · rw [f1] at e4; cases e4
            rw [hd] at f2; cases f2
            exact .z r
  · cases h3
/-- [.. for k in d ..] -/
theorem qe_lcD (i : Nat) {elt tg : Expr} {x : Str} {p : Pos} {ifs : List Expr} {scope : Scope} {own : List (Str × Nat)} {pos : Pos} {ce : Esc} {t : Tg} {ft : FT} {fe : FE} (hc : X.calm = true) (hN : X.N.Nodup) (hx : PE X (.Name x p) (tVar i)) (ok : BlkOk X.N X.env.scope scope own)
    (hg : ∀ (s : Shared) (H : Hp) (C : Addr) (cl : List (Str × Addr)) (fp : List Addr), PG (X.blk s H scope (compEnvC scope cl C X.env) fp) tg (tG K t)) (ht : ∀ (s : Shared) (H : Hp) (C : Addr) (cl : List (Str × Addr)) (fp : List Addr), PTs (X.blk s H scope (compEnvC scope cl C X.env) fp) ifs (tT K ft))
    (he : ∀ (s : Shared) (H : Hp) (C : Addr) (cl : List (Str × Addr)) (fp : List Addr), PE (X.blk s H scope (compEnvC scope cl C X.env) fp) elt (tD K (.br 0) fe ce)) (hv : t.ix.all ((own.map (·.2)).contains ·) = true := by rfl) (hκ : κ.one = true := by rfl) (hs : ∀ y, foldedSetIterable (.Name x p) X.env y = pure y := by intro _; rfl) :
    PE X (.ListComp elt [⟨tg, .Name x p, ifs, 0⟩] scope pos) (tD K κ (eLc (iDk (eVar i)) t ft fe (own.map (·.2))) ([(i, 0)] ++ ce)) :=
  (PE.either (pe_lock (pe_lc hc hN (pi_keys hx) ok hg ht he hs)) (pe_lc hc hN (pi_keys hx) ok hg ht he hs)).imp fun σ H Q ⟨B, L, ρ, d, g, es, hf, q⟩ => by
    obtain ⟨ds, h1, h2⟩ := o1_some hf
    obtain ⟨dd, h3, h4⟩ := o1_some h1
    obtain ⟨es', rfl, rfl, hn⟩ := keysD_some h4
    have hL : L i ≤ 0 := es.left (i, 0) List.mem_cons_self
    obtain ⟨v, e1, r⟩ := g.slot i _ (eVar_some h3)
    rw [show L i = 0 by omega] at r
    obtain ⟨a, rfl, ha, u, hu, hr, _⟩ := dict_seen hn r.r
    rcases hr with hr | ⟨od, hr⟩
    · refine .inl ⟨a, u, hr, hu.mut, fun od => ?_⟩
      have g' := g.lock (od := od) ha hr hu
      refine lc_core (m := 1) rfl hv hκ σ _ _ B L ρ d g' es hf (fun w H' s p => ?_) fun ds Rr h1 hR => hti_dict g' hL h1 e1 upd_same Rr hR
      obtain ⟨b1, b2⟩ := same_back s hr
      exact ⟨b1, q w _ b2 (Post.unlock ha hr b1 p)⟩
    · exact .inr (lc_core (m := 1) rfl hv hκ σ H Q B L ρ d g es hf q fun ds Rr h1 hR => hti_dict g hL h1 e1 hr Rr hR)
end
end DS
end

section
set_option Elab.async false
set_option linter.all false
set_option maxRecDepth 100000
/-! Dicts, part e: d[k] = v, {}, {k: v}. -/
namespace DS
open PySem PySem.Spec PyProof.Rows L2
section
variable {K : PySem.W.Frag} {H : Hp}
theorem RK.any : ∀ {kvs : List (Key × V)} {es : List (D × D)} (k : Key), RK K H kvs es → (es.any fun p => PyData.eqv p.1 (keyD k)) = kvs.any fun p => decide (p.1 = k)
  | _, _, _, .nil => rfl
  | (a, v) :: kvs, _, k, .cons _ t => by
    rw [List.any_cons, List.any_cons, RK.any k t, eqv_key]
theorem RT.any : ∀ {kvs : List (List Key × V)} {es : List (D × D)} (k : List Key), RT K H kvs es → (es.any fun p => PyData.eqv p.1 (.tuple (k.map keyD))) = kvs.any fun p => decide (p.1 = k)
  | _, _, _, .nil => rfl
  | (a, v) :: kvs, _, k, .cons _ t => by
    rw [List.any_cons, List.any_cons, RT.any k t, eqv_keys]
theorem RK.map {z : V} {d : D} (r : R K H z d) (k : Key) : ∀ {kvs : List (Key × V)} {es : List (D × D)}, RK K H kvs es → RK K H (kvs.map fun p => if p.1 = k then (p.1, z) else p) (es.map fun p => if PyData.eqv p.1 (keyD k) = true then (p.1, d) else p)
  | _, _, .nil => .nil
  | (a, v) :: kvs, _, .cons (d := e) h t => by
    rw [List.map_cons, List.map_cons]
    by_cases q : a = k
    · rw [if_pos q, if_pos (by rw [eqv_key]; exact decide_eq_true q)]
      exact .cons r (RK.map r k t)
    · rw [if_neg q, if_neg (by rw [eqv_key]; simpa using q)]
      exact .cons h (RK.map r k t)
theorem RT.map {z : V} {d : D} (r : R K H z d) (k : List Key) : ∀ {kvs : List (List Key × V)} {es : List (D × D)}, RT K H kvs es → RT K H (kvs.map fun p => if p.1 = k then (p.1, z) else p) (es.map fun p => if PyData.eqv p.1 (.tuple (k.map keyD)) = true then (p.1, d) else p)
  | _, _, .nil => .nil
  | (a, v) :: kvs, _, .cons (d := e) h t => by
    rw [List.map_cons, List.map_cons]
    by_cases q : a = k
    · rw [if_pos q, if_pos (by rw [eqv_keys]; exact decide_eq_true q)]
      exact .cons r (RT.map r k t)
    · rw [if_neg q, if_neg (by rw [eqv_keys]; simpa using q)]
      exact .cons h (RT.map r k t)
theorem RK.snoc {z : V} {d : D} (r : R K H z d) (k : Key) : ∀ {kvs : List (Key × V)} {es : List (D × D)}, RK K H kvs es → RK K H (kvs ++ [(k, z)]) (es ++ [(keyD k, d)])
  | _, _, .nil => .cons r .nil
  | _, _, .cons h t => .cons h (RK.snoc r k t)
theorem RT.snoc {z : V} {d : D} (r : R K H z d) (k : List Key) : ∀ {kvs : List (List Key × V)} {es : List (D × D)}, RT K H kvs es → RT K H (kvs ++ [(k, z)]) (es ++ [(.tuple (k.map keyD), d)])
  | _, _, .nil => .cons r .nil
  | _, _, .cons h t => .cons h (RT.snoc r k t)
theorem RK.put {z : V} {d : D} {kvs : List (Key × V)} {es : List (D × D)} (h : RK K H kvs es) (r : R K H z d) (k : Key) : RK K H (putK kvs k z) (putD es (keyD k) d) := by
  unfold putK putD
  rw [h.any k]
  split
  · exact h.map r k
  · exact h.snoc r k
theorem RT.put {z : V} {d : D} {kvs : List (List Key × V)} {es : List (D × D)} (h : RT K H kvs es) (r : R K H z d) (k : List Key) : RT K H (putK kvs k z) (putD es (.tuple (k.map keyD)) d) := by
  unfold putK putD
  rw [h.any k]
  split
  · exact h.map r k
  · exact h.snoc r k
theorem RK.length : ∀ {kvs : List (Key × V)} {es : List (D × D)}, RK K H kvs es → kvs.length = es.length
  | _, _, .nil => rfl
  | _, _, .cons _ t => congrArg (· + 1) (RK.length t)
theorem RT.length : ∀ {kvs : List (List Key × V)} {es : List (D × D)}, RT K H kvs es → kvs.length = es.length
  | _, _, .nil => rfl
  | _, _, .cons _ t => congrArg (· + 1) (RT.length t)
/-- what stands at a owned dict's address -/
def Dk (K : PySem.W.Frag) (H : Hp) (u : HO) (es : List (D × D)) : Prop := (∃ kvs, u = .dK kvs ∧ RK K H kvs es) ∨ ∃ kvs, u = .dT kvs ∧ RT K H kvs es
end
section
variable {K : PySem.W.Frag}
/-- the owned dict at a name, changed -/
theorem GoodS.writeD {B0 B : List Addr} {G H : Hp} {O : Nat → List Addr} {σ : St} {ρ : PEnv} {L : List Nat} {i : Nat} {es : List (D × D)} (g : GoodS K B0 G O B σ H ρ L) (hd : ρ[i]? = some (some (.dict es))) (hl : lv L i = 1) (ht : isTop (.dict es) = true) :
    ∃ a u, σ[i]? = some (some (.ref a)) ∧ H a = some u ∧ Dk K (hid B H) u es ∧ ∀ u' es', isTop (.dict es') = true → Dk K (hid B H) u' es' → GS K B0 G σ (upd H a u') (ρ.set i (some (.dict es')), L) := by
  obtain ⟨v, h1, h2⟩ := g.slot i _ hd
  rw [hl] at h2
  generalize hoi : O i = oi at h2
  have fin : ∀ {a : Addr} {u : HO}, oi = [a] → v = .ref a → H a = some u → Dk K (hid B H) u es → ∃ a u, σ[i]? = some (some (.ref a)) ∧ H a = some u ∧ Dk K (hid B H) u es ∧ ∀ u' es', isTop (.dict es') = true → Dk K (hid B H) u' es' → GS K B0 G σ (upd H a u') (ρ.set i (some (.dict es')), L) := by
    rintro a u rfl rfl e dk
    have aB : a ∈ B := (g.memB a).mpr (.inr ⟨i, by rw [hoi]; exact List.mem_cons_self⟩)
    refine ⟨a, u, h1, e, dk, fun u' es' ht' r => ?_⟩
    have hsame : Same (hid B H) (hid B (upd H a u')) := fun b o q => by
      obtain ⟨q1, q2⟩ := hid_some q
      rw [hid_out q1, upd_ne fun z => q1 (by rw [z]; exact aB)]
      exact q2
    have hm : mutO u' = true := by
      rcases r with ⟨_, rfl, _⟩ | ⟨_, rfl, _⟩ <;> rfl
    refine ⟨O, B, g.memB, fun b hb => ?_, fun b o q => ?_, g.g0, g.gO, g.nd, g.dj, by rw [List.length_set, g.len], by rw [List.length_set, g.lenL], fun j d h => ?_⟩
    · by_cases hba : b = a
      · rw [hba]; exact ⟨_, upd_same, hm⟩
      · rw [upd_ne hba]; exact g.ok b hb
    · rw [upd_ne fun z => ?_]
      · exact g.same _ _ q
      · rw [z] at q
        have := g.gO i a (by rw [hoi]; exact List.mem_cons_self)
        rw [this] at q; cases q
    · by_cases hj : j = i
      · subst hj
        have hi : j < ρ.length := (List.getElem?_eq_some_iff.mp hd).1
        simp only [List.getElem?_set_self hi] at h
        cases h
        refine ⟨.ref a, h1, ?_⟩
        rw [hoi]
        show RO K B _ (lv L j) _ _ _
        rw [hl]
        rcases r with ⟨kvs, rfl, r⟩ | ⟨kvs, rfl, r⟩
        · exact .dk ht' upd_same (r.mono hsame)
        · exact .dt ht' upd_same (r.mono hsame)
      · simp only [List.getElem?_set_ne (Ne.symm hj)] at h
        obtain ⟨w, h3, h4⟩ := g.slot j d h
        refine ⟨w, h3, h4.mono_aux hsame fun b hb => upd_ne fun z => ?_⟩
        exact g.dj j i hj b hb (by rw [hoi, z]; exact List.mem_cons_self)
  cases h2 with
  | z h _ =>
    rcases h with h | h
    · cases h
    · rw [ht] at h; cases h
  | dk _ e rk => exact fin rfl rfl e (.inl ⟨_, rfl, rk⟩)
  | dt _ e rk => exact fin rfl rfl e (.inr ⟨_, rfl, rk⟩)
end
/-- the heap behind a[y] = v: a dict without entries takes keys of either kind -/
def rSetD : V → V → V → Hp → (Hp → Prop) → Prop := fun o i v H Q => ∃ a, o = .ref a ∧ ((∃ H', DPut H a i v H' ∧ Q H') ∨ (H a = some (.dK []) ∧ ∃ (ks : List Key) (b : Addr), i = .ref b ∧ H b = some (.tup (ks.map kV)) ∧ Q (upd H a (.dT [(ks, v)]))) ∨ (H a = some (.dT []) ∧ ∃ kk : Key, i = kV kk ∧ Q (upd H a (.dK [(kk, v)]))))
section
variable {X : Cx} {K : PySem.W.Frag} {κ : Mo}
theorem set_dict (hu : X.A.units + 1 < cLine) : PSet X rSetD := by
  intro pins s σ H o i v ov iv u Q I ro ri rv h
  obtain ⟨a, rfl, h⟩ := h
  obtain rfl : ov = Value.ref a := ro
  rcases h with ⟨H', g, q⟩ | ⟨e, ks, b, rfl, hb, q⟩ | ⟨e, kk, rfl, q⟩
  · exact d_setItem hu I g ri rv fun s' I' => ⟨H', I', q⟩
  · cases (show iv = Value.ref b from ri)
    obtain ⟨hd, dd⟩ := nil_K_T I.hok (.inl e)
    refine wpAny_setItem_heap (hsz := by rw [sizeLine_eq]; simp) (tupleKind_room_in1 hu) (key_of I.hok hb) dd fun h' dd' hs => ⟨_, ?_, q⟩
    obtain ⟨q', es, ep, hq, h2, h3, h4, _, h5⟩ := dd'
    have rel : KT (upd H a (.dT [(ks, v)])) [(ks, v)] (storedH [] ks b u) := by
      refine .cons ⟨rfl, ?_, rv⟩ .nil
      rw [upd_ne (ne_of hb e (fun z => nomatch z))]
      exact hb
    exact d_write I (by rw [e]; exact True.intro) hs ⟨q', hq⟩ ⟨by rw [sizeLine_eq]; simp, hd, _, rel, q', es, ep, hq, h2, h3, h4, h5⟩
  · obtain ⟨hd, dd⟩ := nil_T_K I.hok (.inl e)
    refine wpAny_setItem_pairs (hsz := by rw [sizeLine_eq]; simp) (kV_is ri) dd fun h' dd' hs => ⟨_, ?_, q⟩
    have he : ∃ q, h'.get? a = some q := let ⟨q, _, _, hq, _⟩ := dd'; ⟨q, hq⟩
    exact d_write I (by rw [e]; exact True.intro) hs he (dk_new (by rw [sizeLine_eq]; simp) hd (KV.put .nil kk rv) dd')
/-- x[k] = v, v without lists -/
def sPutD (i : Nat) (j f : FE) : FS := fun s => match f s.1, eVar i s.1, j s.1 with
  | some d, some (.dict es), some k => if (flat d && kindOk es k && decide (es.length < sz) && decide (lv s.2 i = 1)) = true then .next (s.1.set i (some (.dict (putD es k d))), s.2) else .stuck
  | _, _, _ => .stuck
theorem putD_top {es : List (D × D)} {k d : D} (hk : kindOk es k = true) : isTop (.dict (putD es k d)) = true := by
  obtain ⟨k1, k2, k3⟩ := kind_none hk
  have top : ∀ l : List (D × D), (∀ p r, l = p :: r → noneD p.1 = false) → isTop (.dict l) = true := fun l h => by
    cases l with
    | nil => rfl
    | cons p r =>
      obtain ⟨a, b⟩ := p
      have := h _ _ rfl
      cases a <;> first | rfl | simp [noneD] at this
  have hkn : noneD k = false := by cases k <;> simp [keyK, keyOf, noneD] at k1 ⊢
  refine top _ fun p r e => ?_
  unfold putD at e
  split at e
  · cases es with
    | nil => cases e
    | cons q es =>
      rw [List.map_cons] at e
      have := k2 _ _ rfl
      injection e with e1 e2
      rw [← e1]
      split <;> exact this
  · cases es with
    | nil => injection e with e1 e2; rw [← e1]; exact hkn
    | cons q es =>
      injection e with e1 e2
      rw [← e1]
      exact k2 _ _ rfl
theorem dict_top {es : List (D × D)} {k : D} (hk : kindOk es k = true) : isTop (.dict es) = true := by
  obtain ⟨k1, k2, k3⟩ := kind_none hk
  cases es with
  | nil => rfl
  | cons p r =>
    obtain ⟨a, b⟩ := p
    have := k2 _ _ rfl
    cases a <;> first | rfl | simp [noneD] at this
theorem putD_ok {i : Nat} {j f : FE} {c cj : Esc} : ∀ E σ H, tS K (sPutD i j f) E σ H → tAsg (tD K (.br 0) f c) (gSub (tVar i) (tD K (.br 1) j cj) rSetD) E σ H := fun E σ H ⟨B0, G, s, hs, q⟩ => by
  unfold sPutD at q
  split at q
  · rename_i d es k hd hi hk
    have hi := eVar_some hi
    split at q
    · rename_i hc
      simp only [Bool.and_eq_true, decide_eq_true_eq] at hc
      obtain ⟨⟨⟨hfl, hkd⟩, hz⟩, hl⟩ := hc
      obtain ⟨k1, k2, k3⟩ := kind_none hkd
      obtain ⟨O, B, g⟩ := hs
      refine ⟨[], _, s.1, d, g.good.zero, .zero, hd, fun v H1 s1 p1 => ?_⟩
      obtain ⟨a, u, h1, h2, h3, _⟩ := (g.mono s1).writeD hi hl (dict_top hkd)
      refine ⟨.ref a, h1, [], _, s.1, _, (g.mono s1).good.zero, .zero, hk, fun w H2 s2 p2 => ?_⟩
      obtain ⟨a', u', h1', h2', h3', h4'⟩ := ((g.mono s1).mono s2).writeD hi hl (dict_top hkd)
      rw [h1] at h1'
      cases h1'
      have rv := ((RL.r0 p1).mono s2).hidF (((g.ok.mono s1).mono s2).noTup) hfl
      have hz' : es.length < sizeLine := by rw [sz_eq]; exact hz
      refine ⟨a, rfl, ?_⟩
      rcases key_is (RL.r0 p2) k1 with ⟨kk, rfl, rfl, ht⟩ | ⟨ks, b, rfl, rfl, hb, ht⟩
      · rcases h3' with ⟨kvs, rfl, rk⟩ | ⟨kvs, rfl, rk⟩
        · exact .inl ⟨_, .inl ⟨kvs, kk, h2', rfl, by rw [rk.length]; exact hz', rfl⟩, q _ _ (h4' _ _ (putD_top hkd) (.inl ⟨_, rfl, rk.put rv kk⟩))⟩
        · cases es with
          | nil =>
            have := rk.nil_inv
            subst this
            exact .inr (.inr ⟨h2', kk, rfl, q _ _ (h4' _ _ (putD_top hkd) (.inl ⟨_, rfl, .cons rv .nil⟩))⟩)
          | cons p r =>
            have := rk.head
            rw [k3 _ _ rfl, ht] at this
            cases this
      · rcases h3' with ⟨kvs, rfl, rk⟩ | ⟨kvs, rfl, rk⟩
        · cases es with
          | nil =>
            have := rk.nil_inv
            subst this
            exact .inr (.inl ⟨h2', ks, b, rfl, hb, q _ _ (h4' _ _ (putD_top hkd) (.inr ⟨_, rfl, .cons rv .nil⟩))⟩)
          | cons p r =>
            have := rk.head
            rw [k3 _ _ rfl, ht] at this
            cases this
        · exact .inl ⟨_, .inr ⟨kvs, ks, b, h2', rfl, hb, by rw [rk.length]; exact hz', rfl⟩, q _ _ (h4' _ _ (putD_top hkd) (.inr ⟨_, rfl, rk.put rv ks⟩))⟩
    · exact q.elim
  · exact q.elim
theorem ss_putD (i : Nat) {x : Str} {e ix : Expr} {j f : FE} {c cj : Esc} {pos p p2 : Pos} (ps : PS X (.Assign [.Subscript (.Name x p) ix p2] e pos) (tAsg (tD K (.br 0) f c) (gSub (tVar i) (tD K (.br 1) j cj) rSetD))) :
    PS X (.Assign [.Subscript (.Name x p) ix p2] e pos) (tS K (sPutD i j f)) := ps.imp putD_ok
/-! displays -/
theorem Post.newD {B : List Addr} {H0 H' : Hp} {p : Addr} {u : HO} {es : List (D × D)} (t : Trk B H0) (hn : H0 p = none) (h : H' p = some u) (ht : isTop (.dict es) = true) (r : Dk K (hid (p :: B) H') u es) (hκ : κ.one = true) : Post K B H0 H' κ (.ref p) (.dict es) := by
  have f : Post K B H0 H' .fr (.ref p) (.dict es) := by
    refine ⟨[p], by simpa using hn, by simp, ?_⟩
    rcases r with ⟨kvs, rfl, r⟩ | ⟨kvs, rfl, r⟩
    · exact .dk ht h r
    · exact .dt ht h r
  cases κ with
  | br m => exact f.weak t
  | fr => exact f
  | fr2 => cases hκ
/-- {} -/
def eD0 : FE := fun _ => some (.dict [])
theorem qe_d0 {pos : Pos} (hκ : κ.one = true := by rfl) : PE X (.Dict [] [] pos) (tD K κ eD0 []) := (pe_dnewK).imp fun σ H Q ⟨B, L, ρ, d, g, es, hf, q⟩ => fun p hp => by
  cases (Option.some.inj hf)
  exact q _ _ (same_upd hp) (Post.newD g.ok.trk hp upd_same rfl (.inl ⟨[], rfl, .nil⟩) hκ)
/-- {k: v} -/
def tDisp1 (tk tv : TE) : TE := fun σ H Q => ∀ p, H p = none → tPairs [(tk, tv)] σ (upd H p (.dK [])) fun ps H2 => H2 p = some (.dK []) ∧ ∃ x y, ps = [(x, y)] ∧ ((∃ kk : Key, x = kV kk ∧ Q (.ref p) (upd H2 p (.dK [(kk, y)]))) ∨ ∃ (ks : List Key) (b : Addr), x = .ref b ∧ H2 b = some (.tup (ks.map kV)) ∧ Q (.ref p) (upd H2 p (.dT [(ks, y)])))
theorem pe_disp1 {k v : Expr} {tk tv : TE} {pos : Pos} (hu : X.A.units + 1 < cLine) (hk : PE X k tk) (hv : PE X v tv) : PE X (.Dict [some k] [v] pos) (tDisp1 tk tv) := by
  refine ⟨fun pins s σ H Q I q => ?_⟩
  have hn := I.hok.fresh (Nat.le_refl s.heap.objs.size)
  have I1 := I.laid (a := s.heap.objs.size) (o := .dK []) (h' := s.heap.push { cls := .type "dict", data := .dict #[] }) (t' := s.toks) (fun _ _ q => Heap.get?_push_of_some _ q) (Nat.le_refl _) (dk_empty s.heap I.big)
  refine wpAny_Dict_any rfl rfl (by simp) (by simp) (thn ((pps_cons (pos := pos) hk hv (pps_nil (X := X) (pos := pos))).run pins _ σ _ _ I1 (q _ hn)) fun ws s2 ⟨ps, H2, I2, rel, e, x, y, ep, h⟩ => ?_)
  subst ep
  obtain ⟨u, w, rfl, ru, rw'⟩ : ∃ u w, ws = [(u, w)] ∧ L2.RelV x u ∧ L2.RelV y w := by
    cases rel with
    | cons r0 r1 => cases r1; exact ⟨_, _, rfl, r0.1, r0.2⟩
  rcases h with ⟨kk, rfl, q2⟩ | ⟨ks, b, rfl, hb, q2⟩
  · obtain ⟨z, hd, vs0, r0, dd⟩ := dk_of I2.hok e
    cases r0
    refine wpAny_storeAll (knd := mixKind X.prog X.w) [(u, w)] [(kk, w)] [] s2 _ ⟨kV_is ru, rfl, True.intro⟩ dd (by rw [sizeLine_eq]; simp) fun h' dd' hs => ⟨.ref s.heap.objs.size, _, ?_, show L2.RelV (.ref _) _ from rfl, q2⟩
    have he : ∃ q, h'.get? s.heap.objs.size = some q := let ⟨q, _, _, hq, _⟩ := dd'; ⟨q, hq⟩
    exact d_write I2 (by rw [e]; exact True.intro) hs he (dk_new (by rw [sizeLine_eq]; simp) hd (KV.put .nil kk rw') dd')
  · cases (show u = Value.ref b from ru)
    obtain ⟨hd, dd⟩ := nil_K_T I2.hok (.inl e)
    show wpAny _ _ (forIn [(Value.ref b, w)] PUnit.unit _) _ _ _
    rw [List.forIn_cons]
    refine wpAny_bind (wpAny_bind (wpAny_dictSet_heap (knd := tupleKind (mixKind X.prog X.w)) (hsz := by rw [sizeLine_eq]; simp) (show X.A.units < cLine by omega) (key_of I2.hok hb) dd fun h' dd' hs => wpAny_pure ?_))
    show wpAny _ _ (forIn ([] : List (Value × Value)) PUnit.unit _) _ _ _
    rw [List.forIn_nil]
    refine wpAny_pure ⟨.ref s.heap.objs.size, _, ?_, show L2.RelV (.ref _) _ from rfl, q2⟩
    obtain ⟨q', es, ep, hq, h2, h3, h4, _, h5⟩ := dd'
    have rel : KT (upd H2 s.heap.objs.size (.dT [(ks, y)])) [(ks, y)] (storedH [] ks b w) := by
      refine .cons ⟨rfl, ?_, rw'⟩ .nil
      rw [upd_ne (ne_of hb e (fun z => nomatch z))]
      exact hb
    exact d_write I2 (by rw [e]; exact True.intro) hs ⟨q', hq⟩ ⟨by rw [sizeLine_eq]; simp, hd, _, rel, q', es, ep, hq, h2, h3, h4, h5⟩
def dD1 (k v : D) : Option D := if ((keyK k).isSome && flat v) = true then some (.dict [(k, v)]) else none
theorem qe_d1 {k v : Expr} {fk fv : FE} {ck cv : Esc} {pos : Pos} (hu : X.A.units + 1 < cLine) (hk : PE X k (tD K (.br 1) fk ck)) (hv : PE X v (tD K (.br 1) fv cv)) (hκ : κ.one = true := by rfl) : PE X (.Dict [some k] [v] pos) (tD K κ (eOp dD1 fk fv) []) := (pe_disp1 hu hk hv).imp fun σ H Q ⟨B, L, ρ, d, g, es, hf, q⟩ => fun p hp => by
  obtain ⟨dx, dy, h1, h2, h3⟩ := o2_some hf
  obtain ⟨hc, rfl⟩ := ite_some h3
  simp only [Bool.and_eq_true] at hc
  have s0 : Same H (upd H p (.dK [])) := same_upd hp
  refine ⟨[], _, ρ, dx, (g.mono s0).zero, .zero, h1, fun x H1 s1 p1 => ?_⟩
  refine ⟨[], _, ρ, dy, ((g.mono s0).mono s1).zero, .zero, h2, fun y H2 s2 p2 => ?_⟩
  have e2 : H2 p = some (.dK []) := s2 _ _ (s1 _ _ upd_same)
  have rx : R K H2 x dx := (RL.r0 p1).mono s2
  have ry : R K H2 y dy := RL.r0 p2
  have top : isTop (.dict [(dx, dy)]) = true := by
    have := hc.1
    cases dx <;> first | rfl | simp [keyK, keyOf] at this
  have s02 : Same H H2 := (s0.trans s1).trans s2
  have ok2 : Ok (p :: B) H2 := (g.ok.mono s02).cons e2 rfl
  have hp2 : ∀ u, Same (hid (p :: B) H2) (hid (p :: B) (upd H2 p u)) := fun u b o q => by
    obtain ⟨q1, q2⟩ := hid_some q
    rw [hid_out q1, upd_ne fun z => q1 (by rw [z]; exact List.mem_cons_self)]
    exact q2
  have hs : ∀ u, Same H (upd H2 p u) := fun u b o q => by
    rw [upd_ne fun z => by rw [z, hp] at q; cases q]
    exact s02 _ _ q
  have ry' : ∀ u, R K (hid (p :: B) (upd H2 p u)) y dy := fun u => (R.hidF ok2.noTup ry hc.2).mono (hp2 u)
  refine ⟨e2, x, y, rfl, ?_⟩
  rcases key_is rx hc.1 with ⟨kk, rfl, rfl, _⟩ | ⟨ks, b, rfl, rfl, hb, _⟩
  · exact .inl ⟨kk, rfl, q _ _ (hs _) (Post.newD g.ok.trk hp upd_same top (.inl ⟨_, rfl, .cons (ry' _) .nil⟩) hκ)⟩
  · exact .inr ⟨ks, b, rfl, hb, q _ _ (hs _) (Post.newD g.ok.trk hp upd_same top (.inr ⟨_, rfl, .cons (ry' _) .nil⟩) hκ)⟩
end
end DS
end

section
set_option Elab.async false
set_option linter.all false
set_option maxRecDepth 100000
/-! Dicts, part f: name = [.. for k in d ..]. -/
namespace DS
open PySem PySem.Spec PyProof.Rows L2
section
variable {X : Cx} {K : PySem.W.Frag} {κ : Mo}
theorem eLc_list {fi : FA} {t : Tg} {ft : FT} {fe : FE} {vs : List Nat} {ρ : PEnv} {d : D} (h : eLc fi t ft fe vs ρ = some d) : flat d = false := by
  obtain ⟨ds, h1, h2⟩ := o1_some h
  split at h2
  · obtain ⟨ys, h3, h4⟩ := o1_some h2
    cases (Option.some.inj h4)
    rfl
  · cases h2
theorem eLc_it {fi : FA} {t : Tg} {ft : FT} {fe : FE} {vs : List Nat} {ρ : PEnv} {d : D} (h : eLc fi t ft fe vs ρ = some d) : ∃ ds, fi ρ = some ds := by
  obtain ⟨ds, h1, h2⟩ := o1_some h
  exact ⟨ds, h1⟩
theorem demote_app : ∀ {c c' : Esc} {L : List Nat}, demote (c ++ c') L = demote c' (demote c L)
  | [], _, _ => rfl
  | (_, _) :: c, c', L => demote_app (c := c)
theorem ss_setLcD (j i l : Nat) {y : Str} {py : Pos} {elt tg : Expr} {x : Str} {p : Pos} {ifs : List Expr} {scope : Scope} {own : List (Str × Nat)} {pos spos : Pos} {ce : Esc} {t : Tg} {ft : FT} {fe : FE} (hc : X.calm = true) (hN : X.N.Nodup) (hx : PE X (.Name x p) (tVar j)) (ok : BlkOk X.N X.env.scope scope own)
    (hg : ∀ (s : Shared) (H : Hp) (C : Addr) (cl : List (Str × Addr)) (fp : List Addr), PG (X.blk s H scope (compEnvC scope cl C X.env) fp) tg (tG K t)) (ht : ∀ (s : Shared) (H : Hp) (C : Addr) (cl : List (Str × Addr)) (fp : List Addr), PTs (X.blk s H scope (compEnvC scope cl C X.env) fp) ifs (tT K ft))
    (he : ∀ (s : Shared) (H : Hp) (C : Addr) (cl : List (Str × Addr)) (fp : List Addr), PE (X.blk s H scope (compEnvC scope cl C X.env) fp) elt (tD K (.br 0) fe ce)) (hl : l ≤ 1 := by decide) (hy : X.N[i]? = some y := by rfl) (hyl : X.env.scope.names.lookup y = some .local := by rfl)
    (hsw : swapsWith (.ListComp elt [⟨tg, .Name x p, ifs, 0⟩] scope pos) (some (.Name y py)) spos.line X.env = pure true := by exact sw_true rfl rfl rfl (by decide +kernel)) (hv : t.ix.all ((own.map (·.2)).contains ·) = true := by rfl) (hs : ∀ z, foldedSetIterable (.Name x p) X.env z = pure z := by intro _; rfl) :
    PS X (.Assign [.Name y py] (.ListComp elt [⟨tg, .Name x p, ifs, 0⟩] scope pos) spos) (tS K (sSet i l (eLc (iDk (eVar j)) t ft fe (own.map (·.2))) ([(j, 0)] ++ ce))) :=
  (PS.either (ps_lock (ps_setLc hc hN hy hyl hsw (pi_keys hx) ok hg ht he hs)) (ps_setLc hc hN hy hyl hsw (pi_keys hx) ok hg ht he hs)).imp fun E σ H ⟨B0, G, s, hs, q⟩ => by
    have hκ : (moOf l).one = true := by match l, hl with | 0, _ => rfl | 1, _ => rfl
    have q0 := q
    unfold sSet at q
    split at q
    · exact q.elim
    · rename_i d0 hd0
      obtain ⟨ds, hds⟩ := eLc_it hd0
      obtain ⟨O, B, g0⟩ := hs
      obtain ⟨O', B', g, _⟩ := g0.demote [(j, 0)]
      have hL : lv (demote [(j, 0)] s.2) j ≤ 0 := demote_ok [(j, 0)] s.2 (j, 0) List.mem_cons_self
      obtain ⟨d, h1, h2⟩ := o1_some hds
      obtain ⟨es, rfl, rfl, hn⟩ := keysD_some h2
      obtain ⟨v, e1, r⟩ := g.good.slot j _ (eVar_some h1)
      rw [show lv (demote [(j, 0)] s.2) j = 0 by omega] at r
      obtain ⟨a, rfl, ha, u, hu, hr, _⟩ := dict_seen hn r.r
      rcases hr with hr | ⟨od, hr⟩
      · refine .inl ⟨a, u, hr, hu.mut, fun od => ?_⟩
        obtain ⟨G', k1, k2, k3⟩ := GS.lock (od := od) g ha hr hu
        have h0 : a ∉ B0 := fun z => ha ((g.memB a).mpr (.inl z))
        have e2 : sSet i l (eLc (iDk (eVar j)) t ft fe (own.map (·.2))) ([(j, 0)] ++ ce) (s.1, demote [(j, 0)] s.2) = sSet i l (eLc (iDk (eVar j)) t ft fe (own.map (·.2))) ([(j, 0)] ++ ce) s := by
          unfold sSet
          simp only [hd0, eLc_list hd0]
          have : demote [(j, 0)] (demote [(j, 0)] s.2) = demote [(j, 0)] s.2 := by
            show (if lv (demote [(j, 0)] s.2) j ≤ 0 then demote [(j, 0)] s.2 else _) = _
            rw [if_pos hL]
          have e3 : demote ([(j, 0)] ++ ce) (demote [(j, 0)] s.2) = demote ([(j, 0)] ++ ce) s.2 := by
            rw [demote_app, demote_app, this]
          rw [e3]
          simp
        obtain ⟨B1, L1, ρ1, d1, gg, es1, hf1, qq⟩ := set_ok (K := K) (i := i) (l := l) (f := eLc (iDk (eVar j)) t ft fe (own.map (·.2))) (c := [(j, 0)] ++ ce) (by omega) (lockE E a od u) σ _ ⟨B0, G', _, k3, by rw [e2]; exact Fin.lock k1 k2 h0 q0⟩
        exact lc_core (m := 1) rfl hv hκ σ _ _ B1 L1 ρ1 d1 gg es1 hf1 qq fun ds Rr h1 hR => hti_dict gg (es1.left (j, 0) List.mem_cons_self) h1 e1 upd_same Rr hR
      · obtain ⟨B1, L1, ρ1, d1, gg, es1, hf1, qq⟩ := set_ok (K := K) (i := i) (l := l) (f := eLc (iDk (eVar j)) t ft fe (own.map (·.2))) (c := [(j, 0)] ++ ce) (by omega) E σ H ⟨B0, G, s, ⟨O, B, g0⟩, q0⟩
        exact .inr (lc_core (m := 1) rfl hv hκ σ _ _ B1 L1 ρ1 d1 gg es1 hf1 qq fun ds Rr h1 hR => hti_dict gg (es1.left (j, 0) List.mem_cons_self) h1 e1 hr Rr hR)
end
end DS
end

section
set_option Elab.async false
set_option linter.all false
set_option maxRecDepth 100000
set_option maxHeartbeats 1000000
/-! Part g: bits; a, b = [..], [..], both their own; a, b = flat, [..]. -/
namespace DS
open PySem PySem.Spec PyProof.Rows L2
def dAnd : D → D → Option D
  | .int i, .int j => some (.int (Builtin.bitAnd i j))
  | _, _ => none
def dOr : D → D → Option D
  | .int i, .int j => some (.int (Builtin.bitOr i j))
  | _, _ => none
theorem OpD.ii0 {K : PySem.W.Frag} {gV : Int → Int → Int} {op : D → D → Option D} (h : ∀ dx dy d, op dx dy = some d → ∃ i j, dx = .int i ∧ dy = .int j ∧ d = .int (gV i j)) : OpD K (rI0 fun i j => .int (gV i j)) op := by
  intro B x y dx dy d H Q hB rx ry ho q
  obtain ⟨i, j, rfl, rfl, rfl⟩ := h _ _ _ ho
  exact ⟨i, j, rx.int, ry.int, q _ H (Same.refl H) fun κ _ => Post.of_flat (.int _) rfl⟩
section
variable {X : Cx} {K : PySem.W.Frag} {κ : Mo} {a b : Expr} {fa fb : FE} {ca cb : Esc} {pos : Pos}
theorem qe_band (ha : PE X a (tD K (.br 1) fa ca)) (hb : PE X b (tD K (.br 1) fb cb)) (hκ : κ.one = true := by rfl) : PE X (.BinOp a .BitAnd b pos) (tD K κ (eOp dAnd fa fb) (ca ++ cb)) :=
  qe_op op_and (OpD.ii0 fun dx dy d h => by
    unfold dAnd at h
    split at h
    · exact ⟨_, _, rfl, rfl, (Option.some.inj h).symm⟩
    · cases h) ha hb hκ
theorem qe_bor (ha : PE X a (tD K (.br 1) fa ca)) (hb : PE X b (tD K (.br 1) fb cb)) (hκ : κ.one = true := by rfl) : PE X (.BinOp a .BitOr b pos) (tD K κ (eOp dOr fa fb) (ca ++ cb)) :=
  qe_op op_or (OpD.ii0 fun dx dy d h => by
    unfold dOr at h
    split at h
    · exact ⟨_, _, rfl, rfl, (Option.some.inj h).symm⟩
    · cases h) ha hb hκ
end
def sParFF (i j : Nat) (f g : FE) (c : Esc) : FS := fun s => match f s.1, g s.1 with
  | some d, some e => .next ((s.1.set i (some d)).set j (some e), ((demote c s.2).set i 1).set j 1)
  | _, _ => .stuck
def sParG (i j : Nat) (f g : FE) (c : Esc) : FS := fun s => match f s.1, g s.1 with
  | some d, some e => if flat d = true then .next ((s.1.set i (some d)).set j (some e), ((demote c s.2).set i 0).set j 1) else .stuck
  | _, _ => .stuck
section
variable {X : Cx} {K : PySem.W.Frag}
theorem ss_parFF (i j : Nat) {x y : Str} {a b : Expr} {f g : FE} {c c' : Esc} {px py pt pos : Pos} {kt k2 pt2} (hc : X.calm = true) (hN : X.N.Nodup) (ha : PE X a (tD K .fr f c)) (hb : PE X b (tD K .fr g c'))
    (hw : swappedStores [.Tuple [.Name x px, .Name y py] kt pt] (.Tuple [a, b] k2 pt2) X.env = pure (some [x, y])) (hi : X.N[i]? = some x := by rfl) (hj : X.N[j]? = some y := by rfl) (hij : i ≠ j := by decide)
    (hx : X.env.scope.names.lookup x = some .local := by rfl) (hy : X.env.scope.names.lookup y = some .local := by rfl)
    (hs : swapsWithSole [.Tuple [.Name x px, .Name y py] kt pt] (.Tuple [a, b] k2 pt2) pos.line X.env = pure false := by rfl) (hs1 : starEach [a, b] X.env = (false, eval a X.env) :: starEach [b] X.env := by rfl) (hs2 : starEach [b] X.env = (false, eval b X.env) :: starEach [] X.env := by rfl) :
    PS X (.Assign [.Tuple [.Name x px, .Name y py] kt pt] (.Tuple [a, b] k2 pt2) pos) (tS K (sParFF i j f g (c ++ c'))) := (ps_par hc hN hi hj hij hx hy (pa_cons ha (pa_cons hb pa_nil hs2) hs1) hw hs).imp fun E σ H ⟨B0, G, s, hs, q⟩ => by
  unfold sParFF at q
  split at q
  · rename_i d e hd he
    obtain ⟨O, B, gd⟩ := hs
    obtain ⟨O', B', g', _⟩ := gd.demote (c ++ c')
    have esc := demote_ok (c ++ c') s.2
    refine ⟨B', lv (demote (c ++ c') s.2), s.1, d, g'.good, esc.left, hd, fun v H1 e1 p1 => ?_⟩
    obtain ⟨o1, hn1, nd1, ro1⟩ := p1
    have gg := g'.good
    have sw : Same (hid B' H) (hid (o1 ++ B') H1) := same_hidW e1 fun a h => (List.mem_append.mp h).elim (fun h => .inr (hn1 a h)) .inl
    have gd2 : Good K (o1 ++ B') (lv (demote (c ++ c') s.2)) σ H1 s.1 := ⟨(ro1.mut_aux).append (g'.ok.mono e1), gg.len, fun k d h => let ⟨v, h1, h2⟩ := gg.slot k d h; ⟨v, h1, h2.mono e1 sw⟩⟩
    refine ⟨o1 ++ B', lv (demote (c ++ c') s.2), s.1, e, gd2, esc.right, he, fun w H2 e2 p2 => ?_⟩
    obtain ⟨o2, hn2, nd2, ro2⟩ := p2
    refine ⟨v, w, rfl, q _ H2 ?_⟩
    obtain ⟨O1, B1, g1, hB1⟩ := g'.assign (i := i) e1 hn1 nd1 ro1
    have ro3 : RO K (o2 ++ B1) H2 1 o2 w e := ro2.mono_aux (same_hidW (Same.refl H2) fun a h => .inl ((List.mem_append.mp h).elim (fun h => List.mem_append_left _ h) fun h => List.mem_append_right _ (hB1 a h))) fun _ _ => rfl
    obtain ⟨O2, B2, g2, _⟩ := g1.assign (i := j) e2 hn2 nd2 ro3
    exact ⟨O2, B2, g2⟩
  · exact q.elim
theorem ss_parG (i j : Nat) {x y : Str} {a b : Expr} {f g : FE} {c c' : Esc} {px py pt pos : Pos} {kt k2 pt2} (hc : X.calm = true) (hN : X.N.Nodup) (ha : PE X a (tD K (.br 0) f c)) (hb : PE X b (tD K .fr g c'))
    (hw : swappedStores [.Tuple [.Name x px, .Name y py] kt pt] (.Tuple [a, b] k2 pt2) X.env = pure (some [x, y])) (hi : X.N[i]? = some x := by rfl) (hj : X.N[j]? = some y := by rfl) (hij : i ≠ j := by decide)
    (hx : X.env.scope.names.lookup x = some .local := by rfl) (hy : X.env.scope.names.lookup y = some .local := by rfl)
    (hs : swapsWithSole [.Tuple [.Name x px, .Name y py] kt pt] (.Tuple [a, b] k2 pt2) pos.line X.env = pure false := by rfl) (hs1 : starEach [a, b] X.env = (false, eval a X.env) :: starEach [b] X.env := by rfl) (hs2 : starEach [b] X.env = (false, eval b X.env) :: starEach [] X.env := by rfl) :
    PS X (.Assign [.Tuple [.Name x px, .Name y py] kt pt] (.Tuple [a, b] k2 pt2) pos) (tS K (sParG i j f g c')) := (ps_par hc hN hi hj hij hx hy (pa_cons ha (pa_cons hb pa_nil hs2) hs1) hw hs).imp fun E σ H ⟨B0, G, s, hs, q⟩ => by
  unfold sParG at q
  split at q
  · rename_i d e hd he
    split at q
    · rename_i hfl
      obtain ⟨O, B, gd⟩ := hs
      obtain ⟨O', B', g', _⟩ := gd.demote c'
      refine ⟨[], _, s.1, d, gd.good.zero, .zero, hd, fun v H1 e1 p1 => ?_⟩
      refine ⟨B', lv (demote c' s.2), s.1, e, (g'.mono e1).good, demote_ok _ s.2, he, fun w H2 e2 p2 => ?_⟩
      obtain ⟨o2, hn2, nd2, ro2⟩ := p2
      refine ⟨v, w, rfl, q _ H2 ?_⟩
      obtain ⟨O1, B1, g1, hB1⟩ := (g'.mono e1).assign0 (i := i) ((RL.r0 p1).hidF (g'.mono e1).ok.noTup hfl)
      have ro3 : RO K (o2 ++ B1) H2 1 o2 w e := ro2.mono_aux (same_hidW (Same.refl H2) fun a h => .inl ((List.mem_append.mp h).elim (fun h => List.mem_append_left _ h) fun h => List.mem_append_right _ (hB1 a h))) fun _ _ => rfl
      obtain ⟨O2, B2, g2, _⟩ := g1.assign (i := j) e2 hn2 nd2 ro3
      exact ⟨O2, B2, g2⟩
    · exact q.elim
  · exact q.elim
end
end DS
end

section


end

section
set_option Elab.async false
set_option linter.all false
/-! Part l: rewriting rules by which a def's function on trees is reckoned. -/
namespace DS
open PySem
section
variable {α β γ : Type} {ρ : PEnv} {d e : D} {s : S}
@[simp] theorem o1_s (a : α) (g : α → Option γ) : o1 (some a) g = g a := id rfl
@[simp] theorem o1_n (g : α → Option γ) : o1 none g = none := id rfl
@[simp] theorem o2_ss (a : α) (b : β) (g : α → β → Option γ) : o2 (some a) (some b) g = g a b := id rfl
@[simp] theorem o2_n (y : Option β) (g : α → β → Option γ) : o2 none y g = none := id rfl
@[simp] theorem eC_a (d : D) (ρ : PEnv) : eC d ρ = some d := id rfl
@[simp] theorem eVar_0 (d : D) (ρ : PEnv) : eVar 0 (some d :: ρ) = some d := id rfl
@[simp] theorem eVar_s (n : Nat) (x : Option D) (ρ : PEnv) : eVar (n + 1) (x :: ρ) = eVar n ρ := id rfl
@[simp] theorem aNil_a (ρ : PEnv) : aNil ρ = some [] := id rfl
@[simp] theorem aCons_a (f : FE) (r : FA) (ρ : PEnv) : aCons f r ρ = o2 (f ρ) (r ρ) fun d ds => some (d :: ds) := id rfl
@[simp] theorem eOp_a (op : D → D → Option D) (f g : FE) (ρ : PEnv) : eOp op f g ρ = o2 (f ρ) (g ρ) op := id rfl
@[simp] theorem eUn_a (op : D → Option D) (f : FE) (ρ : PEnv) : eUn op f ρ = o1 (f ρ) op := id rfl
@[simp] theorem eIx_a (f g : FE) (ρ : PEnv) : eIx f g ρ = o2 (f ρ) (g ρ) dIx := id rfl
@[simp] theorem eCB_a (op : List D → Option D) (fs : FA) (ρ : PEnv) : eCB op fs ρ = o1 (fs ρ) op := id rfl
@[simp] theorem eB_a (f : FT) (ρ : PEnv) : eB f ρ = o1 (f ρ) fun b => some (.bool b) := id rfl
@[simp] theorem tCmp_a (op : D → D → Option Bool) (f g : FE) (ρ : PEnv) : tCmp op f g ρ = o2 (f ρ) (g ρ) op := id rfl
@[simp] theorem tTru_a (f : FE) (ρ : PEnv) : tTru f ρ = o1 (f ρ) dTru := id rfl
@[simp] theorem tNotD_a (f : FT) (ρ : PEnv) : tNotD f ρ = o1 (f ρ) fun b => some !b := id rfl
@[simp] theorem tIsND_a (f : FE) (ρ : PEnv) : tIsND f ρ = o1 (f ρ) fun d => some (isNon d) := id rfl
@[simp] theorem tNotND_a (f : FE) (ρ : PEnv) : tNotND f ρ = o1 (f ρ) fun d => some (!isNon d) := id rfl
@[simp] theorem eIsN_a (f : FE) (ρ : PEnv) : eIsN f ρ = o1 (f ρ) fun d => some (.bool (isNon d)) := id rfl
@[simp] theorem eNotN_a (f : FE) (ρ : PEnv) : eNotN f ρ = o1 (f ρ) fun d => some (.bool (!isNon d)) := id rfl
@[simp] theorem tTrue_a (ρ : PEnv) : tTrue ρ = some true := id rfl
@[simp] theorem eIsi_a (n : String) (f : FE) (ρ : PEnv) : eIsi n f ρ = o1 (f ρ) fun d => o1 (isTy d n) fun b => some (.bool b) := id rfl
@[simp] theorem iSeq_a (f : FE) (ρ : PEnv) : iSeq f ρ = o1 (f ρ) seqOf := id rfl
@[simp] theorem seqOf_l (ds : List D) : seqOf (.list ds) = some ds := id rfl
@[simp] theorem seqOf_t (ds : List D) : seqOf (.tuple ds) = some ds := id rfl
@[simp] theorem d1_1 (op : D → Option D) (x : D) : d1 op [x] = op x := id rfl
@[simp] theorem d2_2 (op : D → D → Option D) (x y : D) : d2 op [x, y] = op x y := id rfl
@[simp] theorem dLen_l (ds : List D) : dLen (.list ds) = some (.int ds.length) := id rfl
@[simp] theorem dLen_t (ds : List D) : dLen (.tuple ds) = some (.int ds.length) := id rfl
@[simp] theorem dInt_i (i : Int) : dInt (.int i) = some (.int i) := id rfl
@[simp] theorem dInt_b (b : Bool) : dInt (.bool b) = some (.int (if b then 1 else 0)) := id rfl
@[simp] theorem dTuple_l (ds : List D) : dTuple (.list ds) = some (.tuple ds) := id rfl
@[simp] theorem dTuple_t (ds : List D) : dTuple (.tuple ds) = some (.tuple ds) := id rfl
@[simp] theorem dList_l (ds : List D) : dList (.list ds) = some (.list ds) := id rfl
@[simp] theorem dList_t (ds : List D) : dList (.tuple ds) = some (.list ds) := id rfl
@[simp] theorem dAdd_i (i j : Int) : dAdd (.int i) (.int j) = some (.int (i + j)) := id rfl
@[simp] theorem dAddI_i (i j : Int) : dAddI (.int i) (.int j) = some (.int (i + j)) := id rfl
@[simp] theorem dSub_i (i j : Int) : dSub (.int i) (.int j) = some (.int (i - j)) := id rfl
@[simp] theorem dNeg_i (i : Int) : dNeg (.int i) = some (.int (-i)) := id rfl
@[simp] theorem dLt_i (i j : Int) : dLt (.int i) (.int j) = some (decide (i < j)) := id rfl
@[simp] theorem dLe_i (i j : Int) : dLe (.int i) (.int j) = some (decide (i ≤ j)) := id rfl
@[simp] theorem dGt_i (i j : Int) : dGt (.int i) (.int j) = some (decide (j < i)) := id rfl
@[simp] theorem dGe_i (i j : Int) : dGe (.int i) (.int j) = some (decide (j ≤ i)) := id rfl
@[simp] theorem dEq_i (i j : Int) : dEq (.int i) (.int j) = some (decide (i = j)) := by
  unfold dEq
  rw [if_pos (by rfl)]
  simp [PyData.eqv]
  rfl
@[simp] theorem dNe_i (i j : Int) : dNe (.int i) (.int j) = some (!decide (i = j)) := by
  unfold dNe
  rw [if_pos (by rfl)]
  simp [PyData.eqv]
  rfl
@[simp] theorem dTru_b (b : Bool) : dTru (.bool b) = some b := id rfl
@[simp] theorem dTru_i (i : Int) : dTru (.int i) = some (i != 0) := id rfl
@[simp] theorem dTru_l (ds : List D) : dTru (.list ds) = some !ds.isEmpty := id rfl
@[simp] theorem dTru_t (ds : List D) : dTru (.tuple ds) = some !ds.isEmpty := id rfl
@[simp] theorem dTru_n : dTru .none = some false := id rfl
@[simp] theorem isNon_n : isNon .none = true := id rfl
@[simp] theorem isNon_b (b : Bool) : isNon (.bool b) = false := id rfl
@[simp] theorem isNon_i (b : Int) : isNon (.int b) = false := id rfl
@[simp] theorem isNon_s (b : Str) : isNon (.str b) = false := id rfl
@[simp] theorem isNon_l (b : List D) : isNon (.list b) = false := id rfl
@[simp] theorem isNon_t (b : List D) : isNon (.tuple b) = false := id rfl
theorem dMul_i {i j : Int} (h : mulOk i j = true) : dMul (.int i) (.int j) = some (.int (i * j)) := by
  show (if mulOk i j = true then _ else _) = _
  rw [if_pos h]
theorem dFdiv_i {i j : Int} (h : fdivOk j = true) : dFdiv (.int i) (.int j) = some (.int (i / j)) := by
  show (if fdivOk j = true then _ else _) = _
  rw [if_pos h]
theorem dMod_i {i j : Int} (h : 0 < j) : dMod (.int i) (.int j) = some (.int (i % j)) := by
  show (if 0 < j then _ else _) = _
  rw [if_pos h]
theorem mulOk_l {i j : Int} (h : i.natAbs < 18446744073709551616) : mulOk i j = true := by
  simp [mulOk, h]
theorem mulOk_r {i j : Int} (h : j.natAbs < 18446744073709551616) : mulOk i j = true := by
  simp [mulOk, h]
theorem log2_le_of_lt {a : Nat} {n : Nat} (h : a < 2 ^ n) (hn : 0 < n) : a.log2 < n := by
  by_cases ha : a = 0
  · subst ha; simpa using hn
  · exact (Nat.log2_lt ha).mpr h
theorem mulOk_big {i j : Int} {m n : Nat} (hi : i.natAbs < 2 ^ m) (hj : j.natAbs < 2 ^ n) (hm : 0 < m) (hn : 0 < n) (h : m + n ≤ 1000000) : mulOk i j = true := by
  have h1 := log2_le_of_lt hi hm
  have h2 := log2_le_of_lt hj hn
  unfold mulOk
  rw [Bool.or_eq_true]
  right
  exact decide_eq_true (by omega)
theorem fdivOk_of {j : Int} {n : Nat} (h0 : 0 < j) (hj : j.natAbs < 2 ^ n) (hn : 0 < n) (h : n ≤ 9000) : fdivOk j = true := by
  have h1 := log2_le_of_lt hj hn
  unfold fdivOk
  rw [Bool.and_eq_true]
  exact ⟨decide_eq_true h0, decide_eq_true (by omega)⟩
/-! statements -/
@[simp] theorem sNil_a (s : S) : sNil s = .next s := id rfl
@[simp] theorem sRet_a (f : FE) (s : S) : sRet f s = match f s.1 with | none => .stuck | some d => .ret d := id rfl
theorem sSeq_next {f g : FS} {s s' : S} (h : f s = .next s') : sSeq f g s = g s' := by
  unfold sSeq; rw [h]
theorem sSeq_ret {f g : FS} {s : S} {d : D} (h : f s = .ret d) : sSeq f g s = .ret d := by
  unfold sSeq; rw [h]
theorem sSet_next {i l : Nat} {f : FE} {c : Esc} {s : S} {d : D} (h : f s.1 = some d) : sSet i l f c s = if flat d = true then .next (s.1.set i (some d), s.2.set i 0) else .next (s.1.set i (some d), (demote c s.2).set i l) := by
  unfold sSet; rw [h]
theorem sIf_t {c : FT} {f g : FS} {s : S} (h : c s.1 = some true) : sIf c f g s = f s := by
  unfold sIf; rw [h]
theorem sIf_f {c : FT} {f g : FS} {s : S} (h : c s.1 = some false) : sIf c f g s = g s := by
  unfold sIf; rw [h]
theorem eCall_a {n : Nat} {F : Fn} {fs : FA} {ρ : PEnv} {ds : List D} (h : fs ρ = some ds) (hn : ds.length = n) : eCall n F fs ρ = F ds := by
  unfold eCall; rw [h]; simp [hn]
end
/-! calls: no step by reckoning, so that nothing looks into the function called -/
section
variable {ρ : PEnv} {F : Fn} {f1 f2 f3 f4 f5 f6 : FE}
@[simp] theorem eCall_1 : eCall 1 F (aCons f1 aNil) ρ = o1 (f1 ρ) fun x => F [x] := by
  unfold eCall aCons aNil; cases f1 ρ <;> rfl
@[simp] theorem eCall_2 : eCall 2 F (aCons f1 (aCons f2 aNil)) ρ = o1 (f1 ρ) fun x => o1 (f2 ρ) fun y => F [x, y] := by
  unfold eCall aCons aNil; cases f1 ρ <;> cases f2 ρ <;> rfl
@[simp] theorem eCall_3 : eCall 3 F (aCons f1 (aCons f2 (aCons f3 aNil))) ρ = o1 (f1 ρ) fun x => o1 (f2 ρ) fun y => o1 (f3 ρ) fun z => F [x, y, z] := by
  unfold eCall aCons aNil; cases f1 ρ <;> cases f2 ρ <;> cases f3 ρ <;> rfl
@[simp] theorem eCall_4 : eCall 4 F (aCons f1 (aCons f2 (aCons f3 (aCons f4 aNil)))) ρ = o1 (f1 ρ) fun x => o1 (f2 ρ) fun y => o1 (f3 ρ) fun z => o1 (f4 ρ) fun u => F [x, y, z, u] := by
  unfold eCall aCons aNil; cases f1 ρ <;> cases f2 ρ <;> cases f3 ρ <;> cases f4 ρ <;> rfl
@[simp] theorem eCall_5 : eCall 5 F (aCons f1 (aCons f2 (aCons f3 (aCons f4 (aCons f5 aNil))))) ρ = o1 (f1 ρ) fun x => o1 (f2 ρ) fun y => o1 (f3 ρ) fun z => o1 (f4 ρ) fun u => o1 (f5 ρ) fun v => F [x, y, z, u, v] := by
  unfold eCall aCons aNil; cases f1 ρ <;> cases f2 ρ <;> cases f3 ρ <;> cases f4 ρ <;> cases f5 ρ <;> rfl
@[simp] theorem eCall_6 : eCall 6 F (aCons f1 (aCons f2 (aCons f3 (aCons f4 (aCons f5 (aCons f6 aNil)))))) ρ = o1 (f1 ρ) fun x => o1 (f2 ρ) fun y => o1 (f3 ρ) fun z => o1 (f4 ρ) fun u => o1 (f5 ρ) fun v => o1 (f6 ρ) fun w => F [x, y, z, u, v, w] := by
  unfold eCall aCons aNil; cases f1 ρ <;> cases f2 ρ <;> cases f3 ρ <;> cases f4 ρ <;> cases f5 ρ <;> cases f6 ρ <;> rfl
@[simp] theorem eCall_7 {f7 : FE} : eCall 7 F (aCons f1 (aCons f2 (aCons f3 (aCons f4 (aCons f5 (aCons f6 (aCons f7 aNil))))))) ρ = o1 (f1 ρ) fun x => o1 (f2 ρ) fun y => o1 (f3 ρ) fun z => o1 (f4 ρ) fun u => o1 (f5 ρ) fun v => o1 (f6 ρ) fun w => o1 (f7 ρ) fun t => F [x, y, z, u, v, w, t] := by
  unfold eCall aCons aNil; cases f1 ρ <;> cases f2 ρ <;> cases f3 ρ <;> cases f4 ρ <;> cases f5 ρ <;> cases f6 ρ <;> cases f7 ρ <;> rfl
end
theorem sRet_ok {f : FE} {s : S} {d : D} (h : f s.1 = some d) : sRet f s = .ret d := by
  unfold sRet; rw [h]
theorem dfun_ret {N n : Nat} {body : FS} {ds : List D} {d : D} (ρ : PEnv) (L : List Nat) (hn : ds.length = n) (hρ : ds.map some ++ List.replicate (N - n) none = ρ) (hL : List.replicate N 0 = L) (h : body (ρ, L) = .ret d) : dfun N n body ds = some d := by
  unfold dfun
  rw [if_pos hn, hρ, hL, h]
theorem sSet_any {i l : Nat} {f : FE} {c : Esc} {ρ : PEnv} {L : List Nat} {d : D} (h : f ρ = some d) : ∃ L', sSet i l f c (ρ, L) = .next (ρ.set i (some d), L') := by
  rw [sSet_next (s := (ρ, L)) h]
  split <;> exact ⟨_, rfl⟩
theorem sPar_flat {i j : Nat} {f g : FE} {c : Esc} {ρ : PEnv} {L : List Nat} {d e : D} (h : f ρ = some d) (h' : g ρ = some e) (hd : flat d = true) (he : flat e = true) : sPar i j f g c (ρ, L) = .next ((ρ.set i (some d)).set j (some e), (L.set i 0).set j 0) := by
  unfold sPar
  simp only [h, h', hd, he]
  rfl
theorem sSet_flat {i l : Nat} {f : FE} {c : Esc} {ρ : PEnv} {L : List Nat} {d : D} (h : f ρ = some d) (hd : flat d = true) : sSet i l f c (ρ, L) = .next (ρ.set i (some d), L.set i 0) := by
  rw [sSet_next (s := (ρ, L)) h, if_pos hd]
end DS
end

section
set_option Elab.async false
set_option linter.all false
set_option maxRecDepth 10000
namespace Lib
open DS PySem
def den_divisor : Fn := dfun 2 2 (sSeq (sPar 0 1 (eCB (d1 dAbs) (aCons (eVar 0) aNil)) (eCB (d1 dAbs) (aCons (eVar 1) aNil)) ([] ++ []))
  (sSeq (sWhile 100000 (tCmp dGt (eVar 1) (eC (.int 0)))
  (sPar 0 1 (eVar 1) (eOp dMod (eVar 0) (eVar 1)) ([(1, 0)] ++ ([(0, 1)] ++ [(1, 1)]))))
  (sRet (eVar 0))))
def den_lowest : Fn := dfun 3 2 (sSeq (sSet 2 0 (eIfD (tCmp dGt (eVar 1) (eC (.int 0))) (eCall 2 den_divisor (aCons (eVar 0) (aCons (eVar 1) aNil))) (eUn dNeg (eCall 2 den_divisor (aCons (eVar 0) (aCons (eVar 1) aNil))))) (([(0, 0)] ++ ([(1, 0)] ++ [])) ++ []))
  (sRet (eTup (aCons (eOp dFdiv (eVar 0) (eVar 2)) (aCons (eOp dFdiv (eVar 1) (eVar 2)) aNil)))))
def den_plus : Fn := dfun 2 2 (sRet (eCall 2 den_lowest (aCons (eOp dAdd (eOp dMul (eIx (eVar 0) (eC (.int 0))) (eIx (eVar 1) (eC (.int 1)))) (eOp dMul (eIx (eVar 1) (eC (.int 0))) (eIx (eVar 0) (eC (.int 1))))) (aCons (eOp dMul (eIx (eVar 0) (eC (.int 1))) (eIx (eVar 1) (eC (.int 1)))) aNil))))
def den_minus : Fn := dfun 2 2 (sRet (eCall 2 den_lowest (aCons (eOp dSub (eOp dMul (eIx (eVar 0) (eC (.int 0))) (eIx (eVar 1) (eC (.int 1)))) (eOp dMul (eIx (eVar 1) (eC (.int 0))) (eIx (eVar 0) (eC (.int 1))))) (aCons (eOp dMul (eIx (eVar 0) (eC (.int 1))) (eIx (eVar 1) (eC (.int 1)))) aNil))))
def den_times : Fn := dfun 2 2 (sRet (eCall 2 den_lowest (aCons (eOp dMul (eIx (eVar 0) (eC (.int 0))) (eIx (eVar 1) (eC (.int 0)))) (aCons (eOp dMul (eIx (eVar 0) (eC (.int 1))) (eIx (eVar 1) (eC (.int 1)))) aNil))))
def den_is_less : Fn := dfun 2 2 (sRet (eB (tCmp dLt (eOp dMul (eIx (eVar 0) (eC (.int 0))) (eIx (eVar 1) (eC (.int 1)))) (eOp dMul (eIx (eVar 1) (eC (.int 0))) (eIx (eVar 0) (eC (.int 1)))))))
def den_total : Fn := dfun 3 1 (sSeq (sSet 1 0 (eTup (aCons (eC (.int 0)) (aCons (eC (.int 1)) aNil))) ([] ++ ([] ++ [])))
  (sSeq (sFor (iSeq (eVar 0)) [(0, 0)] (.nm 2)
  (sSet 1 0 (eCall 2 den_plus (aCons (eVar 1) (aCons (eVar 2) aNil))) ([(1, 0)] ++ ([(2, 0)] ++ []))))
  (sRet (eVar 1))))
def den_greatest : Fn := dfun 3 1 (sSeq (sSet 1 0 (eIx (eVar 0) (eC (.int 0))) [(0, 1)])
  (sSeq (sFor (iSeq (eVar 0)) [(0, 0)] (.nm 2)
  (sSet 1 0 (eIfD (tTru (eCall 2 den_is_less (aCons (eVar 1) (aCons (eVar 2) aNil)))) (eVar 2) (eVar 1)) ([(2, 0)] ++ [(1, 0)])))
  (sRet (eVar 1))))
def den_mean_of : Fn := dfun 4 1 (sSeq (sSet 1 0 (eCB (d1 dSum) (aCons (eLc (iSeq (eVar 0)) (.tp [(.nm 2), (.nm 3)]) tTrue (eVar 2) [2, 3]) aNil)) [])
  (sRet (eCall 1 den_total (aCons (eLc (iSeq (eVar 0)) (.tp [(.nm 2), (.nm 3)]) tTrue (eCall 2 den_times (aCons (eVar 3) (aCons (eCall 2 den_lowest (aCons (eVar 2) (aCons (eVar 1) aNil))) aNil))) [2, 3]) aNil))))
def den__law_mixed : Fn := dfun 6 2 (sSeq (sSet 2 0 (eC (.int 0)) [])
  (sSeq (sIf (tCmp dGt (eCB (d1 dLen) (aCons (eVar 0) aNil)) (eC (.int 0)))
  (sSet 2 0 (eIx (eVar 0) (eOp dMod (eVar 1) (eCB (d1 dLen) (aCons (eVar 0) aNil)))) [(0, 1)])
  sNil)
  (sSeq (sSet 3 0 (eOp dMod (eCB (d1 dInt) (aCons (eOp dAdd (eOp dAdd (eOp dMul (eVar 2) (eC (.int 48271))) (eOp dMul (eVar 1) (eC (.int 69621)))) (eC (.int 8191))) aNil)) (eC (.int 2147483647))) ([] ++ []))
  (sSeq (sSet 4 0 (eOp dMod (eCB (d1 dInt) (aCons (eOp dAdd (eOp dAdd (eOp dMul (eVar 3) (eVar 3)) (eOp dFdiv (eVar 3) (eC (.int 7)))) (eOp dMul (eVar 1) (eC (.int 16807)))) aNil)) (eC (.int 2147483629))) ([] ++ []))
  (sSeq (sSet 5 0 (eOp dMod (eCB (d1 dInt) (aCons (eOp dAdd (eOp dAdd (eOp dMul (eVar 4) (eVar 4)) (eOp dFdiv (eVar 4) (eC (.int 11)))) (eC (.int 40692))) aNil)) (eC (.int 2147483563))) ([] ++ []))
  (sRet (eOp dMod (eOp dFdiv (eVar 5) (eC (.int 5))) (eC (.int 1000003)))))))))
def den__law_row : Fn := dfun 5 2 (sSeq (sSet 2 0 (eC (.int 0)) [])
  (sSeq (sIf (tAndD (tCmp dGt (eCB (d1 dLen) (aCons (eVar 0) aNil)) (eC (.int 0))) (tCmp dGe (eIx (eVar 0) (eC (.int 0))) (eOp dPow (eC (.int 10)) (eC (.int 18)))))
  (sSet 2 0 (eIx (eVar 0) (eC (.int 0))) [(0, 1)])
  sNil)
  (sSeq (sSet 3 1 (eLst aNil) [])
  (sSeq (sFor (iRange1 (eVar 1)) [] (.nm 4)
  (sIf (tCmp dGt (eVar 2) (eC (.int 0)))
  (sSeq (sApp 3 (eOp dMod (eCB (d1 dInt) (aCons (eVar 2) aNil)) (eC (.int 1000))) ([] ++ []))
  (sSet 2 0 (eOp dFdiv (eVar 2) (eC (.int 1000))) ([(2, 1)] ++ [])))
  (sApp 3 (eCall 2 den__law_mixed (aCons (eVar 0) (aCons (eVar 4) aNil))) ([(0, 0)] ++ ([(4, 0)] ++ [])))))
  (sRet (eVar 3))))))
def den__law_is_int : Fn := dfun 1 1 (sRet (eAndD (eIsi "int" (eVar 0)) (eB (tNotD (tTru (eIsi "bool" (eVar 0)))))))
def den__law_like : Nat → Fn
  | 0 => fun _ => none
  | n + 1 => dfun 3 2 (sSeq (sIf (tIsND (eVar 1))
  (sRet (eIsN (eVar 0)))
  sNil)
  (sSeq (sIf (tTru (eIsi "bool" (eVar 1)))
  (sRet (eAndD (eIsi "bool" (eVar 0)) (eB (tCmp dEq (eVar 0) (eVar 1)))))
  sNil)
  (sSeq (sIf (tTru (eIsi "tuple" (eVar 1)))
  (sSeq (sIf (tOrD (tNotD (tTru (eIsi "tuple" (eVar 0)))) (tCmp dNe (eCB (d1 dLen) (aCons (eVar 0) aNil)) (eCB (d1 dLen) (aCons (eVar 1) aNil))))
  (sRet (eC (.bool false)))
  sNil)
  (sRet (eCB (d1 dAll) (aCons (eLc (iRange1 (eCB (d1 dLen) (aCons (eVar 1) aNil))) (.nm 2) tTrue (eCall 2 (den__law_like n) (aCons (eIx (eVar 0) (eVar 2)) (aCons (eIx (eVar 1) (eVar 2)) aNil))) [2]) aNil))))
  sNil)
  (sSeq (sIf (tTru (eIsi "str" (eVar 1)))
  (sRet (eAndD (eIsi "str" (eVar 0)) (eB (tCmp dEq (eVar 0) (eVar 1)))))
  sNil)
  (sRet (eAndD (eCall 1 den__law_is_int (aCons (eVar 0) aNil)) (eB (tCmp dEq (eVar 0) (eVar 1)))))))))
def den__law_common : Fn := dfun 2 2 (sSeq (sPar 0 1 (eCB (d1 dAbs) (aCons (eVar 0) aNil)) (eCB (d1 dAbs) (aCons (eVar 1) aNil)) ([] ++ []))
  (sSeq (sWhile 100000 (tCmp dGt (eVar 1) (eC (.int 0)))
  (sPar 0 1 (eVar 1) (eOp dMod (eCB (d1 dInt) (aCons (eVar 0) aNil)) (eVar 1)) ([(1, 0)] ++ ([] ++ [(1, 1)]))))
  (sRet (eVar 0))))
def den__law_ratio : Fn := dfun 3 2 (sSeq (sSet 2 0 (eCall 2 den__law_common (aCons (eVar 0) (aCons (eVar 1) aNil))) ([(0, 0)] ++ ([(1, 0)] ++ [])))
  (sSeq (sIf (tCmp dLt (eVar 1) (eC (.int 0)))
  (sSet 2 0 (eUn dNeg (eVar 2)) [])
  sNil)
  (sRet (eTup (aCons (eOp dFdiv (eVar 0) (eVar 2)) (aCons (eOp dFdiv (eVar 1) (eVar 2)) aNil))))))
def den__law_power : Fn := dfun 4 2 (sSeq (sSet 2 0 (eC (.int 1)) [])
  (sSeq (sFor (iRange1 (eVar 1)) [] (.nm 3)
  (sSet 2 0 (eOp dMul (eVar 2) (eVar 0)) ([(2, 1)] ++ [(0, 1)])))
  (sRet (eVar 2))))
end Lib
end

section
set_option Elab.async false
set_option linter.all false
set_option maxRecDepth 10000
namespace Lib
open DS PySem
/-- a ratio as a tree -/
def rt (q : Rat) : D := .tuple [.int q.num, .int q.den]
/-- small enough: numerator and denominator below 2 ^ n -/
def Sm (n : Nat) (q : Rat) : Prop := q.num.natAbs < 2 ^ n ∧ q.den < 2 ^ n
/-! Euclid's loop -/
def gcdLoop : FS := sWhile 100000 (tCmp dGt (eVar 1) (eC (.int 0))) (sPar 0 1 (eVar 1) (eOp dMod (eVar 0) (eVar 1)) ([(1, 0)] ++ ([(0, 1)] ++ [(1, 1)])))
theorem gcd_step (n : Nat) (a b : Int) (L : List Nat) (hb : 0 < b) : ∃ L', whGo (tCmp dGt (eVar 1) (eC (.int 0))) (sPar 0 1 (eVar 1) (eOp dMod (eVar 0) (eVar 1)) ([(1, 0)] ++ ([(0, 1)] ++ [(1, 1)]))) (n + 1) ([some (.int a), some (.int b)], L) =
    whGo (tCmp dGt (eVar 1) (eC (.int 0))) (sPar 0 1 (eVar 1) (eOp dMod (eVar 0) (eVar 1)) ([(1, 0)] ++ ([(0, 1)] ++ [(1, 1)]))) n ([some (.int b), some (.int (a % b))], L') := by
  rw [whGo]
  simp [hb, sPar, dMod_i hb, flat]
  exact ⟨_, rfl⟩
theorem gcd_end (n : Nat) (a : Int) (L : List Nat) : whGo (tCmp dGt (eVar 1) (eC (.int 0))) (sPar 0 1 (eVar 1) (eOp dMod (eVar 0) (eVar 1)) ([(1, 0)] ++ ([(0, 1)] ++ [(1, 1)]))) (n + 1) ([some (.int a), some (.int 0)], L) = .next ([some (.int a), some (.int 0)], L) := by
  rw [whGo]
  simp
theorem mod2_lt {b r : Int} (hr : 0 < r) (hrb : r < b) : 2 * (b % r) < b := by
  have h1 := Int.emod_lt_of_pos b hr
  have h2 := Int.emod_nonneg b (by omega : r ≠ 0)
  by_cases h : 2 * r ≤ b
  · omega
  · have : b % r = b - r := by
      have e := Int.emod_add_mul_ediv b r
      have hq : b / r = 1 := by
        apply Int.le_antisymm
        · have : b / r < 2 := Int.ediv_lt_of_lt_mul hr (by omega)
          omega
        · exact (Int.le_ediv_iff_mul_le hr).mpr (by omega)
      rw [hq] at e
      omega
    omega
theorem gcd_mod (a b : Int) : Int.gcd a b = Int.gcd b (a % b) := by
  rw [Int.gcd_comm a b]
  conv => lhs; rw [← Int.emod_add_mul_ediv a b, Int.mul_comm]
  exact Int.gcd_add_mul_right_right b (a % b) (a / b)
theorem gcd_go : ∀ (k n : Nat) (a b : Int) (L : List Nat), 0 ≤ a → 0 ≤ b → b < 2 ^ k → 2 * k + 1 ≤ n → ∃ L', whGo (tCmp dGt (eVar 1) (eC (.int 0))) (sPar 0 1 (eVar 1) (eOp dMod (eVar 0) (eVar 1)) ([(1, 0)] ++ ([(0, 1)] ++ [(1, 1)]))) n ([some (.int a), some (.int b)], L) = .next ([some (.int (Int.gcd a b)), some (.int 0)], L')
  | 0, n + 1, a, b, L, ha, hb, hk, hn => by
    have e : b = 0 := by simpa using (show b < 1 by simpa using hk) |> fun h => (by omega : b = 0)
    subst e
    rw [gcd_end]
    exact ⟨L, by simp [Int.natAbs_of_nonneg ha]⟩
  | k + 1, n + 3, a, b, L, ha, hb, hk, hn => by
    by_cases h0 : b = 0
    · subst h0
      rw [gcd_end]
      exact ⟨L, by simp [Int.natAbs_of_nonneg ha]⟩
    · have hb' : 0 < b := by omega
      obtain ⟨L1, e1⟩ := gcd_step (n + 2) a b L hb'
      rw [e1]
      have hr0 := Int.emod_nonneg a (by omega : b ≠ 0)
      have hr1 := Int.emod_lt_of_pos a hb'
      have g1 : Int.gcd a b = Int.gcd b (a % b) := gcd_mod a b
      by_cases h1 : a % b = 0
      · rw [h1] at g1 ⊢
        rw [gcd_end]
        exact ⟨L1, by rw [g1]; simp [Int.natAbs_of_nonneg hb]⟩
      · obtain ⟨L2, e2⟩ := gcd_step (n + 1) b (a % b) L1 (by omega)
        rw [e2]
        have hm := mod2_lt (b := b) (r := a % b) (by omega) hr1
        have hlt : b % (a % b) < 2 ^ k := by
          have : (2 : Int) ^ (k + 1) = 2 * 2 ^ k := by rw [Int.pow_succ]; omega
          omega
        obtain ⟨L3, e3⟩ := gcd_go k (n + 1) (a % b) (b % (a % b)) L2 hr0 (Int.emod_nonneg b h1) hlt (by omega)
        rw [e3]
        refine ⟨L3, ?_⟩
        rw [g1, gcd_mod b (a % b)]
/-! divisor, lowest -/
theorem int_lt_pow {b : Int} {k : Nat} (h0 : 0 ≤ b) (h : b.natAbs < 2 ^ k) : b < 2 ^ k := by
  have e : b = (b.natAbs : Int) := by omega
  rw [e]
  have := Int.ofNat_lt.mpr h
  simpa using this
theorem divisor_ok {a b : Int} {k : Nat} (hb : b.natAbs < 2 ^ k) (hk : k ≤ 40000) : den_divisor [.int a, .int b] = some (.int (Int.gcd a b)) := by
  have habs : ∀ x : Int, (if x < 0 then -x else x) = (x.natAbs : Int) := fun x => by split <;> omega
  unfold den_divisor dfun
  simp only [List.length_cons, List.length_nil, Nat.zero_add, Nat.reduceAdd, if_true, List.map_cons, List.map_nil]
  rw [sSeq_next (s' := ([some (.int a.natAbs), some (.int b.natAbs)], [0, 0])) (by simp [sPar, dAbs, flat, habs])]
  obtain ⟨L, e⟩ := gcd_go k 100000 a.natAbs b.natAbs [0, 0] (by omega) (by omega) (by
    have := Int.ofNat_lt.mpr hb
    simpa using this) (by omega)
  rw [sSeq_next (s' := ([some (.int (Int.gcd a b)), some (.int 0)], L)) (by
    unfold sWhile
    rw [e]
    simp [Int.gcd_eq_natAbs_gcd_natAbs])]
  simp
/-- the lowest terms of a / b, b above 0 -/
theorem lowest_ok {a b : Int} {k : Nat} (hb0 : 0 < b) (hb : b.natAbs < 2 ^ k) (hk : k ≤ 8999) : den_lowest [.int a, .int b] = some (rt (Rat.divInt a b)) := by
  have hg : (Int.gcd a b) ≠ 0 := fun h => by
    have := (Int.gcd_eq_zero_iff.mp h).2
    omega
  have hgb : Int.gcd a b ≤ b.natAbs := Nat.le_of_dvd (by omega) (Int.gcd_eq_natAbs_gcd_natAbs a b ▸ Nat.gcd_dvd_right _ _)
  have hnum : (Rat.divInt a b).num = a / (Int.gcd a b : Int) := by rw [Rat.num_divInt, Int.gcd_comm, Int.sign_eq_one_of_pos hb0, Int.one_mul]
  have hden : (Rat.divInt a b).den = b.natAbs / Int.gcd a b := by rw [Rat.den_divInt, if_neg (by omega), Int.gcd_comm]
  have hfd : fdivOk (Int.gcd a b : Int) = true := fdivOk_of (n := k + 1) (by omega) (by
    rw [Nat.pow_succ]
    have e : ((Int.gcd a b : Nat) : Int).natAbs = Int.gcd a b := by omega
    rw [e]; omega) (by omega) (by omega)
  unfold den_lowest dfun
  simp only [List.length_cons, List.length_nil, Nat.zero_add, Nat.reduceAdd, if_true, List.map_cons, List.map_nil]
  rw [sSeq_next (s' := ([some (.int a), some (.int b), some (.int (Int.gcd a b))], [0, 0, 0])) (by
    rw [sSet_next (d := .int (Int.gcd a b)) (by simp [eIfD, hb0, eCall, divisor_ok hb (by omega : k ≤ 40000)])]
    simp [flat])]
  have eb : b / (Int.gcd a b : Int) = ((b.natAbs / Int.gcd a b : Nat) : Int) := by
    rw [Int.natCast_ediv]
    congr 1
    omega
  simp only [sRet_a, eTup, aCons_a, eOp_a, eVar_0, eVar_s, o2_ss, o1_s, dFdiv_i hfd, aNil_a, rt, hnum, hden, eb]
  rfl
theorem Sm.mono {m n : Nat} {q : Rat} (h : Sm m q) (hmn : m ≤ n) : Sm n q :=
  ⟨Nat.lt_of_lt_of_le h.1 (Nat.pow_le_pow_right (by omega) hmn), Nat.lt_of_lt_of_le h.2 (Nat.pow_le_pow_right (by omega) hmn)⟩
theorem natAbs_mul_lt {x y : Int} {m n : Nat} (hx : x.natAbs < 2 ^ m) (hy : y.natAbs < 2 ^ n) : (x * y).natAbs < 2 ^ (m + n) := by
  rw [Int.natAbs_mul, Nat.pow_add]
  exact Nat.mul_lt_mul'' hx hy
theorem natAbs_add_lt {x y : Int} {m : Nat} (hx : x.natAbs < 2 ^ m) (hy : y.natAbs < 2 ^ m) : (x + y).natAbs < 2 ^ (m + 1) := by
  rw [Nat.pow_succ]; omega
theorem natAbs_sub_lt {x y : Int} {m : Nat} (hx : x.natAbs < 2 ^ m) (hy : y.natAbs < 2 ^ m) : (x - y).natAbs < 2 ^ (m + 1) := by
  rw [Nat.pow_succ]; omega
/-- a quotient is no greater than what it is made of -/
theorem Sm.divInt {a b : Int} {m n : Nat} (hb : 0 < b) (ha : a.natAbs < 2 ^ m) (hb' : b.natAbs < 2 ^ m) : Sm m (Rat.divInt a b) := by
  have hg : 0 < Int.gcd a b := Nat.pos_of_ne_zero fun h => by
    have := (Int.gcd_eq_zero_iff.mp h).2
    omega
  have hnum : (Rat.divInt a b).num = a / (Int.gcd a b : Int) := by rw [Rat.num_divInt, Int.gcd_comm, Int.sign_eq_one_of_pos hb, Int.one_mul]
  have hden : (Rat.divInt a b).den = b.natAbs / Int.gcd a b := by rw [Rat.den_divInt, if_neg (by omega), Int.gcd_comm]
  constructor
  · rw [hnum]
    have hd : (Int.gcd a b : Int) ∣ a := Int.gcd_dvd_left _ _
    rw [Int.natAbs_ediv_of_dvd hd]
    have e : ((Int.gcd a b : Nat) : Int).natAbs = Int.gcd a b := by omega
    rw [e]
    exact Nat.lt_of_le_of_lt (Nat.div_le_self _ _) ha
  · rw [hden]
    exact Nat.lt_of_le_of_lt (Nat.div_le_self _ _) hb'
theorem den_pos (q : Rat) : (0 : Int) < q.den := by
  have := q.den_nz
  omega
theorem atI_0 {x : D} {r : List D} : L2.atI (x :: r) 0 = some x := by
  have : L2.atI (x :: r) ((0 : Nat) : Int) = some x := L2.atI_nat rfl
  simpa using this
theorem atI_1 {x y : D} {r : List D} : L2.atI (x :: y :: r) 1 = some y := by
  have : L2.atI (x :: y :: r) ((1 : Nat) : Int) = some y := L2.atI_nat rfl
  simpa using this
theorem rt_0 (q : Rat) : dIx (rt q) (.int 0) = some (.int q.num) := atI_0
theorem rt_1 (q : Rat) : dIx (rt q) (.int 1) = some (.int q.den) := atI_1
theorem times_ok {p q : Rat} {m n : Nat} (hp : Sm m p) (hq : Sm n q) (h0 : 0 < m) (h1 : 0 < n) (h : m + n ≤ 8000) : den_times [rt p, rt q] = some (rt (p * q)) ∧ Sm (m + n) (p * q) := by
  have e : p * q = Rat.divInt (p.num * q.num) (p.den * q.den) := by
    conv => lhs; rw [← Rat.num_divInt_den p, ← Rat.num_divInt_den q]
    exact Rat.divInt_mul_divInt _ _
  have hd : (0 : Int) < p.den * q.den := Int.mul_pos (den_pos p) (den_pos q)
  have b1 : (p.num * q.num).natAbs < 2 ^ (m + n) := natAbs_mul_lt hp.1 hq.1
  have b2 : ((p.den : Int) * q.den).natAbs < 2 ^ (m + n) := natAbs_mul_lt (by simpa using hp.2) (by simpa using hq.2)
  have m1 : mulOk p.num q.num = true := mulOk_big hp.1 hq.1 h0 h1 (by omega)
  have m2 : mulOk (p.den : Int) q.den = true := mulOk_big (m := m) (n := n) (by simpa using hp.2) (by simpa using hq.2) h0 h1 (by omega)
  refine ⟨?_, by rw [e]; exact Sm.divInt (n := n) hd b1 b2⟩
  have hl := lowest_ok (a := p.num * q.num) hd b2 (by omega)
  rw [← e] at hl
  simp [den_times, dfun, eCall, rt_0, rt_1, dMul_i m1, dMul_i m2, hl]
theorem plus_ok {p q : Rat} {m n : Nat} (hp : Sm m p) (hq : Sm n q) (h0 : 0 < m) (h1 : 0 < n) (h : m + n ≤ 8000) : den_plus [rt p, rt q] = some (rt (p + q)) ∧ Sm (m + n + 1) (p + q) := by
  have e : p + q = Rat.divInt (p.num * q.den + q.num * p.den) (p.den * q.den) := by
    conv => lhs; rw [← Rat.num_divInt_den p, ← Rat.num_divInt_den q]
    exact Rat.divInt_add_divInt _ _ (by have := den_pos p; omega) (by have := den_pos q; omega)
  have hd : (0 : Int) < p.den * q.den := Int.mul_pos (den_pos p) (den_pos q)
  have c1 : (p.num * q.den).natAbs < 2 ^ (m + n) := natAbs_mul_lt hp.1 (by simpa using hq.2)
  have c2 : (q.num * p.den).natAbs < 2 ^ (m + n) := by
    rw [Nat.add_comm]
    exact natAbs_mul_lt hq.1 (by simpa using hp.2)
  have b1 := natAbs_add_lt c1 c2
  have b2 : ((p.den : Int) * q.den).natAbs < 2 ^ (m + n) := natAbs_mul_lt (by simpa using hp.2) (by simpa using hq.2)
  have b2' : ((p.den : Int) * q.den).natAbs < 2 ^ (m + n + 1) := Nat.lt_of_lt_of_le b2 (Nat.pow_le_pow_right (by omega) (by omega))
  have m1 : mulOk p.num q.den = true := mulOk_big (m := m) (n := n) hp.1 (by simpa using hq.2) h0 h1 (by omega)
  have m2 : mulOk q.num p.den = true := mulOk_big (m := n) (n := m) hq.1 (by simpa using hp.2) h1 h0 (by omega)
  have m3 : mulOk (p.den : Int) q.den = true := mulOk_big (m := m) (n := n) (by simpa using hp.2) (by simpa using hq.2) h0 h1 (by omega)
  refine ⟨?_, by rw [e]; exact Sm.divInt (n := n) hd b1 b2'⟩
  have hl := lowest_ok (a := p.num * q.den + q.num * p.den) hd b2 (by omega)
  rw [← e] at hl
  simp [den_plus, dfun, eCall, rt_0, rt_1, dMul_i m1, dMul_i m2, dMul_i m3, hl]
theorem minus_ok {p q : Rat} {m n : Nat} (hp : Sm m p) (hq : Sm n q) (h0 : 0 < m) (h1 : 0 < n) (h : m + n ≤ 8000) : den_minus [rt p, rt q] = some (rt (p - q)) ∧ Sm (m + n + 1) (p - q) := by
  have e : p - q = Rat.divInt (p.num * q.den - q.num * p.den) (p.den * q.den) := by
    conv => lhs; rw [← Rat.num_divInt_den p, ← Rat.num_divInt_den q]
    exact Rat.divInt_sub_divInt _ _ (by have := den_pos p; omega) (by have := den_pos q; omega)
  have hd : (0 : Int) < p.den * q.den := Int.mul_pos (den_pos p) (den_pos q)
  have c1 : (p.num * q.den).natAbs < 2 ^ (m + n) := natAbs_mul_lt hp.1 (by simpa using hq.2)
  have c2 : (q.num * p.den).natAbs < 2 ^ (m + n) := by
    rw [Nat.add_comm]
    exact natAbs_mul_lt hq.1 (by simpa using hp.2)
  have b1 := natAbs_sub_lt c1 c2
  have b2 : ((p.den : Int) * q.den).natAbs < 2 ^ (m + n) := natAbs_mul_lt (by simpa using hp.2) (by simpa using hq.2)
  have b2' : ((p.den : Int) * q.den).natAbs < 2 ^ (m + n + 1) := Nat.lt_of_lt_of_le b2 (Nat.pow_le_pow_right (by omega) (by omega))
  have m1 : mulOk p.num q.den = true := mulOk_big (m := m) (n := n) hp.1 (by simpa using hq.2) h0 h1 (by omega)
  have m2 : mulOk q.num p.den = true := mulOk_big (m := n) (n := m) hq.1 (by simpa using hp.2) h1 h0 (by omega)
  have m3 : mulOk (p.den : Int) q.den = true := mulOk_big (m := m) (n := n) (by simpa using hp.2) (by simpa using hq.2) h0 h1 (by omega)
  refine ⟨?_, by rw [e]; exact Sm.divInt (n := n) hd b1 b2'⟩
  have hl := lowest_ok (a := p.num * q.den - q.num * p.den) hd b2 (by omega)
  rw [← e] at hl
  simp [den_minus, dfun, eCall, rt_0, rt_1, dMul_i m1, dMul_i m2, dMul_i m3, hl]
theorem is_less_ok {p q : Rat} {m n : Nat} (hp : Sm m p) (hq : Sm n q) (h0 : 0 < m) (h1 : 0 < n) (h : m + n ≤ 8000) : den_is_less [rt p, rt q] = some (.bool (decide (p < q))) := by
  have m1 : mulOk p.num q.den = true := mulOk_big (m := m) (n := n) hp.1 (by simpa using hq.2) h0 h1 (by omega)
  have m2 : mulOk q.num p.den = true := mulOk_big (m := n) (n := m) hq.1 (by simpa using hp.2) h1 h0 (by omega)
  simp [den_is_less, dfun, rt_0, rt_1, dMul_i m1, dMul_i m2, Rat.lt_iff]
end Lib
end

section
set_option Elab.async false
set_option linter.all false
set_option maxRecDepth 10000
/-! The law's own helpers, as in every law: the row of numbers that a script gives, the comparison of trees, ratios, powers. -/
namespace Lib
open DS PySem
theorem scr_len (ns : List Int) : dLen (scr ns) = some (.int ns.length) := by
  simp [scr, dLen]
theorem atI_map {ns : List Int} {i : Int} (h0 : 0 ≤ i) (h1 : i < ns.length) : ∃ x, L2.atI (ns.map PyData.int) i = some (.int x) := by
  obtain ⟨j, rfl⟩ : ∃ j : Nat, i = (j : Int) := ⟨i.toNat, by omega⟩
  have hj : j < ns.length := by omega
  exact ⟨ns[j], L2.atI_nat (by simp [hj])⟩
theorem scr_ix {ns : List Int} {i : Int} (h0 : 0 ≤ i) (h1 : i < ns.length) : ∃ x, dIx (scr ns) (.int i) = some (.int x) := by
  show ∃ x, L2.atI (ns.map PyData.int) i = some (.int x)
  exact atI_map h0 h1
theorem natAbs_emod_lt {a b : Int} (hb : 0 < b) : (a % b).natAbs < b.natAbs := by
  have h1 := Int.emod_lt_of_pos a hb
  have h2 := Int.emod_nonneg a (by omega : b ≠ 0)
  omega
theorem mixed_ok (ns : List Int) (k : Int) : ∃ v, 0 ≤ v ∧ den__law_mixed [scr ns, .int k] = some (.int v) := by
  -- behind the choice of the cell
  have tail : ∀ (cell : Int) (L : List Nat), ∃ v, 0 ≤ v ∧ (sSeq (sSet 3 0 (eOp dMod (eCB (d1 dInt) (aCons (eOp dAdd (eOp dAdd (eOp dMul (eVar 2) (eC (.int 48271))) (eOp dMul (eVar 1) (eC (.int 69621)))) (eC (.int 8191))) aNil)) (eC (.int 2147483647))) ([] ++ []))
      (sSeq (sSet 4 0 (eOp dMod (eCB (d1 dInt) (aCons (eOp dAdd (eOp dAdd (eOp dMul (eVar 3) (eVar 3)) (eOp dFdiv (eVar 3) (eC (.int 7)))) (eOp dMul (eVar 1) (eC (.int 16807)))) aNil)) (eC (.int 2147483629))) ([] ++ []))
      (sSeq (sSet 5 0 (eOp dMod (eCB (d1 dInt) (aCons (eOp dAdd (eOp dAdd (eOp dMul (eVar 4) (eVar 4)) (eOp dFdiv (eVar 4) (eC (.int 11)))) (eC (.int 40692))) aNil)) (eC (.int 2147483563))) ([] ++ []))
      (sRet (eOp dMod (eOp dFdiv (eVar 5) (eC (.int 5))) (eC (.int 1000003))))))) ([some (scr ns), some (.int k), some (.int cell), none, none, none], L) = .ret (.int v) := by
    intro cell L
    generalize hf : (cell * 48271 + k * 69621 + 8191) % 2147483647 = first
    have f1 : first.natAbs < 18446744073709551616 := by
      have := natAbs_emod_lt (a := cell * 48271 + k * 69621 + 8191) (b := 2147483647) (by omega)
      rw [hf] at this
      omega
    generalize hs : (first * first + first / 7 + k * 16807) % 2147483629 = second
    have s1 : second.natAbs < 18446744073709551616 := by
      have := natAbs_emod_lt (a := first * first + first / 7 + k * 16807) (b := 2147483629) (by omega)
      rw [hs] at this
      omega
    have k1 : ∀ i : Int, mulOk i 48271 = true := fun i => mulOk_r (by decide)
    have k2 : ∀ i : Int, mulOk i 69621 = true := fun i => mulOk_r (by decide)
    have k3 : ∀ i : Int, mulOk i 16807 = true := fun i => mulOk_r (by decide)
    have d7 : fdivOk 7 = true := by decide
    have d11 : fdivOk 11 = true := by decide
    have d5 : fdivOk 5 = true := by decide
    rw [sSeq_next (s' := ([some (scr ns), some (.int k), some (.int cell), some (.int first), none, none], L.set 3 0)) (by
      rw [sSet_next (d := .int first) (by simp [dMul_i (k1 _), dMul_i (k2 _), dMod, hf])]
      simp [flat])]
    rw [sSeq_next (s' := ([some (scr ns), some (.int k), some (.int cell), some (.int first), some (.int second), none], (L.set 3 0).set 4 0)) (by
      rw [sSet_next (d := .int second) (by simp [dMul_i (mulOk_l f1), dMul_i (k3 _), dFdiv_i d7, dMod, hs])]
      simp [flat])]
    rw [sSeq_next (s' := ([some (scr ns), some (.int k), some (.int cell), some (.int first), some (.int second), some (.int ((second * second + second / 11 + 40692) % 2147483563))], ((L.set 3 0).set 4 0).set 5 0)) (by
      rw [sSet_next (d := .int ((second * second + second / 11 + 40692) % 2147483563)) (by simp [dMul_i (mulOk_l s1), dFdiv_i d11, dMod])]
      simp [flat])]
    refine ⟨(second * second + second / 11 + 40692) % 2147483563 / 5 % 1000003, Int.emod_nonneg _ (by decide), ?_⟩
    simp [dFdiv_i d5, dMod]
  unfold den__law_mixed dfun
  simp only [List.length_cons, List.length_nil, Nat.zero_add, Nat.reduceAdd, if_true, List.map_cons, List.map_nil]
  rw [sSeq_next (s' := ([some (scr ns), some (.int k), some (.int 0), none, none, none], [0, 0, 0, 0, 0, 0])) (by simp [sSet, flat])]
  by_cases h : ns = []
  · rw [sSeq_next (s' := ([some (scr ns), some (.int k), some (.int 0), none, none, none], [0, 0, 0, 0, 0, 0])) (by
      rw [sIf_f (by simp [scr_len, h])]
      rfl)]
    obtain ⟨v, h0, e⟩ := tail 0 [0, 0, 0, 0, 0, 0]
    exact ⟨v, h0, by rw [e]⟩
  · have hl : (0 : Int) < ns.length := by
      have := List.length_pos_iff.mpr h
      omega
    obtain ⟨x, hx⟩ := scr_ix (ns := ns) (i := k % (ns.length : Int)) (Int.emod_nonneg _ (by omega)) (Int.emod_lt_of_pos _ hl)
    rw [sSeq_next (s' := ([some (scr ns), some (.int k), some (.int x), none, none, none], [0, 0, 0, 0, 0, 0])) (by
      rw [sIf_t (by simp [scr_len]; omega)]
      rw [sSet_next (d := .int x) (by simp [scr_len, dMod_i hl, hx])]
      simp [flat])]
    obtain ⟨v, h0, e⟩ := tail x [0, 0, 0, 0, 0, 0]
    exact ⟨v, h0, by rw [e]⟩
end Lib
end

section
set_option Elab.async false
set_option linter.all false
set_option maxRecDepth 10000
/-! Loops with a claim that each round keeps; comprehensions; the row that a script gives. -/
namespace Lib
open DS PySem
theorem for_inv {t : Tg} {body : FS} (P : Nat → S → Prop) : ∀ (ds : List D) (k0 : Nat) (s : S), P k0 s →
    (∀ k d s, ds[k]? = some d → P (k0 + k) s → ∃ l s', t.go d = some l ∧ body (setsD s.1 l, zeros s.2 l) = .next s' ∧ P (k0 + k + 1) s') →
    ∃ s', forGo t body ds s = .next s' ∧ P (k0 + ds.length) s'
  | [], k0, s, h, _ => ⟨s, rfl, h⟩
  | d :: ds, k0, s, h, st => by
    obtain ⟨l, s', e1, e2, h'⟩ := st 0 d s rfl h
    obtain ⟨s2, e3, h2⟩ := for_inv P ds (k0 + 1) s' h' (fun k d' s'' hd hp => by
      have := st (k + 1) d' s'' (by simpa using hd)
      have a1 : k0 + (k + 1) = k0 + 1 + k := by omega
      rw [a1] at this
      exact this hp)
    refine ⟨s2, ?_, ?_⟩
    · unfold forGo
      rw [e1]
      show (match body (setsD s.1 l, zeros s.2 l) with
        | .next s' => forGo t body ds s'
        | .cont s' => forGo t body ds s'
        | .brk s' => .next s'
        | .ret d => .ret d
        | .stuck => .stuck) = _
      rw [e2]
      exact e3
    · have a1 : k0 + (d :: ds).length = k0 + 1 + ds.length := by simp; omega
      rw [a1]; exact h2
/-- a loop over i, i + 1, … -/
theorem rng_get {lo : Int} {n k : Nat} {d : D} (h : (rngD lo n)[k]? = some d) : k < n ∧ d = .int (lo + k) := by
  have hk : k < n := by
    have := (List.getElem?_eq_some_iff.mp h).1
    simpa [rngD] using this
  refine ⟨hk, ?_⟩
  unfold rngD at h
  rw [List.getElem?_map, List.getElem?_range hk] at h
  exact (Option.some.inj h).symm
theorem rng_len {lo : Int} {n : Nat} : (rngD lo n).length = n := by simp [rngD]
theorem for_rng {i : Nat} {body : FS} {n : Nat} {lo : Int} (P : Nat → S → Prop) (s : S) (h0 : P 0 s)
    (st : ∀ (k : Nat) (s : S), k < n → P k s → ∃ s', body (s.1.set i (some (.int (lo + k))), s.2.set i 0) = .next s' ∧ P (k + 1) s') :
    ∃ s', forGo (.nm i) body (rngD lo n) s = .next s' ∧ P n s' := by
  obtain ⟨s', e, h⟩ := for_inv (t := .nm i) (body := body) P (rngD lo n) 0 s h0 (fun k d s hd hp => by
    obtain ⟨hk, rfl⟩ := rng_get hd
    rw [Nat.zero_add] at hp ⊢
    obtain ⟨s', e, h'⟩ := st k s hk hp
    exact ⟨[(i, .int (lo + k))], s', by simp [Tg.go], e, h'⟩)
  rw [Nat.zero_add, rng_len] at h
  exact ⟨s', e, h⟩
theorem range1_ok {f : FE} {ρ : PEnv} {n : Nat} (h : f ρ = some (.int n)) (hn : n < 4611686018427387904) : iRange1 f ρ = some (rngD 0 n) := by
  unfold iRange1
  rw [h, o1_s]
  have : rngOk 0 (n : Int) = true := by
    unfold rngOk
    simp only [Bool.and_eq_true, decide_eq_true_eq]
    omega
  show (if rngOk 0 (n : Int) = true then some (rngD 0 (n : Int).toNat) else none) = _
  rw [if_pos this]
  rfl
theorem range2_ok {f g : FE} {ρ : PEnv} {i j : Int} (h : f ρ = some (.int i)) (h' : g ρ = some (.int j)) (b1 : -4611686018427387904 ≤ i) (b2 : i < 4611686018427387904) (b3 : -4611686018427387904 ≤ j) (b4 : j < 4611686018427387904) : iRange2 f g ρ = some (rngD i (j - i).toNat) := by
  unfold iRange2
  rw [h, h', o2_ss]
  have : rngOk i j = true := by
    unfold rngOk
    simp only [Bool.and_eq_true, decide_eq_true_eq]
    omega
  show (if rngOk i j = true then some (rngD i (j - i).toNat) else none) = _
  rw [if_pos this]
theorem sFor_go {fi : FA} {c : Esc} {t : Tg} {body : FS} {s : S} {ds : List D} (h : fi s.1 = some ds) : sFor fi c t body s = forGo t body ds (s.1, demote c s.2) := by
  unfold sFor; rw [h]
/-! comprehensions -/
theorem lc_map {t : Tg} {fe : FE} {ρ : PEnv} {g : D → D} : ∀ {ds : List D}, (∀ d ∈ ds, ∃ l, t.go d = some l ∧ fe (setsD ρ l) = some (g d)) → lcGo t tTrue fe ρ ds = some (ds.map g)
  | [], _ => rfl
  | d :: ds, h => by
    obtain ⟨l, e1, e2⟩ := h d (.head _)
    have ih := lc_map (ds := ds) fun d' hd => h d' (.tail _ hd)
    unfold lcGo
    rw [e1]
    simp only [tTrue_a, e2, ih, List.map_cons]
theorem eLc_map {fi : FA} {t : Tg} {fe : FE} {vs : List Nat} {ρ : PEnv} {g : D → D} {ds : List D} (h : fi ρ = some ds) (hl : ds.length ≤ 16777216) (hg : ∀ d ∈ ds, ∃ l, t.go d = some l ∧ fe (setsD (wipeD ρ vs) l) = some (g d)) :
    eLc fi t tTrue fe vs ρ = some (.list (ds.map g)) := by
  unfold eLc
  rw [h, o1_s]
  have : ds.length ≤ sz := hl
  rw [if_pos this, lc_map hg, o1_s]
/-- over i = 0, 1, … -/
theorem lc_rng {i : Nat} {fe : FE} {ρ : PEnv} {n : Nat} {lo : Int} {g : Nat → D} (h : ∀ k : Nat, k < n → fe (ρ.set i (some (.int (lo + k)))) = some (g k)) : lcGo (.nm i) tTrue fe ρ (rngD lo n) = some ((List.range n).map g) := by
  unfold rngD
  have go : ∀ (l : List Nat), (∀ k ∈ l, k < n) → lcGo (.nm i) tTrue fe ρ (l.map fun (k : Nat) => .int (lo + (k : Int))) = some (l.map g) := by
    intro l hl
    induction l with
    | nil => rfl
    | cons k l ih =>
      have e := h k (hl k (.head _))
      have ih' := ih fun k' hk => hl k' (.tail _ hk)
      unfold lcGo
      simp only [List.map_cons, Tg.go, tTrue_a]
      show (match fe (ρ.set i (some (.int (lo + k)))) with
        | none => none
        | some y => match lcGo (.nm i) tTrue fe ρ (l.map fun (k : Nat) => .int (lo + (k : Int))) with
          | none => none
          | some ys => some (y :: ys)) = _
      rw [e, ih']
  exact go (List.range n) fun k hk => List.mem_range.mp hk
theorem eLc_rng {f : FE} {i : Nat} {fe : FE} {vs : List Nat} {ρ : PEnv} {n : Nat} {g : Nat → D} (hf : f ρ = some (.int n)) (hn : n ≤ 16777216) (h : ∀ k : Nat, k < n → fe ((wipeD ρ vs).set i (some (.int k))) = some (g k)) :
    eLc (iRange1 f) (.nm i) tTrue fe vs ρ = some (.list ((List.range n).map g)) := by
  unfold eLc
  rw [range1_ok hf (by omega), o1_s]
  have : (rngD 0 n).length ≤ sz := by rw [rng_len]; exact hn
  rw [if_pos this, lc_rng (g := g) (fun k hk => by rw [Int.zero_add]; exact h k hk), o1_s]
/-! the row -/
def Nats (ds : List D) : Prop := ∀ d ∈ ds, ∃ v : Int, 0 ≤ v ∧ d = .int v
theorem Nats.snoc {ds : List D} {v : Int} (h : Nats ds) (hv : 0 ≤ v) : Nats (ds ++ [.int v]) := fun d hd => by
  rcases List.mem_append.mp hd with h1 | h1
  · exact h d h1
  · simp at h1; exact ⟨v, hv, h1⟩
theorem sApp_flat {i : Nat} {f : FE} {c : Esc} {ρ : PEnv} {L : List Nat} {d : D} {ds : List D} (h : f ρ = some d) (hd : flat d = true) (hi : eVar i ρ = some (.list ds)) (hl : ds.length < 16777216) (hL : lv L i = 1) : sApp i f c (ρ, L) = .next (ρ.set i (some (.list (ds ++ [d]))), L) := by
  unfold sApp
  simp only [h, hi]
  have : ds.length < sz := hl
  rw [if_pos this, if_pos hd, if_pos hL]
theorem sApp_deep {i : Nat} {f : FE} {c : Esc} {ρ : PEnv} {L : List Nat} {d : D} {ds : List D} (h : f ρ = some d) (hd : flat d = false) (hi : eVar i ρ = some (.list ds)) (hl : ds.length < 16777216) (hL : lv (demote c L) i = 1) : sApp i f c (ρ, L) = .next (ρ.set i (some (.list (ds ++ [d]))), demote c L) := by
  unfold sApp
  simp only [h, hi]
  have : ds.length < sz := hl
  rw [if_pos this, if_neg (by simp [hd]), if_pos hL]
theorem row_ok (ns : List Int) (many : Nat) (hm : many ≤ 1000000) : ∃ ds, ds.length = many ∧ Nats ds ∧ den__law_row [scr ns, .int many] = some (.list ds) := by
  have head : ∃ (big : Int) , (sIf (tAndD (tCmp dGt (eCB (d1 dLen) (aCons (eVar 0) aNil)) (eC (.int 0))) (tCmp dGe (eIx (eVar 0) (eC (.int 0))) (eOp dPow (eC (.int 10)) (eC (.int 18)))))
      (sSet 2 0 (eIx (eVar 0) (eC (.int 0))) [(0, 1)]) sNil) ([some (scr ns), some (.int many), some (.int 0), none, none], [0, 0, 0, 0, 0]) = .next ([some (scr ns), some (.int many), some (.int big), none, none], [0, 0, 0, 0, 0]) := by
    by_cases h : ns = []
    · exact ⟨0, by rw [sIf_f (by simp [tAndD, scr_len, h])]; rfl⟩
    · have hl : (0 : Int) < ns.length := by
        have := List.length_pos_iff.mpr h
        omega
      obtain ⟨x, hx⟩ := scr_ix (ns := ns) (i := 0) (by omega) hl
      have hl' : 0 < ns.length := by omega
      have hp : dPow (.int 10) (.int 18) = some (.int 1000000000000000000) := by
        show (if powOk 10 18 = true then some (PyData.int ((10 : Int) ^ (18 : Int).toNat)) else none) = _
        rw [if_pos (by decide)]
        rfl
      by_cases hb : 1000000000000000000 ≤ x
      · refine ⟨x, ?_⟩
        rw [sIf_t (by simp [tAndD, scr_len, hx, hp, hb, hl'])]
        rw [sSet_next (d := .int x) (by simp [hx])]
        simp [flat]
      · refine ⟨0, ?_⟩
        rw [sIf_f (by simp [tAndD, scr_len, hx, hp, hb, hl'])]
        rfl
  obtain ⟨big, hbig⟩ := head
  unfold den__law_row dfun
  simp only [List.length_cons, List.length_nil, Nat.zero_add, Nat.reduceAdd, if_true, List.map_cons, List.map_nil]
  rw [sSeq_next (s' := ([some (scr ns), some (.int many), some (.int 0), none, none], [0, 0, 0, 0, 0])) (by simp [sSet, flat])]
  rw [sSeq_next hbig]
  rw [sSeq_next (s' := ([some (scr ns), some (.int many), some (.int big), some (.list []), none], [0, 0, 0, 1, 0])) (by simp [sSet, flat, eLst, sz, demote])]
  have loop := for_rng (i := 4) (n := many) (lo := 0) (body := sIf (tCmp dGt (eVar 2) (eC (.int 0)))
    (sSeq (sApp 3 (eOp dMod (eCB (d1 dInt) (aCons (eVar 2) aNil)) (eC (.int 1000))) ([] ++ []))
    (sSet 2 0 (eOp dFdiv (eVar 2) (eC (.int 1000))) ([(2, 1)] ++ [])))
    (sApp 3 (eCall 2 den__law_mixed (aCons (eVar 0) (aCons (eVar 4) aNil))) ([(0, 0)] ++ ([(4, 0)] ++ []))))
    (fun k s => ∃ (big : Int) (ds : List D) (x : Option D), s = ([some (scr ns), some (.int many), some (.int big), some (.list ds), x], [0, 0, 0, 1, 0]) ∧ ds.length = k ∧ Nats ds)
    ([some (scr ns), some (.int many), some (.int big), some (.list []), none], [0, 0, 0, 1, 0]) ⟨big, [], none, rfl, rfl, fun d hd => by simp at hd⟩
    (by
      rintro k _ hk ⟨big, ds, x, rfl, hl, hn⟩
      by_cases hb : 0 < big
      · refine ⟨_, ?_, big / 1000, ds ++ [.int (big % 1000)], some (.int (0 + k)), rfl, by simp [hl], hn.snoc (Int.emod_nonneg _ (by decide))⟩
        rw [sIf_t (by simp [hb])]
        rw [sSeq_next (sApp_flat (d := .int (big % 1000)) (ds := ds) (by simp [dMod]) (by rfl) (by simp) (by omega) (by rfl))]
        rw [sSet_next (d := .int (big / 1000)) (by simp [dFdiv_i (j := 1000) (by decide)])]
        simp [flat]
      · obtain ⟨v, hv, e⟩ := mixed_ok ns (0 + k)
        refine ⟨_, ?_, big, ds ++ [.int v], some (.int (0 + k)), rfl, by simp [hl], hn.snoc hv⟩
        rw [sIf_f (by simp [hb])]
        rw [sApp_flat (d := .int v) (ds := ds) (by simpa [eCall] using e) (by rfl) (by simp) (by omega) (by rfl)]
        rfl)
  obtain ⟨s', e, big', ds, x, rfl, hl, hn⟩ := loop
  rw [sSeq_next (s' := ([some (scr ns), some (.int many), some (.int big'), some (.list ds), x], [0, 0, 0, 1, 0])) (by
    rw [sFor_go (range1_ok (n := many) (by simp) (by omega))]
    exact e)]
  exact ⟨ds, hl, hn, by simp⟩
theorem map_ix {n j : Nat} {g : Nat → D} (h : j < n) : dIx (.list ((List.range n).map g)) (.int j) = some (g j) := by
  show L2.atI ((List.range n).map g) (j : Int) = some (g j)
  exact L2.atI_nat (by simp [h])
/-- the row as numbers r 0, r 1, … -/
theorem row_fn (ns : List Int) (many : Nat) (hm : many ≤ 1000000) : ∃ r : Nat → Int, (∀ k, 0 ≤ r k) ∧ den__law_row [scr ns, .int many] = some (.list ((List.range many).map fun k => .int (r k))) := by
  obtain ⟨ds, hl, hn, e⟩ := row_ok ns many hm
  have h : ∀ k : Nat, ∃ v : Int, 0 ≤ v ∧ (k < ds.length → ds[k]? = some (.int v)) := fun k => by
    by_cases hk : k < ds.length
    · obtain ⟨v, h0, h1⟩ := hn ds[k] (List.getElem_mem hk)
      exact ⟨v, h0, fun _ => by rw [List.getElem?_eq_getElem hk, h1]⟩
    · exact ⟨0, Int.le_refl _, fun h => absurd h hk⟩
  refine ⟨fun k => (h k).choose, fun k => (h k).choose_spec.1, ?_⟩
  rw [e]
  congr 2
  refine List.ext_getElem? fun k => ?_
  by_cases hk : k < many
  · rw [(h k).choose_spec.2 (by omega)]
    simp [hk]
  · rw [List.getElem?_eq_none (by omega), List.getElem?_eq_none (by simp; omega)]
end Lib
end

section
set_option Elab.async false
set_option linter.all false
set_option maxRecDepth 10000
/-! The law's comparison of a tree with itself; its ratios and powers. -/
namespace Lib
open DS PySem
@[simp] theorem ty_bool_bool (b : Bool) : isTy (.bool b) "bool" = some true := by
  show L2.kitB "bool" "bool" = _
  decide +kernel
@[simp] theorem ty_bool_int (b : Bool) : isTy (.bool b) "int" = some true := by
  show L2.kitB "bool" "int" = _
  decide +kernel
@[simp] theorem ty_bool_str (b : Bool) : isTy (.bool b) "str" = some false := by
  show L2.kitB "bool" "str" = _
  decide +kernel
@[simp] theorem ty_bool_list (b : Bool) : isTy (.bool b) "list" = some false := by
  show L2.kitB "bool" "list" = _
  decide +kernel
@[simp] theorem ty_bool_tuple (b : Bool) : isTy (.bool b) "tuple" = some false := by
  show L2.kitB "bool" "tuple" = _
  decide +kernel
@[simp] theorem ty_int_bool (i : Int) : isTy (.int i) "bool" = some false := by
  show L2.kitB "int" "bool" = _
  decide +kernel
@[simp] theorem ty_int_int (i : Int) : isTy (.int i) "int" = some true := by
  show L2.kitB "int" "int" = _
  decide +kernel
@[simp] theorem ty_int_str (i : Int) : isTy (.int i) "str" = some false := by
  show L2.kitB "int" "str" = _
  decide +kernel
@[simp] theorem ty_int_list (i : Int) : isTy (.int i) "list" = some false := by
  show L2.kitB "int" "list" = _
  decide +kernel
@[simp] theorem ty_int_tuple (i : Int) : isTy (.int i) "tuple" = some false := by
  show L2.kitB "int" "tuple" = _
  decide +kernel
@[simp] theorem ty_str_bool (s : Str) : isTy (.str s) "bool" = some false := by
  show L2.kitB "str" "bool" = _
  decide +kernel
@[simp] theorem ty_str_int (s : Str) : isTy (.str s) "int" = some false := by
  show L2.kitB "str" "int" = _
  decide +kernel
@[simp] theorem ty_str_str (s : Str) : isTy (.str s) "str" = some true := by
  show L2.kitB "str" "str" = _
  decide +kernel
@[simp] theorem ty_str_list (s : Str) : isTy (.str s) "list" = some false := by
  show L2.kitB "str" "list" = _
  decide +kernel
@[simp] theorem ty_str_tuple (s : Str) : isTy (.str s) "tuple" = some false := by
  show L2.kitB "str" "tuple" = _
  decide +kernel
@[simp] theorem ty_list_bool (l : List D) : isTy (.list l) "bool" = some false := by
  show L2.kitB "list" "bool" = _
  decide +kernel
@[simp] theorem ty_list_int (l : List D) : isTy (.list l) "int" = some false := by
  show L2.kitB "list" "int" = _
  decide +kernel
@[simp] theorem ty_list_str (l : List D) : isTy (.list l) "str" = some false := by
  show L2.kitB "list" "str" = _
  decide +kernel
@[simp] theorem ty_list_list (l : List D) : isTy (.list l) "list" = some true := by
  show L2.kitB "list" "list" = _
  decide +kernel
@[simp] theorem ty_list_tuple (l : List D) : isTy (.list l) "tuple" = some false := by
  show L2.kitB "list" "tuple" = _
  decide +kernel
@[simp] theorem ty_tuple_bool (l : List D) : isTy (.tuple l) "bool" = some false := by
  show L2.kitB "tuple" "bool" = _
  decide +kernel
@[simp] theorem ty_tuple_int (l : List D) : isTy (.tuple l) "int" = some false := by
  show L2.kitB "tuple" "int" = _
  decide +kernel
@[simp] theorem ty_tuple_str (l : List D) : isTy (.tuple l) "str" = some false := by
  show L2.kitB "tuple" "str" = _
  decide +kernel
@[simp] theorem ty_tuple_list (l : List D) : isTy (.tuple l) "list" = some false := by
  show L2.kitB "tuple" "list" = _
  decide +kernel
@[simp] theorem ty_tuple_tuple (l : List D) : isTy (.tuple l) "tuple" = some true := by
  show L2.kitB "tuple" "tuple" = _
  decide +kernel
@[simp] theorem ty_NoneType_bool  : isTy (.none) "bool" = some false := by
  show L2.kitB "NoneType" "bool" = _
  decide +kernel
@[simp] theorem ty_NoneType_int  : isTy (.none) "int" = some false := by
  show L2.kitB "NoneType" "int" = _
  decide +kernel
@[simp] theorem ty_NoneType_str  : isTy (.none) "str" = some false := by
  show L2.kitB "NoneType" "str" = _
  decide +kernel
@[simp] theorem ty_NoneType_list  : isTy (.none) "list" = some false := by
  show L2.kitB "NoneType" "list" = _
  decide +kernel
@[simp] theorem ty_NoneType_tuple  : isTy (.none) "tuple" = some false := by
  show L2.kitB "NoneType" "tuple" = _
  decide +kernel
/-- a tree that the law's comparison knows, less than n deep -/
def pl : Nat → D → Bool
  | 0, _ => false
  | _ + 1, .none => true
  | _ + 1, .bool _ => true
  | _ + 1, .int _ => true
  | _ + 1, .str s => SeqAt.shaped (.str s)
  | n + 1, .tuple ds => decide (ds.length ≤ 1000000) && ds.all (pl n)
  | _ + 1, _ => false
theorem is_int_ok (i : Int) : den__law_is_int [.int i] = some (.bool true) := by
  simp [den__law_is_int, dfun, eAndD]
theorem dEq_str (s : Str) (h : SeqAt.shaped (.str s) = true) : dEq (.str s) (.str s) = some true := by
  unfold dEq
  rw [if_pos (by simp [h])]
  simp [PyData.eqv]
theorem all_true {α : Type} (l : List α) : dAll (.list (l.map fun _ => .bool true)) = some (.bool true) := by
  have : ∀ l : List α, bools (l.map fun _ => PyData.bool true) = some (l.map fun _ => true) := by
    intro l
    induction l with
    | nil => rfl
    | cons a l ih => simp [bools, ih]
  simp [dAll, this]
theorem like_eq (n : Nat) : den__law_like (n + 1) = dfun 3 2 (sSeq (sIf (tIsND (eVar 1))
  (sRet (eIsN (eVar 0)))
  sNil)
  (sSeq (sIf (tTru (eIsi "bool" (eVar 1)))
  (sRet (eAndD (eIsi "bool" (eVar 0)) (eB (tCmp dEq (eVar 0) (eVar 1)))))
  sNil)
  (sSeq (sIf (tTru (eIsi "tuple" (eVar 1)))
  (sSeq (sIf (tOrD (tNotD (tTru (eIsi "tuple" (eVar 0)))) (tCmp dNe (eCB (d1 dLen) (aCons (eVar 0) aNil)) (eCB (d1 dLen) (aCons (eVar 1) aNil))))
  (sRet (eC (.bool false)))
  sNil)
  (sRet (eCB (d1 dAll) (aCons (eLc (iRange1 (eCB (d1 dLen) (aCons (eVar 1) aNil))) (.nm 2) tTrue (eCall 2 (den__law_like n) (aCons (eIx (eVar 0) (eVar 2)) (aCons (eIx (eVar 1) (eVar 2)) aNil))) [2]) aNil))))
  sNil)
  (sSeq (sIf (tTru (eIsi "str" (eVar 1)))
  (sRet (eAndD (eIsi "str" (eVar 0)) (eB (tCmp dEq (eVar 0) (eVar 1)))))
  sNil)
  (sRet (eAndD (eCall 1 den__law_is_int (aCons (eVar 0) aNil)) (eB (tCmp dEq (eVar 0) (eVar 1)))))))) ) := by rw [den__law_like]
theorem like_a2 (n) (ds : List D) (hc : eLc (iRange1 (eCB (d1 dLen) (aCons (eVar 1) aNil))) (.nm 2) tTrue (eCall 2 (den__law_like n) (aCons (eIx (eVar 0) (eVar 2)) (aCons (eIx (eVar 1) (eVar 2)) aNil))) [2] [some (.tuple ds), some (.tuple ds), none] = some (.list ((List.range ds.length).map fun _ => .bool true))) : (eCB (d1 dAll) (aCons (eLc (iRange1 (eCB (d1 dLen) (aCons (eVar 1) aNil))) (.nm 2) tTrue (eCall 2 (den__law_like n) (aCons (eIx (eVar 0) (eVar 2)) (aCons (eIx (eVar 1) (eVar 2)) aNil))) [2]) aNil)) [some (.tuple ds), some (.tuple ds), none] = some (.bool true) := by
  have ha := all_true (List.range ds.length)
  simp [hc, ha]
theorem like_a3 (ds : List D) : tOrD (tNotD (tTru (eIsi "tuple" (eVar 0)))) (tCmp dNe (eCB (d1 dLen) (aCons (eVar 0) aNil)) (eCB (d1 dLen) (aCons (eVar 1) aNil))) [some (.tuple ds), some (.tuple ds), none] = some false := by
  simp [tOrD]
theorem like_a4 (ds : List D) : (sIf (tTru (eIsi "bool" (eVar 1))) (sRet (eAndD (eIsi "bool" (eVar 0)) (eB (tCmp dEq (eVar 0) (eVar 1))))) sNil) ([some (.tuple ds), some (.tuple ds), none], [0, 0, 0]) = .next ([some (.tuple ds), some (.tuple ds), none], [0, 0, 0]) := by
  rw [sIf_f (by simp)]
  rfl
theorem like_a5 (n) (ds : List D) (hc : eLc (iRange1 (eCB (d1 dLen) (aCons (eVar 1) aNil))) (.nm 2) tTrue (eCall 2 (den__law_like n) (aCons (eIx (eVar 0) (eVar 2)) (aCons (eIx (eVar 1) (eVar 2)) aNil))) [2] [some (.tuple ds), some (.tuple ds), none] = some (.list ((List.range ds.length).map fun _ => .bool true))) : sRet (eCB (d1 dAll) (aCons (eLc (iRange1 (eCB (d1 dLen) (aCons (eVar 1) aNil))) (.nm 2) tTrue (eCall 2 (den__law_like n) (aCons (eIx (eVar 0) (eVar 2)) (aCons (eIx (eVar 1) (eVar 2)) aNil))) [2]) aNil)) ([some (.tuple ds), some (.tuple ds), none], [0, 0, 0]) = .ret (.bool true) := sRet_ok (like_a2 n ds hc)
theorem like_a6 (ds : List D) : (sIf (tOrD (tNotD (tTru (eIsi "tuple" (eVar 0)))) (tCmp dNe (eCB (d1 dLen) (aCons (eVar 0) aNil)) (eCB (d1 dLen) (aCons (eVar 1) aNil))))
  (sRet (eC (.bool false)))
  sNil) ([some (.tuple ds), some (.tuple ds), none], [0, 0, 0]) = .next ([some (.tuple ds), some (.tuple ds), none], [0, 0, 0]) := by
  rw [sIf_f (s := ([some (.tuple ds), some (.tuple ds), none], [0, 0, 0])) (like_a3 ds)]
  rfl
theorem like_tup {n : Nat} (ih : ∀ d, pl n d = true → den__law_like n [d, d] = some (.bool true)) {ds : List D} (h : pl (n + 1) (.tuple ds) = true) : den__law_like (n + 1) [.tuple ds, .tuple ds] = some (.bool true) := by
  simp only [pl, Bool.and_eq_true, decide_eq_true_eq, List.all_eq_true] at h
  have hc : eLc (iRange1 (eCB (d1 dLen) (aCons (eVar 1) aNil))) (.nm 2) tTrue (eCall 2 (den__law_like n) (aCons (eIx (eVar 0) (eVar 2)) (aCons (eIx (eVar 1) (eVar 2)) aNil))) [2] [some (.tuple ds), some (.tuple ds), none] = some (.list ((List.range ds.length).map fun _ => .bool true)) := by
    refine eLc_rng (n := ds.length) (by simp) (by omega) fun k hk => ?_
    have e : L2.atI ds (k : Int) = some ds[k] := L2.atI_nat (by simp [hk])
    have e' : dIx (.tuple ds) (.int k) = some ds[k] := e
    simp [wipeD, eCall, e', ih ds[k] (h.2 _ (List.getElem_mem hk))]
  rw [like_eq]
  unfold dfun
  simp only [List.length_cons, List.length_nil, Nat.zero_add, Nat.reduceAdd, if_true, List.map_cons, List.map_nil]
  rw [sSeq_next (s' := ([some (.tuple ds), some (.tuple ds), none], [0, 0, 0])) (by
    rw [sIf_f (by simp)]
    rfl)]
  rw [sSeq_next (like_a4 ds)]
  rw [sSeq_ret (d := .bool true) (by
    rw [sIf_t (by simp)]
    rw [sSeq_next (s' := ([some (.tuple ds), some (.tuple ds), none], [0, 0, 0])) (like_a6 ds)]
    exact like_a5 n ds hc)]
theorem like_ok (n : Nat) : ∀ (d : D), pl n d = true → den__law_like n [d, d] = some (.bool true) := by
  induction n with
  | zero => intro d h; cases h
  | succ n ih =>
    intro d h
    cases d with
    | none => simp [den__law_like, dfun, sSeq, sIf]
    | bool b => cases b <;> simp [den__law_like, dfun, sSeq, sIf, eAndD] <;> rfl
    | int i => simp [den__law_like, dfun, sSeq, sIf, eAndD, eCall, is_int_ok]
    | str s => simp [den__law_like, dfun, sSeq, sIf, eAndD, dEq_str s h]
    | tuple ds => exact like_tup ih h
    | list ds => cases h
    | dict ds => cases h
theorem pl_rt (n : Nat) (q : Rat) : pl (n + 2) (rt q) = true := rfl
/-! the law's ratio -/
theorem lgcd_go : ∀ (k n : Nat) (a b : Int) (L : List Nat), 0 ≤ a → 0 ≤ b → b < 2 ^ k → 2 * k + 1 ≤ n → ∃ L', whGo (tCmp dGt (eVar 1) (eC (.int 0))) (sPar 0 1 (eVar 1) (eOp dMod (eCB (d1 dInt) (aCons (eVar 0) aNil)) (eVar 1)) ([(1, 0)] ++ ([] ++ [(1, 1)]))) n ([some (.int a), some (.int b)], L) = .next ([some (.int (Int.gcd a b)), some (.int 0)], L') := by
  have same : ∀ (n : Nat) (a b : Int) (L : List Nat), whGo (tCmp dGt (eVar 1) (eC (.int 0))) (sPar 0 1 (eVar 1) (eOp dMod (eCB (d1 dInt) (aCons (eVar 0) aNil)) (eVar 1)) ([(1, 0)] ++ ([] ++ [(1, 1)]))) n ([some (.int a), some (.int b)], L) = whGo (tCmp dGt (eVar 1) (eC (.int 0))) (sPar 0 1 (eVar 1) (eOp dMod (eVar 0) (eVar 1)) ([(1, 0)] ++ ([(0, 1)] ++ [(1, 1)]))) n ([some (.int a), some (.int b)], L) := by
    intro n
    induction n with
    | zero => intros; rfl
    | succ n ih =>
      intro a b L
      by_cases hb : 0 < b
      · rw [whGo, whGo]
        simp only [List.append_nil, List.nil_append, List.cons_append] at ih ⊢
        simp [hb, sPar, dMod_i hb, flat, ih]
      · rw [whGo, whGo]
        simp [hb]
  intro k n a b L h0 h1 h2 h3
  rw [same]
  exact gcd_go k n a b L h0 h1 h2 h3
theorem common_ok {a b : Int} {k : Nat} (hb : b.natAbs < 2 ^ k) (hk : k ≤ 40000) : den__law_common [.int a, .int b] = some (.int (Int.gcd a b)) := by
  have habs : ∀ x : Int, (if x < 0 then -x else x) = (x.natAbs : Int) := fun x => by split <;> omega
  unfold den__law_common dfun
  simp only [List.length_cons, List.length_nil, Nat.zero_add, Nat.reduceAdd, if_true, List.map_cons, List.map_nil]
  rw [sSeq_next (s' := ([some (.int a.natAbs), some (.int b.natAbs)], [0, 0])) (by simp [sPar, dAbs, flat, habs])]
  obtain ⟨L, e⟩ := lgcd_go k 100000 a.natAbs b.natAbs [0, 0] (by omega) (by omega) (by
    have := Int.ofNat_lt.mpr hb
    simpa using this) (by omega)
  rw [sSeq_next (s' := ([some (.int (Int.gcd a b)), some (.int 0)], L)) (by
    unfold sWhile
    rw [e]
    simp [Int.gcd_eq_natAbs_gcd_natAbs])]
  simp
theorem ratio_ok {a b : Int} {k : Nat} (hb0 : 0 < b) (hb : b.natAbs < 2 ^ k) (hk : k ≤ 8999) : den__law_ratio [.int a, .int b] = some (rt (Rat.divInt a b)) := by
  have hg : (Int.gcd a b) ≠ 0 := fun h => by
    have := (Int.gcd_eq_zero_iff.mp h).2
    omega
  have hgb : Int.gcd a b ≤ b.natAbs := Nat.le_of_dvd (by omega) (Int.gcd_eq_natAbs_gcd_natAbs a b ▸ Nat.gcd_dvd_right _ _)
  have hnum : (Rat.divInt a b).num = a / (Int.gcd a b : Int) := by rw [Rat.num_divInt, Int.gcd_comm, Int.sign_eq_one_of_pos hb0, Int.one_mul]
  have hden : (Rat.divInt a b).den = b.natAbs / Int.gcd a b := by rw [Rat.den_divInt, if_neg (by omega), Int.gcd_comm]
  have hfd : fdivOk (Int.gcd a b : Int) = true := fdivOk_of (n := k + 1) (by omega) (by
    rw [Nat.pow_succ]
    have e : ((Int.gcd a b : Nat) : Int).natAbs = Int.gcd a b := by omega
    rw [e]; omega) (by omega) (by omega)
  unfold den__law_ratio dfun
  simp only [List.length_cons, List.length_nil, Nat.zero_add, Nat.reduceAdd, if_true, List.map_cons, List.map_nil]
  rw [sSeq_next (s' := ([some (.int a), some (.int b), some (.int (Int.gcd a b))], [0, 0, 0])) (by
    rw [sSet_next (d := .int (Int.gcd a b)) (by simp [eCall, common_ok hb (by omega : k ≤ 40000)])]
    simp [flat])]
  rw [sSeq_next (s' := ([some (.int a), some (.int b), some (.int (Int.gcd a b))], [0, 0, 0])) (by
    rw [sIf_f (by simp; omega)]
    simp)]
  have eb : b / (Int.gcd a b : Int) = ((b.natAbs / Int.gcd a b : Nat) : Int) := by
    rw [Int.natCast_ediv]
    congr 1
    omega
  simp only [sRet_a, eTup, aCons_a, eOp_a, eVar_0, eVar_s, o2_ss, o1_s, dFdiv_i hfd, aNil_a, rt, hnum, hden, eb]
  rfl
theorem power_ok {b : Int} {n : Nat} (hb : b.natAbs < 18446744073709551616) (hn : n ≤ 1000000) : den__law_power [.int b, .int n] = some (.int (b ^ n)) := by
  unfold den__law_power dfun
  simp only [List.length_cons, List.length_nil, Nat.zero_add, Nat.reduceAdd, if_true, List.map_cons, List.map_nil]
  rw [sSeq_next (s' := ([some (.int b), some (.int n), some (.int 1), none], [0, 0, 0, 0])) (by simp [sSet, flat])]
  obtain ⟨s', e, x, L, rfl⟩ := for_rng (i := 3) (n := n) (lo := 0) (body := sSet 2 0 (eOp dMul (eVar 2) (eVar 0)) ([(2, 1)] ++ [(0, 1)]))
    (fun k s => ∃ x L, s = ([some (.int b), some (.int n), some (.int (b ^ k)), x], L)) ([some (.int b), some (.int n), some (.int 1), none], [0, 0, 0, 0]) ⟨none, [0, 0, 0, 0], by rw [Int.pow_zero]⟩
    (by
      rintro k _ hk ⟨x, L, rfl⟩
      refine ⟨_, ?_, some (.int (0 + k)), (L.set 3 0).set 2 0, rfl⟩
      rw [sSet_next (d := .int (b ^ (k + 1))) (by simp [dMul_i (mulOk_r hb), Int.pow_succ])]
      simp [flat])
  rw [sSeq_next (s' := ([some (.int b), some (.int n), some (.int (b ^ n)), x], L)) (by
    rw [sFor_go (range1_ok (n := n) (by simp) (by omega))]
    exact e)]
  simp
end Lib
end

section
set_option Elab.async false
set_option linter.all false
set_option maxRecDepth 10000
/-! Sums and means of ratios. -/
namespace Lib
open DS PySem
theorem Sm.one {m : Nat} (h : 0 < m) : Sm m 1 := ⟨by show 1 < 2 ^ m; exact Nat.one_lt_two_pow (by omega), by show 1 < 2 ^ m; exact Nat.one_lt_two_pow (by omega)⟩
theorem Sm.zero {m : Nat} (h : 0 < m) : Sm m 0 := ⟨by show 0 < 2 ^ m; exact Nat.two_pow_pos m, by show 1 < 2 ^ m; exact Nat.one_lt_two_pow (by omega)⟩
theorem flat_rt (q : Rat) : flat (rt q) = true := rfl
theorem total_go {m : Nat} (hm : 0 < m) (x0 : Option D) : ∀ (ts : List Rat) (k : Nat) (q : Rat) (y : Option D) (L : List Nat), (∀ t ∈ ts, Sm m t) → 0 < k → Sm k q → k + ts.length * (m + 1) ≤ 7000 →
    ∃ y' L', forGo (.nm 2) (sSet 1 0 (eCall 2 den_plus (aCons (eVar 1) (aCons (eVar 2) aNil))) ([(1, 0)] ++ ([(2, 0)] ++ []))) (ts.map rt) ([x0, some (rt q), y], L) = .next ([x0, some (rt (ts.foldl (· + ·) q)), y'], L') ∧ Sm (k + ts.length * (m + 1)) (ts.foldl (· + ·) q)
  | [], k, q, y, L, _, hk, hq, _ => ⟨y, L, rfl, by simpa using hq⟩
  | t :: ts, k, q, y, L, ht, hk, hq, hb => by
    have hl : (t :: ts).length * (m + 1) = ts.length * (m + 1) + (m + 1) := by rw [List.length_cons, Nat.succ_mul]
    have p := plus_ok hq (ht t (.head _)) hk hm (by omega)
    obtain ⟨y', L', e, s⟩ := total_go hm x0 ts (k + m + 1) (q + t) (some (rt t)) ((L.set 2 0).set 1 0) (fun t' h => ht t' (.tail _ h)) (by omega) p.2 (by omega)
    refine ⟨y', L', ?_, ?_⟩
    · unfold forGo
      have hs : sSet 1 0 (eCall 2 den_plus (aCons (eVar 1) (aCons (eVar 2) aNil))) ([(1, 0)] ++ ([(2, 0)] ++ [])) ([x0, some (rt q), some (rt t)], L.set 2 0) = .next ([x0, some (rt (q + t)), some (rt t)], (L.set 2 0).set 1 0) := by
        rw [sSet_next (d := rt (q + t)) (by simp only [eCall_2, eVar_0, eVar_s, o1_s, p.1])]
        rw [if_pos (flat_rt _)]
        rfl
      simp only [List.map_cons, Tg.go]
      show (match sSet 1 0 (eCall 2 den_plus (aCons (eVar 1) (aCons (eVar 2) aNil))) ([(1, 0)] ++ ([(2, 0)] ++ [])) ([x0, some (rt q), some (rt t)], L.set 2 0) with
        | .next s' => forGo (.nm 2) (sSet 1 0 (eCall 2 den_plus (aCons (eVar 1) (aCons (eVar 2) aNil))) ([(1, 0)] ++ ([(2, 0)] ++ []))) (ts.map rt) s'
        | .cont s' => forGo (.nm 2) (sSet 1 0 (eCall 2 den_plus (aCons (eVar 1) (aCons (eVar 2) aNil))) ([(1, 0)] ++ ([(2, 0)] ++ []))) (ts.map rt) s'
        | .brk s' => .next s'
        | .ret d => .ret d
        | .stuck => .stuck) = _
      rw [hs]
      exact e
    · rw [hl]
      have e2 : k + (ts.length * (m + 1) + (m + 1)) = k + m + 1 + ts.length * (m + 1) := by omega
      rw [e2]
      exact s
theorem total_ok {m : Nat} {ts : List Rat} (hm : 0 < m) (ht : ∀ t ∈ ts, Sm m t) (hb : 1 + ts.length * (m + 1) ≤ 7000) :
    den_total [.list (ts.map rt)] = some (rt (ts.foldl (· + ·) 0)) ∧ Sm (1 + ts.length * (m + 1)) (ts.foldl (· + ·) 0) := by
  obtain ⟨y', L', e, s⟩ := total_go hm (some (.list (ts.map rt))) ts 1 0 none [0, 0, 0] ht (by omega) (Sm.zero (by omega)) hb
  refine ⟨?_, s⟩
  unfold den_total dfun
  simp only [List.length_cons, List.length_nil, Nat.zero_add, Nat.reduceAdd, if_true, List.map_cons, List.map_nil]
  rw [sSeq_next (s' := ([some (.list (ts.map rt)), some (rt 0), none], [0, 0, 0])) (by
    rw [sSet_next (d := rt 0) (by simp [eTup, sz]; rfl)]
    rfl)]
  rw [sSeq_next (s' := _) (by
    rw [sFor_go (ds := ts.map rt) (by simp)]
    exact e)]
  rw [sRet_ok (d := rt (ts.foldl (· + ·) 0)) (by simp)]
/-- weights and ratios -/
def wp (p : Int × Rat) : D := .tuple [.int p.1, rt p.2]
theorem lc_wp {fe : FE} {ρ : PEnv} {i j : Nat} (g : Int × Rat → D) {ps : List (Int × Rat)} (h : ∀ p ∈ ps, fe ((ρ.set i (some (.int p.1))).set j (some (rt p.2))) = some (g p)) :
    lcGo (.tp [(.nm i), (.nm j)]) tTrue fe ρ (ps.map wp) = some (ps.map g) := by
  induction ps with
  | nil => rfl
  | cons p ps ih =>
    have h1 := h p (.head _)
    have h2 := ih fun q hq => h q (.tail _ hq)
    simp only [List.map_cons]
    unfold lcGo
    have e : Tg.go (.tp [(.nm i), (.nm j)]) (wp p) = some [(i, .int p.1), (j, rt p.2)] := rfl
    rw [e]
    simp only [tTrue_a]
    show (match fe ((ρ.set i (some (.int p.1))).set j (some (rt p.2))) with
      | none => none
      | some y => match lcGo (.tp [(.nm i), (.nm j)]) tTrue fe ρ (ps.map wp) with
        | none => none
        | some ys => some (y :: ys)) = _
    rw [h1, h2]
theorem intsD_map (l : List Int) : intsD (l.map PyData.int) = some l := by
  induction l with
  | nil => rfl
  | cons a l ih => simp [intsD, ih]
theorem dSum_ok (l : List Int) : dSum (.list (l.map PyData.int)) = some (.int l.sum) := by
  simp [dSum, intsD_map]
/-- the mean of weighted ratios -/
def mean (ps : List (Int × Rat)) : Rat := (ps.map fun p : Int × Rat => p.2 * Rat.divInt p.1 (ps.map (fun q : Int × Rat => q.1)).sum).foldl (· + ·) 0
theorem mean_ok {m : Nat} {ps : List (Int × Rat)} (hm : 0 < m) (hq : ∀ p ∈ ps, Sm m p.2) (hw : ∀ p ∈ ps, p.1.natAbs < 2 ^ m) (h0 : 0 < (ps.map (fun q : Int × Rat => q.1)).sum) (hs : (ps.map (fun q : Int × Rat => q.1)).sum.natAbs < 2 ^ m) (hb : 1 + ps.length * (m + m + 1) ≤ 7000) :
    den_mean_of [.list (ps.map wp)] = some (rt (mean ps)) ∧ Sm (1 + ps.length * (m + m + 1)) (mean ps) := by
  have hl : ps.length ≤ 7000 := by
    have := Nat.le_mul_of_pos_right ps.length (show 0 < m + m + 1 by omega)
    omega
  have ht : ∀ t ∈ ps.map (fun p : Int × Rat => p.2 * Rat.divInt p.1 (ps.map (fun q : Int × Rat => q.1)).sum), Sm (m + m) t := fun t h => by
    obtain ⟨p, hp, rfl⟩ := List.mem_map.mp h
    have hm4 : m + m ≤ 8000 := by
      have := Nat.le_mul_of_pos_left (m + m + 1) (List.length_pos_of_mem hp)
      omega
    exact (times_ok (hq p hp) (Sm.divInt (n := m) h0 (hw p hp) hs) hm hm hm4).2
  have tot := total_ok (m := m + m) (ts := ps.map (fun p : Int × Rat => p.2 * Rat.divInt p.1 (ps.map (fun q : Int × Rat => q.1)).sum)) (by omega) ht (by simpa using hb)
  rw [List.length_map] at tot
  refine ⟨?_, tot.2⟩
  refine dfun_ret [some (.list (ps.map wp)), none, none, none] [0, 0, 0, 0] rfl rfl rfl ?_
  have hsz : (ps.map wp).length ≤ sz := by rw [List.length_map]; show ps.length ≤ 16777216; omega
  rw [sSeq_next (s' := ([some (.list (ps.map wp)), some (.int (ps.map (fun q : Int × Rat => q.1)).sum), none, none], [0, 0, 0, 0])) (by
    rw [sSet_next (d := .int (ps.map (fun q : Int × Rat => q.1)).sum) (by
      have e := lc_wp (i := 2) (j := 3) (fe := eVar 2) (ρ := [some (.list (ps.map wp)), none, none, none]) (fun p => PyData.int p.1) (ps := ps) (fun p _ => rfl)
      simp only [eCB_a, aCons_a, aNil_a, eLc, iSeq_a, eVar_0, o1_s, seqOf_l, if_pos hsz]
      have w : wipeD [some (.list (ps.map wp)), none, none, none] [2, 3] = [some (.list (ps.map wp)), none, none, none] := rfl
      rw [w, e, o1_s, o2_ss, o1_s, d1_1]
      have := dSum_ok (ps.map (fun q : Int × Rat => q.1))
      rw [List.map_map] at this
      exact this)]
    rfl)]
  rw [sRet_ok (d := rt (mean ps)) (by
    have e := lc_wp (i := 2) (j := 3) (fe := eCall 2 den_times (aCons (eVar 3) (aCons (eCall 2 den_lowest (aCons (eVar 2) (aCons (eVar 1) aNil))) aNil))) (ρ := [some (.list (ps.map wp)), some (.int (ps.map (fun q : Int × Rat => q.1)).sum), none, none]) (fun p => rt (p.2 * Rat.divInt p.1 (ps.map (fun q : Int × Rat => q.1)).sum)) (ps := ps) (fun p hp => by
      have hm4 : m + m ≤ 8000 := by
        have := Nat.le_mul_of_pos_left (m + m + 1) (List.length_pos_of_mem hp)
        omega
      have l1 := lowest_ok (a := p.1) h0 hs (by omega)
      have t1 := (times_ok (hq p hp) (Sm.divInt (n := m) h0 (hw p hp) hs) hm hm hm4).1
      simp only [eCall_2, List.set_cons_zero, List.set_cons_succ, eVar_0, eVar_s, o1_s, l1, t1])
    have w : wipeD [some (.list (ps.map wp)), some (.int (ps.map (fun q : Int × Rat => q.1)).sum), none, none] [2, 3] = [some (.list (ps.map wp)), some (.int (ps.map (fun q : Int × Rat => q.1)).sum), none, none] := rfl
    have t1 := tot.1
    rw [List.map_map] at t1
    simp only [eCall_1, eLc, iSeq_a, eVar_0, o1_s, seqOf_l, if_pos hsz, w, e]
    exact t1)]
end Lib
end

section
set_option Elab.async false
set_option linter.all false
set_option maxRecDepth 10000
/-! The chance of enough wins: sums of Pascal's numbers, and the same by one point after another. -/
namespace Lib
open DS PySem
/-- Pascal's numbers -/
def C : Nat → Nat → Nat
  | _, 0 => 1
  | 0, _ + 1 => 0
  | n + 1, k + 1 => C n k + C n (k + 1)
theorem C_0 (n : Nat) : C n 0 = 1 := by cases n <;> rfl
theorem C_gt : ∀ {n k : Nat}, n < k → C n k = 0
  | 0, k + 1, _ => rfl
  | n + 1, k + 1, h => by
    show C n k + C n (k + 1) = 0
    rw [C_gt (by omega), C_gt (by omega)]
theorem C_pos : ∀ {n k : Nat}, k ≤ n → 0 < C n k
  | n, 0, _ => by rw [C_0]; omega
  | n + 1, k + 1, h => by
    show 0 < C n k + C n (k + 1)
    have := C_pos (n := n) (k := k) (by omega)
    omega
theorem C_step : ∀ (n k : Nat), C n (k + 1) * (k + 1) + C n k * k = C n k * n
  | 0, 0 => rfl
  | 0, k + 1 => by simp [C]
  | n + 1, 0 => by
    have := C_step n 0
    simp only [C, C_0] at *
    omega
  | n + 1, k + 1 => by
    have h1 := C_step n k
    have h2 := C_step n (k + 1)
    have e1 : C (n + 1) (k + 1 + 1) = C n (k + 1) + C n (k + 1 + 1) := rfl
    have e2 : C (n + 1) (k + 1) = C n k + C n (k + 1) := rfl
    rw [e1, e2]
    grind
/-- the way on in the row of Pascal's numbers -/
theorem C_next {n k : Nat} (h : k ≤ n) : ((C n k : Int) * ((n : Int) - k)) / ((k : Int) + 1) = C n (k + 1) := by
  have := C_step n k
  have e : (C n k : Int) * ((n : Int) - k) = C n (k + 1) * ((k : Int) + 1) := by
    have : ((C n (k + 1) * (k + 1) + C n k * k : Nat) : Int) = (C n k * n : Nat) := by rw [this]
    push_cast at this
    grind
  rw [e]
  exact Int.mul_ediv_cancel _ (by omega)
def rsum (g : Nat → Int) : Nat → Int
  | 0 => 0
  | m + 1 => rsum g m + g m
theorem rsum_front (g : Nat → Int) : ∀ m, rsum g (m + 1) = g 0 + rsum (fun j => g (j + 1)) m
  | 0 => by simp [rsum]
  | m + 1 => by
    have := rsum_front g m
    rw [show rsum g (m + 1 + 1) = rsum g (m + 1) + g (m + 1) from rfl, this]
    simp only [rsum]
    omega
theorem rsum_congr {g h : Nat → Int} : ∀ {m : Nat}, (∀ j, j < m → g j = h j) → rsum g m = rsum h m
  | 0, _ => rfl
  | m + 1, e => by
    simp only [rsum]
    rw [rsum_congr fun j hj => e j (by omega), e m (by omega)]
theorem rsum_lin (g h : Nat → Int) (x z : Int) : ∀ m, rsum (fun j => x * g j + z * h j) m = x * rsum g m + z * rsum h m
  | 0 => by simp [rsum]
  | m + 1 => by
    simp only [rsum]
    rw [rsum_lin g h x z m]
    grind
def trm (x z : Int) (n k : Nat) : Int := C n k * x ^ k * z ^ (n - k)
/-- k of n and more -/
def Tl (x z : Int) (n a : Nat) : Int := rsum (fun j => trm x z n (a + j)) (n + 1 - a)
theorem trm_gt {x z : Int} {n k : Nat} (h : n < k) : trm x z n k = 0 := by
  simp [trm, C_gt h]
theorem trm_step (x z : Int) {n k : Nat} (h : k ≤ n) : trm x z (n + 1) (k + 1) = x * trm x z n k + z * trm x z n (k + 1) := by
  unfold trm
  have e : C (n + 1) (k + 1) = C n k + C n (k + 1) := rfl
  rw [e]
  have e1 : n + 1 - (k + 1) = n - k := by omega
  rw [e1]
  by_cases hk : k = n
  · subst hk
    rw [C_gt (n := k) (k := k + 1) (by omega)]
    simp
    grind
  · have e2 : n - k = (n - (k + 1)) + 1 := by omega
    rw [e2]
    push_cast
    grind
theorem Tl_step (x z : Int) (n a : Nat) : Tl x z (n + 1) (a + 1) = x * Tl x z n a + z * Tl x z n (a + 1) := by
  unfold Tl
  have e1 : n + 1 + 1 - (a + 1) = n + 1 - a := by omega
  rw [e1]
  have e2 : rsum (fun j => trm x z (n + 1) (a + 1 + j)) (n + 1 - a) = rsum (fun j => x * trm x z n (a + j) + z * trm x z n (a + 1 + j)) (n + 1 - a) := rsum_congr fun j hj => by
    have := trm_step x z (n := n) (k := a + j) (by omega)
    have e3 : a + 1 + j = a + j + 1 := by omega
    rw [e3]
    exact this
  rw [e2, rsum_lin]
  congr 2
  by_cases h : a ≤ n
  · have e4 : n + 1 - a = (n + 1 - (a + 1)) + 1 := by omega
    rw [e4]
    show rsum _ (n + 1 - (a + 1)) + trm x z n (a + 1 + (n + 1 - (a + 1))) = _
    rw [trm_gt (by omega), Int.add_zero]
  · have e4 : n + 1 - a = 0 := by omega
    have e5 : n + 1 - (a + 1) = 0 := by omega
    rw [e4, e5]
theorem Tl_gt {x z : Int} {n a : Nat} (h : n < a) : Tl x z n a = 0 := by
  unfold Tl
  have : n + 1 - a = 0 := by omega
  rw [this]
  rfl
theorem Tl_0 (x z : Int) : ∀ n, Tl x z n 0 = (x + z) ^ n
  | 0 => by simp [Tl, rsum, trm, C_0]
  | n + 1 => by
    have ih := Tl_0 x z n
    have h := Tl_step x z n 0
    have f : Tl x z (n + 1) 0 = z ^ (n + 1) + Tl x z (n + 1) 1 := by
      unfold Tl
      show rsum _ (n + 1 + 1) = _
      rw [rsum_front]
      simp only [trm, C_0, Nat.zero_add]
      simp
      exact rsum_congr fun j hj => by
        have e : n + 1 - (j + 1) = n - j := by omega
        rw [Nat.add_comm 1 j, e]
    have g : Tl x z n 0 = z ^ n + Tl x z n 1 := by
      unfold Tl
      show rsum _ (n + 1) = _
      rw [rsum_front]
      simp only [trm, C_0, Nat.zero_add]
      simp
      exact rsum_congr fun j hj => by rw [Nat.add_comm 1 j]
    rw [f, h]
    rw [Int.pow_succ, Int.pow_succ, ← ih]
    simp only [Nat.zero_add]
    grind
/-- the chance, one point after another -/
def V (p : Rat) : Nat → Nat → Rat
  | 0, _ => 1
  | _ + 1, 0 => 0
  | a + 1, b + 1 => p * V p a (b + 1) + (1 - p) * V p (a + 1) b
theorem pow_ne {y : Int} {n : Nat} (hy : 0 < y) : (y : Rat) ^ n ≠ 0 := by
  have h : (0 : Rat) < y := by exact_mod_cast hy
  have := Rat.pow_pos (n := n) h
  grind
theorem V_Tl {x y : Int} (hy : 0 < y) : ∀ a b : Nat, 0 < a + b → V ((x : Rat) / y) a b = (Tl x (y - x) (a + b - 1) a : Rat) / (y : Rat) ^ (a + b - 1)
  | 0, b + 1, _ => by
    have : 0 + (b + 1) - 1 = b := by omega
    rw [this, Tl_0]
    have : x + (y - x) = y := by omega
    rw [this]
    simp only [V]
    rw [Rat.intCast_pow]
    have h := pow_ne (n := b) hy
    grind
  | a + 1, 0, _ => by
    rw [Tl_gt (by omega)]
    simp only [V]
    grind
  | a + 1, b + 1, _ => by
    have h1 := V_Tl (x := x) hy a (b + 1) (by omega)
    have h2 := V_Tl (x := x) hy (a + 1) b (by omega)
    have e0 : a + 1 + (b + 1) - 1 = (a + b) + 1 := by omega
    have e1 : a + (b + 1) - 1 = a + b := by omega
    have e2 : a + 1 + b - 1 = a + b := by omega
    rw [e1] at h1
    rw [e2] at h2
    rw [e0, Tl_step]
    simp only [V]
    rw [h1, h2, Rat.pow_succ]
    have h := pow_ne (n := a + b) hy
    have hy' := pow_ne (n := 1) hy
    rw [Rat.pow_one] at hy'
    push_cast
    generalize (y : Rat) ^ (a + b) = W at h ⊢
    generalize (y : Rat) = Y at hy' ⊢
    generalize (x : Rat) = X at ⊢
    generalize (Tl x (y - x) (a + b) a : Rat) = A at ⊢
    generalize (Tl x (y - x) (a + b) (a + 1) : Rat) = B at ⊢
    grind
end Lib
end

section
set_option Elab.async false
set_option linter.all false
/-! Plain: all orders of 0 .. n - 1, ascending; the first of the least. -/
namespace Lib
/-- first difference, else the shorter -/
def llt : List Nat → List Nat → Bool
  | [], [] => false
  | [], _ :: _ => true
  | _ :: _, [] => false
  | x :: xs, y :: ys => if x = y then llt xs ys else decide (x < y)
theorem llt_irrefl : ∀ o, llt o o = false
  | [] => rfl
  | x :: xs => by simp [llt, llt_irrefl xs]
theorem llt_trans : ∀ {a b c}, llt a b = true → llt b c = true → llt a c = true
  | [], [], _, h, _ => by cases h
  | [], _ :: _, [], _, h => by cases h
  | [], _ :: _, _ :: _, _, _ => rfl
  | _ :: _, [], _, h, _ => by cases h
  | _ :: _, _ :: _, [], _, h => by cases h
  | x :: xs, y :: ys, z :: zs, h, h' => by
    unfold llt at h h' ⊢
    split at h
    · rename_i e; subst e
      split at h'
      · rename_i e; subst e; rw [if_pos rfl]; exact llt_trans h h'
      · rename_i e; rw [if_neg e]; exact h'
    · split at h'
      · rename_i e; subst e; rename_i e; rw [if_neg e]; exact h
      · have h1 := of_decide_eq_true h
        have h2 := of_decide_eq_true h'
        rw [if_neg (by omega)]
        exact decide_eq_true (by omega)
theorem llt_tri : ∀ (a b : List Nat), llt a b = false → llt b a = false → a = b
  | [], [], _, _ => rfl
  | [], _ :: _, h, _ => by cases h
  | _ :: _, [], _, h => by cases h
  | x :: xs, y :: ys, h, h' => by
    unfold llt at h h'
    by_cases e : x = y
    · subst e
      rw [if_pos rfl] at h h'
      rw [llt_tri xs ys h h']
    · rw [if_neg e] at h
      rw [if_neg (fun q => e q.symm)] at h'
      have h1 := of_decide_eq_false h
      have h2 := of_decide_eq_false h'
      omega
theorem llt_app_l : ∀ {a b : List Nat} (x y : List Nat), a.length = b.length → llt a b = true → llt (a ++ x) (b ++ y) = true
  | [], [], _, _, _, h => by cases h
  | [], _ :: _, _, _, h, _ => by simp at h
  | _ :: _, [], _, _, h, _ => by simp at h
  | p :: a, q :: b, x, y, hl, h => by
    unfold llt at h
    show llt (p :: (a ++ x)) (q :: (b ++ y)) = true
    unfold llt
    split at h
    · rename_i e; rw [if_pos e]; exact llt_app_l x y (by simpa using hl) h
    · rename_i e; rw [if_neg e]; exact h
theorem llt_app_r : ∀ (a : List Nat) {x y : List Nat}, llt x y = true → llt (a ++ x) (a ++ y) = true
  | [], _, _, h => h
  | p :: a, x, y, h => by
    show llt (p :: (a ++ x)) (p :: (a ++ y)) = true
    unfold llt
    rw [if_pos rfl]
    exact llt_app_r a h
/-! orders -/
def grow (n : Nat) (rows : List (List Nat)) : List (List Nat) := rows.flatMap fun row => ((List.range n).filter fun i => !row.contains i).map fun i => row ++ [i]
def ords (n : Nat) : Nat → List (List Nat)
  | 0 => [[]]
  | k + 1 => grow n (ords n k)
theorem mem_grow {n : Nat} {rows : List (List Nat)} {o : List Nat} : o ∈ grow n rows ↔ ∃ row ∈ rows, ∃ i, i < n ∧ i ∉ row ∧ o = row ++ [i] := by
  unfold grow
  simp only [List.mem_flatMap, List.mem_map, List.mem_filter, List.mem_range, Bool.not_eq_true', List.contains_eq_mem, decide_eq_false_iff_not]
  constructor
  · rintro ⟨row, h, i, ⟨h1, h2⟩, rfl⟩; exact ⟨row, h, i, h1, h2, rfl⟩
  · rintro ⟨row, h, i, h1, h2, rfl⟩; exact ⟨row, h, i, ⟨h1, h2⟩, rfl⟩
/-- a row of k different numbers below n -/
structure IsRow (n k : Nat) (o : List Nat) : Prop where
  len : o.length = k
  nd : o.Nodup
  lt : ∀ x ∈ o, x < n
theorem mem_ords {n : Nat} : ∀ {k : Nat} {o : List Nat}, o ∈ ords n k ↔ IsRow n k o
  | 0, o => by
    constructor
    · intro h
      have : o = [] := by simpa [ords] using h
      subst this
      exact ⟨rfl, List.nodup_nil, by simp⟩
    · intro h
      have := h.len
      have : o = [] := List.length_eq_zero_iff.mp this
      simp [ords, this]
  | k + 1, o => by
    show o ∈ grow n (ords n k) ↔ _
    rw [mem_grow]
    constructor
    · rintro ⟨row, h, i, hi, hn, rfl⟩
      have r := mem_ords.mp h
      refine ⟨by simp [r.len], ?_, ?_⟩
      · rw [List.nodup_append]
        refine ⟨r.nd, by simp, ?_⟩
        intro a ha b hb
        simp at hb
        subst hb
        intro e; subst e; exact hn ha
      · intro x hx
        rcases List.mem_append.mp hx with h1 | h1
        · exact r.lt x h1
        · simp at h1; omega
    · intro h
      have hl := h.len
      have hne : o ≠ [] := by intro e; subst e; simp at hl
      have e := List.dropLast_concat_getLast hne
      have nd := h.nd
      rw [← e, List.nodup_append] at nd
      refine ⟨o.dropLast, mem_ords.mpr ⟨by simp [hl], nd.1, fun x hx => h.lt x ((List.dropLast_sublist o).subset hx)⟩, o.getLast hne, h.lt _ (List.getLast_mem hne), ?_, e.symm⟩
      intro hm
      exact nd.2.2 _ hm _ (.head _) rfl
theorem ords_sorted (n : Nat) : ∀ k, (ords n k).Pairwise fun a b => llt a b = true
  | 0 => by simp [ords]
  | k + 1 => by
    show (grow n (ords n k)).Pairwise _
    unfold grow
    rw [List.pairwise_flatMap]
    refine ⟨?_, ?_⟩
    · intro row _
      rw [List.pairwise_map]
      refine List.Pairwise.imp ?_ ((List.pairwise_lt_range (n := n)).filter _)
      intro a b hab
      refine llt_app_r row ?_
      unfold llt
      rw [if_neg (by omega)]
      exact decide_eq_true hab
    · refine List.Pairwise.imp_of_mem ?_ (ords_sorted n k)
      intro a b ha hb hab x hx y hy
      simp only [List.mem_map] at hx hy
      obtain ⟨i, _, rfl⟩ := hx
      obtain ⟨j, _, rfl⟩ := hy
      exact llt_app_l _ _ (by rw [(mem_ords.mp ha).len, (mem_ords.mp hb).len]) hab
theorem range_row (n : Nat) : IsRow n n (List.range n) := ⟨by simp, List.nodup_range, by simp⟩
theorem IsRow.perm {n : Nat} {o : List Nat} (h : IsRow n n o) : o.Perm (List.range n) := by
  have p1 : ((List.range n).filter fun i => o.contains i).Perm o := by
    refine (List.perm_ext_iff_of_nodup (List.nodup_range.filter _) h.nd).mpr ?_
    intro a
    simp only [List.mem_filter, List.mem_range, List.contains_eq_mem, decide_eq_true_eq]
    exact ⟨fun h => h.2, fun ha => ⟨h.lt a ha, ha⟩⟩
  have p2 := List.filter_append_perm (fun i => o.contains i) (List.range n)
  have hl := p2.length_eq
  have l1 := p1.length_eq
  rw [h.len] at l1
  rw [List.length_append, l1, List.length_range] at hl
  have e : ((List.range n).filter fun i => !o.contains i) = [] := List.length_eq_zero_iff.mp (by omega)
  rw [e, List.append_nil] at p2
  exact p1.symm.trans p2
theorem IsRow.of_perm {n : Nat} {o : List Nat} (h : o.Perm (List.range n)) : IsRow n n o :=
  ⟨by simpa using h.length_eq, h.nodup_iff.mpr List.nodup_range, fun x hx => List.mem_range.mp (h.mem_iff.mp hx)⟩
theorem IsRow.of_perm' {n : Nat} {o o' : List Nat} (h : IsRow n n o) (p : o'.Perm o) : IsRow n n o' := IsRow.of_perm (p.trans h.perm)
theorem ords_len : ∀ n, n ≤ 6 → (ords n n).length ≤ 720 := by
  intro n hn
  have : ∀ n, n < 7 → (ords n n).length ≤ 720 := by decide +kernel
  exact this n (by omega)
theorem ords_ne (n : Nat) : ords n n ≠ [] := List.ne_nil_of_mem (mem_ords.mpr (range_row n))
/-! the first of the least -/
def fmin {α : Type} (lt : α → α → Bool) (x : α) (xs : List α) : α := xs.foldl (fun a y => if lt y a = true then y else a) x
theorem fmin_map {α β : Type} {lt : α → α → Bool} {lt' : β → β → Bool} (f : α → β) : ∀ (xs : List α) (x : α), (∀ a b, lt' (f a) (f b) = lt a b) → fmin lt' (f x) (xs.map f) = f (fmin lt x xs)
  | [], x, _ => rfl
  | y :: ys, x, h => by
    show fmin lt' (if lt' (f y) (f x) = true then f y else f x) (ys.map f) = f (fmin lt (if lt y x = true then y else x) ys)
    rw [h, ← fmin_map f ys _ h]
    cases lt y x <;> rfl
theorem fmin_mem {α : Type} (lt : α → α → Bool) : ∀ (xs : List α) (x : α), fmin lt x xs ∈ x :: xs
  | [], x => .head _
  | y :: ys, x => by
    have := fmin_mem lt ys (if lt y x = true then y else x)
    show fmin lt (if lt y x = true then y else x) ys ∈ _
    rcases List.mem_cons.mp this with e | e
    · rw [e]; split
      · exact .tail _ (.head _)
      · exact .head _
    · exact .tail _ (.tail _ e)
/-- when later ones count as greater among equals, the first with the least key is the least of all -/
theorem fmin_key {α : Type} {lt : α → α → Bool} {c : α → Int} : ∀ (xs : List α) (x : α), (x :: xs).Pairwise (fun a b => lt b a = decide (c b < c a)) → fmin lt x xs = fmin (fun a b => decide (c a < c b)) x xs
  | [], _, _ => rfl
  | y :: ys, x, h => by
    have h1 := List.rel_of_pairwise_cons h (.head _)
    show fmin lt (if lt y x = true then y else x) ys = fmin _ (if decide (c y < c x) = true then y else x) ys
    rw [h1]
    refine fmin_key ys _ ?_
    split
    · exact (List.pairwise_cons.mp h).2
    · rw [List.pairwise_cons] at h ⊢
      exact ⟨fun a ha => h.1 a (.tail _ ha), (List.pairwise_cons.mp h.2).2⟩
/-- the least of a strict linear order is one, however it is sought -/
theorem fmin_le {α : Type} {lt : α → α → Bool} (tr : ∀ {a b c}, lt a b = true → lt b c = true → lt a c = true) (co : ∀ {a b c}, lt a b = true → lt a c = true ∨ lt c b = true) (ir : ∀ a, lt a a = false) : ∀ (xs : List α) (x : α), ∀ y ∈ x :: xs, lt y (fmin lt x xs) = false
  | [], x, y, hy => by
    simp at hy
    subst hy
    exact ir y
  | z :: zs, x, y, hy => by
    show lt y (fmin lt (if lt z x = true then z else x) zs) = false
    have ih := fmin_le (lt := lt) tr co ir zs (if lt z x = true then z else x)
    have h0 := ih _ (.head _)
    rcases List.mem_cons.mp hy with e | hy
    · subst e
      split at h0
      · rename_i hz
        rw [if_pos hz]
        cases q : lt y (fmin lt z zs) with
        | false => rfl
        | true => rw [tr hz q] at h0; cases h0
      · rename_i hz; rw [if_neg hz]; exact h0
    · rcases List.mem_cons.mp hy with e | hy
      · subst e
        split at h0
        · rename_i hz; rw [if_pos hz]; exact h0
        · rename_i hz; rw [if_neg hz]
          cases q : lt y (fmin lt x zs) with
          | false => rfl
          | true =>
            rcases co (c := x) q with h | h
            · exact absurd h hz
            · rw [h] at h0; cases h0
      · exact ih y (.tail _ hy)
end Lib
end

section
set_option Elab.async false
set_option linter.all false
/-! Plain: rising times falling is the least sum of products. -/
namespace Lib
def dot : List Int → List Int → Int
  | a :: as, b :: bs => a * b + dot as bs
  | _, _ => 0
def psum : List (Int × Int) → Int
  | [] => 0
  | p :: P => p.1 * p.2 + psum P
theorem psum_perm {P Q : List (Int × Int)} (h : P.Perm Q) : psum P = psum Q := by
  induction h with
  | nil => rfl
  | cons x _ ih => simp only [psum, ih]
  | swap x y l => simp only [psum]; omega
  | trans _ _ a b => exact a.trans b
theorem rearr : ∀ (A B : List Int) (P : List (Int × Int)), A.Pairwise (· ≤ ·) → B.Pairwise (fun a b => b ≤ a) → A.Perm (P.map Prod.fst) → B.Perm (P.map Prod.snd) → dot A B ≤ psum P
  | [], B, P, _, _, pa, pb => by
    have : P = [] := by
      have := pa.length_eq
      simpa using this.symm
    subst this
    simp [dot, psum]
  | a :: A, [], P, _, _, pa, pb => by
    have h1 := pa.length_eq
    have h2 := pb.length_eq
    simp at h1 h2
    omega
  | a :: A, b :: B, P, sa, sb, pa, pb => by
    have ha : a ∈ P.map Prod.fst := pa.mem_iff.mp (.head _)
    obtain ⟨⟨a', y⟩, hp, e⟩ := List.mem_map.mp ha
    simp at e; subst e
    have p1 := List.perm_cons_erase hp
    generalize P.erase (a', y) = P1 at p1
    have pa1 : A.Perm (P1.map Prod.fst) := (pa.trans (p1.map Prod.fst)).cons_inv
    have pb1 : (b :: B).Perm (y :: P1.map Prod.snd) := pb.trans (p1.map Prod.snd)
    rw [psum_perm p1]
    show a' * b + dot A B ≤ a' * y + psum P1
    rw [List.pairwise_cons] at sa sb
    by_cases e : b = y
    · subst e
      have := rearr A B P1 sa.2 sb.2 pa1 pb1.cons_inv
      omega
    · have hb : b ∈ P1.map Prod.snd := by
        rcases List.mem_cons.mp (pb1.mem_iff.mp (.head _)) with h | h
        · exact absurd h e
        · exact h
      obtain ⟨⟨x, b'⟩, hp', e'⟩ := List.mem_map.mp hb
      simp at e'; subst e'
      have p2 := List.perm_cons_erase hp'
      generalize P1.erase (x, b') = P2 at p2
      have pa2 : A.Perm (x :: P2.map Prod.fst) := pa1.trans (p2.map Prod.fst)
      have pb2 : B.Perm (y :: P2.map Prod.snd) := by
        have : (b' :: B).Perm (b' :: y :: P2.map Prod.snd) := (pb1.trans ((p2.map Prod.snd).cons y)).trans (.swap _ _ _)
        exact this.cons_inv
      have ih := rearr A B ((x, y) :: P2) sa.2 sb.2 pa2 pb2
      have hx : a' ≤ x := sa.1 x (pa2.mem_iff.mpr (.head _))
      have hy : y ≤ b' := sb.1 y (pb2.mem_iff.mpr (.head _))
      rw [psum_perm p2]
      simp only [psum] at ih ⊢
      have h0 := Int.mul_nonneg (show (0 : Int) ≤ x - a' by omega) (show (0 : Int) ≤ b' - y by omega)
      rw [Int.sub_mul, Int.mul_sub, Int.mul_sub] at h0
      omega
end Lib
end

section
set_option Elab.async false
set_option linter.all false
/-! Plain: exchanging the two that help most, as long as one helps. -/
namespace Lib
abbrev K3 := Int × Nat × Nat
def lt3 (a b : K3) : Bool := if a.1 = b.1 then (if a.2.1 = b.2.1 then decide (a.2.2 < b.2.2) else decide (a.2.1 < b.2.1)) else decide (a.1 < b.1)
theorem lt3_iff (a b : K3) : lt3 a b = true ↔ a.1 < b.1 ∨ (a.1 = b.1 ∧ (a.2.1 < b.2.1 ∨ (a.2.1 = b.2.1 ∧ a.2.2 < b.2.2))) := by
  unfold lt3
  split
  · split
    · rw [decide_eq_true_iff]; omega
    · rw [decide_eq_true_iff]; omega
  · rw [decide_eq_true_iff]; omega
theorem lt3_irrefl (a : K3) : lt3 a a = false := by
  cases h : lt3 a a with
  | false => rfl
  | true => rw [lt3_iff] at h; omega
theorem lt3_trans {a b c : K3} (h : lt3 a b = true) (h' : lt3 b c = true) : lt3 a c = true := by
  rw [lt3_iff] at *; omega
theorem lt3_co {a b c : K3} (h : lt3 a b = true) : lt3 a c = true ∨ lt3 c b = true := by
  rw [lt3_iff] at *; rw [lt3_iff]; omega
theorem lt3_tri {a b : K3} (h : lt3 a b = false) (h' : lt3 b a = false) : a = b := by
  have h1 : ¬ lt3 a b = true := by rw [h]; decide
  have h2 : ¬ lt3 b a = true := by rw [h']; decide
  rw [lt3_iff] at h1 h2
  obtain ⟨a1, a2, a3⟩ := a
  obtain ⟨b1, b2, b3⟩ := b
  simp only [Prod.mk.injEq]
  simp only at h1 h2
  omega
/-- the least of two lists with the same members -/
theorem fmin3_same {x y : K3} {xs ys : List K3} (h : ∀ a, a ∈ x :: xs ↔ a ∈ y :: ys) : fmin lt3 x xs = fmin lt3 y ys := by
  refine lt3_tri ?_ ?_
  · exact fmin_le (lt := lt3) lt3_trans lt3_co lt3_irrefl ys y _ ((h _).mp (fmin_mem lt3 xs x))
  · exact fmin_le (lt := lt3) lt3_trans lt3_co lt3_irrefl xs x _ ((h _).mpr (fmin_mem lt3 ys y))
/-- the first of the least from None on -/
def ofold {α : Type} (lt : α → α → Bool) (b : Option α) (l : List α) : Option α := l.foldl (fun b y => match b with | none => some y | some x => if lt y x = true then some y else some x) b
theorem ofold_some {α : Type} (lt : α → α → Bool) : ∀ (l : List α) (x : α), ofold lt (some x) l = some (fmin lt x l)
  | [], _ => rfl
  | y :: l, x => by
    show ofold lt (if lt y x = true then some y else some x) l = some (fmin lt (if lt y x = true then y else x) l)
    rw [← ofold_some]
    cases lt y x <;> rfl
theorem ofold_cons {α : Type} (lt : α → α → Bool) (x : α) (l : List α) : ofold lt none (x :: l) = some (fmin lt x l) := ofold_some lt l x
theorem ofold_app {α : Type} (lt : α → α → Bool) (b : Option α) (l l' : List α) : ofold lt b (l ++ l') = ofold lt (ofold lt b l) l' := List.foldl_append
theorem ofold_one {α : Type} (lt : α → α → Bool) (b : Option α) (y : α) : ofold lt b [y] = (match b with | none => some y | some x => if lt y x = true then some y else some x) := rfl
/-! exchanging -/
def exch (o : List Nat) (i j : Nat) : List Nat := (o.set i (o.getD j 0)).set j (o.getD i 0)
theorem exch_len (o : List Nat) (i j : Nat) : (exch o i j).length = o.length := by simp [exch]
theorem set_perm {o : List Nat} {i : Nat} (h : i < o.length) (x : Nat) : (o.getD i 0 :: o.set i x).Perm (x :: o) := by
  induction o generalizing i with
  | nil => simp at h
  | cons y o ih =>
    cases i with
    | zero => exact .swap _ _ _
    | succ i =>
      have := ih (i := i) (by simpa using h)
      show (o.getD i 0 :: y :: o.set i x).Perm (x :: y :: o)
      exact (List.Perm.swap _ _ _).trans ((this.cons y).trans (.swap _ _ _))
theorem exch_perm {o : List Nat} {i j : Nat} (hij : i < j) (hj : j < o.length) : (exch o i j).Perm o := by
  have p1 := set_perm (o := o) (i := i) (by omega) (o.getD j 0)
  have p2 := set_perm (o := o.set i (o.getD j 0)) (i := j) (by simpa using hj) (o.getD i 0)
  have e : (o.set i (o.getD j 0)).getD j 0 = o.getD j 0 := by
    simp [List.getD_eq_getElem?_getD, List.getElem?_set_ne (Nat.ne_of_lt hij)]
  rw [e] at p2
  have p3 : (o.getD j 0 :: exch o i j).Perm (o.getD j 0 :: o) := p2.trans p1
  exact p3.cons_inv
theorem exch_cut {o : List Nat} {i j : Nat} (hij : i < j) (hj : j < o.length) : o.take i ++ [o.getD j 0] ++ (o.take j).drop (i + 1) ++ [o.getD i 0] ++ o.drop (j + 1) = exch o i j := by
  refine List.ext_getElem? fun k => ?_
  simp only [exch, List.getD_eq_getElem?_getD]
  have e1 : (o.take i).length = i := by simp; omega
  have e2 : ((o.take j).drop (i + 1)).length = j - (i + 1) := by simp; omega
  simp only [List.append_assoc, List.getElem?_append, e1, e2, List.length_cons, List.length_nil, List.getElem?_set, List.length_set]
  by_cases h1 : k < i
  · rw [if_pos h1, if_neg (by omega), if_neg (by omega), List.getElem?_take, if_pos h1]
  · rw [if_neg h1]
    by_cases h2 : k = i
    · subst h2
      rw [if_pos (by omega), if_neg (by omega), if_pos rfl, if_pos (by omega)]
      simp
    · rw [if_neg (by omega)]
      by_cases h3 : k < j
      · rw [if_pos (by omega), if_neg (by omega), if_neg (by omega), List.getElem?_drop, List.getElem?_take, if_pos (by omega)]
        congr 1; omega
      · rw [if_neg (by omega)]
        by_cases h4 : k = j
        · subst h4
          rw [if_pos (by omega), if_pos rfl, if_pos (by omega)]
          have : k - i - (0 + 1) - (k - (i + 1)) = 0 := by omega
          rw [this]
          simp
        · rw [if_neg (by omega), if_neg (by omega), if_neg (by omega), List.getElem?_drop]
          congr 1; omega
/-! the pairs, in the program's order and in the law's -/
def key (c : List Nat → Int) (o : List Nat) (i j : Nat) : K3 := (c (exch o i j), i, j)
def keysP (c : List Nat → Int) (o : List Nat) (n : Nat) : List K3 := (List.range n).flatMap fun j => (List.range j).map fun i => key c o i j
def keysL (c : List Nat → Int) (o : List Nat) (n : Nat) : List K3 := (List.range n).flatMap fun i => (List.range (n - (i + 1))).map fun t => key c o i (i + 1 + t)
theorem mem_keysP {c : List Nat → Int} {o : List Nat} {n : Nat} {k : K3} : k ∈ keysP c o n ↔ ∃ i j, i < j ∧ j < n ∧ k = key c o i j := by
  unfold keysP
  simp only [List.mem_flatMap, List.mem_map, List.mem_range]
  constructor
  · rintro ⟨j, hj, i, hi, rfl⟩; exact ⟨i, j, hi, hj, rfl⟩
  · rintro ⟨i, j, hi, hj, rfl⟩; exact ⟨j, hj, i, hi, rfl⟩
theorem mem_keysL {c : List Nat → Int} {o : List Nat} {n : Nat} {k : K3} : k ∈ keysL c o n ↔ ∃ i j, i < j ∧ j < n ∧ k = key c o i j := by
  unfold keysL
  simp only [List.mem_flatMap, List.mem_map, List.mem_range]
  constructor
  · rintro ⟨i, hi, t, ht, rfl⟩; exact ⟨i, i + 1 + t, by omega, by omega, rfl⟩
  · rintro ⟨i, j, hi, hj, rfl⟩; exact ⟨i, by omega, j - (i + 1), by omega, by rw [show i + 1 + (j - (i + 1)) = j by omega]⟩
/-- the exchange that helps most -/
def bestK (c : List Nat → Int) (n : Nat) (o : List Nat) : K3 := match keysP c o n with
  | [] => (0, 0, 0)
  | x :: xs => fmin lt3 x xs
theorem bestK_p {c : List Nat → Int} {n : Nat} {o : List Nat} (hn : 2 ≤ n) : ∃ x xs, keysP c o n = x :: xs ∧ bestK c n o = fmin lt3 x xs := by
  cases h : keysP c o n with
  | nil =>
    have : key c o 0 1 ∈ keysP c o n := mem_keysP.mpr ⟨0, 1, by omega, by omega, rfl⟩
    rw [h] at this; cases this
  | cons x xs => exact ⟨x, xs, rfl, by unfold bestK; rw [h]⟩
theorem bestK_l {c : List Nat → Int} {n : Nat} {o : List Nat} (hn : 2 ≤ n) : ofold lt3 none (keysL c o n) = some (bestK c n o) := by
  obtain ⟨x, xs, h, e⟩ := bestK_p (c := c) (o := o) hn
  cases h' : keysL c o n with
  | nil =>
    have : key c o 0 1 ∈ keysL c o n := mem_keysL.mpr ⟨0, 1, by omega, by omega, rfl⟩
    rw [h'] at this; cases this
  | cons y ys =>
    rw [ofold_cons, e]
    congr 1
    refine fmin3_same fun a => ?_
    rw [← h, ← h', mem_keysP, mem_keysL]
theorem bestK_is {c : List Nat → Int} {n : Nat} {o : List Nat} (hn : 2 ≤ n) : ∃ i j, i < j ∧ j < n ∧ bestK c n o = key c o i j := by
  obtain ⟨x, xs, h, e⟩ := bestK_p (c := c) (o := o) hn
  have := fmin_mem lt3 xs x
  rw [← h, ← e] at this
  exact mem_keysP.mp this
def climb (c : List Nat → Int) (n : Nat) : Nat → List Nat → List Nat
  | 0, o => o
  | k + 1, o => if c o ≤ (bestK c n o).1 then o else climb c n k (exch o (bestK c n o).2.1 (bestK c n o).2.2)
def mu (c : List Nat → Int) (n : Nat) (o : List Nat) : Nat := (ords n n).countP fun x => decide (c x < c o)
theorem countP_lt {α : Type} {p q : α → Bool} {a : α} : ∀ {l : List α}, (∀ x, p x = true → q x = true) → a ∈ l → q a = true → p a = false → l.countP p < l.countP q
  | [], _, h, _, _ => by cases h
  | x :: l, hpq, h, hq, hp => by
    have le : l.countP p ≤ l.countP q := by
      induction l with
      | nil => exact Nat.le_refl _
      | cons y l ih =>
        rw [List.countP_cons, List.countP_cons]
        have := List.countP_mono_left (l := y :: l) (p := p) (q := q) (fun x _ => hpq x)
        rw [List.countP_cons, List.countP_cons] at this
        exact this
    rw [List.countP_cons, List.countP_cons]
    rcases List.mem_cons.mp h with e | h
    · subst e
      rw [if_pos hq, if_neg (by rw [hp]; decide)]
      omega
    · have ih := countP_lt (l := l) hpq h hq hp
      have : (if p x = true then 1 else 0) ≤ (if q x = true then 1 else 0) := by
        split
        · rename_i e; rw [if_pos (hpq x e)]; exact Nat.le_refl _
        · exact Nat.zero_le _
      omega
theorem mu_lt {c : List Nat → Int} {n : Nat} {o o' : List Nat} (h : IsRow n n o') (hc : c o' < c o) : mu c n o' < mu c n o := by
  refine countP_lt (a := o') (fun x hx => ?_) (mem_ords.mpr h) (decide_eq_true hc) (decide_eq_false (by omega))
  have := of_decide_eq_true hx
  exact decide_eq_true (by omega)
theorem mu_720 {c : List Nat → Int} {n : Nat} {o : List Nat} (h : IsRow n n o) (hn : n ≤ 6) : mu c n o < 720 := by
  have h1 := countP_lt (l := ords n n) (p := fun x => decide (c x < c o)) (q := fun _ => true) (a := o) (fun _ _ => rfl) (mem_ords.mpr h) rfl (decide_eq_false (by omega))
  have h2 := ords_len n hn
  have h3 : (ords n n).countP (fun _ => true) ≤ (ords n n).length := List.countP_le_length
  unfold mu
  omega
theorem exch_row {n : Nat} {o : List Nat} {i j : Nat} (h : IsRow n n o) (hij : i < j) (hj : j < n) : IsRow n n (exch o i j) := h.of_perm' (exch_perm hij (by rw [h.len]; exact hj))
theorem best_row {c : List Nat → Int} {n : Nat} {o : List Nat} (hn : 2 ≤ n) (h : IsRow n n o) : IsRow n n (exch o (bestK c n o).2.1 (bestK c n o).2.2) ∧ (bestK c n o).1 = c (exch o (bestK c n o).2.1 (bestK c n o).2.2) := by
  obtain ⟨i, j, hij, hj, e⟩ := bestK_is (c := c) (o := o) hn
  rw [e]
  exact ⟨exch_row h hij hj, rfl⟩
theorem climb_more {c : List Nat → Int} {n : Nat} (hn : 2 ≤ n) : ∀ (k k' : Nat) (o : List Nat), IsRow n n o → mu c n o < k → mu c n o < k' → climb c n k o = climb c n k' o
  | 0, _, _, _, h, _ => by omega
  | _ + 1, 0, _, _, _, h => by omega
  | k + 1, k' + 1, o, hr, h, h' => by
    unfold climb
    split
    · rfl
    · rename_i q
      obtain ⟨r, e⟩ := best_row (c := c) hn hr
      have := mu_lt (c := c) (o := o) r (by omega)
      exact climb_more hn k k' _ r (by omega) (by omega)
theorem climb_row {c : List Nat → Int} {n : Nat} (hn : 2 ≤ n) : ∀ (k : Nat) (o : List Nat), IsRow n n o → IsRow n n (climb c n k o)
  | 0, _, h => h
  | k + 1, o, h => by
    unfold climb
    split
    · exact h
    · exact climb_row hn k _ (best_row hn h).1
theorem climb_end {c : List Nat → Int} {n : Nat} (hn : 2 ≤ n) : ∀ (k : Nat) (o : List Nat), IsRow n n o → mu c n o < k → c (climb c n k o) ≤ (bestK c n (climb c n k o)).1
  | 0, _, _, h => by omega
  | k + 1, o, hr, h => by
    unfold climb
    split
    · rename_i q; exact q
    · rename_i q
      obtain ⟨r, e⟩ := best_row (c := c) hn hr
      have := mu_lt (c := c) (o := o) r (by omega)
      exact climb_end hn k _ r (by omega)
theorem climb_again {c : List Nat → Int} {n : Nat} (hn : 2 ≤ n) (k k' : Nat) (o : List Nat) (hr : IsRow n n o) (h : mu c n o < k) : climb c n k' (climb c n k o) = climb c n k o := by
  cases k' with
  | zero => rfl
  | succ k' =>
    have := climb_end hn k o hr h
    rw [climb, if_pos this]
end Lib
end

section
set_option Elab.async false
set_option linter.all false
set_option maxRecDepth 10000
/-! Shared: steps, comprehensions with tests and with two fors, tuples of naturals, tables, keys in order. -/
namespace Lib
open DS PySem
theorem sSet_deep {i l : Nat} {f : FE} {c : Esc} {ρ : PEnv} {L : List Nat} {d : D} (h : f ρ = some d) (hd : flat d = false) : sSet i l f c (ρ, L) = .next (ρ.set i (some d), (demote c L).set i l) := by
  rw [sSet_next (s := (ρ, L)) h, if_neg (by rw [hd]; decide)]
theorem sFor_at {fi : FA} {c : Esc} {t : Tg} {body : FS} {ρ : PEnv} {L : List Nat} {ds : List D} (h : fi ρ = some ds) : sFor fi c t body (ρ, L) = forGo t body ds (ρ, demote c L) := sFor_go (s := (ρ, L)) h
theorem sIf_tt {c : FT} {f g : FS} {ρ : PEnv} {L : List Nat} (h : c ρ = some true) : sIf c f g (ρ, L) = f (ρ, L) := sIf_t (s := (ρ, L)) h
theorem sIf_ff {c : FT} {f g : FS} {ρ : PEnv} {L : List Nat} (h : c ρ = some false) : sIf c f g (ρ, L) = g (ρ, L) := sIf_f (s := (ρ, L)) h
theorem tOr_t {f g : FT} {ρ : PEnv} (h : f ρ = some true) : tOrD f g ρ = some true := by
  unfold tOrD; rw [h]
theorem tOr_f {f g : FT} {ρ : PEnv} (h : f ρ = some false) : tOrD f g ρ = g ρ := by
  unfold tOrD; rw [h]
theorem forGo_next {t : Tg} {body : FS} {d : D} {ds : List D} {s s' : S} {l : List (Nat × D)} (h : t.go d = some l) (h' : body (setsD s.1 l, zeros s.2 l) = .next s') : forGo t body (d :: ds) s = forGo t body ds s' := by
  rw [forGo]; simp only [h, h']
theorem forGo_ret {t : Tg} {body : FS} {d e : D} {ds : List D} {s : S} {l : List (Nat × D)} (h : t.go d = some l) (h' : body (setsD s.1 l, zeros s.2 l) = .ret e) : forGo t body (d :: ds) s = .ret e := by
  rw [forGo]; simp only [h, h']
theorem rngD_succ (lo : Int) (k : Nat) : rngD lo (k + 1) = .int lo :: rngD (lo + 1) k := by
  unfold rngD
  rw [List.range_succ_eq_map, List.map_cons, List.map_map]
  congr 1
  · congr 1; omega
  · refine List.map_congr_left fun a _ => ?_
    show PyData.int _ = _
    congr 1
    push_cast
    omega
theorem flat_list (ds : List D) : flat (.list ds) = false := by simp [flat]
theorem sAug_next {i : Nat} {op : D → D → Option D} {f : FE} {ρ : PEnv} {L : List Nat} {x y d : D} (hi : eVar i ρ = some x) (hf : f ρ = some y) (ho : op x y = some d) : sAug i op f (ρ, L) = .next (ρ.set i (some d), L.set i 0) := by
  unfold sAug
  simp only [hi, hf, o2_ss, ho]
theorem sTup_flat {t : Tg} {f : FE} {c : Esc} {ρ : PEnv} {L : List Nat} {d : D} {l : List (Nat × D)} (h : f ρ = some d) (h' : t.go d = some l) (hd : flat d = true) : sTup t f c (ρ, L) = .next (setsD ρ l, zeros L l) := by
  unfold sTup
  simp only [h, h', hd, if_true]
theorem pass {f g : FE} {ρ : PEnv} {L : List Nat} {d : D} {n : Nat} (hf : f ρ = some d) (hg : g ρ = some d) (hp : pl n d = true) {G : Fn} (hG : G [d, d] = some (.bool true)) :
    sIf (tNotD (tTru (eCall 2 G (aCons f (aCons g aNil))))) (sRet (eC (.bool false))) sNil (ρ, L) = .next (ρ, L) := by
  rw [sIf_f (by simp only [tNotD_a, tTru_a, eCall_2, hf, hg, o1_s, hG, dTru_b]; rfl)]
  rfl
theorem sExt_ok {i : Nat} {f : FE} {c : Esc} {ρ : PEnv} {L : List Nat} {es ds : List D} (h : f ρ = some (.list es)) (hi : eVar i ρ = some (.list ds)) (hl : ds.length + es.length ≤ 16777216) (hL : lv (demote c L) i = 1) : sExt i f c (ρ, L) = .next (ρ.set i (some (.list (ds ++ es))), demote c L) := by
  unfold sExt
  simp only [h, hi]
  have : ds.length + es.length ≤ sz := hl
  rw [if_pos ⟨this, hL⟩]
/-! comprehensions -/
theorem lc_of {α : Type} {t : Tg} {fe : FE} {ρ : PEnv} (h g : α → D) : ∀ {l : List α}, (∀ a ∈ l, ∃ m, t.go (h a) = some m ∧ fe (setsD ρ m) = some (g a)) → lcGo t tTrue fe ρ (l.map h) = some (l.map g)
  | [], _ => rfl
  | a :: l, hh => by
    obtain ⟨m, e1, e2⟩ := hh a (.head _)
    have ih := lc_of h g (l := l) fun d' hd => hh d' (.tail _ hd)
    simp only [List.map_cons]
    unfold lcGo
    rw [e1]
    simp only [tTrue_a, e2, ih]
theorem eLc_of {α : Type} {fi : FA} {t : Tg} {fe : FE} {vs : List Nat} {ρ : PEnv} (h g : α → D) {l : List α} (hi : fi ρ = some (l.map h)) (hl : l.length ≤ 16777216) (hg : ∀ a ∈ l, ∃ m, t.go (h a) = some m ∧ fe (setsD (wipeD ρ vs) m) = some (g a)) :
    eLc fi t tTrue fe vs ρ = some (.list (l.map g)) := by
  unfold eLc
  rw [hi, o1_s]
  have : (l.map h).length ≤ sz := by rw [List.length_map]; exact hl
  rw [if_pos this, lc_of h g hg, o1_s]
theorem lc_if {α : Type} {t : Tg} {ft : FT} {fe : FE} {ρ : PEnv} (h g : α → D) (p : α → Bool) : ∀ {l : List α}, (∀ a ∈ l, ∃ m, t.go (h a) = some m ∧ ft (setsD ρ m) = some (p a) ∧ (p a = true → fe (setsD ρ m) = some (g a))) → lcGo t ft fe ρ (l.map h) = some ((l.filter p).map g)
  | [], _ => rfl
  | a :: l, hh => by
    obtain ⟨m, e1, e2, e3⟩ := hh a (.head _)
    have ih := lc_if h g p (l := l) fun d' hd => hh d' (.tail _ hd)
    simp only [List.map_cons]
    unfold lcGo
    rw [e1]
    cases hp : p a with
    | true => simp only [e2, hp, e3 hp, ih, List.filter_cons_of_pos, List.map_cons]
    | false => simp only [e2, hp, ih, List.filter_cons_of_neg, Bool.false_eq_true, not_false_eq_true]
theorem eLc_if {α : Type} {fi : FA} {t : Tg} {ft : FT} {fe : FE} {vs : List Nat} {ρ : PEnv} (h g : α → D) (p : α → Bool) {l : List α} (hi : fi ρ = some (l.map h)) (hl : l.length ≤ 16777216) (hg : ∀ a ∈ l, ∃ m, t.go (h a) = some m ∧ ft (setsD (wipeD ρ vs) m) = some (p a) ∧ (p a = true → fe (setsD (wipeD ρ vs) m) = some (g a))) :
    eLc fi t ft fe vs ρ = some (.list ((l.filter p).map g)) := by
  unfold eLc
  rw [hi, o1_s]
  have : (l.map h).length ≤ sz := by rw [List.length_map]; exact hl
  rw [if_pos this, lc_if h g p hg, o1_s]
theorem lc2_of {α : Type} {t : Tg} {inner : PEnv → Option (List D)} {ρ : PEnv} (h : α → D) (g : α → List D) : ∀ {l : List α}, (∀ a ∈ l, ∃ m, t.go (h a) = some m ∧ inner (setsD ρ m) = some (g a)) → lc2Go t tTrue inner ρ (l.map h) = some (l.flatMap g)
  | [], _ => rfl
  | a :: l, hh => by
    obtain ⟨m, e1, e2⟩ := hh a (.head _)
    have ih := lc2_of h g (l := l) fun d' hd => hh d' (.tail _ hd)
    simp only [List.map_cons]
    unfold lc2Go
    rw [e1]
    simp only [tTrue_a, e2, ih, List.flatMap_cons]
theorem eLc2_of {α : Type} {fi fi1 : FA} {t t1 : Tg} {ft1 : FT} {fe : FE} {vs vs1 : List Nat} {ρ : PEnv} (h : α → D) (g : α → List D) {l : List α} (hi : fi ρ = some (l.map h)) (hg : ∀ a ∈ l, ∃ m, t.go (h a) = some m ∧ inLc fi1 t1 ft1 fe vs1 (setsD (wipeD ρ vs) m) = some (g a)) (hl : (l.flatMap g).length ≤ 16777216) :
    eLc2 fi t tTrue fi1 t1 ft1 fe vs vs1 ρ = some (.list (l.flatMap g)) := by
  unfold eLc2
  rw [hi, o1_s, lc2_of h g hg, o1_s]
  have : (l.flatMap g).length ≤ sz := hl
  rw [if_pos this]
theorem inLc_of {α : Type} {fi : FA} {t : Tg} {fe : FE} {vs : List Nat} {ρ : PEnv} (h g : α → D) {l : List α} (hi : fi ρ = some (l.map h)) (hg : ∀ a ∈ l, ∃ m, t.go (h a) = some m ∧ fe (setsD (wipeD ρ vs) m) = some (g a)) :
    inLc fi t tTrue fe vs ρ = some (l.map g) := by
  unfold inLc
  rw [hi, o1_s, lc_of h g hg]
theorem inLc_if {α : Type} {fi : FA} {t : Tg} {ft : FT} {fe : FE} {vs : List Nat} {ρ : PEnv} (h g : α → D) (p : α → Bool) {l : List α} (hi : fi ρ = some (l.map h)) (hg : ∀ a ∈ l, ∃ m, t.go (h a) = some m ∧ ft (setsD (wipeD ρ vs) m) = some (p a) ∧ (p a = true → fe (setsD (wipeD ρ vs) m) = some (g a))) :
    inLc fi t ft fe vs ρ = some ((l.filter p).map g) := by
  unfold inLc
  rw [hi, o1_s, lc_if h g p hg]
def nat (k : Nat) : D := .int (k : Int)
theorem rngD_0 (n : Nat) : rngD 0 n = (List.range n).map nat := by
  unfold rngD nat
  simp
theorem range1_nat {f : FE} {ρ : PEnv} {n : Nat} (h : f ρ = some (.int n)) (hn : n < 4611686018427387904) : iRange1 f ρ = some ((List.range n).map nat) := by
  rw [range1_ok h hn, rngD_0]
/-! tuples of naturals -/
def nt (o : List Nat) : D := .tuple (o.map nat)
@[simp] theorem nt_len (o : List Nat) : dLen (nt o) = some (.int o.length) := by simp [nt]
theorem nt_flat (o : List Nat) : flat (nt o) = true := by
  have : ∀ o : List Nat, flats (o.map nat) = true := by
    intro o
    induction o with
    | nil => rfl
    | cons a o ih => simpa [flats, nat, flat] using ih
  simpa [nt, flat] using this o
theorem atI_mp {α : Type} {xs : List α} {f : α → D} {j : Nat} (h : j < xs.length) : L2.atI (xs.map f) (j : Int) = some (f xs[j]) := L2.atI_nat (by simp [h])
theorem nt_ix {o : List Nat} {i : Nat} (h : i < o.length) : dIx (nt o) (.int i) = some (nat (o.getD i 0)) := by
  show L2.atI (o.map nat) (i : Int) = _
  rw [atI_mp h]
  simp [List.getD_eq_getElem?_getD, List.getElem?_eq_getElem h]
theorem nt_seq (o : List Nat) : seqOf (nt o) = some (o.map nat) := rfl
theorem eqv_nat (i j : Nat) : PyData.eqv (nat i) (nat j) = decide (i = j) := by
  simp only [nat, PyData.eqv]
  rw [Bool.eq_iff_iff]
  simp
  omega
theorem nt_in (i : Nat) (o : List Nat) : dIn (nat i) (nt o) = some (o.contains i) := by
  have h : (o.map nat).all scal1 = true := by
    rw [List.all_eq_true]
    intro x hx
    obtain ⟨k, _, rfl⟩ := List.mem_map.mp hx
    rfl
  show (if (scal1 (nat i) && (o.map nat).all scal1) = true then _ else _) = _
  rw [if_pos (by rw [h]; rfl)]
  congr 1
  rw [List.any_map]
  induction o with
  | nil => rfl
  | cons a o ih =>
    have h' : (o.map nat).all scal1 = true := by
      rw [List.all_eq_true] at h ⊢
      exact fun x hx => h x (.tail _ hx)
    rw [List.any_cons, ih h', List.contains_cons]
    congr 1
    show PyData.eqv (nat a) (nat i) = (i == a)
    rw [eqv_nat]
    by_cases e : a = i
    · subst e; simp
    · have : ¬ i = a := fun q => e q.symm
      simp [e, this]
theorem nt_notin (i : Nat) (o : List Nat) : dNotIn (nat i) (nt o) = some (!o.contains i) := by
  unfold dNotIn
  rw [nt_in, o1_s]
theorem nt_snoc {o : List Nat} {i : Nat} (h : o.length < 16777216) : dAdd (nt o) (.tuple [nat i]) = some (nt (o ++ [i])) := by
  show (if (o.map nat).length + 1 ≤ sz then _ else _) = _
  rw [if_pos (by rw [List.length_map]; exact h)]
  simp [nt]
/-! tables -/
def trow (n : Nat) (f : Nat → Int) : D := .tuple ((List.range n).map fun v => .int (f v))
def tb (n : Nat) (W : Nat → Nat → Int) : D := .tuple ((List.range n).map fun u => trow n (W u))
@[simp] theorem trow_len (n : Nat) (f : Nat → Int) : dLen (trow n f) = some (.int n) := by simp [trow]
@[simp] theorem tb_len (n : Nat) (W : Nat → Nat → Int) : dLen (tb n W) = some (.int n) := by simp [tb]
theorem trow_ix {n v : Nat} {f : Nat → Int} (h : v < n) : dIx (trow n f) (.int v) = some (.int (f v)) := by
  show L2.atI ((List.range n).map _) (v : Int) = _
  rw [atI_mp (by simpa using h)]
  simp
theorem tb_ix {n u : Nat} {W : Nat → Nat → Int} (h : u < n) : dIx (tb n W) (.int u) = some (trow n (W u)) := by
  show L2.atI ((List.range n).map _) (u : Int) = _
  rw [atI_mp (by simpa using h)]
  simp
theorem trow_flat (n : Nat) (f : Nat → Int) : flat (trow n f) = true := by
  have : ∀ o : List Nat, flats (o.map fun v => PyData.int (f v)) = true := by
    intro o
    induction o with
    | nil => rfl
    | cons a o ih => simpa [flats, flat] using ih
  simpa [trow, flat] using this (List.range n)
theorem tb_flat (n : Nat) (W : Nat → Nat → Int) : flat (tb n W) = true := by
  have : ∀ o : List Nat, flats (o.map fun u => trow n (W u)) = true := by
    intro o
    induction o with
    | nil => rfl
    | cons a o ih => simpa [flats, trow_flat] using ih
  simpa [tb, flat] using this (List.range n)
/-! sums -/
theorem rsum_list (g : Nat → Int) : ∀ n, ((List.range n).map g).sum = rsum g n
  | 0 => rfl
  | n + 1 => by
    rw [List.range_succ, List.map_append, List.sum_append, rsum_list g n]
    simp [rsum]
theorem sum_flat (g : Nat → Nat → Int) (m : Nat → Nat) : ∀ n, ((List.range n).flatMap fun p => (List.range (m p)).map (g p)).sum = rsum (fun p => rsum (g p) (m p)) n
  | 0 => rfl
  | n + 1 => by
    rw [List.range_succ, List.flatMap_append, List.sum_append, sum_flat g m n]
    simp [rsum, rsum_list]
theorem enum_map {α : Type} (h : α → D) (l : List α) (d : α) : enumD (l.map h) = (List.range l.length).map fun p => .tuple [nat p, h (l.getD p d)] := by
  unfold enumD
  refine List.ext_getElem? fun k => ?_
  by_cases hk : k < l.length
  · simp [hk, nat, List.getD_eq_getElem?_getD]
  · rw [List.getElem?_eq_none (by simp; omega), List.getElem?_eq_none (by simp; omega)]
/-! the order of trees -/
theorem allCmp_map {α : Type} {h : α → D} {l : List α} (h1 : ∀ a ∈ l, (h a).canLay0 = true) (h2 : ∀ a ∈ l, (h a).depth ≤ 60) (h3 : ∀ a ∈ l, noneD (h a) = false) (h4 : ∀ a ∈ l, ∀ b ∈ l, PySem.W.alike (h a) (h b) = true) : allCmp (l.map h) = true := by
  have c1 : ∀ l : List α, (∀ a ∈ l, (h a).canLay0 = true) → PyData.canLayAll0 (l.map h) = true := by
    intro l
    induction l with
    | nil => intro _; rfl
    | cons a l ih => intro q; simp [PyData.canLayAll0, q a (.head _), ih fun b hb => q b (.tail _ hb)]
  have c2 : ∀ l : List α, (∀ a ∈ l, (h a).depth ≤ 60) → PyData.depthAll (l.map h) ≤ 60 := by
    intro l
    induction l with
    | nil => intro _; simp [PyData.depthAll]
    | cons a l ih =>
      intro q
      have := q a (.head _)
      have := ih fun b hb => q b (.tail _ hb)
      simp only [List.map_cons, PyData.depthAll]
      omega
  unfold allCmp
  simp only [Bool.and_eq_true, decide_eq_true_eq, List.all_eq_true, List.mem_map]
  refine ⟨⟨c1 l h1, c2 l h2⟩, ?_⟩
  rintro x ⟨a, ha, rfl⟩
  refine ⟨by rw [h3 a ha]; rfl, ?_⟩
  rintro y ⟨b, hb, rfl⟩
  exact h4 a ha b hb
theorem minD_fmin {α : Type} {lt : α → α → Bool} (h : α → D) (x : α) (xs : List α) (e : ∀ a b, PySem.W.dataLt (h a) (h b) = lt a b) : PySem.W.minD (h x) (xs.map h) = h (fmin lt x xs) := fmin_map (lt' := PySem.W.dataLt) h xs x e
theorem min_list {α : Type} {lt : α → α → Bool} {h : α → D} {x : α} {xs : List α} (ok : allCmp ((x :: xs).map h) = true) (fl : ∀ a, flat (h a) = true) (e : ∀ a b, PySem.W.dataLt (h a) (h b) = lt a b) : dMin1 (.list ((x :: xs).map h)) = some (h (fmin lt x xs)) := by
  have m := minD_fmin h x xs e
  show bestOf PySem.W.minD (h x :: xs.map h) = _
  unfold bestOf
  simp only [m]
  have ok' : allCmp (h x :: xs.map h) = true := ok
  rw [if_pos (by rw [ok', fl]; rfl)]
/-- the items of a tuple, one by one -/
def rowLt (xs ys : List D) : Bool := PySem.W.dataLt (.tuple xs) (.tuple ys)
theorem rowLt_int (x y : Int) (xs ys : List D) : rowLt (.int x :: xs) (.int y :: ys) = if x = y then rowLt xs ys else decide (x < y) := by
  unfold rowLt
  rw [PySem.W.dataLt_tuple, PySem.W.dataLt_cons (by simp [PySem.W.alike]), PySem.W.dataLt_int, PySem.W.dataLt_tuple]
  by_cases h : x = y
  · rw [if_pos h, if_pos (by simp [PyData.eqv, h])]
  · rw [if_neg h, if_neg (by simp [PyData.eqv, h])]
theorem rowLt_nil : rowLt [] [] = false := by
  unfold rowLt; rw [PySem.W.dataLt_tuple]; exact PyProof.Rows.lex_irrefl _
theorem dataLt_nt (a b : List Nat) : PySem.W.dataLt (nt a) (nt b) = llt a b := by
  have : ∀ a b : List Nat, rowLt (a.map nat) (b.map nat) = llt a b := by
    intro a
    induction a with
    | nil =>
      intro b
      cases b with
      | nil => exact rowLt_nil
      | cons y b => unfold rowLt; rw [PySem.W.dataLt_tuple]; rfl
    | cons x a ih =>
      intro b
      cases b with
      | nil => unfold rowLt; rw [PySem.W.dataLt_tuple]; rfl
      | cons y b =>
        show rowLt (.int x :: a.map nat) (.int y :: b.map nat) = _
        rw [rowLt_int, ih, llt]
        by_cases h : x = y
        · rw [if_pos h, if_pos (by omega)]
        · rw [if_neg h, if_neg (by omega), decide_eq_decide]; omega
  exact this a b
theorem rowLt_one (x y : D) (h : PySem.W.alike x y = true) (h' : PyData.eqv x y = true → PySem.W.dataLt x y = false) : rowLt [x] [y] = PySem.W.dataLt x y := by
  unfold rowLt
  rw [PySem.W.dataLt_tuple, PySem.W.dataLt_cons h]
  split
  · rename_i e
    rw [h' e]; exact PyProof.Rows.lex_irrefl _
  · rfl
theorem alike_nats : ∀ a b : List Nat, PySem.W.alikeAll (a.map nat) (b.map nat) = true
  | [], _ => by rw [List.map_nil, PySem.W.alikeAll]
  | _ :: _, [] => by rw [List.map_nil, List.map_cons, PySem.W.alikeAll]
  | x :: a, y :: b => by rw [List.map_cons, List.map_cons, PySem.W.alikeAll, alike_nats a b]; simp [nat, PySem.W.alike]
theorem alike_nt (a b : List Nat) : PySem.W.alike (nt a) (nt b) = true := by
  unfold nt
  rw [PySem.W.alike]
  exact alike_nats a b
theorem lay_nats : ∀ a : List Nat, PyData.canLayAll0 (a.map nat) = true
  | [] => rfl
  | _ :: a => by simp [PyData.canLayAll0, nat, PyData.canLay0, lay_nats a]
theorem depth_nats : ∀ a : List Nat, PyData.depthAll (a.map nat) ≤ 1
  | [] => by simp [PyData.depthAll]
  | _ :: a => by
    have := depth_nats a
    simp only [List.map_cons, PyData.depthAll, nat, PyData.depth]
    omega
theorem lay_nt (a : List Nat) : (nt a).canLay0 = true := by
  unfold nt
  rw [PyData.canLay0]
  exact lay_nats a
theorem depth_nt (a : List Nat) : (nt a).depth ≤ 2 := by
  have := depth_nats a
  unfold nt
  simp only [PyData.depth]
  omega
end Lib
end

section
set_option Elab.async false
set_option linter.all false
set_option maxRecDepth 10000
/-! All orders: the program's list and the laws. -/
namespace Lib
open DS PySem
def den_all_orders : Fn := dfun 5 1 (sSeq (sSet 1 0 (eLst (aCons (eTup aNil) aNil)) ([] ++ []))
  (sSeq (sFor (iRange1 (eVar 0)) [] (.nm 2)
  (sSet 1 0 (eLc2 (iSeq (eVar 1)) (.nm 3) tTrue (iRange1 (eVar 0)) (.nm 4) (tCmp dNotIn (eVar 4) (eVar 3)) (eOp dAdd (eVar 3) (eTup (aCons (eVar 4) aNil))) [3, 4] [4]) ([(1, 1)] ++ ([] ++ ([(3, 1)] ++ ([(4, 0)] ++ []))))))
  (sRet (eVar 1))))
def den__law_orders : Fn := dfun 6 1 (sSeq (sSet 1 0 (eLst (aCons (eTup aNil) aNil)) ([] ++ []))
  (sSeq (sFor (iRange1 (eVar 0)) [] (.nm 2)
  (sSeq (sSet 3 1 (eLst aNil) [])
  (sSeq (sFor (iSeq (eVar 1)) [(1, 0)] (.nm 4)
  (sExt 3 (eLc (iRange1 (eVar 0)) (.nm 5) (tCmp dNotIn (eVar 5) (eVar 4)) (eOp dAdd (eVar 4) (eTup (aCons (eVar 5) aNil))) [5]) ([] ++ ([(4, 1)] ++ ([(5, 0)] ++ [])))))
  (sSet 1 0 (eVar 3) [(3, 0)]))))
  (sRet (eVar 1))))
def ol (rows : List (List Nat)) : D := .list (rows.map nt)
theorem ords_len' {n k : Nat} (hn : n ≤ 6) (hk : k ≤ n) : (ords n k).length ≤ 720 := by
  have : ∀ n, n < 7 → ∀ k, k < n + 1 → (ords n k).length ≤ 720 := by decide +kernel
  exact this n (by omega) k (by omega)
theorem grow_map (n : Nat) (rows : List (List Nat)) : (rows.flatMap fun row => ((List.range n).filter fun i => !row.contains i).map fun i => nt (row ++ [i])) = (grow n rows).map nt := by
  unfold grow
  rw [List.map_flatMap]
  simp only [List.map_map, Function.comp_def]
theorem all_orders_ok {n : Nat} (hn : n ≤ 6) : den_all_orders [.int n] = some (ol (ords n n)) := by
  refine dfun_ret [some (.int n), none, none, none, none] [0, 0, 0, 0, 0] rfl rfl rfl ?_
  rw [sSeq_next (s' := ([some (.int n), some (ol (ords n 0)), none, none, none], [0, 0, 0, 0, 0])) (by rfl)]
  obtain ⟨s', e, x, rfl⟩ := for_rng (i := 2) (n := n) (lo := 0) (body := sSet 1 0 (eLc2 (iSeq (eVar 1)) (.nm 3) tTrue (iRange1 (eVar 0)) (.nm 4) (tCmp dNotIn (eVar 4) (eVar 3)) (eOp dAdd (eVar 3) (eTup (aCons (eVar 4) aNil))) [3, 4] [4]) ([(1, 1)] ++ ([] ++ ([(3, 1)] ++ ([(4, 0)] ++ [])))))
    (fun k s => ∃ x, s = ([some (.int n), some (ol (ords n k)), x, none, none], [0, 0, 0, 0, 0])) _ ⟨none, rfl⟩ (by
      rintro k _ hk ⟨x, rfl⟩
      have l1 := ords_len' (n := n) (k := k + 1) hn (by omega)
      have hl : eLc2 (iSeq (eVar 1)) (.nm 3) tTrue (iRange1 (eVar 0)) (.nm 4) (tCmp dNotIn (eVar 4) (eVar 3)) (eOp dAdd (eVar 3) (eTup (aCons (eVar 4) aNil))) [3, 4] [4] [some (.int n), some (ol (ords n k)), some (.int (0 + k)), none, none] = some (ol (ords n (k + 1))) := by
        rw [eLc2_of nt (fun row => ((List.range n).filter fun i => !row.contains i).map fun i => nt (row ++ [i])) (l := ords n k) rfl]
        · rw [grow_map]; rfl
        · intro row hr
          refine ⟨_, rfl, ?_⟩
          refine inLc_if nat (fun i => nt (row ++ [i])) (fun i => !row.contains i) (range1_nat rfl (by omega)) ?_
          intro i hi
          refine ⟨_, rfl, nt_notin i row, fun _ => ?_⟩
          have hl := (mem_ords.mp hr).len
          exact nt_snoc (by omega)
        · rw [grow_map, List.length_map]
          show (ords n (k + 1)).length ≤ _
          omega
      refine ⟨_, ?_, some (.int (0 + k)), rfl⟩
      rw [sSet_next hl]
      rfl)
  rw [sSeq_next (s' := ([some (.int n), some (ol (ords n n)), x, none, none], [0, 0, 0, 0, 0])) (by
    rw [sFor_go (range1_ok (n := n) rfl (by omega))]
    exact e)]
  exact sRet_ok rfl
theorem ords_succ (n k : Nat) : grow n (ords n k) = ords n (k + 1) := rfl
theorem grow_take {n : Nat} {rows : List (List Nat)} {row : List Nat} {j : Nat} (h : rows[j]? = some row) : grow n (rows.take (j + 1)) = grow n (rows.take j) ++ ((List.range n).filter fun i => !row.contains i).map fun i => row ++ [i] := by
  rw [List.take_add_one, h]
  unfold grow
  simp
theorem grow_take_len (n : Nat) (rows : List (List Nat)) (j : Nat) : (grow n (rows.take j)).length ≤ (grow n rows).length := by
  conv => rhs; rw [← List.take_append_drop j rows]
  unfold grow
  rw [List.flatMap_append, List.length_append]
  omega
theorem law_orders_in {n k : Nat} (hn : n ≤ 6) (hk : k < n) (x2 x4 : Option D) : ∃ y, sFor (iSeq (eVar 1)) [(1, 0)] (.nm 4)
  (sExt 3 (eLc (iRange1 (eVar 0)) (.nm 5) (tCmp dNotIn (eVar 5) (eVar 4)) (eOp dAdd (eVar 4) (eTup (aCons (eVar 5) aNil))) [5]) ([] ++ ([(4, 1)] ++ ([(5, 0)] ++ [])))) ([some (.int n), some (ol (ords n k)), x2, some (.list []), x4, none], [0, 0, 0, 1, 0, 0]) = .next ([some (.int n), some (ol (ords n k)), x2, some (ol (ords n (k + 1))), y, none], [0, 0, 0, 1, 0, 0]) := by
  have l1 := ords_len' (n := n) (k := k + 1) hn (by omega)
  obtain ⟨s', e, y, rfl⟩ := for_inv (t := .nm 4) (body := sExt 3 (eLc (iRange1 (eVar 0)) (.nm 5) (tCmp dNotIn (eVar 5) (eVar 4)) (eOp dAdd (eVar 4) (eTup (aCons (eVar 5) aNil))) [5]) ([] ++ ([(4, 1)] ++ ([(5, 0)] ++ []))))
    (fun j s => ∃ y, s = ([some (.int n), some (ol (ords n k)), x2, some (ol (grow n ((ords n k).take j))), y, none], [0, 0, 0, 1, 0, 0])) ((ords n k).map nt) 0 ([some (.int n), some (ol (ords n k)), x2, some (.list []), x4, none], [0, 0, 0, 1, 0, 0]) ⟨x4, by rw [List.take_zero]; rfl⟩ (by
      rintro j d _ hd ⟨y, rfl⟩
      rw [List.getElem?_map] at hd
      obtain ⟨row, hr, rfl⟩ := Option.map_eq_some_iff.mp hd
      have hl := (mem_ords.mp (List.mem_of_getElem? hr)).len
      rw [Nat.zero_add]
      have hc : eLc (iRange1 (eVar 0)) (.nm 5) (tCmp dNotIn (eVar 5) (eVar 4)) (eOp dAdd (eVar 4) (eTup (aCons (eVar 5) aNil))) [5] [some (.int n), some (ol (ords n k)), x2, some (ol (grow n ((ords n k).take j))), some (nt row), none] = some (.list (((List.range n).filter fun i => !row.contains i).map fun i => nt (row ++ [i]))) := by
        refine eLc_if nat (fun i => nt (row ++ [i])) (fun i => !row.contains i) (range1_nat rfl (by omega)) (by rw [List.length_range]; omega) ?_
        intro i hi
        exact ⟨_, rfl, nt_notin i row, fun _ => nt_snoc (by omega)⟩
      have eg := grow_take (n := n) hr
      have lg := Nat.le_trans (grow_take_len n (ords n k) (j + 1)) l1
      rw [eg, List.length_append, List.length_map] at lg
      refine ⟨[(4, nt row)], _, rfl, ?_, some (nt row), rfl⟩
      show sExt 3 _ _ ([some (.int n), some (ol (ords n k)), x2, some (ol (grow n ((ords n k).take j))), some (nt row), none], [0, 0, 0, 1, 0, 0]) = _
      rw [sExt_ok (ds := (grow n ((ords n k).take j)).map nt) hc rfl (by rw [List.length_map, List.length_map]; omega) rfl, eg]
      have e4 : ol (grow n (List.take j (ords n k)) ++ List.map (fun i => row ++ [i]) (List.filter (fun i => !row.contains i) (List.range n))) = .list (List.map nt (grow n (List.take j (ords n k))) ++ List.map (fun i => nt (row ++ [i])) (List.filter (fun i => !row.contains i) (List.range n))) := by
        unfold ol
        rw [List.map_append, List.map_map]
        rfl
      rw [e4]
      rfl)
  refine ⟨y, ?_⟩
  rw [sFor_go (ds := (ords n k).map nt) rfl]
  rw [Nat.zero_add, List.length_map, List.take_length, ords_succ] at e
  exact e
theorem law_orders_ok {n : Nat} (hn : n ≤ 6) : den__law_orders [.int n] = some (ol (ords n n)) := by
  refine dfun_ret [some (.int n), none, none, none, none, none] [0, 0, 0, 0, 0, 0] rfl rfl rfl ?_
  rw [sSeq_next (s' := ([some (.int n), some (ol (ords n 0)), none, none, none, none], [0, 0, 0, 0, 0, 0])) (by rfl)]
  obtain ⟨s', e, x2, x3, x4, rfl⟩ := for_rng (i := 2) (n := n) (lo := 0) (body := (sSeq (sSet 3 1 (eLst aNil) [])
  (sSeq (sFor (iSeq (eVar 1)) [(1, 0)] (.nm 4)
  (sExt 3 (eLc (iRange1 (eVar 0)) (.nm 5) (tCmp dNotIn (eVar 5) (eVar 4)) (eOp dAdd (eVar 4) (eTup (aCons (eVar 5) aNil))) [5]) ([] ++ ([(4, 1)] ++ ([(5, 0)] ++ [])))))
  (sSet 1 0 (eVar 3) [(3, 0)]))))
    (fun k s => ∃ x2 x3 x4, s = ([some (.int n), some (ol (ords n k)), x2, x3, x4, none], [0, 0, 0, 0, 0, 0])) _ ⟨none, none, none, rfl⟩ (by
      rintro k _ hk ⟨x2, x3, x4, rfl⟩
      obtain ⟨y, e⟩ := law_orders_in hn hk (some (.int (0 + k))) x4
      refine ⟨_, ?_, some (.int (0 + k)), some (ol (ords n (k + 1))), y, rfl⟩
      rw [sSeq_next (s' := ([some (.int n), some (ol (ords n k)), some (.int (0 + k)), some (.list []), x4, none], [0, 0, 0, 1, 0, 0])) (by rfl)]
      rw [sSeq_next e]
      rw [sSet_next (d := ol (ords n (k + 1))) (by rfl), if_neg (by simp [ol, flat])]
      rfl)
  rw [sSeq_next (s' := ([some (.int n), some (ol (ords n n)), x2, x3, x4, none], [0, 0, 0, 0, 0, 0])) (by
    rw [sFor_go (range1_ok (n := n) rfl (by omega))]
    exact e)]
  exact sRet_ok rfl
end Lib
end

section
set_option Elab.async false
set_option linter.all false
/-! Plain: shares of pieces; the greatest product of worths is nearly without envy. -/
namespace Lib
theorem Int.lt_or_le (a b : Int) : a < b ∨ b ≤ a := by omega
/-- all rows of k numbers below n, ascending -/
def shr (n : Nat) : Nat → List (List Nat)
  | 0 => [[]]
  | k + 1 => (shr n k).flatMap fun row => (List.range n).map fun i => row ++ [i]
structure IsShr (n m : Nat) (s : List Nat) : Prop where
  len : s.length = m
  lt : ∀ x ∈ s, x < n
theorem mem_shr {n : Nat} : ∀ {k : Nat} {o : List Nat}, o ∈ shr n k ↔ IsShr n k o
  | 0, o => by
    constructor
    · intro h
      have : o = [] := by simpa [shr] using h
      subst this
      exact ⟨rfl, by simp⟩
    · intro h
      have : o = [] := List.length_eq_zero_iff.mp h.len
      simp [shr, this]
  | k + 1, o => by
    show o ∈ (shr n k).flatMap _ ↔ _
    simp only [List.mem_flatMap, List.mem_map, List.mem_range]
    constructor
    · rintro ⟨row, h, i, hi, rfl⟩
      have r := mem_shr.mp h
      refine ⟨by simp [r.len], ?_⟩
      intro x hx
      rcases List.mem_append.mp hx with h1 | h1
      · exact r.lt x h1
      · simp at h1; omega
    · intro h
      have hl := h.len
      have hne : o ≠ [] := by intro e; subst e; simp at hl
      have e := List.dropLast_concat_getLast hne
      exact ⟨o.dropLast, mem_shr.mpr ⟨by simp [hl], fun x hx => h.lt x ((List.dropLast_sublist o).subset hx)⟩, o.getLast hne, h.lt _ (List.getLast_mem hne), e⟩
theorem shr_len (n : Nat) : ∀ k, (shr n k).length = n ^ k
  | 0 => rfl
  | k + 1 => by
    have : ∀ l : List (List Nat), (l.flatMap fun row => (List.range n).map fun i => row ++ [i]).length = l.length * n := by
      intro l
      induction l with
      | nil => simp
      | cons a l ih => rw [List.flatMap_cons, List.length_append, ih, List.length_map, List.length_range, List.length_cons, Nat.succ_mul, Nat.add_comm]
    show ((shr n k).flatMap _).length = _
    rw [this, shr_len n k, Nat.pow_succ]
/-- the worths, to a row f, of the pieces that p holds -/
def pw (f : Nat → Int) (m : Nat) (s : List Nat) (p : Nat) : List Int := ((List.range m).filter fun k => decide (s.getD k 0 = p)).map f
def sw (f : Nat → Int) (m : Nat) (s : List Nat) (p : Nat) : Int := rsum (fun k => if s.getD k 0 = p then f k else 0) m
theorem sw_sum (f : Nat → Int) (s : List Nat) (p : Nat) : ∀ m, (pw f m s p).sum = sw f m s p
  | 0 => rfl
  | m + 1 => by
    have ih := sw_sum f s p m
    unfold pw at ih ⊢
    rw [List.range_succ, List.filter_append, List.map_append, List.sum_append, ih]
    show _ = sw f m s p + (if s.getD m 0 = p then f m else 0)
    congr 1
    by_cases h : s.getD m 0 = p
    · rw [if_pos h, List.filter_cons_of_pos (by exact decide_eq_true h)]; simp
    · rw [if_neg h, List.filter_cons_of_neg (by simpa using h)]; simp
/-- the greatest, from x on -/
def imax (x : Int) (xs : List Int) : Int := xs.foldl (fun a y => if a < y then y else a) x
theorem imax_ge : ∀ (xs : List Int) (x : Int), x ≤ imax x xs ∧ ∀ y ∈ xs, y ≤ imax x xs
  | [], x => ⟨Int.le_refl _, by simp⟩
  | z :: xs, x => by
    obtain ⟨h1, h2⟩ := imax_ge xs (if x < z then z else x)
    show x ≤ imax (if x < z then z else x) xs ∧ ∀ y ∈ z :: xs, y ≤ imax (if x < z then z else x) xs
    split at h1
    · rename_i q
      rw [if_pos q] at h2 ⊢
      refine ⟨by omega, ?_⟩
      intro y hy
      rcases List.mem_cons.mp hy with rfl | hy
      · exact h1
      · exact h2 y hy
    · rename_i q
      rw [if_neg q] at h2 ⊢
      refine ⟨by omega, ?_⟩
      intro y hy
      rcases List.mem_cons.mp hy with rfl | hy
      · omega
      · exact h2 y hy
theorem imax_0 {x : Int} (h : 0 ≤ x) (xs : List Int) : imax 0 (x :: xs) = imax x xs := by
  show imax (if 0 < x then x else 0) xs = imax x xs
  by_cases q : 0 < x
  · rw [if_pos q]
  · rw [if_neg q, show x = 0 by omega]
/-- i envies j -/
def env1 (W : Nat → Nat → Int) (m : Nat) (s : List Nat) (nearly : Bool) (i j : Nat) : Bool := decide (i ≠ j) && decide (sw (W i) m s i < sw (W i) m s j - (if nearly then imax 0 (pw (W i) m s j) else 0))
def envy (W : Nat → Nat → Int) (n m : Nat) (s : List Nat) (nearly : Bool) : Bool := (List.range n).any fun i => (List.range n).any fun j => env1 W m s nearly i j
theorem envy_f {W : Nat → Nat → Int} {n m : Nat} {s : List Nat} {nearly : Bool} (h : ∀ i j, i < n → j < n → i ≠ j → sw (W i) m s j - (if nearly then imax 0 (pw (W i) m s j) else 0) ≤ sw (W i) m s i) : envy W n m s nearly = false := by
  unfold envy
  rw [List.any_eq_false]
  intro i hi
  rw [Bool.not_eq_true, List.any_eq_false]
  intro j hj
  rw [Bool.not_eq_true]
  unfold env1
  by_cases e : i = j
  · simp [e]
  · have h1 : decide (sw (W i) m s i < sw (W i) m s j - (if nearly then imax 0 (pw (W i) m s j) else 0)) = false := decide_eq_false (Int.not_lt.mpr (h i j (List.mem_range.mp hi) (List.mem_range.mp hj) e))
    rw [h1, Bool.and_false]
def rprod (g : Nat → Int) : Nat → Int
  | 0 => 1
  | n + 1 => rprod g n * g n
theorem rprod_congr {g h : Nat → Int} : ∀ {n : Nat}, (∀ k, k < n → g k = h k) → rprod g n = rprod h n
  | 0, _ => rfl
  | n + 1, e => by
    unfold rprod
    rw [rprod_congr fun k hk => e k (by omega), e n (by omega)]
theorem rprod_pos {g : Nat → Int} : ∀ {n : Nat}, (∀ k, k < n → 0 < g k) → 0 < rprod g n
  | 0, _ => by show (0 : Int) < 1; decide
  | n + 1, h => Int.mul_pos (rprod_pos fun k hk => h k (by omega)) (h n (by omega))
/-- all but one factor -/
theorem rprod_one {g : Nat → Int} {i : Nat} : ∀ {n : Nat}, i < n → ∃ c : Int, (∀ h : Nat → Int, (∀ k, k < n → k ≠ i → h k = g k) → rprod h n = c * h i) ∧ ((∀ k, k < n → k ≠ i → 0 < g k) → 0 < c)
  | 0, h => by omega
  | n + 1, hi => by
    by_cases e : i = n
    · subst e
      refine ⟨rprod g i, fun h hh => ?_, fun hp => rprod_pos fun k hk => hp k (by omega) (by omega)⟩
      show rprod h i * h i = _
      rw [rprod_congr (g := h) (h := g) fun k hk => hh k (by omega) (by omega)]
    · obtain ⟨c, h1, h2⟩ := rprod_one (g := g) (i := i) (n := n) (by omega)
      refine ⟨c * g n, fun h hh => ?_, fun hp => Int.mul_pos (h2 fun k hk hne => hp k (by omega) hne) (hp n (by omega) (by omega))⟩
      show rprod h n * h n = _
      rw [h1 h fun k hk hne => hh k (by omega) hne, hh n (by omega) (by omega), Int.mul_assoc, Int.mul_comm (h i), ← Int.mul_assoc]
theorem rprod_two {g : Nat → Int} {i j : Nat} (hij : i ≠ j) : ∀ {n : Nat}, i < n → j < n → (∀ k, k < n → 0 < g k) → ∃ c : Int, 0 < c ∧ ∀ h : Nat → Int, (∀ k, k < n → k ≠ i → k ≠ j → h k = g k) → rprod h n = c * (h i * h j)
  | 0, h, _, _ => by omega
  | n + 1, hi, hj, hp => by
    by_cases ei : i = n
    · subst ei
      obtain ⟨c, h1, h2⟩ := rprod_one (g := g) (i := j) (n := i) (by omega)
      refine ⟨c, h2 fun k hk _ => hp k (by omega), fun h hh => ?_⟩
      show rprod h i * h i = _
      rw [h1 h fun k hk hne => hh k (by omega) (by omega) hne, Int.mul_assoc, Int.mul_comm (h j)]
    · by_cases ej : j = n
      · subst ej
        obtain ⟨c, h1, h2⟩ := rprod_one (g := g) (i := i) (n := j) (by omega)
        refine ⟨c, h2 fun k hk _ => hp k (by omega), fun h hh => ?_⟩
        show rprod h j * h j = _
        rw [h1 h fun k hk hne => hh k (by omega) hne (by omega), Int.mul_assoc]
      · obtain ⟨c, h1, h2⟩ := rprod_two (g := g) hij (n := n) (by omega) (by omega) fun k hk => hp k (by omega)
        refine ⟨c * g n, Int.mul_pos h1 (hp n (by omega)), fun h hh => ?_⟩
        show rprod h n * h n = _
        rw [h2 h fun k hk h3 h4 => hh k (by omega) h3 h4, hh n (by omega) (by omega) (by omega)]
        rw [Int.mul_assoc c, Int.mul_comm (h i * h j) (g n), ← Int.mul_assoc]
/-! moving a piece -/
theorem sw_set {f : Nat → Int} {s : List Nat} {k p q : Nat} (hk : k < s.length) (hq : s.getD k 0 = q) (hpq : p ≠ q) : ∀ m, k < m → ∀ x, sw f m (s.set k p) x = sw f m s x + (if x = p then f k else if x = q then - f k else 0) := by
  have low : ∀ m, m ≤ k → ∀ x, sw f m (s.set k p) x = sw f m s x := by
    intro m hm x
    refine rsum_congr fun j hj => ?_
    have : (s.set k p).getD j 0 = s.getD j 0 := by
      simp [List.getD_eq_getElem?_getD, List.getElem?_set_ne (show k ≠ j by omega)]
    rw [this]
  intro m
  induction m with
  | zero => intro h; omega
  | succ m ih =>
    intro hkm x
    show sw f m (s.set k p) x + (if (s.set k p).getD m 0 = x then f m else 0) = sw f m s x + (if s.getD m 0 = x then f m else 0) + _
    by_cases e : m = k
    · subst e
      rw [low m (Nat.le_refl _) x]
      have : (s.set m p).getD m 0 = p := by simp [List.getD_eq_getElem?_getD, hk]
      rw [this, hq]
      by_cases h1 : x = p
      · subst h1
        rw [if_pos rfl, if_pos rfl, if_neg (fun e => hpq e.symm)]; omega
      · rw [if_neg (fun e => h1 e.symm), if_neg h1]
        by_cases h2 : x = q
        · subst h2; rw [if_pos rfl, if_pos rfl]; omega
        · rw [if_neg (fun e => h2 e.symm), if_neg h2]; omega
    · have : (s.set k p).getD m 0 = s.getD m 0 := by
        simp [List.getD_eq_getElem?_getD, List.getElem?_set_ne (show k ≠ m by omega)]
      rw [this, ih (by omega) x]
      omega
theorem sw_nonneg {f : Nat → Int} {s : List Nat} {p : Nat} (hf : ∀ k, 0 ≤ f k) : ∀ m, 0 ≤ sw f m s p
  | 0 => Int.le_refl _
  | m + 1 => by
    have := sw_nonneg (s := s) (p := p) hf m
    show 0 ≤ sw f m s p + (if s.getD m 0 = p then f m else 0)
    have := hf m
    split <;> omega
/-- a piece of j's that is worth to j, for what it is worth to i, at most as the whole -/
theorem cheap {f g : Nat → Int} {s : List Nat} {j : Nat} (hf : ∀ k, 0 < f k) (hg : ∀ k, 0 < g k) : ∀ m, 0 < sw f m s j → ∃ k, k < m ∧ s.getD k 0 = j ∧ g k * sw f m s j ≤ f k * sw g m s j
  | 0, h => by have h' : (0 : Int) < 0 := h; omega
  | m + 1, h => by
    have e1 : sw f (m + 1) s j = sw f m s j + (if s.getD m 0 = j then f m else 0) := rfl
    have e2 : sw g (m + 1) s j = sw g m s j + (if s.getD m 0 = j then g m else 0) := rfl
    have nf := sw_nonneg (s := s) (p := j) (fun k => Int.le_of_lt (hf k)) m
    have ng := sw_nonneg (s := s) (p := j) (fun k => Int.le_of_lt (hg k)) m
    by_cases hm : s.getD m 0 = j
    · rw [if_pos hm] at e1 e2
      by_cases c : g m * sw f m s j ≤ f m * sw g m s j
      · refine ⟨m, by omega, hm, ?_⟩
        rw [e1, e2, Int.mul_add, Int.mul_add, Int.mul_comm (g m) (f m)]
        omega
      · have fpos : 0 < sw f m s j := by
          rcases Int.lt_or_le 0 (sw f m s j) with q | q
          · exact q
          · have : sw f m s j = 0 := by omega
            rw [this, Int.mul_zero] at c
            have := Int.mul_nonneg (Int.le_of_lt (hf m)) ng
            omega
        obtain ⟨k, hk, hs, hc⟩ := cheap (j := j) (s := s) hf hg m fpos
        refine ⟨k, by omega, hs, ?_⟩
        rw [e1, e2, Int.mul_add, Int.mul_add]
        -- g k * F <= f k * G, f m * G < g m * F  gives  g k * f m <= f k * g m
        have h1 : g k * f m ≤ f k * g m := by
          rcases Int.lt_or_le (f k * g m) (g k * f m) with q | q
          · exfalso
            have a1 : f k * g m * sw f m s j < g k * f m * sw f m s j := Int.mul_lt_mul_of_pos_right q fpos
            have a2 : f k * (f m * sw g m s j) < f k * (g m * sw f m s j) := Int.mul_lt_mul_of_pos_left (by omega) (hf k)
            have a3 : f m * (g k * sw f m s j) ≤ f m * (f k * sw g m s j) := Int.mul_le_mul_of_nonneg_left hc (Int.le_of_lt (hf m))
            grind
          · exact q
        omega
    · rw [if_neg hm, Int.add_zero] at e1 e2
      rw [e1] at h
      obtain ⟨k, hk, hs, hc⟩ := cheap (j := j) (s := s) hf hg m h
      exact ⟨k, by omega, hs, by rw [e1, e2]; exact hc⟩
/-- the product of what all hold -/
def npr (W : Nat → Nat → Int) (n m : Nat) (s : List Nat) : Int := rprod (fun p => sw (W p) m s p) n
theorem mem_pw {f : Nat → Int} {m : Nat} {s : List Nat} {p k : Nat} (hk : k < m) (h : s.getD k 0 = p) : f k ∈ pw f m s p := by
  unfold pw
  exact List.mem_map.mpr ⟨k, List.mem_filter.mpr ⟨List.mem_range.mpr hk, decide_eq_true h⟩, rfl⟩
theorem nash {W : Nat → Nat → Int} {n m : Nat} {s : List Nat} (hW : ∀ i k, 0 < W i k) (hs : IsShr n m s) (hp : 0 < npr W n m s) (hb : ∀ t, IsShr n m t → npr W n m t ≤ npr W n m s) : envy W n m s true = false := by
  have hf : ∀ p, p < n → 0 < sw (W p) m s p := by
    intro p hpn
    rcases Int.lt_or_le 0 (sw (W p) m s p) with q | q
    · exact q
    · have e : sw (W p) m s p = 0 := by
        have := sw_nonneg (s := s) (p := p) (fun k => Int.le_of_lt (hW p k)) m
        omega
      obtain ⟨c, h1, _⟩ := rprod_one (g := fun p => sw (W p) m s p) hpn
      have := h1 (fun p => sw (W p) m s p) fun _ _ _ => rfl
      unfold npr at hp
      rw [this, e, Int.mul_zero] at hp
      omega
  refine envy_f fun i j hi hj hij => ?_
  rw [if_pos rfl]
  rcases Int.lt_or_le (sw (W i) m s i) (sw (W i) m s j - imax 0 (pw (W i) m s j)) with q | q
  · exfalso
    have mx0 := (imax_ge (pw (W i) m s j) 0).1
    have own := hf i hi
    obtain ⟨k, hk, hsk, hc⟩ := cheap (f := W i) (g := W j) (s := s) (j := j) (hW i) (hW j) m (by omega)
    have mxk := (imax_ge (pw (W i) m s j) 0).2 _ (mem_pw (f := W i) hk hsk)
    have hkl : k < s.length := by rw [hs.len]; exact hk
    have ht : IsShr n m (s.set k i) := ⟨by rw [List.length_set]; exact hs.len, fun x hx => by
      rcases List.mem_or_eq_of_mem_set hx with h | h
      · exact hs.lt x h
      · omega⟩
    have hb' := hb _ ht
    obtain ⟨c, c0, h1⟩ := rprod_two (g := fun p => sw (W p) m s p) hij hi hj hf
    have e1 := h1 (fun p => sw (W p) m s p) fun _ _ _ _ => rfl
    have e2 := h1 (fun p => sw (W p) m (s.set k i) p) fun p hp h2 h3 => by
      show sw (W p) m (s.set k i) p = sw (W p) m s p
      rw [sw_set hkl hsk hij m hk p, if_neg h2, if_neg h3, Int.add_zero]
    unfold npr at hb'
    rw [e1, e2] at hb'
    rw [sw_set hkl hsk hij m hk i, if_pos rfl, sw_set hkl hsk hij m hk j, if_neg (fun e => hij e.symm), if_pos rfl] at hb'
    have hb2 := Int.le_of_mul_le_mul_left hb' c0
    -- (a + x) (b - y) <= a b with y * A <= x * b, A > a + x
    have xy : 0 < W i k := hW i k
    have yy : 0 < W j k := hW j k
    have lt : W j k * (sw (W i) m s i + W i k) < W j k * sw (W i) m s j := Int.mul_lt_mul_of_pos_left (by omega) yy
    have ex : (sw (W i) m s i + W i k) * (sw (W j) m s j + -W j k) = sw (W i) m s i * sw (W j) m s j + W i k * sw (W j) m s j - W j k * (sw (W i) m s i + W i k) := by grind
    omega
  · exact q
end Lib
end

section
set_option Elab.async false
set_option linter.all false
set_option maxRecDepth 10000
/-! k39: worths of pieces, envy. -/
namespace Lib
open DS PySem
def den_pieces_worth : Fn := dfun 5 3 (sRet (eLc (iZip2 (eVar 0) (eVar 1)) (.tp [(.nm 3), (.nm 4)]) (tCmp dEq (eVar 4) (eVar 2)) (eVar 3) [3, 4]))
def den_is_without_envy : Fn := dfun 5 2 (sSeq (sSet 2 0 (eRgV (eCB (d1 dLen) (aCons (eVar 0) aNil))) [])
  (sRet (eCB (d1 dAll) (aCons (eLc2 (iRgV (eVar 2)) (.nm 3) tTrue (iRgV (eVar 2)) (.nm 4) tTrue (eB (tCmp dGe (eCB (d1 dSum) (aCons (eCall 3 den_pieces_worth (aCons (eIx (eVar 0) (eVar 3)) (aCons (eVar 1) (aCons (eVar 3) aNil)))) aNil)) (eCB (d1 dSum) (aCons (eCall 3 den_pieces_worth (aCons (eIx (eVar 0) (eVar 3)) (aCons (eVar 1) (aCons (eVar 4) aNil)))) aNil)))) [3, 4] [4]) aNil))))
def den_is_nearly_without_envy : Fn := dfun 7 2 (sSeq (sFor (iEnumD (eVar 0)) [(0, 0)] (.tp [(.nm 2), (.nm 3)])
  (sSeq (sSet 4 0 (eCB (d1 dSum) (aCons (eCall 3 den_pieces_worth (aCons (eVar 3) (aCons (eVar 1) (aCons (eVar 2) aNil)))) aNil)) [])
  (sFor (iRange1 (eCB (d1 dLen) (aCons (eVar 0) aNil))) [] (.nm 5)
  (sSeq (sSet 6 0 (eCall 3 den_pieces_worth (aCons (eVar 3) (aCons (eVar 1) (aCons (eVar 5) aNil)))) ([(3, 0)] ++ ([(1, 0)] ++ ([(5, 0)] ++ []))))
  (sIf (tAndD (tCmp dNe (eVar 5) (eVar 2)) (tCmp dLt (eVar 4) (eOp dSub (eCB (d1 dSum) (aCons (eVar 6) aNil)) (eOp dMaxD (eVar 6) (eC (.int 0))))))
  (sRet (eC (.bool false)))
  sNil)))))
  (sRet (eC (.bool true))))
def den__law_worth : Fn := dfun 4 3 (sRet (eCB (d1 dSum) (aCons (eLc (iRange1 (eCB (d1 dLen) (aCons (eVar 0) aNil))) (.nm 3) (tCmp dEq (eIx (eVar 1) (eVar 3)) (eVar 2)) (eIx (eVar 0) (eVar 3)) [3]) aNil)))
def den__law_envy : Fn := dfun 8 3 (sSeq (sFor (iRange1 (eCB (d1 dLen) (aCons (eVar 0) aNil))) [] (.nm 3)
  (sSeq (sSet 4 0 (eCall 3 den__law_worth (aCons (eIx (eVar 0) (eVar 3)) (aCons (eVar 1) (aCons (eVar 3) aNil)))) ([(0, 1)] ++ ([(1, 0)] ++ ([(3, 0)] ++ []))))
  (sFor (iRange1 (eCB (d1 dLen) (aCons (eVar 0) aNil))) [] (.nm 5)
  (sSeq (sSet 6 0 (eLc (iRange1 (eCB (d1 dLen) (aCons (eVar 1) aNil))) (.nm 7) (tCmp dEq (eIx (eVar 1) (eVar 7)) (eVar 5)) (eIx (eIx (eVar 0) (eVar 3)) (eVar 7)) [7]) ([] ++ [(0, 2)]))
  (sIf (tAndD (tCmp dNe (eVar 3) (eVar 5)) (tCmp dGt (eOp dSub (eCB (d1 dSum) (aCons (eVar 6) aNil)) (eOp dMul (eCB (d1 dMax1) (aCons (eOp dAdd (eLst (aCons (eC (.int 0)) aNil)) (eVar 6)) aNil)) (eCB (d1 dInt) (aCons (eVar 2) aNil)))) (eVar 4)))
  (sRet (eC (.bool true)))
  sNil)))))
  (sRet (eC (.bool false))))
/-- a loop that ends with r at the first item with p -/
theorem for_any {α : Type} {t : Tg} {body : FS} {r : D} (h : α → D) (l : α → List (Nat × D)) (P : S → Prop) (p : α → Bool) : ∀ (xs : List α) (s : S), (∀ a ∈ xs, t.go (h a) = some (l a)) → P s →
    (∀ a ∈ xs, ∀ s, P s → if p a = true then body (setsD s.1 (l a), zeros s.2 (l a)) = .ret r else ∃ s', body (setsD s.1 (l a), zeros s.2 (l a)) = .next s' ∧ P s') →
    if xs.any p = true then forGo t body (xs.map h) s = .ret r else ∃ s', forGo t body (xs.map h) s = .next s' ∧ P s'
  | [], s, _, h0, _ => by
    rw [List.any_nil, if_neg (by decide)]
    exact ⟨s, rfl, h0⟩
  | a :: xs, s, hg, h0, st => by
    have h1 := st a (.head _) s h0
    have g1 := hg a (.head _)
    rw [List.any_cons]
    cases q : p a with
    | true =>
      rw [q, if_pos rfl] at h1
      rw [Bool.true_or, if_pos rfl]
      exact forGo_ret g1 h1
    | false =>
      rw [q, if_neg (by decide)] at h1
      obtain ⟨s', e, h2⟩ := h1
      have ih := for_any h l P p xs s' (fun a ha => hg a (.tail _ ha)) h2 fun a ha => st a (.tail _ ha)
      rw [Bool.false_or]
      have e2 : forGo t body ((a :: xs).map h) s = forGo t body (xs.map h) s' := forGo_next g1 e
      rw [e2]
      exact ih
theorem dEq_nat (a b : Nat) : dEq (nat a) (nat b) = some (decide (a = b)) := by
  show dEq (.int (a : Int)) (.int (b : Int)) = _
  rw [dEq_i]
  congr 1
  rw [decide_eq_decide]; omega
theorem dNe_nat (a b : Nat) : dNe (nat a) (nat b) = some (decide (a ≠ b)) := by
  show dNe (.int (a : Int)) (.int (b : Int)) = _
  rw [dNe_i]
  congr 1
  rw [← decide_not, decide_eq_decide]; omega
theorem maxD_ints : ∀ (xs : List Int) (x : Int), PySem.W.maxD (.int x) (xs.map PyData.int) = .int (imax x xs)
  | [], _ => rfl
  | y :: xs, x => by
    show PySem.W.maxD (if PySem.W.dataLt (.int x) (.int y) = true then .int y else .int x) (xs.map PyData.int) = .int (imax (if x < y then y else x) xs)
    rw [PySem.W.dataLt_int]
    by_cases h : x < y
    · rw [if_pos h, if_pos (decide_eq_true h)]; exact maxD_ints xs y
    · rw [if_neg h, if_neg (by simpa using h)]; exact maxD_ints xs x
theorem allCmp_int (l : List Int) : allCmp (l.map PyData.int) = true := by
  refine allCmp_map ?_ ?_ ?_ ?_
  · intro a _; simp [PyData.canLay0]
  · intro a _; simp [PyData.depth]
  · intro a _; rfl
  · intro a _ b _; simp [PySem.W.alike]
theorem dMax1_ints (x : Int) (xs : List Int) : dMax1 (.list ((x :: xs).map PyData.int)) = some (.int (imax x xs)) := by
  have m := maxD_ints xs x
  have ok : allCmp (.int x :: xs.map PyData.int) = true := allCmp_int (x :: xs)
  show bestOf PySem.W.maxD (.int x :: xs.map PyData.int) = _
  unfold bestOf
  simp only [m, ok]
  rfl
theorem dMaxD_ints (l : List Int) (h : ∀ x ∈ l, 0 ≤ x) : dMaxD (.list (l.map PyData.int)) (.int 0) = some (.int (imax 0 l)) := by
  cases l with
  | nil => rfl
  | cons x xs =>
    have m := maxD_ints xs x
    have ok : allCmp (.int x :: xs.map PyData.int) = true := allCmp_int (x :: xs)
    show bestOr PySem.W.maxD (.int x :: xs.map PyData.int) (.int 0) = _
    rw [imax_0 (h x (.head _))]
    exact dMax1_ints x xs
/-- a table of n rows of m -/
def tbr (n m : Nat) (W : Nat → Nat → Int) : D := .tuple ((List.range n).map fun u => trow m (W u))
@[simp] theorem tbr_len (n m : Nat) (W : Nat → Nat → Int) : dLen (tbr n m W) = some (.int n) := by simp [tbr]
theorem tbr_ix {n m u : Nat} {W : Nat → Nat → Int} (h : u < n) : dIx (tbr n m W) (.int u) = some (trow m (W u)) := by
  show L2.atI ((List.range n).map _) (u : Int) = _
  rw [atI_mp (by simpa using h)]
  simp
theorem tbr_flat (n m : Nat) (W : Nat → Nat → Int) : flat (tbr n m W) = true := by
  have : ∀ o : List Nat, flats (o.map fun u => trow m (W u)) = true := by
    intro o
    induction o with
    | nil => rfl
    | cons a o ih => simpa [flats, trow_flat] using ih
  simpa [tbr, flat] using this (List.range n)
theorem pw_nonneg {f : Nat → Int} (hf : ∀ k, 0 < f k) {m : Nat} {s : List Nat} {p : Nat} : ∀ x ∈ pw f m s p, 0 ≤ x := by
  intro x hx
  obtain ⟨k, _, rfl⟩ := List.mem_map.mp hx
  exact Int.le_of_lt (hf k)
theorem pw_len (f : Nat → Int) (m : Nat) (s : List Nat) (p : Nat) : (pw f m s p).length ≤ m := by
  unfold pw
  rw [List.length_map]
  have := List.length_filter_le (fun k => decide (s.getD k 0 = p)) (List.range m)
  rw [List.length_range] at this
  exact this
section
variable {m : Nat} {f : Nat → Int} {s : List Nat}
theorem pieces_ok (hm : m ≤ 100) (hs : s.length = m) (p : Nat) : den_pieces_worth [trow m f, nt s, nat p] = some (.list ((pw f m s p).map PyData.int)) := by
  refine dfun_ret [some (trow m f), some (nt s), some (nat p), none, none] [0, 0, 0, 0, 0] rfl rfl rfl ?_
  refine sRet_ok ?_
  have hz : iZip2 (eVar 0) (eVar 1) [some (trow m f), some (nt s), some (nat p), none, none] = some ((List.range m).map fun k => .tuple [.int (f k), nat (s.getD k 0)]) := by
    show some ((((List.range m).map fun v => PyData.int (f v)).zip (s.map nat)).map fun p => PyData.tuple [p.1, p.2]) = _
    congr 1
    refine List.ext_getElem? fun k => ?_
    by_cases hk : k < m
    · have u : k < (((List.range m).map fun v => PyData.int (f v)).zip (s.map nat)).length := by rw [List.length_zip, List.length_map, List.length_map, List.length_range]; omega
      have hk' : k < s.length := by omega
      simp [hk, List.getD_eq_getElem?_getD, List.getElem?_eq_getElem u, List.getElem_zip, hk']
    · rw [List.getElem?_eq_none (by simp; omega), List.getElem?_eq_none (by simp; omega)]
  have hc := eLc_if (t := .tp [(.nm 3), (.nm 4)]) (ft := tCmp dEq (eVar 4) (eVar 2)) (fe := eVar 3) (vs := [3, 4]) (fun k => .tuple [.int (f k), nat (s.getD k 0)]) (fun k => .int (f k)) (fun k => decide (s.getD k 0 = p)) (l := List.range m) hz (by rw [List.length_range]; omega) (by
    intro k hk
    refine ⟨[(3, .int (f k)), (4, nat (s.getD k 0))], rfl, ?_, fun _ => rfl⟩
    exact dEq_nat _ _)
  rw [hc]
  unfold pw
  rw [List.map_map]
  rfl
theorem lworth_ok (hm : m ≤ 100) (hs : s.length = m) (p : Nat) : den__law_worth [trow m f, nt s, nat p] = some (.int (sw f m s p)) := by
  refine dfun_ret [some (trow m f), some (nt s), some (nat p), none] [0, 0, 0, 0] rfl rfl rfl ?_
  refine sRet_ok ?_
  have hl : (eCB (d1 dLen) (aCons (eVar 0) aNil)) [some (trow m f), some (nt s), some (nat p), none] = some (.int m) := by simp
  have hc := eLc_if (t := .nm 3) (ft := tCmp dEq (eIx (eVar 1) (eVar 3)) (eVar 2)) (fe := eIx (eVar 0) (eVar 3)) (vs := [3]) nat (fun k => .int (f k)) (fun k => decide (s.getD k 0 = p)) (l := List.range m) (range1_nat hl (by omega)) (by rw [List.length_range]; omega) (by
    intro k hk
    have hk := List.mem_range.mp hk
    have e1 := nt_ix (o := s) (i := k) (by omega)
    have e2 := trow_ix (f := f) hk
    refine ⟨[(3, nat k)], rfl, ?_, fun _ => ?_⟩
    · show o2 (dIx (nt s) (.int k)) (some (nat p)) dEq = _
      rw [e1, o2_ss, dEq_nat]
    · exact e2)
  have e : ((List.range m).filter fun k => decide (s.getD k 0 = p)).map (fun k => PyData.int (f k)) = (pw f m s p).map PyData.int := by
    unfold pw
    rw [List.map_map]
    rfl
  rw [eCB_a, aCons_a, hc, aNil_a, o2_ss, o1_s, d1_1, e, dSum_ok, sw_sum]
end
section
variable {n m : Nat} {W : Nat → Nat → Int} {s : List Nat}
def nvIn : FS := (sSeq (sSet 6 0 (eLc (iRange1 (eCB (d1 dLen) (aCons (eVar 1) aNil))) (.nm 7) (tCmp dEq (eIx (eVar 1) (eVar 7)) (eVar 5)) (eIx (eIx (eVar 0) (eVar 3)) (eVar 7)) [7]) ([] ++ [(0, 2)]))
  (sIf (tAndD (tCmp dNe (eVar 3) (eVar 5)) (tCmp dGt (eOp dSub (eCB (d1 dSum) (aCons (eVar 6) aNil)) (eOp dMul (eCB (d1 dMax1) (aCons (eOp dAdd (eLst (aCons (eC (.int 0)) aNil)) (eVar 6)) aNil)) (eCB (d1 dInt) (aCons (eVar 2) aNil)))) (eVar 4)))
  (sRet (eC (.bool true)))
  sNil))
theorem tAnd_t {f g : FT} {ρ : PEnv} (h : f ρ = some true) : tAndD f g ρ = g ρ := by
  unfold tAndD; rw [h]
theorem tAnd_f {f g : FT} {ρ : PEnv} (h : f ρ = some false) : tAndD f g ρ = some false := by
  unfold tAndD; rw [h]
theorem nvIn_ok (hm : m ≤ 100) (hs : s.length = m) {i j : Nat} (hi : i < n) (nearly : Bool) (x6 : Option D) :
    if env1 W m s nearly i j = true then nvIn ([some (tbr n m W), some (nt s), some (.bool nearly), some (nat i), some (.int (sw (W i) m s i)), some (nat j), x6, none], [0, 0, 0, 0, 0, 0, 0, 0]) = .ret (.bool true)
    else nvIn ([some (tbr n m W), some (nt s), some (.bool nearly), some (nat i), some (.int (sw (W i) m s i)), some (nat j), x6, none], [0, 0, 0, 0, 0, 0, 0, 0]) = .next ([some (tbr n m W), some (nt s), some (.bool nearly), some (nat i), some (.int (sw (W i) m s i)), some (nat j), some (.list ((pw (W i) m s j).map PyData.int)), none], [0, 0, 0, 0, 0, 0, 0, 0]) := by
  have hl : (eCB (d1 dLen) (aCons (eVar 1) aNil)) [some (tbr n m W), some (nt s), some (.bool nearly), some (nat i), some (.int (sw (W i) m s i)), some (nat j), x6, none] = some (.int m) := by simp [hs]
  have hc := eLc_if (t := .nm 7) (ft := tCmp dEq (eIx (eVar 1) (eVar 7)) (eVar 5)) (fe := eIx (eIx (eVar 0) (eVar 3)) (eVar 7)) (vs := [7]) nat (fun k => .int (W i k)) (fun k => decide (s.getD k 0 = j)) (l := List.range m) (range1_nat hl (by omega)) (by rw [List.length_range]; omega) (by
    intro k hk
    have hk := List.mem_range.mp hk
    have e1 := nt_ix (o := s) (i := k) (by omega)
    have e2 := trow_ix (f := W i) hk
    have e3 := tbr_ix (m := m) (W := W) hi
    refine ⟨[(7, nat k)], rfl, ?_, fun _ => ?_⟩
    · show o2 (dIx (nt s) (.int k)) (some (nat j)) dEq = _
      rw [e1, o2_ss, dEq_nat]
    · show o2 (dIx (tbr n m W) (.int i)) (some (.int (k : Int))) dIx = _
      rw [e3, o2_ss, e2])
  have e : ((List.range m).filter fun k => decide (s.getD k 0 = j)).map (fun k => PyData.int (W i k)) = (pw (W i) m s j).map PyData.int := by
    unfold pw
    rw [List.map_map]
    rfl
  rw [e] at hc
  have h1 : nvIn ([some (tbr n m W), some (nt s), some (.bool nearly), some (nat i), some (.int (sw (W i) m s i)), some (nat j), x6, none], [0, 0, 0, 0, 0, 0, 0, 0]) = (sIf (tAndD (tCmp dNe (eVar 3) (eVar 5)) (tCmp dGt (eOp dSub (eCB (d1 dSum) (aCons (eVar 6) aNil)) (eOp dMul (eCB (d1 dMax1) (aCons (eOp dAdd (eLst (aCons (eC (.int 0)) aNil)) (eVar 6)) aNil)) (eCB (d1 dInt) (aCons (eVar 2) aNil)))) (eVar 4)))
    (sRet (eC (.bool true)))
    sNil) ([some (tbr n m W), some (nt s), some (.bool nearly), some (nat i), some (.int (sw (W i) m s i)), some (nat j), some (.list ((pw (W i) m s j).map PyData.int)), none], [0, 0, 0, 0, 0, 0, 0, 0]) := by
    unfold nvIn
    rw [sSeq_next (s' := ([some (tbr n m W), some (nt s), some (.bool nearly), some (nat i), some (.int (sw (W i) m s i)), some (nat j), some (.list ((pw (W i) m s j).map PyData.int)), none], [0, 0, 0, 0, 0, 0, 0, 0])) (by
      rw [sSet_deep hc (flat_list _)]
      rfl)]
  rw [h1]
  have pl := pw_len (W i) m s j
  have ea : dAdd (.list [.int 0]) (.list ((pw (W i) m s j).map PyData.int)) = some (.list ((0 :: pw (W i) m s j).map PyData.int)) := by
    show (if [PyData.int 0].length + ((pw (W i) m s j).map PyData.int).length ≤ sz then _ else _) = _
    rw [if_pos (by
      rw [List.length_map]
      have : sz = 16777216 := rfl
      simp only [List.length_cons, List.length_nil]
      omega)]
    rfl
  have el : ∀ ρ, eLst (aCons (eC (.int 0)) aNil) ρ = some (.list [.int 0]) := fun _ => rfl
  have mo : ∀ x : Int, mulOk x (if nearly = true then 1 else 0) = true := fun x => mulOk_r (by cases nearly <;> decide)
  have em : imax 0 (pw (W i) m s j) * (if nearly = true then 1 else 0) = if nearly = true then imax 0 (pw (W i) m s j) else 0 := by cases nearly <;> simp
  have ht : tAndD (tCmp dNe (eVar 3) (eVar 5)) (tCmp dGt (eOp dSub (eCB (d1 dSum) (aCons (eVar 6) aNil)) (eOp dMul (eCB (d1 dMax1) (aCons (eOp dAdd (eLst (aCons (eC (.int 0)) aNil)) (eVar 6)) aNil)) (eCB (d1 dInt) (aCons (eVar 2) aNil)))) (eVar 4)) [some (tbr n m W), some (nt s), some (.bool nearly), some (nat i), some (.int (sw (W i) m s i)), some (nat j), some (.list ((pw (W i) m s j).map PyData.int)), none] = some (env1 W m s nearly i j) := by
    unfold env1
    by_cases hij : i = j
    · rw [tAnd_f (by
        show dNe (nat i) (nat j) = _
        rw [dNe_nat, decide_eq_false (by simpa using hij)])]
      rw [decide_eq_false (by simpa using hij), Bool.false_and]
    · rw [tAnd_t (by
        show dNe (nat i) (nat j) = _
        rw [dNe_nat, decide_eq_true hij])]
      simp only [tCmp_a, eOp_a, eCB_a, aCons_a, aNil_a, el, eVar_0, eVar_s, o2_ss, o1_s, d1_1, dSum_ok, ea, dMax1_ints, dInt_b, dMul_i (mo _), em, dSub_i, dGt_i, sw_sum]
      rw [decide_eq_true hij, Bool.true_and]
  by_cases hv : env1 W m s nearly i j = true
  · rw [if_pos hv]
    rw [hv] at ht
    rw [sIf_tt ht]
    rfl
  · rw [if_neg hv]
    rw [Bool.not_eq_true] at hv
    rw [hv] at ht
    rw [sIf_ff ht]
    rfl
def nvOut : FS := (sSeq (sSet 4 0 (eCall 3 den__law_worth (aCons (eIx (eVar 0) (eVar 3)) (aCons (eVar 1) (aCons (eVar 3) aNil)))) ([(0, 1)] ++ ([(1, 0)] ++ ([(3, 0)] ++ []))))
  (sFor (iRange1 (eCB (d1 dLen) (aCons (eVar 0) aNil))) [] (.nm 5) nvIn))
theorem nvOut_ok (hn : n ≤ 100) (hm : m ≤ 100) (hs : s.length = m) {i : Nat} (hi : i < n) (nearly : Bool) (x4 x5 x6 : Option D) :
    if ((List.range n).any fun j => env1 W m s nearly i j) = true then nvOut ([some (tbr n m W), some (nt s), some (.bool nearly), some (nat i), x4, x5, x6, none], [0, 0, 0, 0, 0, 0, 0, 0]) = .ret (.bool true)
    else ∃ s', nvOut ([some (tbr n m W), some (nt s), some (.bool nearly), some (nat i), x4, x5, x6, none], [0, 0, 0, 0, 0, 0, 0, 0]) = .next s' ∧ ∃ x3 x4 x5 x6, s' = ([some (tbr n m W), some (nt s), some (.bool nearly), x3, x4, x5, x6, none], [0, 0, 0, 0, 0, 0, 0, 0]) := by
  have e3 := tbr_ix (m := m) (W := W) hi
  have h1 : nvOut ([some (tbr n m W), some (nt s), some (.bool nearly), some (nat i), x4, x5, x6, none], [0, 0, 0, 0, 0, 0, 0, 0]) = forGo (.nm 5) nvIn ((List.range n).map nat) ([some (tbr n m W), some (nt s), some (.bool nearly), some (nat i), some (.int (sw (W i) m s i)), x5, x6, none], [0, 0, 0, 0, 0, 0, 0, 0]) := by
    unfold nvOut
    rw [sSeq_next (sSet_flat (d := .int (sw (W i) m s i)) (by
      simp only [eCall_3, eIx_a, eVar_0, eVar_s, o1_s, o2_ss]
      show o1 (dIx (tbr n m W) (.int i)) _ = _
      rw [e3, o1_s, lworth_ok hm hs]) rfl)]
    simp only [List.set_cons_zero, List.set_cons_succ]
    rw [sFor_at (range1_nat (n := n) (by simp) (by omega))]
    rfl
  rw [h1]
  have hf := for_any (t := .nm 5) (body := nvIn) (r := .bool true) nat (fun j => [(5, nat j)]) (fun s' => ∃ x5 x6, s' = ([some (tbr n m W), some (nt s), some (.bool nearly), some (nat i), some (.int (sw (W i) m s i)), x5, x6, none], [0, 0, 0, 0, 0, 0, 0, 0])) (fun j => env1 W m s nearly i j) (List.range n) ([some (tbr n m W), some (nt s), some (.bool nearly), some (nat i), some (.int (sw (W i) m s i)), x5, x6, none], [0, 0, 0, 0, 0, 0, 0, 0]) (fun _ _ => rfl) ⟨x5, x6, rfl⟩ (by
    rintro j _ _ ⟨x5, x6, rfl⟩
    have := nvIn_ok (W := W) hm hs (j := j) hi nearly x6
    split
    · rename_i q
      rw [if_pos q] at this
      exact this
    · rename_i q
      rw [if_neg q] at this
      exact ⟨_, this, _, _, rfl⟩)
  split
  · rename_i q
    rw [if_pos q] at hf
    exact hf
  · rename_i q
    rw [if_neg q] at hf
    obtain ⟨s', e, x5, x6, rfl⟩ := hf
    exact ⟨_, e, _, _, _, _, rfl⟩
theorem lenvy_ok (hn : n ≤ 100) (hm : m ≤ 100) (hs : s.length = m) (nearly : Bool) : den__law_envy [tbr n m W, nt s, .bool nearly] = some (.bool (envy W n m s nearly)) := by
  refine dfun_ret [some (tbr n m W), some (nt s), some (.bool nearly), none, none, none, none, none] [0, 0, 0, 0, 0, 0, 0, 0] rfl rfl rfl ?_
  have hf := for_any (t := .nm 3) (body := nvOut) (r := .bool true) nat (fun j => [(3, nat j)]) (fun s' => ∃ x3 x4 x5 x6, s' = ([some (tbr n m W), some (nt s), some (.bool nearly), x3, x4, x5, x6, none], [0, 0, 0, 0, 0, 0, 0, 0])) (fun i => (List.range n).any fun j => env1 W m s nearly i j) (List.range n) ([some (tbr n m W), some (nt s), some (.bool nearly), none, none, none, none, none], [0, 0, 0, 0, 0, 0, 0, 0]) (fun _ _ => rfl) ⟨none, none, none, none, rfl⟩ (by
    rintro i hi _ ⟨x3, x4, x5, x6, rfl⟩
    exact nvOut_ok hn hm hs (List.mem_range.mp hi) nearly x4 x5 x6)
  have hr : iRange1 (eCB (d1 dLen) (aCons (eVar 0) aNil)) [some (tbr n m W), some (nt s), some (.bool nearly), none, none, none, none, none] = some ((List.range n).map nat) := range1_nat (n := n) (by simp) (by omega)
  unfold nvOut nvIn at hf
  have ee : envy W n m s nearly = (List.range n).any fun i => (List.range n).any fun j => env1 W m s nearly i j := rfl
  rw [ee]
  cases q : (List.range n).any fun i => (List.range n).any fun j => env1 W m s nearly i j with
  | true =>
    rw [q, if_pos rfl] at hf
    rw [sSeq_ret (d := .bool true) (by
      rw [sFor_at hr]
      exact hf)]
  | false =>
    rw [q, if_neg (by decide)] at hf
    obtain ⟨s', e, x3, x4, x5, x6, rfl⟩ := hf
    rw [sSeq_next (by
      rw [sFor_at hr]
      exact e)]
    exact sRet_ok rfl
end
end Lib
end

section
set_option Elab.async false
set_option linter.all false
set_option maxRecDepth 10000
/-! k39: envy by the program. -/
namespace Lib
open DS PySem
section
variable {n m : Nat} {W : Nat → Nat → Int} {s : List Nat}
def nnIn : FS := (sSeq (sSet 6 0 (eCall 3 den_pieces_worth (aCons (eVar 3) (aCons (eVar 1) (aCons (eVar 5) aNil)))) ([(3, 0)] ++ ([(1, 0)] ++ ([(5, 0)] ++ []))))
  (sIf (tAndD (tCmp dNe (eVar 5) (eVar 2)) (tCmp dLt (eVar 4) (eOp dSub (eCB (d1 dSum) (aCons (eVar 6) aNil)) (eOp dMaxD (eVar 6) (eC (.int 0))))))
  (sRet (eC (.bool false)))
  sNil))
theorem nnIn_ok (hW : ∀ i k, 0 < W i k) (hm : m ≤ 100) (hs : s.length = m) {i j : Nat} (x6 : Option D) :
    if env1 W m s true i j = true then nnIn ([some (tbr n m W), some (nt s), some (nat i), some (trow m (W i)), some (.int (sw (W i) m s i)), some (nat j), x6], [0, 0, 0, 0, 0, 0, 0]) = .ret (.bool false)
    else nnIn ([some (tbr n m W), some (nt s), some (nat i), some (trow m (W i)), some (.int (sw (W i) m s i)), some (nat j), x6], [0, 0, 0, 0, 0, 0, 0]) = .next ([some (tbr n m W), some (nt s), some (nat i), some (trow m (W i)), some (.int (sw (W i) m s i)), some (nat j), some (.list ((pw (W i) m s j).map PyData.int))], [0, 0, 0, 0, 0, 0, 0]) := by
  have h1 : nnIn ([some (tbr n m W), some (nt s), some (nat i), some (trow m (W i)), some (.int (sw (W i) m s i)), some (nat j), x6], [0, 0, 0, 0, 0, 0, 0]) = (sIf (tAndD (tCmp dNe (eVar 5) (eVar 2)) (tCmp dLt (eVar 4) (eOp dSub (eCB (d1 dSum) (aCons (eVar 6) aNil)) (eOp dMaxD (eVar 6) (eC (.int 0))))))
    (sRet (eC (.bool false)))
    sNil) ([some (tbr n m W), some (nt s), some (nat i), some (trow m (W i)), some (.int (sw (W i) m s i)), some (nat j), some (.list ((pw (W i) m s j).map PyData.int))], [0, 0, 0, 0, 0, 0, 0]) := by
    unfold nnIn
    rw [sSeq_next (s' := ([some (tbr n m W), some (nt s), some (nat i), some (trow m (W i)), some (.int (sw (W i) m s i)), some (nat j), some (.list ((pw (W i) m s j).map PyData.int))], [0, 0, 0, 0, 0, 0, 0])) (by
      rw [sSet_deep (d := .list ((pw (W i) m s j).map PyData.int)) (by simp only [eCall_3, eVar_0, eVar_s, o1_s, pieces_ok hm hs]) (flat_list _)]
      rfl)]
  rw [h1]
  have ht : tAndD (tCmp dNe (eVar 5) (eVar 2)) (tCmp dLt (eVar 4) (eOp dSub (eCB (d1 dSum) (aCons (eVar 6) aNil)) (eOp dMaxD (eVar 6) (eC (.int 0))))) [some (tbr n m W), some (nt s), some (nat i), some (trow m (W i)), some (.int (sw (W i) m s i)), some (nat j), some (.list ((pw (W i) m s j).map PyData.int))] = some (env1 W m s true i j) := by
    unfold env1
    by_cases hij : i = j
    · rw [tAnd_f (by
        show dNe (nat j) (nat i) = _
        rw [dNe_nat, decide_eq_false (by simpa using hij.symm)])]
      rw [decide_eq_false (by simpa using hij), Bool.false_and]
    · rw [tAnd_t (by
        show dNe (nat j) (nat i) = _
        have hne : j ≠ i := fun e => hij e.symm
        rw [dNe_nat, decide_eq_true hne])]
      simp only [tCmp_a, eOp_a, eCB_a, aCons_a, aNil_a, eC_a, eVar_0, eVar_s, o2_ss, o1_s, d1_1, dSum_ok, dMaxD_ints _ (pw_nonneg (hW i)), dSub_i, dLt_i, sw_sum]
      rw [decide_eq_true hij, Bool.true_and, if_pos trivial]
  by_cases hv : env1 W m s true i j = true
  · rw [if_pos hv]
    rw [hv] at ht
    rw [sIf_tt ht]
    rfl
  · rw [if_neg hv]
    rw [Bool.not_eq_true] at hv
    rw [hv] at ht
    rw [sIf_ff ht]
    rfl
def nnOut : FS := (sSeq (sSet 4 0 (eCB (d1 dSum) (aCons (eCall 3 den_pieces_worth (aCons (eVar 3) (aCons (eVar 1) (aCons (eVar 2) aNil)))) aNil)) [])
  (sFor (iRange1 (eCB (d1 dLen) (aCons (eVar 0) aNil))) [] (.nm 5) nnIn))
theorem nnOut_ok (hW : ∀ i k, 0 < W i k) (hn : n ≤ 100) (hm : m ≤ 100) (hs : s.length = m) {i : Nat} (hi : i < n) (x4 x5 x6 : Option D) :
    if ((List.range n).any fun j => env1 W m s true i j) = true then nnOut ([some (tbr n m W), some (nt s), some (nat i), some (trow m (W i)), x4, x5, x6], [0, 0, 0, 0, 0, 0, 0]) = .ret (.bool false)
    else ∃ s', nnOut ([some (tbr n m W), some (nt s), some (nat i), some (trow m (W i)), x4, x5, x6], [0, 0, 0, 0, 0, 0, 0]) = .next s' ∧ ∃ x2 x3 x4 x5 x6, s' = ([some (tbr n m W), some (nt s), x2, x3, x4, x5, x6], [0, 0, 0, 0, 0, 0, 0]) := by
  have h1 : nnOut ([some (tbr n m W), some (nt s), some (nat i), some (trow m (W i)), x4, x5, x6], [0, 0, 0, 0, 0, 0, 0]) = forGo (.nm 5) nnIn ((List.range n).map nat) ([some (tbr n m W), some (nt s), some (nat i), some (trow m (W i)), some (.int (sw (W i) m s i)), x5, x6], [0, 0, 0, 0, 0, 0, 0]) := by
    unfold nnOut
    rw [sSeq_next (sSet_flat (d := .int (sw (W i) m s i)) (by
      simp only [eCB_a, aCons_a, aNil_a, eCall_3, eVar_0, eVar_s, o1_s, o2_ss, d1_1, pieces_ok hm hs, dSum_ok, sw_sum]) rfl)]
    simp only [List.set_cons_zero, List.set_cons_succ]
    rw [sFor_at (range1_nat (n := n) (by simp) (by omega))]
    rfl
  rw [h1]
  have hf := for_any (t := .nm 5) (body := nnIn) (r := .bool false) nat (fun j => [(5, nat j)]) (fun s' => ∃ x5 x6, s' = ([some (tbr n m W), some (nt s), some (nat i), some (trow m (W i)), some (.int (sw (W i) m s i)), x5, x6], [0, 0, 0, 0, 0, 0, 0])) (fun j => env1 W m s true i j) (List.range n) ([some (tbr n m W), some (nt s), some (nat i), some (trow m (W i)), some (.int (sw (W i) m s i)), x5, x6], [0, 0, 0, 0, 0, 0, 0]) (fun _ _ => rfl) ⟨x5, x6, rfl⟩ (by
    rintro j _ _ ⟨x5, x6, rfl⟩
    have := nnIn_ok (n := n) hW hm hs (i := i) (j := j) x6
    split
    · rename_i q
      rw [if_pos q] at this
      exact this
    · rename_i q
      rw [if_neg q] at this
      exact ⟨_, this, _, _, rfl⟩)
  split
  · rename_i q
    rw [if_pos q] at hf
    exact hf
  · rename_i q
    rw [if_neg q] at hf
    obtain ⟨s', e, x5, x6, rfl⟩ := hf
    exact ⟨_, e, _, _, _, _, _, rfl⟩
theorem enumD_rng (m : Nat) (g : Nat → D) : enumD ((List.range m).map g) = (List.range m).map fun p => .tuple [nat p, g p] := by
  unfold enumD
  refine List.ext_getElem? fun k => ?_
  by_cases hk : k < m
  · simp [hk, nat]
  · rw [List.getElem?_eq_none (by simp; omega), List.getElem?_eq_none (by simp; omega)]
theorem nearly_ok (hW : ∀ i k, 0 < W i k) (hn : n ≤ 100) (hm : m ≤ 100) (hs : s.length = m) : den_is_nearly_without_envy [tbr n m W, nt s] = some (.bool (!envy W n m s true)) := by
  refine dfun_ret [some (tbr n m W), some (nt s), none, none, none, none, none] [0, 0, 0, 0, 0, 0, 0] rfl rfl rfl ?_
  have hf := for_any (t := .tp [(.nm 2), (.nm 3)]) (body := nnOut) (r := .bool false) (fun i => .tuple [nat i, trow m (W i)]) (fun i => [(2, nat i), (3, trow m (W i))]) (fun s' => ∃ x2 x3 x4 x5 x6, s' = ([some (tbr n m W), some (nt s), x2, x3, x4, x5, x6], [0, 0, 0, 0, 0, 0, 0])) (fun i => (List.range n).any fun j => env1 W m s true i j) (List.range n) ([some (tbr n m W), some (nt s), none, none, none, none, none], [0, 0, 0, 0, 0, 0, 0]) (fun _ _ => rfl) ⟨none, none, none, none, none, rfl⟩ (by
    rintro i hi _ ⟨x2, x3, x4, x5, x6, rfl⟩
    exact nnOut_ok hW hn hm hs (List.mem_range.mp hi) x4 x5 x6)
  have hr : iEnumD (eVar 0) [some (tbr n m W), some (nt s), none, none, none, none, none] = some ((List.range n).map fun i => .tuple [nat i, trow m (W i)]) := by
    rw [← enumD_rng]
    rfl
  unfold nnOut nnIn at hf
  have ee : envy W n m s true = (List.range n).any fun i => (List.range n).any fun j => env1 W m s true i j := rfl
  rw [ee]
  cases q : (List.range n).any fun i => (List.range n).any fun j => env1 W m s true i j with
  | true =>
    rw [q, if_pos rfl] at hf
    rw [sSeq_ret (d := .bool false) (by
      rw [sFor_at hr]
      exact hf)]
    rfl
  | false =>
    rw [q, if_neg (by decide)] at hf
    obtain ⟨s', e, x2, x3, x4, x5, x6, rfl⟩ := hf
    rw [sSeq_next (by
      rw [sFor_at hr]
      exact e)]
    exact sRet_ok rfl
theorem bools_map (l : List Bool) : bools (l.map PyData.bool) = some l := by
  induction l with
  | nil => rfl
  | cons a l ih => simp [bools, ih]
theorem dAll_ok (l : List Bool) : dAll (.list (l.map PyData.bool)) = some (.bool (l.all id)) := by
  simp [dAll, bools_map]
theorem without_ok (hn : n ≤ 100) (hm : m ≤ 100) (hs : s.length = m) : den_is_without_envy [tbr n m W, nt s] = some (.bool (!envy W n m s false)) := by
  refine dfun_ret [some (tbr n m W), some (nt s), none, none, none] [0, 0, 0, 0, 0] rfl rfl rfl ?_
  rw [sSeq_next (s' := ([some (tbr n m W), some (nt s), some (rgd 0 n), none, none], [0, 0, 0, 0, 0])) (by
    rw [sSet_deep (d := rgd 0 n) (by
      unfold eRgV
      simp only [eCB_a, aCons_a, aNil_a, eVar_0, o2_ss, o1_s, d1_1, tbr_len]) (by unfold rgd; simp [flat])]
    rfl)]
  refine sRet_ok ?_
  have hi : ∀ a b : Option D, iRgV (eVar 2) [some (tbr n m W), some (nt s), some (rgd 0 n), a, b] = some ((List.range n).map nat) := by
    intro a b
    have rk : rngOk 0 (n : Int) = true := by
      unfold rngOk
      simp only [Bool.and_eq_true, decide_eq_true_eq]
      omega
    unfold iRgV
    simp only [eVar_0, eVar_s, o1_s]
    unfold rgd
    simp only [rk, if_true]
    rw [show ((n : Int) - 0).toNat = n by omega, rngD_0]
  have hc := eLc2_of (fi := iRgV (eVar 2)) (t := .nm 3) (fi1 := iRgV (eVar 2)) (t1 := .nm 4) (ft1 := tTrue) (fe := (eB (tCmp dGe (eCB (d1 dSum) (aCons (eCall 3 den_pieces_worth (aCons (eIx (eVar 0) (eVar 3)) (aCons (eVar 1) (aCons (eVar 3) aNil)))) aNil)) (eCB (d1 dSum) (aCons (eCall 3 den_pieces_worth (aCons (eIx (eVar 0) (eVar 3)) (aCons (eVar 1) (aCons (eVar 4) aNil)))) aNil))))) (vs := [3, 4]) (vs1 := [4]) (ρ := [some (tbr n m W), some (nt s), some (rgd 0 n), none, none])
    nat (fun i => (List.range n).map fun j => .bool (decide (sw (W i) m s j ≤ sw (W i) m s i))) (l := List.range n) (hi _ _) (by
      intro i hin
      have hin := List.mem_range.mp hin
      refine ⟨[(3, nat i)], rfl, ?_⟩
      refine inLc_of nat _ (l := List.range n) (hi _ _) ?_
      intro j hj
      have e3 := tbr_ix (m := m) (W := W) hin
      have e4 : dIx (tbr n m W) (nat i) = some (trow m (W i)) := e3
      refine ⟨[(4, nat j)], rfl, ?_⟩
      simp only [setsD, wipeD, List.foldl_cons, List.foldl_nil, List.set_cons_zero, List.set_cons_succ, eB_a, tCmp_a, eCB_a, aCons_a, aNil_a, eCall_3, eIx_a, eVar_0, eVar_s, o1_s, o2_ss, d1_1, e4, pieces_ok hm hs, dSum_ok, sw_sum, dGe_i]) (by
      have : ∀ l : List Nat, (l.flatMap fun i => (List.range n).map fun j => (.bool (decide (sw (W i) m s j ≤ sw (W i) m s i)) : D)).length = l.length * n := by
        intro l
        induction l with
        | nil => simp
        | cons a l ih => rw [List.flatMap_cons, List.length_append, ih, List.length_map, List.length_range, List.length_cons, Nat.succ_mul, Nat.add_comm]
      rw [this, List.length_range]
      have : n * n ≤ 100 * 100 := Nat.mul_le_mul hn hn
      omega)
  have e : ((List.range n).flatMap fun i => (List.range n).map fun j => (.bool (decide (sw (W i) m s j ≤ sw (W i) m s i)) : D)) = ((List.range n).flatMap fun i => (List.range n).map fun j => decide (sw (W i) m s j ≤ sw (W i) m s i)).map PyData.bool := by
    rw [List.map_flatMap]
    simp only [List.map_map, Function.comp_def]
  rw [eCB_a, aCons_a, hc, aNil_a, o2_ss, o1_s, d1_1, e, dAll_ok]
  refine congrArg (fun b => some (PyData.bool b)) ?_
  unfold envy
  rw [Bool.eq_iff_iff]
  simp only [List.all_eq_true, List.mem_flatMap, List.mem_map, List.mem_range, id, Bool.not_eq_true', List.any_eq_false, Bool.not_eq_true]
  constructor
  · intro h i hi j hj
    have := h _ ⟨i, hi, j, hj, rfl⟩
    have := of_decide_eq_true this
    unfold env1
    rw [if_neg (by decide), decide_eq_false (p := sw (W i) m s i < sw (W i) m s j - 0) (by omega), Bool.and_false]
  · rintro h x ⟨i, hi, j, hj, rfl⟩
    have := h i hi j hj
    unfold env1 at this
    refine decide_eq_true ?_
    by_cases e : i = j
    · subst e; exact Int.le_refl _
    · rw [decide_eq_true e, Bool.true_and, if_neg (by decide)] at this
      have := of_decide_eq_false this
      omega
end
end Lib
end

section

set_option Elab.async false
set_option linter.all false
set_option maxRecDepth 10000
/-! k39: all sharings, the greatest product. -/
namespace Lib
open DS PySem
def den_rows_below : Fn := dfun 5 1 (sSeq (sSet 1 0 (eLst (aCons (eTup aNil) aNil)) ([] ++ []))
  (sSeq (sFor (iSeq (eVar 0)) [(0, 0)] (.nm 2)
  (sSet 1 0 (eLc2 (iSeq (eVar 1)) (.nm 3) tTrue (iRange1 (eOp dAdd (eVar 2) (eC (.int 1)))) (.nm 4) tTrue (eOp dAdd (eVar 3) (eTup (aCons (eVar 4) aNil))) [3, 4] [4]) ([(1, 1)] ++ ([] ++ ([(3, 1)] ++ ([(4, 0)] ++ []))))))
  (sRet (eVar 1))))
def den_joint_worth : Fn := dfun 7 2 (sSeq (sSet 2 1 (eOp dMul (eLst (aCons (eC (.int 0)) aNil)) (eCB (d1 dLen) (aCons (eVar 0) aNil))) (([] ++ []) ++ []))
  (sSeq (sFor (iEnumD (eVar 1)) [(1, 0)] (.tp [(.nm 3), (.nm 4)])
  (sPutOp 2 dAddI (eVar 4) (eIx (eIx (eVar 0) (eVar 4)) (eVar 3))))
  (sSeq (sSet 5 0 (eC (.int 1)) [])
  (sSeq (sFor (iSeq (eVar 2)) [(2, 0)] (.nm 6)
  (sAug 5 dMulI (eVar 6)))
  (sRet (eVar 5))))))
def den_best_fair : Fn := dfun 4 1 (sSeq (sSet 1 0 (eC .none) [])
  (sSeq (sFor (iSeq (eCall 1 den_rows_below (aCons (eOp dMul (eLst (aCons (eOp dSub (eCB (d1 dLen) (aCons (eVar 0) aNil)) (eC (.int 1))) aNil)) (eCB (d1 dLen) (aCons (eIx (eVar 0) (eC (.int 0))) aNil))) aNil))) (((([] ++ []) ++ []) ++ []) ++ []) (.nm 2)
  (sSeq (sSet 3 0 (eCall 2 den_joint_worth (aCons (eVar 0) (aCons (eVar 2) aNil))) ([(0, 0)] ++ ([(2, 0)] ++ [])))
  (sIf (tOrD (tIsND (eVar 1)) (tCmp dGt (eVar 3) (eIx (eVar 1) (eC (.int 0)))))
  (sSet 1 0 (eTup (aCons (eVar 3) (aCons (eVar 2) aNil))) ([(3, 0)] ++ ([(2, 0)] ++ [])))
  sNil)))
  (sRet (eIx (eVar 1) (eC (.int 1))))))
def den__law_sharings : Fn := dfun 7 2 (sSeq (sSet 2 0 (eLst (aCons (eTup aNil) aNil)) ([] ++ []))
  (sSeq (sFor (iRange1 (eVar 1)) [] (.nm 3)
  (sSeq (sSet 4 1 (eLst aNil) [])
  (sSeq (sFor (iSeq (eVar 2)) [(2, 0)] (.nm 5)
  (sExt 4 (eLc (iRange1 (eVar 0)) (.nm 6) tTrue (eOp dAdd (eVar 5) (eTup (aCons (eVar 6) aNil))) [6]) ([] ++ ([(5, 1)] ++ ([(6, 0)] ++ [])))))
  (sSet 2 0 (eVar 4) [(4, 0)]))))
  (sRet (eVar 2))))
def den__law_best : Fn := dfun 5 1 (sSeq (sSet 1 0 (eC .none) [])
  (sSeq (sFor (iSeq (eCall 2 den__law_sharings (aCons (eCB (d1 dLen) (aCons (eVar 0) aNil)) (aCons (eCB (d1 dLen) (aCons (eIx (eVar 0) (eC (.int 0))) aNil)) aNil)))) ([] ++ ([] ++ [])) (.nm 2)
  (sSeq (sSet 3 0 (eC (.int 1)) [])
  (sSeq (sFor (iRange1 (eCB (d1 dLen) (aCons (eVar 0) aNil))) [] (.nm 4)
  (sSet 3 0 (eOp dMul (eVar 3) (eCall 3 den__law_worth (aCons (eIx (eVar 0) (eVar 4)) (aCons (eVar 2) (aCons (eVar 4) aNil))))) ([(3, 1)] ++ ([(0, 1)] ++ ([(2, 0)] ++ ([(4, 0)] ++ []))))))
  (sIf (tOrD (tIsND (eVar 1)) (tCmp dGt (eVar 3) (eIx (eVar 1) (eC (.int 0)))))
  (sSet 1 0 (eTup (aCons (eVar 3) (aCons (eVar 2) aNil))) ([(3, 0)] ++ ([(2, 0)] ++ [])))
  sNil))))
  (sRet (eIx (eVar 1) (eC (.int 1))))))
def shl (rows : List (List Nat)) : D := .list (rows.map nt)
theorem shr_map (n : Nat) (rows : List (List Nat)) : (rows.flatMap fun row => (List.range n).map fun i => nt (row ++ [i])) = (rows.flatMap fun row => (List.range n).map fun i => row ++ [i]).map nt := by
  rw [List.map_flatMap]
  simp only [List.map_map, Function.comp_def]
theorem shr_succ (n k : Nat) : ((shr n k).flatMap fun row => (List.range n).map fun i => row ++ [i]) = shr n (k + 1) := rfl
theorem shr_small {n k m : Nat} (h : n ^ m ≤ 3000) (h1 : 1 ≤ n) (hk : k ≤ m) : (shr n k).length ≤ 3000 := by
  rw [shr_len]
  exact Nat.le_trans (Nat.pow_le_pow_right h1 hk) h
theorem rep_int {m : Nat} (a : Int) (hm : m ≤ 16777216) : dMul (.list [.int a]) (.int m) = some (.list ((List.replicate m a).map PyData.int)) := by
  show (if [PyData.int a].length * ((m : Int)).toNat ≤ sz ∧ -9223372036854775808 ≤ (m : Int) ∧ (m : Int) < 9223372036854775808 then some (PyData.list (List.replicate ((m : Int)).toNat [PyData.int a]).flatten) else none) = _
  rw [if_pos ⟨by
    have : sz = 16777216 := rfl
    rw [this, Int.toNat_natCast]
    simpa using hm, by omega, by omega⟩, Int.toNat_natCast, List.map_replicate, List.flatten_replicate_singleton]
theorem rows_below_ok {n m : Nat} (h : (n + 1) ^ m ≤ 3000) (hn : n ≤ 1000) (hm : m ≤ 1000) : den_rows_below [.list ((List.replicate m (n : Int)).map PyData.int)] = some (shl (shr (n + 1) m)) := by
  refine dfun_ret [some (.list ((List.replicate m (n : Int)).map PyData.int)), none, none, none, none] [0, 0, 0, 0, 0] rfl rfl rfl ?_
  rw [sSeq_next (s' := ([some (.list ((List.replicate m (n : Int)).map PyData.int)), some (shl (shr (n + 1) 0)), none, none, none], [0, 0, 0, 0, 0])) (by rfl)]
  obtain ⟨s', e, x2, rfl⟩ := for_inv (t := .nm 2) (body := (sSet 1 0 (eLc2 (iSeq (eVar 1)) (.nm 3) tTrue (iRange1 (eOp dAdd (eVar 2) (eC (.int 1)))) (.nm 4) tTrue (eOp dAdd (eVar 3) (eTup (aCons (eVar 4) aNil))) [3, 4] [4]) ([(1, 1)] ++ ([] ++ ([(3, 1)] ++ ([(4, 0)] ++ []))))))
    (fun j s => ∃ x2, s = ([some (.list ((List.replicate m (n : Int)).map PyData.int)), some (shl (shr (n + 1) j)), x2, none, none], [0, 0, 0, 0, 0])) ((List.replicate m (n : Int)).map PyData.int) 0 ([some (.list ((List.replicate m (n : Int)).map PyData.int)), some (shl (shr (n + 1) 0)), none, none, none], [0, 0, 0, 0, 0]) ⟨none, rfl⟩ (by
      rintro k d _ hd ⟨x2, rfl⟩
      rw [Nat.zero_add]
      have hk : k < m := by
        have := (List.getElem?_eq_some_iff.mp hd).1
        simpa using this
      have hd' : d = .int n := by
        rw [List.getElem?_map, List.getElem?_replicate, if_pos hk] at hd
        exact (Option.some.inj hd).symm
      subst hd'
      have l1 := shr_small (n := n + 1) (k := k + 1) h (by omega) (by omega)
      refine ⟨[(2, .int n)], _, rfl, ?_, some (.int n), rfl⟩
      have c : (n : Int) + 1 = ((n + 1 : Nat) : Int) := by push_cast; rfl
      have hl : eLc2 (iSeq (eVar 1)) (.nm 3) tTrue (iRange1 (eOp dAdd (eVar 2) (eC (.int 1)))) (.nm 4) tTrue (eOp dAdd (eVar 3) (eTup (aCons (eVar 4) aNil))) [3, 4] [4] [some (.list ((List.replicate m (n : Int)).map PyData.int)), some (shl (shr (n + 1) k)), some (.int n), none, none] = some (shl (shr (n + 1) (k + 1))) := by
        rw [eLc2_of nt (fun row => (List.range (n + 1)).map fun i => nt (row ++ [i])) (l := shr (n + 1) k) rfl]
        · rw [shr_map]; rfl
        · intro row hr
          refine ⟨_, rfl, ?_⟩
          refine inLc_of nat (fun i => nt (row ++ [i])) (range1_nat (n := n + 1) (by
            simp only [eOp_a, eC_a, setsD, wipeD, List.foldl_cons, List.foldl_nil, List.set_cons_zero, List.set_cons_succ, eVar_0, eVar_s, o2_ss, dAdd_i, c]) (by omega)) ?_
          intro i hi
          have hl := (mem_shr.mp hr).len
          exact ⟨_, rfl, nt_snoc (by omega)⟩
        · rw [shr_map, List.length_map]
          show (shr (n + 1) (k + 1)).length ≤ _
          omega
      show sSet 1 0 _ _ ([some (.list ((List.replicate m (n : Int)).map PyData.int)), some (shl (shr (n + 1) k)), some (.int n), none, none], [0, 0, 0, 0, 0]) = _
      rw [sSet_deep hl (flat_list _)]
      rfl)
  rw [sSeq_next (by
    rw [sFor_at (ds := (List.replicate m (n : Int)).map PyData.int) rfl]
    exact e)]
  rw [Nat.zero_add, List.length_map, List.length_replicate]
  exact sRet_ok rfl
theorem law_shr_in {n k m : Nat} (h : n ^ m ≤ 3000) (h1 : 1 ≤ n) (hn : n ≤ 1000) (hk : k < m) (hm : m ≤ 1000) (v1 x3 x5 : Option D) : ∃ y, sFor (iSeq (eVar 2)) [(2, 0)] (.nm 5)
  (sExt 4 (eLc (iRange1 (eVar 0)) (.nm 6) tTrue (eOp dAdd (eVar 5) (eTup (aCons (eVar 6) aNil))) [6]) ([] ++ ([(5, 1)] ++ ([(6, 0)] ++ [])))) ([some (.int n), v1, some (shl (shr n k)), x3, some (.list []), x5, none], [0, 0, 0, 0, 1, 0, 0]) = .next ([some (.int n), v1, some (shl (shr n k)), x3, some (shl (shr n (k + 1))), y, none], [0, 0, 0, 0, 1, 0, 0]) := by
  have l1 := shr_small (n := n) (k := k + 1) h h1 (by omega)
  obtain ⟨s', e, y, rfl⟩ := for_inv (t := .nm 5) (body := (sExt 4 (eLc (iRange1 (eVar 0)) (.nm 6) tTrue (eOp dAdd (eVar 5) (eTup (aCons (eVar 6) aNil))) [6]) ([] ++ ([(5, 1)] ++ ([(6, 0)] ++ [])))))
    (fun j s => ∃ y, s = ([some (.int n), v1, some (shl (shr n k)), x3, some (shl (((shr n k).take j).flatMap fun row => (List.range n).map fun i => row ++ [i])), y, none], [0, 0, 0, 0, 1, 0, 0])) ((shr n k).map nt) 0 ([some (.int n), v1, some (shl (shr n k)), x3, some (.list []), x5, none], [0, 0, 0, 0, 1, 0, 0]) ⟨x5, by rw [List.take_zero]; rfl⟩ (by
      rintro j d _ hd ⟨y, rfl⟩
      rw [List.getElem?_map] at hd
      obtain ⟨row, hr, rfl⟩ := Option.map_eq_some_iff.mp hd
      have hl := (mem_shr.mp (List.mem_of_getElem? hr)).len
      rw [Nat.zero_add]
      have hc : eLc (iRange1 (eVar 0)) (.nm 6) tTrue (eOp dAdd (eVar 5) (eTup (aCons (eVar 6) aNil))) [6] [some (.int n), v1, some (shl (shr n k)), x3, some (shl (((shr n k).take j).flatMap fun row => (List.range n).map fun i => row ++ [i])), some (nt row), none] = some (.list ((List.range n).map fun i => nt (row ++ [i]))) := by
        refine eLc_of nat (fun i => nt (row ++ [i])) (range1_nat rfl (by omega)) (by rw [List.length_range]; omega) ?_
        intro i hi
        exact ⟨_, rfl, nt_snoc (by omega)⟩
      have eg : ((shr n k).take (j + 1)).flatMap (fun row => (List.range n).map fun i => row ++ [i]) = ((shr n k).take j).flatMap (fun row => (List.range n).map fun i => row ++ [i]) ++ (List.range n).map fun i => row ++ [i] := by
        rw [List.take_add_one, hr]
        simp
      have lg : (((shr n k).take (j + 1)).flatMap (fun row => (List.range n).map fun i => row ++ [i])).length ≤ 3000 := by
        refine Nat.le_trans ?_ l1
        show _ ≤ ((shr n k).flatMap fun row => (List.range n).map fun i => row ++ [i]).length
        conv => rhs; rw [← List.take_append_drop (j + 1) (shr n k)]
        rw [List.flatMap_append, List.length_append]
        omega
      rw [eg, List.length_append, List.length_map] at lg
      refine ⟨[(5, nt row)], _, rfl, ?_, some (nt row), rfl⟩
      show sExt 4 _ _ ([some (.int n), v1, some (shl (shr n k)), x3, some (shl (((shr n k).take j).flatMap fun row => (List.range n).map fun i => row ++ [i])), some (nt row), none], [0, 0, 0, 0, 1, 0, 0]) = _
      rw [sExt_ok (ds := (((shr n k).take j).flatMap fun row => (List.range n).map fun i => row ++ [i]).map nt) hc rfl (by rw [List.length_map, List.length_map]; omega) rfl, eg]
      have e4 : shl (((shr n k).take j).flatMap (fun row => (List.range n).map fun i => row ++ [i]) ++ (List.range n).map fun i => row ++ [i]) = .list ((((shr n k).take j).flatMap fun row => (List.range n).map fun i => row ++ [i]).map nt ++ (List.range n).map fun i => nt (row ++ [i])) := by
        unfold shl
        rw [List.map_append, List.map_map]
        rfl
      rw [e4]
      rfl)
  refine ⟨y, ?_⟩
  rw [sFor_at (ds := (shr n k).map nt) rfl]
  rw [Nat.zero_add, List.length_map, List.take_length, shr_succ] at e
  exact e
theorem law_shr_ok {n m : Nat} (h : n ^ m ≤ 3000) (h1 : 1 ≤ n) (hn : n ≤ 1000) (hm : m ≤ 1000) : den__law_sharings [.int n, .int m] = some (shl (shr n m)) := by
  refine dfun_ret [some (.int n), some (.int m), none, none, none, none, none] [0, 0, 0, 0, 0, 0, 0] rfl rfl rfl ?_
  rw [sSeq_next (s' := ([some (.int n), some (.int m), some (shl (shr n 0)), none, none, none, none], [0, 0, 0, 0, 0, 0, 0])) (by rfl)]
  obtain ⟨s', e, x3, x4, x5, rfl⟩ := for_rng (i := 3) (n := m) (lo := 0) (body := (sSeq (sSet 4 1 (eLst aNil) [])
  (sSeq (sFor (iSeq (eVar 2)) [(2, 0)] (.nm 5)
  (sExt 4 (eLc (iRange1 (eVar 0)) (.nm 6) tTrue (eOp dAdd (eVar 5) (eTup (aCons (eVar 6) aNil))) [6]) ([] ++ ([(5, 1)] ++ ([(6, 0)] ++ [])))))
  (sSet 2 0 (eVar 4) [(4, 0)]))))
    (fun k s => ∃ x3 x4 x5, s = ([some (.int n), some (.int m), some (shl (shr n k)), x3, x4, x5, none], [0, 0, 0, 0, 0, 0, 0])) _ ⟨none, none, none, rfl⟩ (by
      rintro k _ hk ⟨x3, x4, x5, rfl⟩
      obtain ⟨y, e⟩ := law_shr_in h h1 hn hk hm (some (.int m)) (some (.int (0 + k))) x5
      refine ⟨_, ?_, some (.int (0 + k)), some (shl (shr n (k + 1))), y, rfl⟩
      rw [sSeq_next (s' := ([some (.int n), some (.int m), some (shl (shr n k)), some (.int (0 + k)), some (.list []), x5, none], [0, 0, 0, 0, 1, 0, 0])) (by rfl)]
      rw [sSeq_next e]
      rw [sSet_deep (d := shl (shr n (k + 1))) (by rfl) (flat_list _)]
      rfl)
  rw [sSeq_next (s' := ([some (.int n), some (.int m), some (shl (shr n m)), x3, x4, x5, none], [0, 0, 0, 0, 0, 0, 0])) (by
    rw [sFor_at (range1_ok (n := m) rfl (by omega))]
    exact e)]
  exact sRet_ok rfl
end Lib
end

section
set_option Elab.async false
set_option linter.all false
set_option maxRecDepth 10000
/-! k39: the first sharing with the greatest product. -/
namespace Lib
open DS PySem
theorem ixN_nt {n i : Nat} (h : i < n) : L2.ixN n (i : Int) = some i := by
  unfold L2.ixN
  rw [if_pos (by omega), if_pos (by omega)]
  simp
/-! the first of the greatest -/
def cog (c : List Nat → Int) (o : List Nat) : D := .tuple [.int (c o), nt o]
theorem cog_flat (c : List Nat → Int) (o : List Nat) : flat (cog c o) = true := by
  have := nt_flat o
  simp [cog, flat, flats, this]
def bgD (c : List Nat → Int) : Option (List Nat) → D
  | none => .none
  | some o => cog c o
theorem bgD_flat (c : List Nat → Int) (b : Option (List Nat)) : flat (bgD c b) = true := by
  cases b with
  | none => rfl
  | some o => exact cog_flat c o
/-- o comes ahead of b if it has more -/
def gtc (c : List Nat → Int) (a b : List Nat) : Bool := decide (c b < c a)
def more (c : List Nat → Int) (b : Option (List Nat)) (o : List Nat) : Bool := match b with
  | none => true
  | some b => gtc c o b
theorem more_test {c : List Nat → Int} {b : Option (List Nat)} {o : List Nat} {ρ : PEnv} {i j : Nat} (hi : eVar i ρ = some (bgD c b)) (hj : eVar j ρ = some (.int (c o))) :
    tOrD (tIsND (eVar i)) (tCmp dGt (eVar j) (eIx (eVar i) (eC (.int 0)))) ρ = some (more c b o) := by
  cases b with
  | none => exact tOr_t (by rw [tIsND_a, hi, o1_s]; rfl)
  | some b =>
    have nn : isNon (cog c b) = false := rfl
    have ix : dIx (cog c b) (.int 0) = some (.int (c b)) := rfl
    rw [tOr_f (by rw [tIsND_a, hi, o1_s]; exact congrArg some nn), tCmp_a, eIx_a, hi, hj, eC_a, o2_ss]
    show o2 (some (PyData.int (c o))) (dIx (cog c b) (.int 0)) dGt = _
    rw [ix, o2_ss, dGt_i]
    rfl
theorem more_one {c : List Nat → Int} {b : Option (List Nat)} {o : List Nat} : ofold (gtc c) b [o] = if more c b o = true then some o else b := by
  rw [ofold_one]
  cases b with
  | none => rfl
  | some b => show (if gtc c o b = true then some o else some b) = _; rfl
/-- the first with the greatest -/
def bestG (c : List Nat → Int) (n m : Nat) : List Nat := match shr n m with
  | [] => []
  | x :: xs => fmin (gtc c) x xs
theorem shr_ne {n m : Nat} (h : 1 ≤ n) : shr n m ≠ [] := List.ne_nil_of_mem (mem_shr.mpr (⟨List.length_replicate, fun x hx => by
  have := List.eq_of_mem_replicate hx
  omega⟩ : IsShr n m (List.replicate m 0)))
theorem bestG_all (c : List Nat → Int) {n m : Nat} (h : 1 ≤ n) : ofold (gtc c) none (shr n m) = some (bestG c n m) := by
  unfold bestG
  cases e : shr n m with
  | nil => exact absurd e (shr_ne h)
  | cons x xs => exact ofold_cons _ x xs
theorem bestG_is (c : List Nat → Int) {n m : Nat} (h : 1 ≤ n) : IsShr n m (bestG c n m) := by
  refine mem_shr.mp ?_
  unfold bestG
  cases e : shr n m with
  | nil => exact absurd e (shr_ne h)
  | cons x xs => exact fmin_mem _ xs x
theorem bestG_ge (c : List Nat → Int) {n m : Nat} (h : 1 ≤ n) {o : List Nat} (ho : IsShr n m o) : c o ≤ c (bestG c n m) := by
  have hm := mem_shr.mpr ho
  unfold bestG
  cases e : shr n m with
  | nil => exact absurd e (shr_ne h)
  | cons x xs =>
    rw [e] at hm
    have := fmin_le (lt := gtc c) (fun {a b d} h h' => by
      have := of_decide_eq_true h; have := of_decide_eq_true h'; exact decide_eq_true (by omega)) (fun {a b d} h => by
      have := of_decide_eq_true h
      by_cases q : c d < c a
      · exact .inl (decide_eq_true q)
      · exact .inr (decide_eq_true (by omega))) (fun a => decide_eq_false (by omega)) xs x o hm
    have := of_decide_eq_false this
    show c o ≤ c (fmin _ x xs)
    omega
theorem sw_le {f : Nat → Int} {s : List Nat} {p : Nat} (hf : ∀ k, 0 ≤ f k ∧ f k ≤ 20) : ∀ m : Nat, 0 ≤ sw f m s p ∧ sw f m s p ≤ 20 * m
  | 0 => ⟨Int.le_refl _, Int.le_refl _⟩
  | m + 1 => by
    have := sw_le (s := s) (p := p) hf m
    have h2 := hf m
    show 0 ≤ sw f m s p + (if s.getD m 0 = p then f m else 0) ∧ sw f m s p + (if s.getD m 0 = p then f m else 0) ≤ 20 * ((m + 1 : Nat) : Int)
    split <;> omega
section
variable {n m : Nat} {W : Nat → Nat → Int} {s : List Nat}
def sums (n : Nat) (W : Nat → Nat → Int) (s : List Nat) (k : Nat) : List Int := (List.range n).map fun p => sw (W p) k s p
theorem sums_set {k h : Nat} (hh : s.getD k 0 = h) : (sums n W s k).set h (sw (W h) k s h + W h k) = sums n W s (k + 1) := by
  unfold sums
  refine List.ext_getElem? fun p => ?_
  rw [List.getElem?_set]
  by_cases e : h = p
  · subst e
    rw [if_pos rfl, List.length_map, List.length_range]
    by_cases hp : h < n
    · rw [if_pos hp]
      simp only [List.getElem?_map, List.getElem?_range hp, Option.map_some]
      show _ = some (sw (W h) k s h + (if s.getD k 0 = h then W h k else 0))
      rw [if_pos hh]
    · rw [if_neg hp, List.getElem?_eq_none (by simp; omega)]
  · rw [if_neg e]
    by_cases hp : p < n
    · simp only [List.getElem?_map, List.getElem?_range hp, Option.map_some]
      show _ = some (sw (W p) k s p + (if s.getD k 0 = p then W p k else 0))
      rw [if_neg (fun q => e (by omega)), Int.add_zero]
    · rw [List.getElem?_eq_none (by simp; omega), List.getElem?_eq_none (by simp; omega)]
theorem sPutOp_ok {i : Nat} {j f : FE} {ρ : PEnv} {L : List Nat} {ds : List D} {a b : Int} {k : Nat} (h : f ρ = some (.int b)) (hi : eVar i ρ = some (.list ds)) (hj : j ρ = some (.int (k : Int))) (hk : ds[k]? = some (.int a)) (hL : lv L i = 1) : sPutOp i dAddI j f (ρ, L) = .next (ρ.set i (some (.list (ds.set k (.int (a + b))))), L) := by
  have hk' : k < ds.length := (List.getElem?_eq_some_iff.mp hk).1
  unfold sPutOp
  simp only [h, hi, hj, ixN_nt hk', hk, o1_s, dAddI_i, hL, if_true]
theorem joint_ok (hn : n ≤ 100) (hm : m ≤ 100) (hW : ∀ i k, 0 ≤ W i k ∧ W i k ≤ 20) (hs : IsShr n m s) : den_joint_worth [tbr n m W, nt s] = some (.int (npr W n m s)) := by
  have hl := hs.len
  refine dfun_ret [some (tbr n m W), some (nt s), none, none, none, none, none] [0, 0, 0, 0, 0, 0, 0] rfl rfl rfl ?_
  have e0 : List.replicate n (0 : Int) = sums n W s 0 := by
    unfold sums
    refine List.ext_getElem? fun p => ?_
    by_cases hp : p < n
    · rw [List.getElem?_replicate, if_pos hp, List.getElem?_map, List.getElem?_range hp]; rfl
    · rw [List.getElem?_eq_none (by simp; omega), List.getElem?_eq_none (by simp; omega)]
  rw [sSeq_next (s' := ([some (tbr n m W), some (nt s), some (.list ((sums n W s 0).map PyData.int)), none, none, none, none], [0, 0, 1, 0, 0, 0, 0])) (by
    have e1 : (eOp dMul (eLst (aCons (eC (.int 0)) aNil)) (eCB (d1 dLen) (aCons (eVar 0) aNil))) [some (tbr n m W), some (nt s), none, none, none, none, none] = some (.list ((sums n W s 0).map PyData.int)) := by
      have e2 : eLst (aCons (eC (.int 0)) aNil) [some (tbr n m W), some (nt s), none, none, none, none, none] = some (.list [.int 0]) := rfl
      simp only [eOp_a, e2, eCB_a, aCons_a, aNil_a, eVar_0, o2_ss, o1_s, d1_1, tbr_len, rep_int 0 (show n ≤ 16777216 by omega), e0]
    rw [sSet_deep e1 (flat_list _)]
    rfl)]
  obtain ⟨s', e, x3, x4, rfl⟩ := for_inv (t := .tp [(.nm 3), (.nm 4)]) (body := sPutOp 2 dAddI (eVar 4) (eIx (eIx (eVar 0) (eVar 4)) (eVar 3)))
    (fun k s' => ∃ x3 x4, s' = ([some (tbr n m W), some (nt s), some (.list ((sums n W s k).map PyData.int)), x3, x4, none, none], [0, 0, 1, 0, 0, 0, 0])) ((List.range m).map fun p => .tuple [nat p, nat (s.getD p 0)]) 0 ([some (tbr n m W), some (nt s), some (.list ((sums n W s 0).map PyData.int)), none, none, none, none], [0, 0, 1, 0, 0, 0, 0]) ⟨none, none, rfl⟩ (by
      rintro k d _ hd ⟨x3, x4, rfl⟩
      rw [Nat.zero_add]
      have hk : k < m := by
        have := (List.getElem?_eq_some_iff.mp hd).1
        simpa using this
      rw [List.getElem?_map, List.getElem?_range hk] at hd
      have hd' := (Option.some.inj hd).symm
      subst hd'
      have hh : s.getD k 0 < n := by
        have hk' : k < s.length := by omega
        rw [List.getD_eq_getElem?_getD, List.getElem?_eq_getElem hk']
        exact hs.lt _ (List.getElem_mem hk')
      refine ⟨[(3, nat k), (4, nat (s.getD k 0))], _, rfl, ?_, some (nat k), some (nat (s.getD k 0)), rfl⟩
      have e3 := tbr_ix (m := m) (W := W) hh
      have e4 := trow_ix (f := W (s.getD k 0)) hk
      have e5 : ((sums n W s k).map PyData.int)[s.getD k 0]? = some (.int (sw (W (s.getD k 0)) k s (s.getD k 0))) := by
        unfold sums
        rw [List.getElem?_map, List.getElem?_map, List.getElem?_range hh]
        rfl
      show sPutOp 2 dAddI (eVar 4) (eIx (eIx (eVar 0) (eVar 4)) (eVar 3)) ([some (tbr n m W), some (nt s), some (.list ((sums n W s k).map PyData.int)), some (nat k), some (nat (s.getD k 0)), none, none], [0, 0, 1, 0, 0, 0, 0]) = _
      rw [sPutOp_ok (b := W (s.getD k 0) k) (a := sw (W (s.getD k 0)) k s (s.getD k 0)) (k := s.getD k 0) (by
        simp only [eIx_a, eVar_0, eVar_s, nat, o2_ss, e3, e4]) rfl rfl e5 rfl]
      rw [← List.map_set, sums_set rfl]
      rfl)
  have hr : iEnumD (eVar 1) [some (tbr n m W), some (nt s), some (.list ((sums n W s 0).map PyData.int)), none, none, none, none] = some ((List.range m).map fun p => .tuple [nat p, nat (s.getD p 0)]) := by
    have := enum_map nat s 0
    rw [hl] at this
    rw [← this]
    rfl
  rw [sSeq_next (by
    rw [sFor_at hr]
    exact e)]
  rw [Nat.zero_add, List.length_map, List.length_range]
  rw [sSeq_next (sSet_flat (d := .int 1) rfl rfl)]
  simp only [List.set_cons_zero, List.set_cons_succ]
  obtain ⟨s', e, x6, rfl⟩ := for_inv (t := .nm 6) (body := sAug 5 dMulI (eVar 6))
    (fun k s' => ∃ x6, s' = ([some (tbr n m W), some (nt s), some (.list ((sums n W s m).map PyData.int)), x3, x4, some (.int (rprod (fun p => sw (W p) m s p) k)), x6], [0, 0, 0, 0, 0, 0, 0])) ((sums n W s m).map PyData.int) 0 ([some (tbr n m W), some (nt s), some (.list ((sums n W s m).map PyData.int)), x3, x4, some (.int 1), none], [0, 0, 0, 0, 0, 0, 0]) ⟨none, rfl⟩ (by
      rintro k d _ hd ⟨x6, rfl⟩
      rw [Nat.zero_add]
      have hk : k < n := by
        have := (List.getElem?_eq_some_iff.mp hd).1
        simpa [sums] using this
      unfold sums at hd
      rw [List.getElem?_map, List.getElem?_map, List.getElem?_range hk] at hd
      have hd' := (Option.some.inj hd).symm
      subst hd'
      refine ⟨[(6, .int (sw (W k) m s k))], _, rfl, ?_, some (.int (sw (W k) m s k)), rfl⟩
      simp only [setsD, zeros, List.foldl_cons, List.foldl_nil, List.set_cons_zero, List.set_cons_succ]
      have b := sw_le (s := s) (p := k) (hW k) m
      have mo : mulOk (rprod (fun p => sw (W p) m s p) k) (sw (W k) m s k) = true := mulOk_r (by omega)
      rw [sAug_next (x := .int (rprod (fun p => sw (W p) m s p) k)) (y := .int (sw (W k) m s k)) (d := .int (rprod (fun p => sw (W p) m s p) k * sw (W k) m s k)) rfl rfl (by
        show (if mulOk _ _ = true then _ else _) = _
        rw [if_pos mo])]
      rfl)
  rw [sSeq_next (by
    rw [sFor_at (ds := (sums n W s m).map PyData.int) rfl]
    exact e)]
  have hsl : (sums n W s m).length = n := by simp [sums]
  rw [Nat.zero_add, List.length_map, hsl]
  exact sRet_ok rfl
def bfBody : FS := (sSeq (sSet 3 0 (eCall 2 den_joint_worth (aCons (eVar 0) (aCons (eVar 2) aNil))) ([(0, 0)] ++ ([(2, 0)] ++ [])))
  (sIf (tOrD (tIsND (eVar 1)) (tCmp dGt (eVar 3) (eIx (eVar 1) (eC (.int 0)))))
  (sSet 1 0 (eTup (aCons (eVar 3) (aCons (eVar 2) aNil))) ([(3, 0)] ++ ([(2, 0)] ++ [])))
  sNil))
theorem best_fair_ok (h1 : 1 ≤ n) (hm1 : 1 ≤ m) (hn : n ≤ 100) (hm : m ≤ 100) (hs : n ^ m ≤ 3000) (hW : ∀ i k, 0 ≤ W i k ∧ W i k ≤ 20) : den_best_fair [tbr n m W] = some (nt (bestG (npr W n m) n m)) := by
  refine dfun_ret [some (tbr n m W), none, none, none] [0, 0, 0, 0] rfl rfl rfl ?_
  rw [sSeq_next (sSet_flat (d := .none) rfl rfl)]
  simp only [List.set_cons_zero, List.set_cons_succ]
  obtain ⟨n', rfl⟩ : ∃ n', n = n' + 1 := ⟨n - 1, by omega⟩
  have hi : iSeq (eCall 1 den_rows_below (aCons (eOp dMul (eLst (aCons (eOp dSub (eCB (d1 dLen) (aCons (eVar 0) aNil)) (eC (.int 1))) aNil)) (eCB (d1 dLen) (aCons (eIx (eVar 0) (eC (.int 0))) aNil))) aNil)) [some (tbr (n' + 1) m W), some .none, none, none] = some ((shr (n' + 1) m).map nt) := by
    have ix := tbr_ix (n := n' + 1) (m := m) (W := W) (u := 0) (by omega)
    have ix' : dIx (tbr (n' + 1) m W) (.int 0) = some (trow m (W 0)) := ix
    have c : ((n' + 1 : Nat) : Int) - 1 = n' := by omega
    have e2 : eLst (aCons (eOp dSub (eCB (d1 dLen) (aCons (eVar 0) aNil)) (eC (.int 1))) aNil) [some (tbr (n' + 1) m W), some .none, none, none] = some (.list [.int n']) := by
      unfold eLst
      simp only [eOp_a, eCB_a, aCons_a, aNil_a, eC_a, eVar_0, o2_ss, o1_s, d1_1, tbr_len, dSub_i, c]
      rfl
    have hr := rows_below_ok (n := n') (m := m) hs (by omega) (by omega)
    simp only [iSeq_a, eCall_1, eOp_a, e2, eCB_a, aCons_a, aNil_a, eIx_a, eC_a, eVar_0, o2_ss, o1_s, d1_1, ix', trow_len, rep_int _ (show m ≤ 16777216 by omega), hr]
    rfl
  obtain ⟨s', e, x2, x3, rfl⟩ := for_inv (t := .nm 2) (body := bfBody)
    (fun j s => ∃ x2 x3, s = ([some (tbr (n' + 1) m W), some (bgD (npr W (n' + 1) m) (ofold (gtc (npr W (n' + 1) m)) none ((shr (n' + 1) m).take j))), x2, x3], [0, 0, 0, 0])) ((shr (n' + 1) m).map nt) 0 ([some (tbr (n' + 1) m W), some .none, none, none], [0, 0, 0, 0]) ⟨none, none, by rw [List.take_zero]; rfl⟩ (by
      rintro j d _ hd ⟨x2, x3, rfl⟩
      rw [Nat.zero_add, List.getElem?_map] at *
      obtain ⟨o, ho, rfl⟩ := Option.map_eq_some_iff.mp hd
      have hr := mem_shr.mp (List.mem_of_getElem? ho)
      refine ⟨[(2, nt o)], _, rfl, ?_, some (nt o), some (.int (npr W (n' + 1) m o)), rfl⟩
      simp only [setsD, zeros, List.foldl_cons, List.foldl_nil, List.set_cons_zero, List.set_cons_succ]
      unfold bfBody
      rw [sSeq_next (sSet_flat (d := .int (npr W (n' + 1) m o)) (by simp only [eCall_2, eVar_0, eVar_s, o1_s, joint_ok hn hm hW hr]) rfl)]
      simp only [List.set_cons_zero, List.set_cons_succ]
      generalize hb : ofold (gtc (npr W (n' + 1) m)) none ((shr (n' + 1) m).take j) = b
      have ht := more_test (c := npr W (n' + 1) m) (b := b) (o := o) (i := 1) (j := 3) (ρ := [some (tbr (n' + 1) m W), some (bgD (npr W (n' + 1) m) b), some (nt o), some (.int (npr W (n' + 1) m o))]) rfl rfl
      have et : (shr (n' + 1) m).take (j + 1) = (shr (n' + 1) m).take j ++ [o] := by
        rw [List.take_add_one, ho]; rfl
      rw [et, ofold_app, hb, more_one]
      generalize hq : more (npr W (n' + 1) m) b o = q at ht ⊢
      cases q with
      | true =>
        rw [sIf_tt ht, sSet_flat (d := cog (npr W (n' + 1) m) o) rfl (cog_flat _ _)]
        rfl
      | false =>
        rw [sIf_ff ht]
        rfl)
  rw [Nat.zero_add, List.length_map, List.take_length, bestG_all _ h1] at e
  unfold bfBody at e
  rw [sSeq_next (by
    rw [sFor_at hi]
    exact e)]
  exact sRet_ok rfl
def lbBody : FS := (sSeq (sSet 3 0 (eC (.int 1)) [])
  (sSeq (sFor (iRange1 (eCB (d1 dLen) (aCons (eVar 0) aNil))) [] (.nm 4)
  (sSet 3 0 (eOp dMul (eVar 3) (eCall 3 den__law_worth (aCons (eIx (eVar 0) (eVar 4)) (aCons (eVar 2) (aCons (eVar 4) aNil))))) ([(3, 1)] ++ ([(0, 1)] ++ ([(2, 0)] ++ ([(4, 0)] ++ []))))))
  (sIf (tOrD (tIsND (eVar 1)) (tCmp dGt (eVar 3) (eIx (eVar 1) (eC (.int 0)))))
  (sSet 1 0 (eTup (aCons (eVar 3) (aCons (eVar 2) aNil))) ([(3, 0)] ++ ([(2, 0)] ++ [])))
  sNil)))
theorem law_best_ok (h1 : 1 ≤ n) (hm1 : 1 ≤ m) (hn : n ≤ 100) (hm : m ≤ 100) (hs : n ^ m ≤ 3000) (hW : ∀ i k, 0 ≤ W i k ∧ W i k ≤ 20) : den__law_best [tbr n m W] = some (nt (bestG (npr W n m) n m)) := by
  refine dfun_ret [some (tbr n m W), none, none, none, none] [0, 0, 0, 0, 0] rfl rfl rfl ?_
  rw [sSeq_next (sSet_flat (d := .none) rfl rfl)]
  simp only [List.set_cons_zero, List.set_cons_succ]
  have hi : iSeq (eCall 2 den__law_sharings (aCons (eCB (d1 dLen) (aCons (eVar 0) aNil)) (aCons (eCB (d1 dLen) (aCons (eIx (eVar 0) (eC (.int 0))) aNil)) aNil))) [some (tbr n m W), some .none, none, none, none] = some ((shr n m).map nt) := by
    have ix := tbr_ix (n := n) (m := m) (W := W) (u := 0) (by omega)
    have ix' : dIx (tbr n m W) (.int 0) = some (trow m (W 0)) := ix
    simp only [iSeq_a, eCall_2, eCB_a, aCons_a, aNil_a, eIx_a, eC_a, eVar_0, o2_ss, o1_s, d1_1, ix', tbr_len, trow_len, law_shr_ok hs h1 (show n ≤ 1000 by omega) (show m ≤ 1000 by omega)]
    rfl
  obtain ⟨s', e, x2, x3, x4, rfl⟩ := for_inv (t := .nm 2) (body := lbBody)
    (fun j s => ∃ x2 x3 x4, s = ([some (tbr n m W), some (bgD (npr W n m) (ofold (gtc (npr W n m)) none ((shr n m).take j))), x2, x3, x4], [0, 0, 0, 0, 0])) ((shr n m).map nt) 0 ([some (tbr n m W), some .none, none, none, none], [0, 0, 0, 0, 0]) ⟨none, none, none, by rw [List.take_zero]; rfl⟩ (by
      rintro j d _ hd ⟨x2, x3, x4, rfl⟩
      rw [Nat.zero_add, List.getElem?_map] at *
      obtain ⟨o, ho, rfl⟩ := Option.map_eq_some_iff.mp hd
      have hr := mem_shr.mp (List.mem_of_getElem? ho)
      generalize hb : ofold (gtc (npr W n m)) none ((shr n m).take j) = b
      obtain ⟨s', e, x4', rfl⟩ := for_rng (i := 4) (n := n) (lo := 0) (body := (sSet 3 0 (eOp dMul (eVar 3) (eCall 3 den__law_worth (aCons (eIx (eVar 0) (eVar 4)) (aCons (eVar 2) (aCons (eVar 4) aNil))))) ([(3, 1)] ++ ([(0, 1)] ++ ([(2, 0)] ++ ([(4, 0)] ++ []))))))
        (fun p s' => ∃ x4, s' = ([some (tbr n m W), some (bgD (npr W n m) b), some (nt o), some (.int (rprod (fun p => sw (W p) m o p) p)), x4], [0, 0, 0, 0, 0])) ([some (tbr n m W), some (bgD (npr W n m) b), some (nt o), some (.int 1), x4], [0, 0, 0, 0, 0]) ⟨x4, rfl⟩ (by
          rintro p _ hp ⟨x4, rfl⟩
          rw [Int.zero_add]
          simp only [List.set_cons_zero, List.set_cons_succ]
          have e3 := tbr_ix (m := m) (W := W) hp
          have b := sw_le (s := o) (p := p) (hW p) m
          have mo : mulOk (rprod (fun p => sw (W p) m o p) p) (sw (W p) m o p) = true := mulOk_r (by omega)
          have lw := lworth_ok (f := W p) (s := o) hm hr.len p
          have lw' : den__law_worth [trow m (W p), nt o, .int p] = some (.int (sw (W p) m o p)) := lw
          refine ⟨_, sSet_flat (d := .int (rprod (fun p => sw (W p) m o p) p * sw (W p) m o p)) (by
            simp only [eOp_a, eCall_3, eIx_a, eVar_0, eVar_s, o1_s, o2_ss, e3, lw', dMul_i mo]) rfl, some (.int p), rfl⟩)
      have en : rprod (fun p => sw (W p) m o p) n = npr W n m o := rfl
      rw [en] at e
      refine ⟨[(2, nt o)], _, rfl, ?_, some (nt o), some (.int (npr W n m o)), x4', rfl⟩
      simp only [setsD, zeros, List.foldl_cons, List.foldl_nil, List.set_cons_zero, List.set_cons_succ]
      unfold lbBody
      rw [sSeq_next (sSet_flat (d := .int 1) rfl rfl)]
      simp only [List.set_cons_zero, List.set_cons_succ]
      rw [sSeq_next (by
        rw [sFor_at (range1_ok (n := n) (by simp) (by omega))]
        exact e)]
      have ht := more_test (c := npr W n m) (b := b) (o := o) (i := 1) (j := 3) (ρ := [some (tbr n m W), some (bgD (npr W n m) b), some (nt o), some (.int (npr W n m o)), x4']) rfl rfl
      have et : (shr n m).take (j + 1) = (shr n m).take j ++ [o] := by
        rw [List.take_add_one, ho]; rfl
      rw [et, ofold_app, hb, more_one]
      generalize hq : more (npr W n m) b o = q at ht ⊢
      cases q with
      | true =>
        rw [sIf_tt ht, sSet_flat (d := cog (npr W n m) o) rfl (cog_flat _ _)]
        rfl
      | false =>
        rw [sIf_ff ht]
        rfl)
  rw [Nat.zero_add, List.length_map, List.take_length, bestG_all _ h1] at e
  unfold lbBody at e
  rw [sSeq_next (by
    rw [sFor_at hi]
    exact e)]
  exact sRet_ok rfl
end
end Lib
end

section
set_option Elab.async false
set_option linter.all false
set_option maxRecDepth 10000
/-! k39: one cuts, the other takes. -/
namespace Lib
open DS PySem
def den_fair_cake : Fn := dfun 4 2 (sSeq (sSet 3 0 (eLc (iRange1 (eOp dAdd (eCB (d1 dLen) (aCons (eVar 0) aNil)) (eC (.int 1)))) (.nm 2) tTrue (eTup (aCons (eCB (d1 dAbs) (aCons (eOp dSub (eOp dMul (eC (.int 2)) (eCB (d1 dSum) (aCons (eSl (eVar 0) oNone (oSome (eVar 2))) aNil))) (eCB (d1 dSum) (aCons (eVar 0) aNil))) aNil)) (aCons (eVar 2) aNil))) [2]) ([] ++ ([] ++ ([(2, 0)] ++ []))))
  (sSeq (sSet 2 0 (eIx (eCB (d1 dMin1) (aCons (eVar 3) aNil)) (eC (.int 1))) [])
  (sRet (eTup (aCons (eVar 2) (aCons (eIfD (tCmp dGe (eCB (d1 dSum) (aCons (eSl (eVar 1) oNone (oSome (eVar 2))) aNil)) (eCB (d1 dSum) (aCons (eSl (eVar 1) (oSome (eVar 2)) oNone) aNil))) (eC (.int 0)) (eC (.int 1))) aNil))))))
theorem cut_tr (n : Nat) (f : Nat → Int) {m : Nat} (h : m ≤ n) : dSlice none (some (m : Int)) (trow n f) = some (trow m f) := by
  show some (PyData.tuple (cutD ((List.range n).map fun v => PyData.int (f v)) none (some (m : Int)))) = _
  unfold cutD
  rw [HT.sIx_none, HT.sIx_nat, List.length_map, List.length_range, Nat.min_eq_left h, List.drop_zero, Nat.sub_zero, ← List.map_take, List.take_range, Nat.min_eq_left h]
  rfl
theorem cut_tr2 (n : Nat) (f : Nat → Int) {m : Nat} (h : m ≤ n) : dSlice (some (m : Int)) none (trow n f) = some (trow (n - m) fun k => f (k + m)) := by
  show some (PyData.tuple (cutD ((List.range n).map fun v => PyData.int (f v)) (some (m : Int)) none)) = _
  unfold cutD
  rw [HT.sIx_none, HT.sIx_nat, List.length_map, List.length_range, Nat.min_eq_left h]
  unfold trow
  refine congrArg (fun l => some (PyData.tuple l)) ?_
  refine List.ext_getElem? fun k => ?_
  by_cases hk : k < n - m
  · rw [List.getElem?_take, if_pos hk, List.getElem?_drop]
    simp [hk, show m + k < n by omega, Nat.add_comm]
  · rw [List.getElem?_eq_none (by simp; omega), List.getElem?_eq_none (by simp; omega)]
theorem sum_trow (m : Nat) (f : Nat → Int) : dSum (trow m f) = some (.int (rsum f m)) := by
  have e : (List.range m).map (fun v => PyData.int (f v)) = ((List.range m).map f).map PyData.int := by rw [List.map_map]; rfl
  show o1 (intsD ((List.range m).map fun v => PyData.int (f v))) (fun is => some (PyData.int is.sum)) = _
  rw [e, intsD_map, o1_s, rsum_list]
theorem rsum_split (f : Nat → Int) {c : Nat} : ∀ {m : Nat}, c ≤ m → rsum f m = rsum f c + rsum (fun k => f (k + c)) (m - c)
  | 0, h => by
    have : c = 0 := by omega
    subst this
    rfl
  | m + 1, h => by
    by_cases e : c = m + 1
    · subst e
      rw [Nat.sub_self]
      simp [rsum]
    · have ih := rsum_split f (c := c) (m := m) (by omega)
      rw [show m + 1 - c = (m - c) + 1 by omega]
      show rsum f m + f m = rsum f c + (rsum (fun k => f (k + c)) (m - c) + f (m - c + c))
      rw [ih, show m - c + c = m by omega]
      omega
def absJ (x : Int) : Int := if x < 0 then -x else x
/-! keys (c k, k) -/
def k2 (c : Nat → Int) (k : Nat) : D := .tuple [.int (c k), nat k]
def lt2 (c : Nat → Int) (a b : Nat) : Bool := if c a = c b then decide (a < b) else decide (c a < c b)
theorem lt2_iff (c : Nat → Int) (a b : Nat) : lt2 c a b = true ↔ c a < c b ∨ (c a = c b ∧ a < b) := by
  unfold lt2
  split
  · rw [decide_eq_true_iff]; omega
  · rw [decide_eq_true_iff]; omega
theorem dataLt_k2 (c : Nat → Int) (a b : Nat) : PySem.W.dataLt (k2 c a) (k2 c b) = lt2 c a b := by
  show rowLt [.int (c a), .int (a : Int)] [.int (c b), .int (b : Int)] = _
  rw [rowLt_int, rowLt_int, rowLt_nil]
  unfold lt2
  by_cases h : c a = c b
  · rw [if_pos h, if_pos h]
    by_cases h2 : a = b
    · rw [if_pos (by omega)]; exact (decide_eq_false (by omega)).symm
    · rw [if_neg (by omega), decide_eq_decide]; omega
  · rw [if_neg h, if_neg h]
theorem cmp_k2 (c : Nat → Int) (a b : Nat) : dLt (k2 c a) (k2 c b) = some (lt2 c a b) := by
  show (if cmpOk (k2 c a) (k2 c b) = true then some (PySem.W.dataLt (k2 c a) (k2 c b)) else none) = _
  rw [dataLt_k2, if_pos]
  unfold cmpOk
  simp [k2, nat, PyData.canLay0, PyData.canLayAll0, PySem.W.alike, PySem.W.alikeAll, noneD, PyData.depth, PyData.depthAll]
theorem allCmp_k2 (c : Nat → Int) (l : List Nat) : allCmp (l.map (k2 c)) = true := by
  refine allCmp_map ?_ ?_ ?_ ?_
  · intro a _; simp [k2, nat, PyData.canLay0, PyData.canLayAll0]
  · intro a _; simp [k2, nat, PyData.depth, PyData.depthAll]
  · intro a _; rfl
  · intro a _ b _; simp [k2, nat, PySem.W.alike, PySem.W.alikeAll]
/-- the first k up to m with the least c k -/
def argm (c : Nat → Int) (m : Nat) : Nat := match List.range (m + 1) with
  | [] => 0
  | x :: xs => fmin (lt2 c) x xs
theorem argm_all (c : Nat → Int) (m : Nat) : ofold (lt2 c) none (List.range (m + 1)) = some (argm c m) := by
  unfold argm
  cases e : List.range (m + 1) with
  | nil => simp at e
  | cons x xs => exact ofold_cons _ x xs
theorem argm_min (c : Nat → Int) (m : Nat) : dMin1 (.list ((List.range (m + 1)).map (k2 c))) = some (k2 c (argm c m)) := by
  unfold argm
  cases e : List.range (m + 1) with
  | nil => simp at e
  | cons x xs => exact min_list (h := k2 c) (x := x) (xs := xs) (allCmp_k2 c _) (fun _ => rfl) (dataLt_k2 c)
theorem argm_lt (c : Nat → Int) (m : Nat) : argm c m < m + 1 := by
  refine List.mem_range.mp ?_
  unfold argm
  cases e : List.range (m + 1) with
  | nil => simp at e
  | cons x xs => exact fmin_mem _ xs x
theorem argm_le (c : Nat → Int) (m : Nat) {k : Nat} (hk : k < m + 1) : c (argm c m) ≤ c k := by
  have hm := List.mem_range.mpr hk
  unfold argm
  cases e : List.range (m + 1) with
  | nil => simp at e
  | cons x xs =>
    rw [e] at hm
    have := fmin_le (lt := lt2 c) (fun {a b d} h h' => by rw [lt2_iff] at *; omega) (fun {a b d} h => by rw [lt2_iff] at *; rw [lt2_iff]; omega) (fun a => by
      cases q : lt2 c a a with
      | false => rfl
      | true => rw [lt2_iff] at q; omega) xs x k hm
    have h2 : ¬ lt2 c k (fmin (lt2 c) x xs) = true := by rw [this]; decide
    rw [lt2_iff] at h2
    show c (fmin _ x xs) ≤ c k
    omega
/-- how uneven the sides are at a cut -/
def dv (f : Nat → Int) (m k : Nat) : Int := absJ (2 * rsum f k - rsum f m)
def cutOf (f : Nat → Int) (m : Nat) : Nat := argm (dv f m) m
def sideOf (f g : Nat → Int) (m : Nat) : Nat := if 2 * rsum g (cutOf f m) < rsum g m then 1 else 0
section
variable {m : Nat} {f g : Nat → Int}
theorem fair_cake_ok (hm : m ≤ 100) : den_fair_cake [trow m f, trow m g] = some (.tuple [nat (cutOf f m), nat (sideOf f g m)]) := by
  refine dfun_ret [some (trow m f), some (trow m g), none, none] [0, 0, 0, 0] rfl rfl rfl ?_
  have hl : (eOp dAdd (eCB (d1 dLen) (aCons (eVar 0) aNil)) (eC (.int 1))) [some (trow m f), some (trow m g), none, none] = some (.int ((m + 1 : Nat) : Int)) := by
    simp only [eOp_a, eCB_a, aCons_a, aNil_a, eVar_0, eC_a, o2_ss, o1_s, d1_1, trow_len, dAdd_i]
    push_cast
    rfl
  have m2 : ∀ x, mulOk 2 x = true := fun x => mulOk_l (by decide)
  have hc := eLc_of (t := .nm 2) (vs := [2]) (fe := (eTup (aCons (eCB (d1 dAbs) (aCons (eOp dSub (eOp dMul (eC (.int 2)) (eCB (d1 dSum) (aCons (eSl (eVar 0) oNone (oSome (eVar 2))) aNil))) (eCB (d1 dSum) (aCons (eVar 0) aNil))) aNil)) (aCons (eVar 2) aNil)))) nat (k2 (dv f m)) (l := List.range (m + 1)) (range1_nat hl (by omega)) (by rw [List.length_range]; omega) (by
    intro k hk
    have hk := List.mem_range.mp hk
    refine ⟨[(2, nat k)], rfl, ?_⟩
    have sl : eSl (eVar 0) oNone (oSome (eVar 2)) [some (trow m f), some (trow m g), some (nat k), none] = some (trow k f) := cut_tr m f (by omega)
    have ea : ∀ x : Int, dAbs (.int x) = some (.int (absJ x)) := fun x => rfl
    simp only [setsD, wipeD, List.foldl_cons, List.foldl_nil, List.set_cons_zero, List.set_cons_succ, eTup, aCons_a, aNil_a, eCB_a, eOp_a, eC_a, eVar_0, eVar_s, sl, o2_ss, o1_s, d1_1, sum_trow, dMul_i (m2 _), dSub_i, ea]
    rfl)
  rw [sSeq_next (sSet_deep hc (flat_list _))]
  simp only [List.set_cons_zero, List.set_cons_succ]
  have hm1 : (eIx (eCB (d1 dMin1) (aCons (eVar 3) aNil)) (eC (.int 1))) [some (trow m f), some (trow m g), none, some (.list ((List.range (m + 1)).map (k2 (dv f m))))] = some (nat (cutOf f m)) := by
    simp only [eIx_a, eCB_a, aCons_a, aNil_a, eC_a, eVar_0, eVar_s, o2_ss, o1_s, d1_1, argm_min]
    rfl
  rw [sSeq_next (sSet_flat hm1 rfl)]
  simp only [List.set_cons_zero, List.set_cons_succ]
  refine sRet_ok ?_
  have hcut : cutOf f m ≤ m := by have := argm_lt (dv f m) m; unfold cutOf; omega
  have s1 : eSl (eVar 1) oNone (oSome (eVar 2)) [some (trow m f), some (trow m g), some (nat (cutOf f m)), some (.list ((List.range (m + 1)).map (k2 (dv f m))))] = some (trow (cutOf f m) g) := cut_tr m g hcut
  have s2 : eSl (eVar 1) (oSome (eVar 2)) oNone [some (trow m f), some (trow m g), some (nat (cutOf f m)), some (.list ((List.range (m + 1)).map (k2 (dv f m))))] = some (trow (m - cutOf f m) fun k => g (k + cutOf f m)) := cut_tr2 m g hcut
  have ht : tCmp dGe (eCB (d1 dSum) (aCons (eSl (eVar 1) oNone (oSome (eVar 2))) aNil)) (eCB (d1 dSum) (aCons (eSl (eVar 1) (oSome (eVar 2)) oNone) aNil)) [some (trow m f), some (trow m g), some (nat (cutOf f m)), some (.list ((List.range (m + 1)).map (k2 (dv f m))))] = some (decide (rsum (fun k => g (k + cutOf f m)) (m - cutOf f m) ≤ rsum g (cutOf f m))) := by
    simp only [tCmp_a, eCB_a, aCons_a, aNil_a, s1, s2, o2_ss, o1_s, d1_1, sum_trow, dGe_i]
  have hsp := rsum_split g hcut
  have hs : eIfD (tCmp dGe (eCB (d1 dSum) (aCons (eSl (eVar 1) oNone (oSome (eVar 2))) aNil)) (eCB (d1 dSum) (aCons (eSl (eVar 1) (oSome (eVar 2)) oNone) aNil))) (eC (.int 0)) (eC (.int 1)) [some (trow m f), some (trow m g), some (nat (cutOf f m)), some (.list ((List.range (m + 1)).map (k2 (dv f m))))] = some (nat (sideOf f g m)) := by
    unfold eIfD sideOf
    rw [ht]
    by_cases h : 2 * rsum g (cutOf f m) < rsum g m
    · rw [if_pos h, decide_eq_false (by omega)]; rfl
    · rw [if_neg h, decide_eq_true (by omega)]; rfl
  simp only [eTup, aCons_a, aNil_a, hs, eVar_0, eVar_s, o2_ss, o1_s]
  rfl
/-! the sharing that comes of it -/
def cake (f g : Nat → Int) (m : Nat) : List Nat := List.replicate (cutOf f m) (1 - sideOf f g m) ++ List.replicate (m - cutOf f m) (sideOf f g m)
theorem cut_le (f : Nat → Int) (m : Nat) : cutOf f m ≤ m := by have := argm_lt (dv f m) m; unfold cutOf; omega
theorem side_2 (f g : Nat → Int) (m : Nat) : sideOf f g m = 1 ∨ sideOf f g m = 0 := by
  unfold sideOf; split
  · exact .inl rfl
  · exact .inr rfl
theorem cake_is (f g : Nat → Int) (m : Nat) : IsShr 2 m (cake f g m) := by
  have h1 := cut_le f m
  have h2 := side_2 f g m
  refine ⟨by simp [cake]; omega, ?_⟩
  intro x hx
  unfold cake at hx
  rcases List.mem_append.mp hx with h | h
  · have := List.eq_of_mem_replicate h; omega
  · have := List.eq_of_mem_replicate h; omega
theorem cake_at (f g : Nat → Int) {m k : Nat} (hk : k < m) : (cake f g m).getD k 0 = if k < cutOf f m then 1 - sideOf f g m else sideOf f g m := by
  have h1 := cut_le f m
  unfold cake
  rw [List.getD_eq_getElem?_getD]
  by_cases h : k < cutOf f m
  · rw [if_pos h, List.getElem?_append_left (by simpa using h), List.getElem?_replicate, if_pos h]; rfl
  · rw [if_neg h, List.getElem?_append_right (by simp; omega), List.getElem?_replicate, if_pos (by simp; omega)]; rfl
theorem rsum_lo (f : Nat → Int) (c : Nat) : ∀ m, rsum (fun k => if k < c then f k else 0) m = rsum f (min c m)
  | 0 => by simp [rsum]
  | m + 1 => by
    show rsum (fun k => if k < c then f k else 0) m + (if m < c then f m else 0) = _
    rw [rsum_lo f c m]
    by_cases h : m < c
    · rw [if_pos h, Nat.min_eq_right (by omega), Nat.min_eq_right (by omega)]; rfl
    · rw [if_neg h, Nat.min_eq_left (by omega), Nat.min_eq_left (by omega), Int.add_zero]
theorem rsum_hi (f : Nat → Int) (c : Nat) : ∀ m, rsum (fun k => if k < c then 0 else f k) m = rsum f m - rsum f (min c m)
  | 0 => by simp [rsum]
  | m + 1 => by
    show rsum (fun k => if k < c then 0 else f k) m + (if m < c then 0 else f m) = rsum f m + f m - _
    rw [rsum_hi f c m]
    by_cases h : m < c
    · rw [if_pos h, Nat.min_eq_right (by omega), Nat.min_eq_right (by omega)]
      show _ = _ - (rsum f m + f m)
      omega
    · rw [if_neg h, Nat.min_eq_left (by omega), Nat.min_eq_left (by omega)]; omega
theorem sw_left (f g : Nat → Int) (m : Nat) (h : Nat → Int) : sw h m (cake f g m) (1 - sideOf f g m) = rsum h (cutOf f m) := by
  have h1 := cut_le f m
  have h2 := side_2 f g m
  have e := rsum_lo h (cutOf f m) m
  rw [Nat.min_eq_left h1] at e
  rw [← e]
  refine rsum_congr fun k hk => ?_
  rw [cake_at f g hk]
  by_cases q : k < cutOf f m
  · rw [if_pos q, if_pos rfl, if_pos q]
  · rw [if_neg q, if_neg (by omega), if_neg q]
theorem sw_right (f g : Nat → Int) (m : Nat) (h : Nat → Int) : sw h m (cake f g m) (sideOf f g m) = rsum h m - rsum h (cutOf f m) := by
  have h1 := cut_le f m
  have h2 := side_2 f g m
  have e := rsum_hi h (cutOf f m) m
  rw [Nat.min_eq_left h1] at e
  rw [← e]
  refine rsum_congr fun k hk => ?_
  rw [cake_at f g hk]
  by_cases q : k < cutOf f m
  · rw [if_pos q, if_neg (by omega), if_pos q]
  · rw [if_neg q, if_pos rfl, if_neg q]
theorem rsum_mono {f : Nat → Int} (hf : ∀ k, 0 < f k) : ∀ {c m : Nat}, c ≤ m → rsum f c ≤ rsum f m
  | c, 0, h => by
    have : c = 0 := by omega
    subst this; exact Int.le_refl _
  | c, m + 1, h => by
    by_cases e : c = m + 1
    · subst e; exact Int.le_refl _
    · have := rsum_mono hf (c := c) (m := m) (by omega)
      have := hf m
      show _ ≤ rsum f m + f m
      omega
/-- the one who takes has half at least -/
theorem cake_half (f g : Nat → Int) (m : Nat) : rsum g m ≤ sw g m (cake f g m) 1 * 2 := by
  have e1 := sw_left f g m g
  have e2 := sw_right f g m g
  by_cases h : 2 * rsum g (cutOf f m) < rsum g m
  · have : sideOf f g m = 1 := by unfold sideOf; rw [if_pos h]
    rw [this] at e2
    rw [e2]; omega
  · have : sideOf f g m = 0 := by unfold sideOf; rw [if_neg h]
    rw [this] at e1
    rw [e1]; omega
def two (f g : Nat → Int) : Nat → Nat → Int
  | 0 => f
  | _ + 1 => g
theorem two_tb (f g : Nat → Int) (m : Nat) : (.tuple [trow m f, trow m g] : D) = tbr 2 m (two f g) := rfl
theorem cake_fair (hf : ∀ k, 0 < f k) (hg : ∀ k, 0 < g k) : envy (two f g) 2 m (cake f g m) true = false := by
  have hcut := cut_le f m
  refine envy_f fun i j hi hj hij => ?_
  rw [if_pos rfl]
  have key : (i = 0 ∧ j = 1) ∨ (i = 1 ∧ j = 0) := by omega
  rcases key with ⟨rfl, rfl⟩ | ⟨rfl, rfl⟩
  · show sw f m (cake f g m) 1 - imax 0 (pw f m (cake f g m) 1) ≤ sw f m (cake f g m) 0
    have e1 := sw_left f g m f
    have e2 := sw_right f g m f
    have mx0 := (imax_ge (pw f m (cake f g m) 1) 0).1
    have bestc : ∀ k, k < m + 1 → dv f m (cutOf f m) ≤ dv f m k := fun k hk => argm_le (dv f m) m hk
    by_cases h : 2 * rsum g (cutOf f m) < rsum g m
    · have sd : sideOf f g m = 1 := by unfold sideOf; rw [if_pos h]
      rw [sd] at e1 e2
      have e1' : sw f m (cake f g m) 0 = rsum f (cutOf f m) := e1
      rw [e1', e2]
      by_cases q : rsum f m - rsum f (cutOf f m) ≤ rsum f (cutOf f m)
      · omega
      · have hlt : cutOf f m < m := by
          by_cases e : cutOf f m = m
          · have nn := rsum_mono hf (c := 0) (m := m) (by omega)
            have z : rsum f 0 = 0 := rfl
            rw [e] at q; omega
          · omega
        have b := bestc (cutOf f m + 1) (by omega)
        have mxk := (imax_ge (pw f m (cake f g m) 1) 0).2 _ (mem_pw (f := f) (s := cake f g m) (p := 1) hlt (by rw [cake_at f g hlt, if_neg (by omega), sd]))
        have step : rsum f (cutOf f m + 1) = rsum f (cutOf f m) + f (cutOf f m) := rfl
        have fp := hf (cutOf f m)
        unfold dv absJ at b
        rw [step] at b
        split at b <;> split at b <;> omega
    · have sd : sideOf f g m = 0 := by unfold sideOf; rw [if_neg h]
      rw [sd] at e1 e2
      have e1' : sw f m (cake f g m) 1 = rsum f (cutOf f m) := e1
      rw [e1', e2]
      by_cases q : rsum f (cutOf f m) ≤ rsum f m - rsum f (cutOf f m)
      · omega
      · have hpos : 0 < cutOf f m := by
          by_cases e : cutOf f m = 0
          · have nn := rsum_mono hf (c := 0) (m := m) (by omega)
            have z : rsum f 0 = 0 := rfl
            rw [e] at q; omega
          · omega
        obtain ⟨c, hc⟩ : ∃ c, cutOf f m = c + 1 := ⟨cutOf f m - 1, by omega⟩
        have b := bestc c (by omega)
        have mxk := (imax_ge (pw f m (cake f g m) 1) 0).2 _ (mem_pw (f := f) (s := cake f g m) (p := 1) (k := c) (by omega) (by rw [cake_at f g (by omega), if_pos (by omega), sd]))
        rw [hc] at b q ⊢
        have step : rsum f (c + 1) = rsum f c + f c := rfl
        have fp := hf c
        unfold dv absJ at b
        rw [step] at b q ⊢
        split at b <;> split at b <;> omega
  · show sw g m (cake f g m) 0 - imax 0 (pw g m (cake f g m) 0) ≤ sw g m (cake f g m) 1
    have mx0 := (imax_ge (pw g m (cake f g m) 0) 0).1
    have e1 := sw_left f g m g
    have e2 := sw_right f g m g
    by_cases h : 2 * rsum g (cutOf f m) < rsum g m
    · have sd : sideOf f g m = 1 := by unfold sideOf; rw [if_pos h]
      rw [sd] at e1 e2
      have e1' : sw g m (cake f g m) 0 = rsum g (cutOf f m) := e1
      rw [e1', e2]; omega
    · have sd : sideOf f g m = 0 := by unfold sideOf; rw [if_neg h]
      rw [sd] at e1 e2
      have e1' : sw g m (cake f g m) 1 = rsum g (cutOf f m) := e1
      rw [e1', e2]; omega
end
end Lib
end

section
set_option Elab.async false
set_option linter.all false
set_option maxRecDepth 10000
/-! k34: costs of orders. -/
namespace Lib
open DS PySem
def den_layout_cost : Fn := dfun 7 3 (sRet (eCB (d1 dSum) (aCons (eLc2 (iEnumD (eVar 2)) (.tp [(.nm 3), (.nm 4)]) tTrue (iEnumD (eVar 2)) (.tp [(.nm 5), (.nm 6)]) tTrue (eOp dMul (eIx (eIx (eVar 1) (eVar 4)) (eVar 6)) (eIx (eIx (eVar 0) (eVar 3)) (eVar 5))) [3, 4, 5, 6] [5, 6]) aNil)))
def den_exchanged : Fn := dfun 4 3 (sSeq (sSet 3 1 (eCB (d1 dList) (aCons (eVar 0) aNil)) ([(0, 1)] ++ []))
  (sSeq (sPut2 3 (eVar 1) 3 (eVar 2) (eTup (aCons (eIx (eVar 0) (eVar 2)) (aCons (eIx (eVar 0) (eVar 1)) aNil))))
  (sRet (eCB (d1 dTuple) (aCons (eVar 3) aNil)))))
def den__law_cost : Fn := dfun 6 3 (sSeq (sSet 3 0 (eC (.int 0)) [])
  (sSeq (sFor (iRange1 (eCB (d1 dLen) (aCons (eVar 2) aNil))) [] (.nm 4)
  (sFor (iRange1 (eCB (d1 dLen) (aCons (eVar 2) aNil))) [] (.nm 5)
  (sAug 3 dAddI (eOp dMul (eIx (eIx (eVar 0) (eVar 4)) (eVar 5)) (eIx (eIx (eVar 1) (eIx (eVar 2) (eVar 4))) (eIx (eVar 2) (eVar 5)))))))
  (sRet (eVar 3))))
/-- a table of small numbers -/
def Sml (W : Nat → Nat → Int) : Prop := ∀ u v, 0 ≤ W u v ∧ W u v ≤ 40
def lc (n : Nat) (W T : Nat → Nat → Int) (o : List Nat) : Int := rsum (fun p => rsum (fun q => W p q * T (o.getD p 0) (o.getD q 0)) n) n
theorem IsRow.at {n : Nat} {o : List Nat} (h : IsRow n n o) {p : Nat} (hp : p < n) : o.getD p 0 < n := by
  have hp' : p < o.length := by rw [h.len]; exact hp
  rw [List.getD_eq_getElem?_getD, List.getElem?_eq_getElem hp']
  exact h.lt _ (List.getElem_mem hp')
theorem law_cost_ok {n : Nat} (hn : n ≤ 6) {W T : Nat → Nat → Int} (hW : Sml W) {o : List Nat} (h : IsRow n n o) : den__law_cost [tb n W, tb n T, nt o] = some (.int (lc n W T o)) := by
  have hl := h.len
  refine dfun_ret [some (tb n W), some (tb n T), some (nt o), none, none, none] [0, 0, 0, 0, 0, 0] rfl rfl rfl ?_
  rw [sSeq_next (sSet_flat (d := .int 0) rfl rfl)]
  obtain ⟨s', e, x4, x5, rfl⟩ := for_rng (i := 4) (n := n) (lo := 0) (body := (sFor (iRange1 (eCB (d1 dLen) (aCons (eVar 2) aNil))) [] (.nm 5)
  (sAug 3 dAddI (eOp dMul (eIx (eIx (eVar 0) (eVar 4)) (eVar 5)) (eIx (eIx (eVar 1) (eIx (eVar 2) (eVar 4))) (eIx (eVar 2) (eVar 5)))))))
    (fun k s => ∃ x4 x5, s = ([some (tb n W), some (tb n T), some (nt o), some (.int (rsum (fun p => rsum (fun q => W p q * T (o.getD p 0) (o.getD q 0)) n) k)), x4, x5], [0, 0, 0, 0, 0, 0])) _ ⟨none, none, rfl⟩ (by
      rintro p _ hp ⟨x4, x5, rfl⟩
      obtain ⟨s', e, x5, rfl⟩ := for_rng (i := 5) (n := n) (lo := 0) (body := (sAug 3 dAddI (eOp dMul (eIx (eIx (eVar 0) (eVar 4)) (eVar 5)) (eIx (eIx (eVar 1) (eIx (eVar 2) (eVar 4))) (eIx (eVar 2) (eVar 5))))))
        (fun k s => ∃ x5, s = ([some (tb n W), some (tb n T), some (nt o), some (.int (rsum (fun p => rsum (fun q => W p q * T (o.getD p 0) (o.getD q 0)) n) p + rsum (fun q => W p q * T (o.getD p 0) (o.getD q 0)) k)), some (.int (p : Int)), x5], [0, 0, 0, 0, 0, 0])) ([some (tb n W), some (tb n T), some (nt o), some (.int (rsum (fun p => rsum (fun q => W p q * T (o.getD p 0) (o.getD q 0)) n) p)), some (.int (p : Int)), x5], [0, 0, 0, 0, 0, 0]) ⟨x5, by simp [rsum]⟩ (by
          rintro q _ hq ⟨x5, rfl⟩
          refine ⟨_, ?_, some (.int (q : Int)), rfl⟩
          have b := hW p q
          simp only [List.set_cons_zero, List.set_cons_succ, Int.zero_add]
          rw [sAug_next (x := .int (rsum (fun p => rsum (fun q => W p q * T (o.getD p 0) (o.getD q 0)) n) p + rsum (fun q => W p q * T (o.getD p 0) (o.getD q 0)) q)) (y := .int (W p q * T (o.getD p 0) (o.getD q 0))) (d := .int (rsum (fun p => rsum (fun q => W p q * T (o.getD p 0) (o.getD q 0)) n) p + rsum (fun q => W p q * T (o.getD p 0) (o.getD q 0)) (q + 1))) rfl ?_ ?_]
          · rfl
          · simp only [eOp_a, eIx_a, eVar_0, eVar_s, o2_ss, tb_ix hp, trow_ix hq, nt_ix (show p < o.length by omega), nt_ix (show q < o.length by omega), nat, tb_ix (h.at hp), trow_ix (h.at hq)]
            exact dMul_i (mulOk_l (by omega))
          · show some _ = some _
            simp only [rsum]
            congr 2
            omega)
      refine ⟨_, ?_, some (.int (p : Int)), x5, rfl⟩
      simp only [List.set_cons_zero, List.set_cons_succ, Int.zero_add]
      rw [sFor_go (range1_ok (n := n) (by simp [hl]) (by omega))]
      exact e)
  rw [sSeq_next (s' := ([some (tb n W), some (tb n T), some (nt o), some (.int (lc n W T o)), x4, x5], [0, 0, 0, 0, 0, 0])) (by
    rw [sFor_go (range1_ok (n := n) (by simp [hl]) (by omega))]
    exact e)]
  exact sRet_ok rfl
theorem enum_nt (o : List Nat) : enumD (o.map nat) = (List.range o.length).map fun p => .tuple [nat p, nat (o.getD p 0)] := enum_map nat o 0
theorem layout_cost_ok {n : Nat} (hn : n ≤ 6) {W T : Nat → Nat → Int} (hW : Sml W) {o : List Nat} (h : IsRow n n o) : den_layout_cost [tb n W, tb n T, nt o] = some (.int (lc n W T o)) := by
  have hl := h.len
  refine dfun_ret [some (tb n W), some (tb n T), some (nt o), none, none, none, none] [0, 0, 0, 0, 0, 0, 0] rfl rfl rfl ?_
  refine sRet_ok ?_
  have hi : ∀ x y a b c d, iEnumD (eVar 2) [x, y, some (nt o), a, b, c, d] = some ((List.range n).map fun p => .tuple [nat p, nat (o.getD p 0)]) := by
    intro x y a b c d
    have := enum_nt o
    rw [hl] at this
    rw [← this]
    rfl
  have hl2 : ((List.range n).flatMap fun p => (List.range n).map fun q => (.int (T (o.getD p 0) (o.getD q 0) * W p q) : D)) = (((List.range n).flatMap fun p => (List.range n).map fun q => W p q * T (o.getD p 0) (o.getD q 0))).map PyData.int := by
    rw [List.map_flatMap]
    simp only [List.map_map, Function.comp_def]
    congr 1; funext p; congr 1; funext q
    rw [Int.mul_comm]
  have hc := eLc2_of (t := .tp [(.nm 3), (.nm 4)]) (fi := iEnumD (eVar 2)) (fi1 := iEnumD (eVar 2)) (t1 := .tp [(.nm 5), (.nm 6)]) (ft1 := tTrue) (fe := (eOp dMul (eIx (eIx (eVar 1) (eVar 4)) (eVar 6)) (eIx (eIx (eVar 0) (eVar 3)) (eVar 5)))) (vs := [3, 4, 5, 6]) (vs1 := [5, 6]) (ρ := [some (tb n W), some (tb n T), some (nt o), none, none, none, none])
    (fun p => .tuple [nat p, nat (o.getD p 0)]) (fun p => (List.range n).map fun q => .int (T (o.getD p 0) (o.getD q 0) * W p q)) (l := List.range n) (hi _ _ _ _ _ _) (by
      intro p hp
      have hp := List.mem_range.mp hp
      refine ⟨[(3, nat p), (4, nat (o.getD p 0))], rfl, ?_⟩
      refine inLc_of (fun q => .tuple [nat q, nat (o.getD q 0)]) _ (l := List.range n) (hi _ _ _ _ _ _) ?_
      intro q hq
      have hq := List.mem_range.mp hq
      refine ⟨[(5, nat q), (6, nat (o.getD q 0))], rfl, ?_⟩
      have b := hW p q
      simp only [setsD, wipeD, List.foldl_cons, List.foldl_nil, List.set_cons_zero, List.set_cons_succ, eOp_a, eIx_a, eVar_0, eVar_s, o2_ss, nat, tb_ix hp, trow_ix hq, tb_ix (h.at hp), trow_ix (h.at hq)]
      exact dMul_i (mulOk_r (by omega))) (by
      have : ∀ l : List Nat, (l.flatMap fun p => (List.range n).map fun q => (.int (T (o.getD p 0) (o.getD q 0) * W p q) : D)).length = l.length * n := by
        intro l
        induction l with
        | nil => simp
        | cons a l ih => rw [List.flatMap_cons, List.length_append, ih, List.length_map, List.length_range, List.length_cons, Nat.succ_mul, Nat.add_comm]
      rw [this, List.length_range]
      have : n * n ≤ 6 * 6 := Nat.mul_le_mul hn hn
      omega)
  simp only [eCB_a, aCons_a, aNil_a, hc, o2_ss, o1_s, d1_1, hl2, dSum_ok, sum_flat]
  rfl
end Lib
end

section
set_option Elab.async false
set_option linter.all false
set_option maxRecDepth 10000
/-! k34: exchanging, by the program and by the law. -/
namespace Lib
open DS PySem
def den_swapped_layout : Fn := dfun 9 3 (sSeq (sTup (.tp [(.nm 3), (.nm 4)]) (eTup (aCons (eCB (d1 dTuple) (aCons (eVar 2) aNil)) (aCons (eCall 3 den_layout_cost (aCons (eVar 0) (aCons (eVar 1) (aCons (eVar 2) aNil)))) aNil))) (([(2, 1)] ++ []) ++ (([(0, 0)] ++ ([(1, 0)] ++ ([(2, 0)] ++ []))) ++ [])))
  (sSeq (sSet 5 0 (eLc2 (iRange1 (eCB (d1 dLen) (aCons (eVar 2) aNil))) (.nm 7) tTrue (iRange1 (eVar 7)) (.nm 8) tTrue (eTup (aCons (eVar 8) (aCons (eVar 7) aNil))) [7, 8] [8]) ([] ++ ([] ++ ([(8, 0)] ++ ([(7, 0)] ++ [])))))
  (sSeq (sWhile 100000 (tTru (eVar 5))
  (sSeq (sSet 6 0 (eCB (d1 dMin1) (aCons (eLc (iSeq (eVar 5)) (.tp [(.nm 8), (.nm 7)]) tTrue (eTup (aCons (eCall 3 den_layout_cost (aCons (eVar 0) (aCons (eVar 1) (aCons (eCall 3 den_exchanged (aCons (eVar 3) (aCons (eVar 8) (aCons (eVar 7) aNil)))) aNil)))) (aCons (eVar 8) (aCons (eVar 7) aNil)))) [8, 7]) aNil)) [])
  (sSeq (sIf (tCmp dGe (eIx (eVar 6) (eC (.int 0))) (eVar 4))
  (sRet (eVar 3))
  sNil)
  (sSeq (sSet 4 0 (eIx (eVar 6) (eC (.int 0))) [(6, 1)])
  (sSet 3 0 (eCall 3 den_exchanged (aCons (eVar 3) (aCons (eIx (eVar 6) (eC (.int 1))) (aCons (eIx (eVar 6) (eC (.int 2))) aNil)))) ([(3, 0)] ++ ([(6, 1)] ++ ([(6, 1)] ++ []))))))))
  (sRet (eVar 3)))))
def den__law_swapped : Fn := dfun 9 3 (sSeq (sFor (iRange1 (eC (.int 720))) [] (.nm 3)
  (sSeq (sSet 4 0 (eC .none) [])
  (sSeq (sFor (iRange1 (eCB (d1 dLen) (aCons (eVar 2) aNil))) [] (.nm 5)
  (sFor (iRange2 (eOp dAdd (eVar 5) (eC (.int 1))) (eCB (d1 dLen) (aCons (eVar 2) aNil))) [] (.nm 6)
  (sSeq (sSet 7 0 (eOp dAdd (eOp dAdd (eOp dAdd (eOp dAdd (eSl (eVar 2) oNone (oSome (eVar 5))) (eTup (aCons (eIx (eVar 2) (eVar 6)) aNil))) (eSl (eVar 2) (oSome (eOp dAdd (eVar 5) (eC (.int 1)))) (oSome (eVar 6)))) (eTup (aCons (eIx (eVar 2) (eVar 5)) aNil))) (eSl (eVar 2) (oSome (eOp dAdd (eVar 6) (eC (.int 1)))) oNone)) (((([(2, 1)] ++ ([(2, 1)] ++ [])) ++ [(2, 1)]) ++ ([(2, 1)] ++ [])) ++ [(2, 1)]))
  (sSeq (sSet 8 0 (eTup (aCons (eCall 3 den__law_cost (aCons (eVar 0) (aCons (eVar 1) (aCons (eVar 7) aNil)))) (aCons (eVar 5) (aCons (eVar 6) (aCons (eVar 7) aNil))))) (([(0, 0)] ++ ([(1, 0)] ++ ([(7, 0)] ++ []))) ++ ([(5, 0)] ++ ([(6, 0)] ++ ([(7, 0)] ++ [])))))
  (sIf (tOrD (tIsND (eVar 4)) (tCmp dLt (eVar 8) (eVar 4)))
  (sSet 4 0 (eVar 8) [(8, 0)])
  sNil)))))
  (sSeq (sIf (tOrD (tIsND (eVar 4)) (tCmp dGe (eIx (eVar 4) (eC (.int 0))) (eCall 3 den__law_cost (aCons (eVar 0) (aCons (eVar 1) (aCons (eVar 2) aNil))))))
  (sRet (eVar 2))
  sNil)
  (sSet 2 0 (eIx (eVar 4) (eC (.int 3))) [(4, 1)])))))
  (sRet (eVar 2)))
theorem ixN_nat {n i : Nat} (h : i < n) : L2.ixN n (i : Int) = some i := by
  unfold L2.ixN
  rw [if_pos (by omega), if_pos (by omega)]
  simp
theorem sPut2_ok {i1 i2 : Nat} {j1 j2 f : FE} {ρ : PEnv} {L : List Nat} {a b : D} {ds : List D} {k1 k2 : Nat} (h : f ρ = some (.tuple [a, b])) (ha : flat a = true) (hb : flat b = true) (h1 : eVar i1 ρ = some (.list ds)) (g1 : j1 ρ = some (.int k1)) (l1 : k1 < ds.length) (hL : lv L i1 = 1)
    (h2 : eVar i2 (ρ.set i1 (some (.list (ds.set k1 a)))) = some (.list (ds.set k1 a))) (g2 : j2 (ρ.set i1 (some (.list (ds.set k1 a)))) = some (.int k2)) (l2 : k2 < ds.length) (hL2 : lv L i2 = 1) :
    sPut2 i1 j1 i2 j2 f (ρ, L) = .next ((ρ.set i1 (some (.list (ds.set k1 a)))).set i2 (some (.list ((ds.set k1 a).set k2 b))), L) := by
  unfold sPut2
  simp only [h, ha, hb, Bool.and_self, if_true]
  unfold sPutC
  simp only [h1, g1, ixN_nat l1, hL, if_true, h2, g2, List.length_set, ixN_nat l2, hL2]
theorem nat_flat (i : Nat) : flat (nat i) = true := rfl
theorem exchanged_ok {n : Nat} {o : List Nat} (hl : o.length = n) {i j : Nat} (hij : i < j) (hj : j < n) : den_exchanged [nt o, .int i, .int j] = some (nt (exch o i j)) := by
  refine dfun_ret [some (nt o), some (.int i), some (.int j), none] [0, 0, 0, 0] rfl rfl rfl ?_
  rw [sSeq_next (s' := ([some (nt o), some (.int i), some (.int j), some (.list (o.map nat))], [0, 0, 0, 1])) (by
    rw [sSet_next (d := .list (o.map nat)) rfl, if_neg (by simp [flat])]
    rfl)]
  have hm : (o.map nat).length = n := by rw [List.length_map, hl]
  rw [sSeq_next (sPut2_ok (a := nat (o.getD j 0)) (b := nat (o.getD i 0)) (ds := o.map nat) (k1 := i) (k2 := j) (by
    have e1 := nt_ix (o := o) (i := i) (by omega)
    have e2 := nt_ix (o := o) (i := j) (by omega)
    simp [eTup, e1, e2, sz]) rfl rfl rfl rfl (by omega) rfl rfl rfl (by omega) rfl)]
  refine sRet_ok ?_
  simp only [List.set_cons_zero, List.set_cons_succ, eCB_a, aCons_a, aNil_a, eVar_0, eVar_s, o2_ss, o1_s, d1_1, dTuple_l]
  rw [← List.map_set, ← List.map_set]
  rfl
/-! the program -/
def k3 (k : K3) : D := .tuple [.int k.1, nat k.2.1, nat k.2.2]
theorem dataLt_k3 (a b : K3) : PySem.W.dataLt (k3 a) (k3 b) = lt3 a b := by
  show rowLt [.int a.1, .int (a.2.1 : Int), .int (a.2.2 : Int)] [.int b.1, .int (b.2.1 : Int), .int (b.2.2 : Int)] = _
  rw [rowLt_int, rowLt_int, rowLt_int, rowLt_nil]
  unfold lt3
  by_cases h1 : a.1 = b.1
  · rw [if_pos h1, if_pos h1]
    by_cases h2 : a.2.1 = b.2.1
    · rw [if_pos (by omega), if_pos h2]
      by_cases h3 : a.2.2 = b.2.2
      · rw [if_pos (by omega)]; exact (decide_eq_false (by omega)).symm
      · rw [if_neg (by omega), decide_eq_decide]; omega
    · rw [if_neg (by omega), if_neg h2, decide_eq_decide]; omega
  · rw [if_neg h1, if_neg h1]
theorem allCmp_k3 (l : List K3) : allCmp (l.map k3) = true := by
  refine allCmp_map ?_ ?_ ?_ ?_
  · intro a _; simp [k3, nat, PyData.canLay0, PyData.canLayAll0]
  · intro a _; simp [k3, nat, PyData.depth, PyData.depthAll]
  · intro a _; rfl
  · intro a _ b _; simp [k3, nat, PySem.W.alike, PySem.W.alikeAll]
def prs (n : Nat) : List (Nat × Nat) := (List.range n).flatMap fun j => (List.range j).map fun i => (i, j)
theorem mem_prs {n : Nat} {p : Nat × Nat} (h : p ∈ prs n) : p.1 < p.2 ∧ p.2 < n := by
  unfold prs at h
  simp only [List.mem_flatMap, List.mem_map, List.mem_range] at h
  obtain ⟨j, hj, i, hi, rfl⟩ := h
  exact ⟨hi, hj⟩
theorem prs_len {n : Nat} (hn : n ≤ 6) : (prs n).length ≤ 720 := by
  have : ∀ n, n < 7 → (prs n).length ≤ 720 := by decide +kernel
  exact this n (by omega)
theorem prs_ne {n : Nat} (hn : 2 ≤ n) : (prs n) ≠ [] := by
  refine List.ne_nil_of_mem (a := (0, 1)) ?_
  unfold prs
  simp only [List.mem_flatMap, List.mem_map, List.mem_range]
  exact ⟨1, by omega, 0, by omega, rfl⟩
def pr (p : Nat × Nat) : D := .tuple [nat p.1, nat p.2]
theorem keysP_prs (c : List Nat → Int) (o : List Nat) (n : Nat) : (prs n).map (fun p => key c o p.1 p.2) = keysP c o n := by
  unfold prs keysP
  rw [List.map_flatMap]
  simp only [List.map_map, Function.comp_def]
theorem swapped_min {n : Nat} (h2 : 2 ≤ n) (c : List Nat → Int) (o : List Nat) : dMin1 (.list ((prs n).map fun p => k3 (key c o p.1 p.2))) = some (k3 (bestK c n o)) := by
  obtain ⟨x, xs, e, e'⟩ := bestK_p (c := c) (o := o) h2
  have e2 : ((prs n).map fun p => k3 (key c o p.1 p.2)) = (x :: xs).map k3 := by
    rw [← e, ← keysP_prs, List.map_map]
    rfl
  rw [e2, e']
  exact min_list (h := k3) (x := x) (xs := xs) (allCmp_k3 _) (fun _ => rfl) dataLt_k3
def swBody : FS := (sSeq (sSet 6 0 (eCB (d1 dMin1) (aCons (eLc (iSeq (eVar 5)) (.tp [(.nm 8), (.nm 7)]) tTrue (eTup (aCons (eCall 3 den_layout_cost (aCons (eVar 0) (aCons (eVar 1) (aCons (eCall 3 den_exchanged (aCons (eVar 3) (aCons (eVar 8) (aCons (eVar 7) aNil)))) aNil)))) (aCons (eVar 8) (aCons (eVar 7) aNil)))) [8, 7]) aNil)) [])
  (sSeq (sIf (tCmp dGe (eIx (eVar 6) (eC (.int 0))) (eVar 4))
  (sRet (eVar 3))
  sNil)
  (sSeq (sSet 4 0 (eIx (eVar 6) (eC (.int 0))) [(6, 1)])
  (sSet 3 0 (eCall 3 den_exchanged (aCons (eVar 3) (aCons (eIx (eVar 6) (eC (.int 1))) (aCons (eIx (eVar 6) (eC (.int 2))) aNil)))) ([(3, 0)] ++ ([(6, 1)] ++ ([(6, 1)] ++ [])))))))
section
variable {n : Nat} {W T : Nat → Nat → Int}
theorem swBody_ok (hn : n ≤ 6) (h2 : 2 ≤ n) (hW : Sml W) {o : List Nat} (h : IsRow n n o) (x2 x6 : Option D) : swBody ([some (tb n W), some (tb n T), x2, some (nt o), some (.int (lc n W T o)), some (.list ((prs n).map pr)), x6, none, none], [0, 0, 0, 0, 0, 0, 0, 0, 0])
    = if lc n W T o ≤ (bestK (lc n W T) n o).1 then .ret (nt o) else .next ([some (tb n W), some (tb n T), x2, some (nt (exch o (bestK (lc n W T) n o).2.1 (bestK (lc n W T) n o).2.2)), some (.int (lc n W T (exch o (bestK (lc n W T) n o).2.1 (bestK (lc n W T) n o).2.2))), some (.list ((prs n).map pr)), some (k3 (bestK (lc n W T) n o)), none, none], [0, 0, 0, 0, 0, 0, 0, 0, 0]) := by
  have hl := h.len
  have hc : eLc (iSeq (eVar 5)) (.tp [(.nm 8), (.nm 7)]) tTrue (eTup (aCons (eCall 3 den_layout_cost (aCons (eVar 0) (aCons (eVar 1) (aCons (eCall 3 den_exchanged (aCons (eVar 3) (aCons (eVar 8) (aCons (eVar 7) aNil)))) aNil)))) (aCons (eVar 8) (aCons (eVar 7) aNil)))) [8, 7] [some (tb n W), some (tb n T), x2, some (nt o), some (.int (lc n W T o)), some (.list ((prs n).map pr)), x6, none, none] = some (.list ((prs n).map fun p => k3 (key (lc n W T) o p.1 p.2))) := by
    refine eLc_of pr (fun p => k3 (key (lc n W T) o p.1 p.2)) (l := prs n) rfl (by have := prs_len hn; omega) ?_
    intro p hp
    obtain ⟨hp1, hp2⟩ := mem_prs hp
    refine ⟨[(8, nat p.1), (7, nat p.2)], rfl, ?_⟩
    have e1 := exchanged_ok hl hp1 hp2
    have e2 := layout_cost_ok hn hW (T := T) (exch_row h hp1 hp2)
    simp only [setsD, wipeD, List.foldl_cons, List.foldl_nil, List.set_cons_zero, List.set_cons_succ, eTup, aCons_a, aNil_a, eCall_3, eVar_0, eVar_s, o1_s, o2_ss, nat, e1, e2]
    rfl
  have hm : (eCB (d1 dMin1) (aCons (eLc (iSeq (eVar 5)) (.tp [(.nm 8), (.nm 7)]) tTrue (eTup (aCons (eCall 3 den_layout_cost (aCons (eVar 0) (aCons (eVar 1) (aCons (eCall 3 den_exchanged (aCons (eVar 3) (aCons (eVar 8) (aCons (eVar 7) aNil)))) aNil)))) (aCons (eVar 8) (aCons (eVar 7) aNil)))) [8, 7]) aNil)) [some (tb n W), some (tb n T), x2, some (nt o), some (.int (lc n W T o)), some (.list ((prs n).map pr)), x6, none, none] = some (k3 (bestK (lc n W T) n o)) := by
    rw [eCB_a, aCons_a, hc, aNil_a, o2_ss, o1_s, d1_1, swapped_min h2]
  unfold swBody
  rw [sSeq_next (sSet_flat hm rfl)]
  simp only [List.set_cons_zero, List.set_cons_succ]
  obtain ⟨i, j, hij, hj, e⟩ := bestK_is (c := lc n W T) (o := o) h2
  rw [e]
  have ix0 : dIx (k3 (key (lc n W T) o i j)) (.int 0) = some (.int (lc n W T (exch o i j))) := rfl
  have ix1 : dIx (k3 (key (lc n W T) o i j)) (.int 1) = some (.int i) := rfl
  have ix2 : dIx (k3 (key (lc n W T) o i j)) (.int 2) = some (.int j) := rfl
  by_cases hle : lc n W T o ≤ (key (lc n W T) o i j).1
  · rw [if_pos hle]
    rw [sSeq_ret (d := nt o) (by
      rw [sIf_t (by simp only [tCmp_a, eIx_a, eVar_0, eVar_s, eC_a, o2_ss, ix0, dGe_i]; exact congrArg some (decide_eq_true hle))]
      exact sRet_ok rfl)]
  · rw [if_neg hle]
    rw [sSeq_next (s' := ([some (tb n W), some (tb n T), x2, some (nt o), some (.int (lc n W T o)), some (.list ((prs n).map pr)), some (k3 (key (lc n W T) o i j)), none, none], [0, 0, 0, 0, 0, 0, 0, 0, 0])) (by
      rw [sIf_f (by simp only [tCmp_a, eIx_a, eVar_0, eVar_s, eC_a, o2_ss, ix0, dGe_i]; exact congrArg some (decide_eq_false hle))]
      rfl)]
    rw [sSeq_next (sSet_flat (d := .int (lc n W T (exch o i j))) (by simp only [eIx_a, eVar_0, eVar_s, eC_a, o2_ss, ix0]) rfl)]
    simp only [List.set_cons_zero, List.set_cons_succ]
    rw [sSet_flat (d := nt (exch o i j)) (by simp only [eCall_3, eIx_a, eVar_0, eVar_s, eC_a, o1_s, o2_ss, ix1, ix2, exchanged_ok hl hij hj]) (nt_flat _)]
    rfl
theorem sw_while (hn : n ≤ 6) (h2 : 2 ≤ n) (hW : Sml W) (x2 : Option D) : ∀ (k fuel : Nat) (o : List Nat) (x6 : Option D), IsRow n n o → mu (lc n W T) n o < k → k ≤ fuel →
    whGo (tTru (eVar 5)) swBody fuel ([some (tb n W), some (tb n T), x2, some (nt o), some (.int (lc n W T o)), some (.list ((prs n).map pr)), x6, none, none], [0, 0, 0, 0, 0, 0, 0, 0, 0]) = .ret (nt (climb (lc n W T) n k o))
  | 0, _, _, _, _, h, _ => by omega
  | k + 1, 0, _, _, _, _, h => by omega
  | k + 1, f + 1, o, x6, hr, h, h' => by
    have ht : tTru (eVar 5) [some (tb n W), some (tb n T), x2, some (nt o), some (.int (lc n W T o)), some (.list ((prs n).map pr)), x6, none, none] = some true := by
      have : (prs n).map pr ≠ [] := by simpa using prs_ne h2
      cases e : (prs n).map pr with
      | nil => exact absurd e this
      | cons a l => rfl
    rw [whGo]
    simp only [ht, swBody_ok hn h2 hW hr, climb]
    obtain ⟨r, e⟩ := best_row (c := lc n W T) h2 hr
    split
    · rename_i s' hs
      split at hs
      · cases hs
      · rename_i hle
        cases hs
        rw [if_neg hle]
        have := mu_lt (c := lc n W T) (o := o) r (by omega)
        exact sw_while hn h2 hW x2 k f _ _ r (by omega) (by omega)
    · rename_i s' hs
      split at hs <;> cases hs
    · rename_i s' hs
      split at hs <;> cases hs
    · rename_i s' hs
      split at hs
      · rename_i hle; cases hs; rw [if_pos hle]
      · cases hs
    · rename_i hs
      split at hs <;> cases hs
theorem swapped_ok (hn : n ≤ 6) (h2 : 2 ≤ n) (hW : Sml W) {o : List Nat} (h : IsRow n n o) : den_swapped_layout [tb n W, tb n T, nt o] = some (nt (climb (lc n W T) n 720 o)) := by
  have hl := h.len
  refine dfun_ret [some (tb n W), some (tb n T), some (nt o), none, none, none, none, none, none] [0, 0, 0, 0, 0, 0, 0, 0, 0] rfl rfl rfl ?_
  rw [sSeq_next (s' := ([some (tb n W), some (tb n T), some (nt o), some (nt o), some (.int (lc n W T o)), none, none, none, none], [0, 0, 0, 0, 0, 0, 0, 0, 0])) (by
    rw [sTup_flat (d := .tuple [nt o, .int (lc n W T o)]) (l := [(3, nt o), (4, .int (lc n W T o))]) (by
      have : dTuple (nt o) = some (nt o) := rfl
      simp only [eTup, aCons_a, aNil_a, eCB_a, eCall_3, eVar_0, eVar_s, o1_s, o2_ss, d1_1, this, layout_cost_ok hn hW h]
      rfl) rfl (by have := nt_flat o; simp [flat, flats, this])]
    rfl)]
  have hp : eLc2 (iRange1 (eCB (d1 dLen) (aCons (eVar 2) aNil))) (.nm 7) tTrue (iRange1 (eVar 7)) (.nm 8) tTrue (eTup (aCons (eVar 8) (aCons (eVar 7) aNil))) [7, 8] [8] [some (tb n W), some (tb n T), some (nt o), some (nt o), some (.int (lc n W T o)), none, none, none, none] = some (.list ((prs n).map pr)) := by
    have e : (prs n).map pr = (List.range n).flatMap fun j => (List.range j).map fun i => pr (i, j) := by
      unfold prs
      rw [List.map_flatMap]
      simp only [List.map_map, Function.comp_def]
    have := prs_len hn
    rw [e, eLc2_of nat (fun j => (List.range j).map fun i => pr (i, j)) (l := List.range n) (range1_nat (by simp [hl]) (by omega))]
    · intro j hj
      have hj := List.mem_range.mp hj
      refine ⟨_, rfl, ?_⟩
      refine inLc_of nat _ (range1_nat (n := j) rfl (by omega)) ?_
      intro i hi
      exact ⟨_, rfl, rfl⟩
    · rw [← e, List.length_map]
      omega
  rw [sSeq_next (s' := ([some (tb n W), some (tb n T), some (nt o), some (nt o), some (.int (lc n W T o)), some (.list ((prs n).map pr)), none, none, none], [0, 0, 0, 0, 0, 0, 0, 0, 0])) (by
    rw [sSet_deep hp (flat_list _)]
    rfl)]
  have hw : sWhile 100000 (tTru (eVar 5)) swBody ([some (tb n W), some (tb n T), some (nt o), some (nt o), some (.int (lc n W T o)), some (.list ((prs n).map pr)), none, none, none], [0, 0, 0, 0, 0, 0, 0, 0, 0]) = .ret (nt (climb (lc n W T) n 720 o)) := sw_while hn h2 hW _ 720 100000 o _ h (mu_720 h hn) (by omega)
  unfold swBody at hw
  rw [sSeq_ret hw]
end
end Lib
end

section
set_option Elab.async false
set_option linter.all false
set_option maxRecDepth 10000
/-! k34: the law's exchanging. -/
namespace Lib
open DS PySem
theorem cut_hi (o : List Nat) {i : Nat} (h : i ≤ o.length) : dSlice none (some (i : Int)) (nt o) = some (nt (o.take i)) := by
  show some (PyData.tuple (cutD (o.map nat) none (some (i : Int)))) = _
  unfold cutD
  rw [HT.sIx_none, HT.sIx_nat, List.length_map, Nat.min_eq_left h, List.drop_zero, Nat.sub_zero, ← List.map_take]
  rfl
theorem cut_lo (o : List Nat) {i : Nat} (h : i ≤ o.length) : dSlice (some (i : Int)) none (nt o) = some (nt (o.drop i)) := by
  show some (PyData.tuple (cutD (o.map nat) (some (i : Int)) none)) = _
  unfold cutD
  rw [HT.sIx_none, HT.sIx_nat, List.length_map, Nat.min_eq_left h, ← List.map_drop, List.take_of_length_le (by simp)]
  rfl
theorem cut_mid (o : List Nat) {i j : Nat} (h : i ≤ j) (h' : j ≤ o.length) : dSlice (some (i : Int)) (some (j : Int)) (nt o) = some (nt ((o.take j).drop i)) := by
  show some (PyData.tuple (cutD (o.map nat) (some (i : Int)) (some (j : Int)))) = _
  unfold cutD
  rw [HT.sIx_nat, HT.sIx_nat, List.length_map, Nat.min_eq_left h', Nat.min_eq_left (by omega), ← List.map_drop, ← List.map_take, List.drop_take]
  rfl
theorem nt_app {o o' : List Nat} (h : o.length + o'.length ≤ 16777216) : dAdd (nt o) (nt o') = some (nt (o ++ o')) := by
  show (if (o.map nat).length + (o'.map nat).length ≤ sz then _ else _) = _
  rw [if_pos (by rw [List.length_map, List.length_map]; exact h), ← List.map_append]
  rfl
def k4 (o : List Nat) (k : K3) : D := .tuple [.int k.1, nat k.2.1, nat k.2.2, nt (exch o k.2.1 k.2.2)]
theorem dataLt_k4 (o : List Nat) (a b : K3) : PySem.W.dataLt (k4 o a) (k4 o b) = lt3 a b := by
  show rowLt [.int a.1, .int (a.2.1 : Int), .int (a.2.2 : Int), nt (exch o a.2.1 a.2.2)] [.int b.1, .int (b.2.1 : Int), .int (b.2.2 : Int), nt (exch o b.2.1 b.2.2)] = _
  rw [rowLt_int, rowLt_int, rowLt_int]
  unfold lt3
  by_cases h1 : a.1 = b.1
  · rw [if_pos h1, if_pos h1]
    by_cases h2 : a.2.1 = b.2.1
    · rw [if_pos (by omega), if_pos h2]
      by_cases h3 : a.2.2 = b.2.2
      · rw [if_pos (by omega), h2, h3, rowLt_one _ _ (alike_nt _ _) (fun _ => by rw [dataLt_nt, llt_irrefl]), dataLt_nt, llt_irrefl]
        exact (decide_eq_false (by omega)).symm
      · rw [if_neg (by omega), decide_eq_decide]; omega
    · rw [if_neg (by omega), if_neg h2, decide_eq_decide]; omega
  · rw [if_neg h1, if_neg h1]
theorem cmp_k4 (o : List Nat) (a b : K3) : dLt (k4 o a) (k4 o b) = some (lt3 a b) := by
  show (if cmpOk (k4 o a) (k4 o b) = true then some (PySem.W.dataLt (k4 o a) (k4 o b)) else none) = _
  rw [dataLt_k4, if_pos]
  have l1 := lay_nt (exch o a.2.1 a.2.2)
  have l2 := lay_nt (exch o b.2.1 b.2.2)
  have d1 := depth_nt (exch o a.2.1 a.2.2)
  have al := alike_nt (exch o a.2.1 a.2.2) (exch o b.2.1 b.2.2)
  unfold cmpOk
  have e1 : (k4 o a).depth ≤ 60 := by
    simp only [k4, nat, PyData.depth, PyData.depthAll]
    omega
  rw [decide_eq_true e1]
  simp [k4, nat, PyData.canLay0, PyData.canLayAll0, PySem.W.alike, PySem.W.alikeAll, l1, l2, al, noneD]
def bD (o : List Nat) : Option K3 → D
  | none => .none
  | some k => k4 o k
theorem bD_flat (o : List Nat) (b : Option K3) : flat (bD o b) = true := by
  cases b with
  | none => rfl
  | some k => have := nt_flat (exch o k.2.1 k.2.2); simp [bD, k4, flat, flats, nat, this]
def swIn : FS := (sSeq (sSet 7 0 (eOp dAdd (eOp dAdd (eOp dAdd (eOp dAdd (eSl (eVar 2) oNone (oSome (eVar 5))) (eTup (aCons (eIx (eVar 2) (eVar 6)) aNil))) (eSl (eVar 2) (oSome (eOp dAdd (eVar 5) (eC (.int 1)))) (oSome (eVar 6)))) (eTup (aCons (eIx (eVar 2) (eVar 5)) aNil))) (eSl (eVar 2) (oSome (eOp dAdd (eVar 6) (eC (.int 1)))) oNone)) (((([(2, 1)] ++ ([(2, 1)] ++ [])) ++ [(2, 1)]) ++ ([(2, 1)] ++ [])) ++ [(2, 1)]))
  (sSeq (sSet 8 0 (eTup (aCons (eCall 3 den__law_cost (aCons (eVar 0) (aCons (eVar 1) (aCons (eVar 7) aNil)))) (aCons (eVar 5) (aCons (eVar 6) (aCons (eVar 7) aNil))))) (([(0, 0)] ++ ([(1, 0)] ++ ([(7, 0)] ++ []))) ++ ([(5, 0)] ++ ([(6, 0)] ++ ([(7, 0)] ++ [])))))
  (sIf (tOrD (tIsND (eVar 4)) (tCmp dLt (eVar 8) (eVar 4)))
  (sSet 4 0 (eVar 8) [(8, 0)])
  sNil)))
section
variable {n : Nat} {W T : Nat → Nat → Int}
theorem swIn_ok (hn : n ≤ 6) (hW : Sml W) {o : List Nat} (h : IsRow n n o) {i j : Nat} (hij : i < j) (hj : j < n) (b : Option K3) (x3 x7 x8 : Option D) :
    swIn ([some (tb n W), some (tb n T), some (nt o), x3, some (bD o b), some (nat i), some (nat j), x7, x8], [0, 0, 0, 0, 0, 0, 0, 0, 0])
    = .next ([some (tb n W), some (tb n T), some (nt o), x3, some (bD o (ofold lt3 b [key (lc n W T) o i j])), some (nat i), some (nat j), some (nt (exch o i j)), some (k4 o (key (lc n W T) o i j))], [0, 0, 0, 0, 0, 0, 0, 0, 0]) := by
  have hl := h.len
  unfold swIn
  rw [sSeq_next (sSet_flat (d := nt (exch o i j)) (by
    have e1 := cut_hi o (i := i) (by omega)
    have e2 := nt_ix (o := o) (i := j) (by omega)
    have e3 := cut_mid o (i := i + 1) (j := j) (by omega) (by omega)
    have e4 := nt_ix (o := o) (i := i) (by omega)
    have e5 := cut_lo o (i := j + 1) (by omega)
    have c1 : ((i : Int) + 1) = ((i + 1 : Nat) : Int) := by omega
    have c2 : ((j : Int) + 1) = ((j + 1 : Nat) : Int) := by omega
    have s1 : eSl (eVar 2) oNone (oSome (eVar 5)) [some (tb n W), some (tb n T), some (nt o), x3, some (bD o b), some (nat i), some (nat j), x7, x8] = some (nt (o.take i)) := e1
    have s2 : eSl (eVar 2) (oSome (eOp dAdd (eVar 5) (eC (.int 1)))) (oSome (eVar 6)) [some (tb n W), some (tb n T), some (nt o), x3, some (bD o b), some (nat i), some (nat j), x7, x8] = some (nt ((o.take j).drop (i + 1))) := e3
    have s3 : eSl (eVar 2) (oSome (eOp dAdd (eVar 6) (eC (.int 1)))) oNone [some (tb n W), some (tb n T), some (nt o), x3, some (bD o b), some (nat i), some (nat j), x7, x8] = some (nt (o.drop (j + 1))) := e5
    have t1 : eTup (aCons (eIx (eVar 2) (eVar 6)) aNil) [some (tb n W), some (tb n T), some (nt o), x3, some (bD o b), some (nat i), some (nat j), x7, x8] = some (nt [o.getD j 0]) := by
      simp only [eTup, aCons_a, aNil_a, eIx_a, eVar_0, eVar_s, o2_ss, o1_s, nat, e2]
      rfl
    have t2 : eTup (aCons (eIx (eVar 2) (eVar 5)) aNil) [some (tb n W), some (tb n T), some (nt o), x3, some (bD o b), some (nat i), some (nat j), x7, x8] = some (nt [o.getD i 0]) := by
      simp only [eTup, aCons_a, aNil_a, eIx_a, eVar_0, eVar_s, o2_ss, o1_s, nat, e4]
      rfl
    have l1 : (o.take i).length = i := by rw [List.length_take]; omega
    have l2 : ((o.take j).drop (i + 1)).length = j - (i + 1) := by rw [List.length_drop, List.length_take]; omega
    have l3 : (o.drop (j + 1)).length = n - (j + 1) := by rw [List.length_drop]; omega
    simp only [eOp_a, s1, t1, o2_ss]
    rw [nt_app (by simp only [List.length_cons, List.length_nil]; omega)]
    simp only [s2, o2_ss]
    rw [nt_app (by simp only [List.length_append, List.length_cons, List.length_nil]; omega)]
    simp only [t2, o2_ss]
    rw [nt_app (by simp only [List.length_append, List.length_cons, List.length_nil]; omega)]
    simp only [s3, o2_ss]
    rw [nt_app (by simp only [List.length_append, List.length_cons, List.length_nil]; omega), exch_cut hij (by omega)]) (nt_flat _))]
  simp only [List.set_cons_zero, List.set_cons_succ]
  have hr := exch_row h hij hj
  have hk : flat (k4 o (key (lc n W T) o i j)) = true := bD_flat o (some _)
  rw [sSeq_next (sSet_flat (d := k4 o (key (lc n W T) o i j)) (by
    simp only [eTup, aCons_a, aNil_a, eCall_3, eVar_0, eVar_s, o1_s, o2_ss, law_cost_ok hn hW hr]
    rfl) hk)]
  simp only [List.set_cons_zero, List.set_cons_succ]
  cases b with
  | none =>
    rw [sIf_t (by rfl), sSet_flat (d := k4 o (key (lc n W T) o i j)) rfl hk]
    rfl
  | some k =>
    have hc := cmp_k4 o (key (lc n W T) o i j) k
    have ht : tOrD (tIsND (eVar 4)) (tCmp dLt (eVar 8) (eVar 4)) [some (tb n W), some (tb n T), some (nt o), x3, some (bD o (some k)), some (nat i), some (nat j), some (nt (exch o i j)), some (k4 o (key (lc n W T) o i j))] = some (lt3 (key (lc n W T) o i j) k) := hc
    rw [ofold_one]
    cases q : lt3 (key (lc n W T) o i j) k with
    | true =>
      simp only [q, if_true]
      rw [q] at ht
      rw [sIf_tt ht, sSet_flat (d := k4 o (key (lc n W T) o i j)) rfl hk]
      rfl
    | false =>
      simp only [q, Bool.false_eq_true, if_false]
      rw [q] at ht
      rw [sIf_ff ht]
      rfl
theorem swIn_row (hn : n ≤ 6) (hW : Sml W) {o : List Nat} (h : IsRow n n o) {i : Nat} (hi : i < n) (b : Option K3) (x3 x6 x7 x8 : Option D) : ∃ x6' x7' x8',
    sFor (iRange2 (eOp dAdd (eVar 5) (eC (.int 1))) (eCB (d1 dLen) (aCons (eVar 2) aNil))) [] (.nm 6) swIn ([some (tb n W), some (tb n T), some (nt o), x3, some (bD o b), some (nat i), x6, x7, x8], [0, 0, 0, 0, 0, 0, 0, 0, 0])
    = .next ([some (tb n W), some (tb n T), some (nt o), x3, some (bD o (ofold lt3 b ((List.range (n - (i + 1))).map fun t => key (lc n W T) o i (i + 1 + t)))), some (nat i), x6', x7', x8'], [0, 0, 0, 0, 0, 0, 0, 0, 0]) := by
  have hl := h.len
  obtain ⟨s', e, x6', x7', x8', rfl⟩ := for_rng (i := 6) (n := n - (i + 1)) (lo := (i : Int) + 1) (body := swIn)
    (fun t s => ∃ x6 x7 x8, s = ([some (tb n W), some (tb n T), some (nt o), x3, some (bD o (ofold lt3 b ((List.range t).map fun t => key (lc n W T) o i (i + 1 + t)))), some (nat i), x6, x7, x8], [0, 0, 0, 0, 0, 0, 0, 0, 0])) _ ⟨x6, x7, x8, rfl⟩ (by
      rintro t _ ht ⟨x6, x7, x8, rfl⟩
      have e := swIn_ok hn hW (T := T) h (i := i) (j := i + 1 + t) (by omega) (by omega) (ofold lt3 b ((List.range t).map fun t => key (lc n W T) o i (i + 1 + t))) x3 x7 x8
      have c : some (nat (i + 1 + t)) = some (.int ((i : Int) + 1 + t)) := by unfold nat; congr 2
      rw [c] at e
      refine ⟨_, e, some (.int ((i : Int) + 1 + t)), some (nt (exch o i (i + 1 + t))), some (k4 o (key (lc n W T) o i (i + 1 + t))), ?_⟩
      rw [List.range_succ, List.map_append, ofold_app]
      rfl)
  refine ⟨x6', x7', x8', ?_⟩
  have hr := range2_ok (f := eOp dAdd (eVar 5) (eC (.int 1))) (g := eCB (d1 dLen) (aCons (eVar 2) aNil)) (ρ := [some (tb n W), some (tb n T), some (nt o), x3, some (bD o b), some (nat i), x6, x7, x8]) (i := (i : Int) + 1) (j := (n : Int)) rfl (by simp [hl]) (by omega) (by omega) (by omega) (by omega)
  have c : ((n : Int) - ((i : Int) + 1)).toNat = n - (i + 1) := by omega
  rw [c] at hr
  rw [sFor_at hr]
  exact e
def swBest : FS := (sFor (iRange1 (eCB (d1 dLen) (aCons (eVar 2) aNil))) [] (.nm 5)
  (sFor (iRange2 (eOp dAdd (eVar 5) (eC (.int 1))) (eCB (d1 dLen) (aCons (eVar 2) aNil))) [] (.nm 6) swIn))
theorem swBest_ok (hn : n ≤ 6) (h2 : 2 ≤ n) (hW : Sml W) {o : List Nat} (h : IsRow n n o) (x3 x5 x6 x7 x8 : Option D) : ∃ x5' x6' x7' x8',
    swBest ([some (tb n W), some (tb n T), some (nt o), x3, some .none, x5, x6, x7, x8], [0, 0, 0, 0, 0, 0, 0, 0, 0])
    = .next ([some (tb n W), some (tb n T), some (nt o), x3, some (k4 o (bestK (lc n W T) n o)), x5', x6', x7', x8'], [0, 0, 0, 0, 0, 0, 0, 0, 0]) := by
  have hl := h.len
  obtain ⟨s', e, x5', x6', x7', x8', rfl⟩ := for_rng (i := 5) (n := n) (lo := 0) (body := (sFor (iRange2 (eOp dAdd (eVar 5) (eC (.int 1))) (eCB (d1 dLen) (aCons (eVar 2) aNil))) [] (.nm 6) swIn))
    (fun t s => ∃ x5 x6 x7 x8, s = ([some (tb n W), some (tb n T), some (nt o), x3, some (bD o (ofold lt3 none ((List.range t).flatMap fun i => (List.range (n - (i + 1))).map fun t => key (lc n W T) o i (i + 1 + t)))), x5, x6, x7, x8], [0, 0, 0, 0, 0, 0, 0, 0, 0])) ([some (tb n W), some (tb n T), some (nt o), x3, some .none, x5, x6, x7, x8], [0, 0, 0, 0, 0, 0, 0, 0, 0]) ⟨x5, x6, x7, x8, rfl⟩ (by
      rintro i _ hi ⟨x5, x6, x7, x8, rfl⟩
      obtain ⟨x6', x7', x8', e⟩ := swIn_row hn hW (T := T) h hi (ofold lt3 none ((List.range i).flatMap fun i => (List.range (n - (i + 1))).map fun t => key (lc n W T) o i (i + 1 + t))) x3 x6 x7 x8
      have c : some (nat i) = some (.int ((0 : Int) + i)) := by unfold nat; rw [Int.zero_add]
      rw [c] at e
      refine ⟨_, e, some (.int ((0 : Int) + i)), x6', x7', x8', ?_⟩
      rw [List.range_succ, List.flatMap_append, ofold_app]
      simp only [List.flatMap_cons, List.flatMap_nil, List.append_nil])
  refine ⟨x5', x6', x7', x8', ?_⟩
  unfold swBest
  rw [sFor_at (range1_ok (n := n) (by simp [hl]) (by omega))]
  have := bestK_l (c := lc n W T) (o := o) h2
  unfold keysL at this
  rw [this] at e
  exact e
def swTurn : FS := (sSeq (sSet 4 0 (eC .none) [])
  (sSeq swBest
  (sSeq (sIf (tOrD (tIsND (eVar 4)) (tCmp dGe (eIx (eVar 4) (eC (.int 0))) (eCall 3 den__law_cost (aCons (eVar 0) (aCons (eVar 1) (aCons (eVar 2) aNil))))))
  (sRet (eVar 2))
  sNil)
  (sSet 2 0 (eIx (eVar 4) (eC (.int 3))) [(4, 1)]))))
theorem swTurn_ok (hn : n ≤ 6) (h2 : 2 ≤ n) (hW : Sml W) {o : List Nat} (h : IsRow n n o) (x3 x4 x5 x6 x7 x8 : Option D) : ∃ x5' x6' x7' x8',
    swTurn ([some (tb n W), some (tb n T), some (nt o), x3, x4, x5, x6, x7, x8], [0, 0, 0, 0, 0, 0, 0, 0, 0])
    = if lc n W T o ≤ (bestK (lc n W T) n o).1 then .ret (nt o) else .next ([some (tb n W), some (tb n T), some (nt (exch o (bestK (lc n W T) n o).2.1 (bestK (lc n W T) n o).2.2)), x3, some (k4 o (bestK (lc n W T) n o)), x5', x6', x7', x8'], [0, 0, 0, 0, 0, 0, 0, 0, 0]) := by
  obtain ⟨x5', x6', x7', x8', e⟩ := swBest_ok hn h2 hW (T := T) h x3 x5 x6 x7 x8
  refine ⟨x5', x6', x7', x8', ?_⟩
  unfold swTurn
  rw [sSeq_next (sSet_flat (d := .none) rfl rfl)]
  simp only [List.set_cons_zero, List.set_cons_succ]
  rw [sSeq_next e]
  have ix0 : dIx (k4 o (bestK (lc n W T) n o)) (.int 0) = some (.int (bestK (lc n W T) n o).1) := rfl
  have ix3 : dIx (k4 o (bestK (lc n W T) n o)) (.int 3) = some (nt (exch o (bestK (lc n W T) n o).2.1 (bestK (lc n W T) n o).2.2)) := rfl
  have nn : isNon (k4 o (bestK (lc n W T) n o)) = false := rfl
  have ht : tOrD (tIsND (eVar 4)) (tCmp dGe (eIx (eVar 4) (eC (.int 0))) (eCall 3 den__law_cost (aCons (eVar 0) (aCons (eVar 1) (aCons (eVar 2) aNil))))) [some (tb n W), some (tb n T), some (nt o), x3, some (k4 o (bestK (lc n W T) n o)), x5', x6', x7', x8'] = some (decide (lc n W T o ≤ (bestK (lc n W T) n o).1)) := by
    rw [tOr_f (by simp only [tIsND_a, eVar_0, eVar_s, o1_s, nn])]
    simp only [eVar_0, eVar_s, o1_s, tCmp_a, eIx_a, eC_a, o2_ss, ix0, eCall_3, law_cost_ok hn hW h, dGe_i]
  by_cases hle : lc n W T o ≤ (bestK (lc n W T) n o).1
  · rw [if_pos hle]
    rw [decide_eq_true hle] at ht
    rw [sSeq_ret (d := nt o) (by rw [sIf_tt ht]; exact sRet_ok rfl)]
  · rw [if_neg hle]
    rw [decide_eq_false hle] at ht
    rw [sSeq_next (by rw [sIf_ff ht]; rfl)]
    rw [sSet_flat (d := nt (exch o (bestK (lc n W T) n o).2.1 (bestK (lc n W T) n o).2.2)) (by simp only [eIx_a, eVar_0, eVar_s, eC_a, o2_ss, ix3]) (nt_flat _)]
    rfl
theorem sw_for (hn : n ≤ 6) (h2 : 2 ≤ n) (hW : Sml W) : ∀ (k : Nat) (lo : Int) (o : List Nat) (x3 x4 x5 x6 x7 x8 : Option D), IsRow n n o → mu (lc n W T) n o < k →
    forGo (.nm 3) swTurn (rngD lo k) ([some (tb n W), some (tb n T), some (nt o), x3, x4, x5, x6, x7, x8], [0, 0, 0, 0, 0, 0, 0, 0, 0]) = .ret (nt (climb (lc n W T) n k o))
  | 0, _, _, _, _, _, _, _, _, _, h => by omega
  | k + 1, lo, o, x3, x4, x5, x6, x7, x8, hr, h => by
    obtain ⟨x5', x6', x7', x8', e⟩ := swTurn_ok hn h2 hW (T := T) hr (some (.int lo)) x4 x5 x6 x7 x8
    obtain ⟨r, er'⟩ := best_row (c := lc n W T) h2 hr
    rw [rngD_succ, climb]
    by_cases hle : lc n W T o ≤ (bestK (lc n W T) n o).1
    · rw [if_pos hle] at e ⊢
      exact forGo_ret (l := [(3, .int lo)]) rfl e
    · rw [if_neg hle] at e ⊢
      have := mu_lt (c := lc n W T) (o := o) r (by omega)
      refine (forGo_next (t := .nm 3) (body := swTurn) (d := .int lo) (s := ([some (tb n W), some (tb n T), some (nt o), x3, x4, x5, x6, x7, x8], [0, 0, 0, 0, 0, 0, 0, 0, 0])) (l := [(3, .int lo)]) rfl e).trans ?_
      exact sw_for hn h2 hW k (lo + 1) _ _ _ _ _ _ _ r (by omega)
theorem law_swapped_ok (hn : n ≤ 6) (h2 : 2 ≤ n) (hW : Sml W) {o : List Nat} (h : IsRow n n o) : den__law_swapped [tb n W, tb n T, nt o] = some (nt (climb (lc n W T) n 720 o)) := by
  refine dfun_ret [some (tb n W), some (tb n T), some (nt o), none, none, none, none, none, none] [0, 0, 0, 0, 0, 0, 0, 0, 0] rfl rfl rfl ?_
  have hw := sw_for hn h2 hW (T := T) 720 0 o none none none none none none h (mu_720 h hn)
  have hr : iRange1 (eC (.int 720)) [some (tb n W), some (tb n T), some (nt o), none, none, none, none, none, none] = some (rngD 0 720) := range1_ok (n := 720) rfl (by omega)
  unfold swTurn swBest swIn at hw
  rw [sSeq_ret (d := nt (climb (lc n W T) n 720 o)) (by
    rw [sFor_at hr]
    exact hw)]
end
end Lib
end

section
set_option Elab.async false
set_option linter.all false
set_option maxRecDepth 10000
/-! k34: the tables. -/
namespace Lib
open DS PySem
def den__law_table : Fn := dfun 9 4 (sSeq (sSet 4 1 (eLst aNil) [])
  (sSeq (sFor (iRange1 (eVar 1)) [] (.nm 5)
  (sSeq (sSet 6 1 (eLst aNil) [])
  (sSeq (sFor (iRange1 (eVar 1)) [] (.nm 7)
  (sSeq (sSet 8 0 (eCB (d1 dInt) (aCons (eIx (eVar 0) (eOp dAdd (eOp dMul (eVar 1) (eCB (d2 dMin2) (aCons (eVar 5) (aCons (eVar 7) aNil)))) (eCB (d2 dMax2) (aCons (eVar 5) (aCons (eVar 7) aNil))))) aNil)) [])
  (sSeq (sIf (tAndD (tCmp dGt (eVar 5) (eVar 7)) (tNotD (tTru (eVar 3))))
  (sSet 8 0 (eOp dFdiv (eVar 8) (eC (.int 23))) ([(8, 1)] ++ []))
  sNil)
  (sApp 6 (eOp dMul (eOp dMod (eCB (d1 dInt) (aCons (eVar 8) aNil)) (eOp dAdd (eVar 2) (eC (.int 1)))) (eCB (d1 dInt) (aCons (eB (tCmp dNe (eVar 5) (eVar 7))) aNil))) (([] ++ ([(2, 1)] ++ [])) ++ [])))))
  (sApp 4 (eCB (d1 dTuple) (aCons (eVar 6) aNil)) ([(6, 1)] ++ [])))))
  (sRet (eCB (d1 dTuple) (aCons (eVar 4) aNil)))))
def rw_ (m : Nat) (r : Nat → Int) : D := .list ((List.range m).map fun k => .int (r k))
theorem rw_ix {m k : Nat} {r : Nat → Int} (h : k < m) : dIx (rw_ m r) (.int k) = some (.int (r k)) := by
  show L2.atI ((List.range m).map _) (k : Int) = _
  rw [atI_mp (by simpa using h)]
  simp
theorem rw_drop (m a : Nat) (r : Nat → Int) (h : a ≤ m) : dSlice (some (a : Int)) none (rw_ m r) = some (rw_ (m - a) fun k => r (k + a)) := by
  show some (PyData.list (cutD ((List.range m).map _) (some (a : Int)) none)) = _
  unfold cutD
  rw [HT.sIx_none, HT.sIx_nat, List.length_map, List.length_range, Nat.min_eq_left h]
  unfold rw_
  congr 2
  refine List.ext_getElem? fun k => ?_
  by_cases hk : k < m - a
  · rw [List.getElem?_take, if_pos hk, List.getElem?_drop]
    simp [hk, show a + k < m by omega, Nat.add_comm]
  · rw [List.getElem?_eq_none (by simp; omega), List.getElem?_eq_none (by simp; omega)]
def tcell (n : Nat) (r : Nat → Int) (even : Bool) (u v : Nat) : Int := if v < u ∧ even = false then r (n * min u v + max u v) / 23 else r (n * min u v + max u v)
def tW (n : Nat) (r : Nat → Int) (most : Int) (even : Bool) (u v : Nat) : Int := tcell n r even u v % (most + 1) * (if u = v then 0 else 1)
theorem tW_sml {n : Nat} {r : Nat → Int} {most : Int} (even : Bool) (h1 : 0 ≤ most) (h2 : most ≤ 40) : Sml (tW n r most even) := by
  intro u v
  have a1 := Int.emod_nonneg (tcell n r even u v) (show most + 1 ≠ 0 by omega)
  have a2 := Int.emod_lt_of_pos (tcell n r even u v) (show 0 < most + 1 by omega)
  unfold tW
  split
  · simp
  · simp; omega
theorem law_table_ok {n m : Nat} {r : Nat → Int} {most : Int} (even : Bool) (hn : n ≤ 6) (hm : n * n ≤ m) (h1 : 0 ≤ most) (h2 : most ≤ 40) : den__law_table [rw_ m r, .int n, .int most, .bool even] = some (tb n (tW n r most even)) := by
  have hW := tW_sml (n := n) (r := r) even h1 h2
  refine dfun_ret [some (rw_ m r), some (.int n), some (.int most), some (.bool even), none, none, none, none, none] [0, 0, 0, 0, 0, 0, 0, 0, 0] rfl rfl rfl ?_
  rw [sSeq_next (s' := ([some (rw_ m r), some (.int n), some (.int most), some (.bool even), some (.list []), none, none, none, none], [0, 0, 0, 0, 1, 0, 0, 0, 0])) (by rfl)]
  obtain ⟨s', e, x5, x6, x7, x8, l6, rfl⟩ := for_rng (i := 5) (n := n) (lo := 0) (body := (sSeq (sSet 6 1 (eLst aNil) [])
  (sSeq (sFor (iRange1 (eVar 1)) [] (.nm 7)
  (sSeq (sSet 8 0 (eCB (d1 dInt) (aCons (eIx (eVar 0) (eOp dAdd (eOp dMul (eVar 1) (eCB (d2 dMin2) (aCons (eVar 5) (aCons (eVar 7) aNil)))) (eCB (d2 dMax2) (aCons (eVar 5) (aCons (eVar 7) aNil))))) aNil)) [])
  (sSeq (sIf (tAndD (tCmp dGt (eVar 5) (eVar 7)) (tNotD (tTru (eVar 3))))
  (sSet 8 0 (eOp dFdiv (eVar 8) (eC (.int 23))) ([(8, 1)] ++ []))
  sNil)
  (sApp 6 (eOp dMul (eOp dMod (eCB (d1 dInt) (aCons (eVar 8) aNil)) (eOp dAdd (eVar 2) (eC (.int 1)))) (eCB (d1 dInt) (aCons (eB (tCmp dNe (eVar 5) (eVar 7))) aNil))) (([] ++ ([(2, 1)] ++ [])) ++ [])))))
  (sApp 4 (eCB (d1 dTuple) (aCons (eVar 6) aNil)) ([(6, 1)] ++ [])))))
    (fun u s => ∃ x5 x6 x7 x8 l6, s = ([some (rw_ m r), some (.int n), some (.int most), some (.bool even), some (.list ((List.range u).map fun u => trow n (tW n r most even u))), x5, x6, x7, x8], [0, 0, 0, 0, 1, 0, l6, 0, 0])) _ ⟨none, none, none, none, 0, rfl⟩ (by
      rintro u _ hu ⟨x5, x6, x7, x8, l6, rfl⟩
      rw [Int.zero_add]
      obtain ⟨s', e, x7', x8', rfl⟩ := for_rng (i := 7) (n := n) (lo := 0) (body := (sSeq (sSet 8 0 (eCB (d1 dInt) (aCons (eIx (eVar 0) (eOp dAdd (eOp dMul (eVar 1) (eCB (d2 dMin2) (aCons (eVar 5) (aCons (eVar 7) aNil)))) (eCB (d2 dMax2) (aCons (eVar 5) (aCons (eVar 7) aNil))))) aNil)) [])
  (sSeq (sIf (tAndD (tCmp dGt (eVar 5) (eVar 7)) (tNotD (tTru (eVar 3))))
  (sSet 8 0 (eOp dFdiv (eVar 8) (eC (.int 23))) ([(8, 1)] ++ []))
  sNil)
  (sApp 6 (eOp dMul (eOp dMod (eCB (d1 dInt) (aCons (eVar 8) aNil)) (eOp dAdd (eVar 2) (eC (.int 1)))) (eCB (d1 dInt) (aCons (eB (tCmp dNe (eVar 5) (eVar 7))) aNil))) (([] ++ ([(2, 1)] ++ [])) ++ [])))))
        (fun v s => ∃ x7 x8, s = ([some (rw_ m r), some (.int n), some (.int most), some (.bool even), some (.list ((List.range u).map fun u => trow n (tW n r most even u))), some (.int u), some (.list ((List.range v).map fun v => .int (tW n r most even u v))), x7, x8], [0, 0, 0, 0, 1, 0, 1, 0, 0])) ([some (rw_ m r), some (.int n), some (.int most), some (.bool even), some (.list ((List.range u).map fun u => trow n (tW n r most even u))), some (.int u), some (.list []), x7, x8], [0, 0, 0, 0, 1, 0, 1, 0, 0]) ⟨x7, x8, rfl⟩ (by
          rintro v _ hv ⟨x7, x8, rfl⟩
          rw [Int.zero_add]
          simp only [List.set_cons_zero, List.set_cons_succ]
          have emin : dMin2 (.int u) (.int v) = some (.int (min u v : Nat)) := by
            show some (PyData.int (if (v : Int) < u then (v : Int) else u)) = _
            congr 2; split <;> omega
          have emax : dMax2 (.int u) (.int v) = some (.int (max u v : Nat)) := by
            show some (PyData.int (if (v : Int) > u then (v : Int) else u)) = _
            congr 2; split <;> omega
          have hlt : n * min u v + max u v < m := by
            have h1 : min u v + 1 ≤ n := by omega
            have h2 := Nat.mul_le_mul_left n h1
            rw [Nat.mul_add] at h2
            omega
          have eix := rw_ix (r := r) hlt
          have mo : mulOk (n : Int) ((min u v : Nat) : Int) = true := mulOk_l (by omega)
          have d23 : fdivOk 23 = true := by decide
          have md : ((n : Int) * ((min u v : Nat) : Int) + ((max u v : Nat) : Int)) = ((n * min u v + max u v : Nat) : Int) := by push_cast; rfl
          rw [sSeq_next (sSet_flat (d := .int (r (n * min u v + max u v))) (by
            simp only [eCB_a, aCons_a, aNil_a, eIx_a, eOp_a, eVar_0, eVar_s, o2_ss, o1_s, d1_1, d2_2, emin, emax, dMul_i mo, dAdd_i, md, eix, dInt_i]) rfl)]
          simp only [List.set_cons_zero, List.set_cons_succ]
          rw [sSeq_next (s' := ([some (rw_ m r), some (.int n), some (.int most), some (.bool even), some (.list ((List.range u).map fun u => trow n (tW n r most even u))), some (.int u), some (.list ((List.range v).map fun v => .int (tW n r most even u v))), some (.int v), some (.int (tcell n r even u v))], [0, 0, 0, 0, 1, 0, 1, 0, 0])) (by
            by_cases hc : v < u ∧ even = false
            · obtain ⟨hc1, rfl⟩ := hc
              rw [sIf_tt (by simp [tAndD, hc1]), sSet_flat (d := .int (r (n * min u v + max u v) / 23)) (by simp [dFdiv_i d23]) rfl]
              unfold tcell
              rw [if_pos ⟨hc1, rfl⟩]
              rfl
            · have : tAndD (tCmp dGt (eVar 5) (eVar 7)) (tNotD (tTru (eVar 3))) [some (rw_ m r), some (.int n), some (.int most), some (.bool even), some (.list ((List.range u).map fun u => trow n (tW n r most even u))), some (.int u), some (.list ((List.range v).map fun v => .int (tW n r most even u v))), some (.int v), some (.int (r (n * min u v + max u v)))] = some false := by
                by_cases hu : v < u
                · have : even = true := by
                    cases even with
                    | true => rfl
                    | false => exact absurd ⟨hu, rfl⟩ hc
                  simp [tAndD, hu, this]
                · simp [tAndD, hu]
              rw [sIf_ff this]
              unfold tcell
              rw [if_neg hc]
              rfl)]
          have b := hW u v
          have a1 := Int.emod_nonneg (tcell n r even u v) (show most + 1 ≠ 0 by omega)
          have a2 := Int.emod_lt_of_pos (tcell n r even u v) (show 0 < most + 1 by omega)
          have mo2 : ∀ x, mulOk (tcell n r even u v % (most + 1)) x = true := fun x => mulOk_l (by omega)
          have ene : (if (!decide ((u : Int) = v)) = true then (1 : Int) else 0) = if u = v then 0 else 1 := by
            by_cases h : u = v
            · simp [h]
            · rw [if_neg h, if_pos]
              have : ¬ (u : Int) = v := by omega
              simp [this]
          rw [sApp_flat (d := .int (tW n r most even u v)) (ds := (List.range v).map fun v => .int (tW n r most even u v)) (by
            simp only [eCB_a, aCons_a, aNil_a, eOp_a, eB_a, tCmp_a, eC_a, eVar_0, eVar_s, o2_ss, o1_s, d1_1, dInt_i, dAdd_i, dMod_i (show 0 < most + 1 by omega), dNe_i, dInt_b, dMul_i (mo2 _), ene]
            rfl) rfl rfl (by simp; omega) rfl]
          refine ⟨_, rfl, some (.int v), some (.int (tcell n r even u v)), ?_⟩
          rw [List.range_succ, List.map_append]
          rfl)
      refine ⟨_, ?_, some (.int u), some (.list ((List.range n).map fun v => .int (tW n r most even u v))), x7', x8', 1, rfl⟩
      rw [sSeq_next (s' := ([some (rw_ m r), some (.int n), some (.int most), some (.bool even), some (.list ((List.range u).map fun u => trow n (tW n r most even u))), some (.int u), some (.list []), x7, x8], [0, 0, 0, 0, 1, 0, 1, 0, 0])) (by rfl)]
      rw [sSeq_next (by
        rw [sFor_at (range1_ok (n := n) rfl (by omega))]
        exact e)]
      rw [sApp_flat (d := trow n (tW n r most even u)) (ds := (List.range u).map fun u => trow n (tW n r most even u)) rfl (trow_flat _ _) rfl (by simp; omega) rfl]
      rw [List.range_succ, List.map_append]
      rfl)
  rw [sSeq_next (by
    rw [sFor_at (range1_ok (n := n) rfl (by omega))]
    exact e)]
  exact sRet_ok rfl
end Lib
end

section
set_option Elab.async false
set_option linter.all false
set_option maxRecDepth 10000
/-! k34: the least order, and the bound below it. -/
namespace Lib
open DS PySem
def den_best_layout : Fn := dfun 3 2 (sRet (eCB (d1 dMin1) (aCons (eLc (iSeq (eCall 1 den_all_orders (aCons (eCB (d1 dLen) (aCons (eVar 0) aNil)) aNil))) (.nm 2) tTrue (eTup (aCons (eCall 3 den_layout_cost (aCons (eVar 0) (aCons (eVar 1) (aCons (eVar 2) aNil)))) (aCons (eVar 2) aNil))) [2]) aNil)))
def den_layout_bound : Fn := dfun 7 2 (sSeq (sSet 2 0 (eCB (d1 dSorted) (aCons (eLc2 (iSeq (eVar 0)) (.nm 4) tTrue (iSeq (eVar 4)) (.nm 5) tTrue (eVar 5) [4, 5] [5]) aNil)) (([(0, 1)] ++ ([(4, 0)] ++ [(5, 0)])) ++ []))
  (sSeq (sSet 3 0 (eOp dSortRv (eLc2 (iSeq (eVar 1)) (.nm 4) tTrue (iSeq (eVar 4)) (.nm 6) tTrue (eVar 6) [4, 6] [6]) (eC (.bool true))) (([(1, 1)] ++ ([(4, 0)] ++ [(6, 0)])) ++ []))
  (sRet (eCB (d1 dSum) (aCons (eLc (iZip2 (eVar 2) (eVar 3)) (.tp [(.nm 5), (.nm 6)]) tTrue (eOp dMul (eVar 5) (eVar 6)) [5, 6]) aNil)))))
def den__law_bound : Fn := dfun 6 2 (sSeq (sTup (.tp [(.nm 2), (.nm 3)]) (eTup (aCons (eLst aNil) (aCons (eLst aNil) aNil))) ([] ++ ([] ++ [])))
  (sSeq (sFor (iRange1 (eCB (d1 dLen) (aCons (eVar 0) aNil))) [] (.nm 4)
  (sSeq (sSet 2 0 (eOp dAdd (eVar 2) (eCB (d1 dList) (aCons (eIx (eVar 0) (eVar 4)) aNil))) ([(2, 1)] ++ ([(0, 2)] ++ [])))
  (sSet 3 0 (eOp dAdd (eVar 3) (eCB (d1 dList) (aCons (eIx (eVar 1) (eVar 4)) aNil))) ([(3, 1)] ++ ([(1, 2)] ++ [])))))
  (sSeq (sTup (.tp [(.nm 2), (.nm 3)]) (eTup (aCons (eCB (d1 dSorted) (aCons (eVar 2) aNil)) (aCons (eOp dSortRv (eVar 3) (eC (.bool true))) aNil))) (([(2, 1)] ++ []) ++ (([(3, 1)] ++ []) ++ [])))
  (sRet (eCB (d1 dSum) (aCons (eLc (iRange1 (eCB (d1 dLen) (aCons (eVar 2) aNil))) (.nm 5) tTrue (eOp dMul (eIx (eVar 2) (eVar 5)) (eIx (eVar 3) (eVar 5))) [5]) aNil))))))
/-! the least of (cost, order) -/
def co (c : List Nat → Int) (o : List Nat) : D := .tuple [.int (c o), nt o]
def ltco (c : List Nat → Int) (a b : List Nat) : Bool := if c a = c b then llt a b else decide (c a < c b)
theorem dataLt_co (c : List Nat → Int) (a b : List Nat) : PySem.W.dataLt (co c a) (co c b) = ltco c a b := by
  show rowLt [.int (c a), nt a] [.int (c b), nt b] = _
  rw [rowLt_int]
  unfold ltco
  by_cases h : c a = c b
  · rw [if_pos h, if_pos h, rowLt_one _ _ (alike_nt _ _) (fun e => ?_), dataLt_nt]
    have : a = b := by
      have e' : PyData.eqv (.tuple (a.map nat)) (.tuple (b.map nat)) = true := e
      have go : ∀ a b : List Nat, PyData.eqvAll (a.map nat) (b.map nat) = true → a = b := by
        intro a
        induction a with
        | nil => intro b hb; cases b with
          | nil => rfl
          | cons y b => simp [PyData.eqvAll] at hb
        | cons x a ih => intro b hb; cases b with
          | nil => simp [PyData.eqvAll] at hb
          | cons y b =>
            simp only [List.map_cons, PyData.eqvAll, Bool.and_eq_true] at hb
            have h1 := hb.1
            rw [eqv_nat, decide_eq_true_eq] at h1
            rw [h1, ih b hb.2]
      exact go a b (by simpa [PyData.eqv] using e')
    subst this
    rw [dataLt_nt, llt_irrefl]
  · rw [if_neg h, if_neg h]
theorem allCmp_co (c : List Nat → Int) (l : List (List Nat)) : allCmp (l.map (co c)) = true := by
  refine allCmp_map ?_ ?_ ?_ ?_
  · intro a _
    have := lay_nt a
    simp [co, PyData.canLay0, PyData.canLayAll0, this]
  · intro a _
    have := depth_nt a
    simp only [co, PyData.depth, PyData.depthAll]
    omega
  · intro a _; rfl
  · intro a _ b _
    have := alike_nt a b
    simp [co, PySem.W.alike, PySem.W.alikeAll, this]
theorem co_flat (c : List Nat → Int) (o : List Nat) : flat (co c o) = true := by
  have := nt_flat o
  simp [co, flat, flats, this]
/-- the first order with the least cost -/
def bestO (c : List Nat → Int) (n : Nat) : List Nat := match ords n n with
  | [] => []
  | x :: xs => fmin (fun a b => decide (c a < c b)) x xs
theorem bestO_mem (c : List Nat → Int) (n : Nat) : bestO c n ∈ ords n n := by
  unfold bestO
  cases h : ords n n with
  | nil => exact absurd h (ords_ne n)
  | cons x xs => exact fmin_mem _ xs x
theorem bestO_row (c : List Nat → Int) (n : Nat) : IsRow n n (bestO c n) := mem_ords.mp (bestO_mem c n)
theorem bestO_le (c : List Nat → Int) (n : Nat) {o : List Nat} (h : IsRow n n o) : c (bestO c n) ≤ c o := by
  have hm := mem_ords.mpr h
  unfold bestO
  cases e : ords n n with
  | nil => exact absurd e (ords_ne n)
  | cons x xs =>
    rw [e] at hm
    have := fmin_le (lt := fun a b : List Nat => decide (c a < c b)) (fun h h' => by
      have := of_decide_eq_true h; have := of_decide_eq_true h'; exact decide_eq_true (by omega)) (fun {a b d} h => by
      have := of_decide_eq_true h
      by_cases q : c a < c d
      · exact .inl (decide_eq_true q)
      · exact .inr (decide_eq_true (by omega))) (fun a => decide_eq_false (by omega)) xs x o hm
    have := of_decide_eq_false this
    show c (fmin _ x xs) ≤ c o
    omega
theorem min_orders (c : List Nat → Int) (n : Nat) : dMin1 (.list ((ords n n).map (co c))) = some (co c (bestO c n)) := by
  unfold bestO
  have hs := ords_sorted n n
  cases e : ords n n with
  | nil => exact absurd e (ords_ne n)
  | cons x xs =>
    rw [e] at hs
    have h1 := min_list (h := co c) (x := x) (xs := xs) (lt := ltco c) (allCmp_co c _) (co_flat c) (dataLt_co c)
    rw [h1]
    congr 2
    refine fmin_key (c := c) xs x (hs.imp ?_)
    intro a b hab
    unfold ltco
    by_cases h : c b = c a
    · rw [if_pos h]
      have : llt b a = false := by
        cases q : llt b a with
        | false => rfl
        | true => have := llt_trans hab q; rw [llt_irrefl] at this; cases this
      rw [this]
      exact (decide_eq_false (by omega)).symm
    · rw [if_neg h]
section
variable {n : Nat} {W T : Nat → Nat → Int}
theorem best_layout_ok (hn : n ≤ 6) (hW : Sml W) : den_best_layout [tb n W, tb n T] = some (co (lc n W T) (bestO (lc n W T) n)) := by
  refine dfun_ret [some (tb n W), some (tb n T), none] [0, 0, 0] rfl rfl rfl ?_
  refine sRet_ok ?_
  have hi : iSeq (eCall 1 den_all_orders (aCons (eCB (d1 dLen) (aCons (eVar 0) aNil)) aNil)) [some (tb n W), some (tb n T), none] = some ((ords n n).map nt) := by
    simp only [iSeq_a, eCall_1, eCB_a, aCons_a, aNil_a, eVar_0, o2_ss, o1_s, d1_1, tb_len, all_orders_ok hn]
    rfl
  have hl := ords_len n hn
  have hc := eLc_of (t := .nm 2) (vs := [2]) (fe := eTup (aCons (eCall 3 den_layout_cost (aCons (eVar 0) (aCons (eVar 1) (aCons (eVar 2) aNil)))) (aCons (eVar 2) aNil))) nt (co (lc n W T)) (l := ords n n) hi (by omega) (by
    intro o ho
    refine ⟨[(2, nt o)], rfl, ?_⟩
    simp only [setsD, wipeD, List.foldl_cons, List.foldl_nil, List.set_cons_zero, List.set_cons_succ, eTup, aCons_a, aNil_a, eCall_3, eVar_0, eVar_s, o1_s, o2_ss, layout_cost_ok hn hW (mem_ords.mp ho)]
    rfl)
  rw [eCB_a, aCons_a, hc, aNil_a, o2_ss, o1_s, d1_1, min_orders]
end
/-! the bound -/
def flt (n : Nat) (W : Nat → Nat → Int) : List Int := (List.range n).flatMap fun u => (List.range n).map (W u)
theorem flt_map (n : Nat) (W : Nat → Nat → Int) : ((List.range n).flatMap fun u => (List.range n).map fun v => (.int (W u v) : D)) = (flt n W).map PyData.int := by
  unfold flt
  rw [List.map_flatMap]
  simp only [List.map_map, Function.comp_def]
theorem flt_len (n : Nat) (W : Nat → Nat → Int) : (flt n W).length = n * n := by
  have : ∀ l : List Nat, (l.flatMap fun u => (List.range n).map (W u)).length = l.length * n := by
    intro l
    induction l with
    | nil => simp
    | cons a l ih => rw [List.flatMap_cons, List.length_append, ih, List.length_map, List.length_range, List.length_cons, Nat.succ_mul, Nat.add_comm]
  unfold flt
  rw [this, List.length_range]
def up (l : List Int) : List Int := l.mergeSort fun a b => decide (a ≤ b)
def dn (l : List Int) : List Int := l.mergeSort fun a b => decide (b ≤ a)
theorem up_perm (l : List Int) : (up l).Perm l := List.mergeSort_perm _ _
theorem dn_perm (l : List Int) : (dn l).Perm l := List.mergeSort_perm _ _
theorem up_sorted (l : List Int) : (up l).Pairwise (· ≤ ·) := (List.pairwise_mergeSort (le := fun a b => decide (a ≤ b)) (fun a b c h h' => by
  have := of_decide_eq_true h; have := of_decide_eq_true h'; exact decide_eq_true (by omega)) (fun a b => by
  rw [Bool.or_eq_true]
  by_cases h : a ≤ b
  · exact .inl (decide_eq_true h)
  · exact .inr (decide_eq_true (by omega))) l).imp fun h => of_decide_eq_true h
theorem dn_sorted (l : List Int) : (dn l).Pairwise (fun a b => b ≤ a) := (List.pairwise_mergeSort (le := fun a b => decide (b ≤ a)) (fun a b c h h' => by
  have := of_decide_eq_true h; have := of_decide_eq_true h'; exact decide_eq_true (by omega)) (fun a b => by
  rw [Bool.or_eq_true]
  by_cases h : b ≤ a
  · exact .inl (decide_eq_true h)
  · exact .inr (decide_eq_true (by omega))) l).imp fun h => of_decide_eq_true h
theorem allCmp_ints (l : List Int) : allCmp (l.map PyData.int) = true := by
  refine allCmp_map ?_ ?_ ?_ ?_
  · intro a _; simp [PyData.canLay0]
  · intro a _; simp [PyData.depth]
  · intro a _; rfl
  · intro a _ b _; simp [PySem.W.alike]
theorem dSorted_ints (l : List Int) : dSorted (.list (l.map PyData.int)) = some (.list ((up l).map PyData.int)) := by
  show (if allCmp (l.map PyData.int) = true then some (PyData.list ((l.map PyData.int).mergeSort leD)) else none) = _
  rw [if_pos (allCmp_ints l)]
  congr 2
  refine (List.map_mergeSort fun a _ b _ => ?_).symm
  unfold leD
  rw [PySem.W.dataLt_int, ← decide_not, decide_eq_decide]
  omega
theorem dSortRv_ints (l : List Int) : dSortRv (.list (l.map PyData.int)) (.bool true) = some (.list ((dn l).map PyData.int)) := by
  show (if allCmp (l.map PyData.int) = true then some (PyData.list ((l.map PyData.int).mergeSort geD)) else none) = _
  rw [if_pos (allCmp_ints l)]
  congr 2
  refine (List.map_mergeSort fun a _ b _ => ?_).symm
  unfold geD
  rw [PySem.W.dataLt_int, ← decide_not, decide_eq_decide]
  omega
def bd (n : Nat) (W T : Nat → Nat → Int) : Int := (((up (flt n W)).zip (dn (flt n T))).map fun p => p.1 * p.2).sum
theorem dot_zip : ∀ A B : List Int, dot A B = ((A.zip B).map fun p => p.1 * p.2).sum
  | [], _ => by simp [dot]
  | _ :: _, [] => by simp [dot]
  | a :: A, b :: B => by
    rw [List.zip_cons_cons, List.map_cons, List.sum_cons, ← dot_zip A B]
    rfl
theorem psum_map : ∀ P : List (Int × Int), psum P = (P.map fun p => p.1 * p.2).sum
  | [] => rfl
  | p :: P => by
    rw [List.map_cons, List.sum_cons, ← psum_map P]
    rfl
theorem row_map {n : Nat} {o : List Nat} (h : o.length = n) : (List.range n).map (fun p => o.getD p 0) = o := by
  refine List.ext_getElem? fun k => ?_
  by_cases hk : k < n
  · have hk' : k < o.length := by omega
    simp [hk, List.getD_eq_getElem?_getD, hk']
  · rw [List.getElem?_eq_none (by simp; omega), List.getElem?_eq_none (by omega)]
theorem flatMap_perm {α β : Type} {f g : α → List β} (h : ∀ a, (f a).Perm (g a)) : ∀ l : List α, (l.flatMap f).Perm (l.flatMap g)
  | [] => .refl _
  | a :: l => by
    rw [List.flatMap_cons, List.flatMap_cons]
    exact (h a).append (flatMap_perm h l)
theorem bd_le {n : Nat} {W T : Nat → Nat → Int} {o : List Nat} (h : IsRow n n o) : bd n W T ≤ lc n W T o := by
  have hr := rearr (up (flt n W)) (dn (flt n T)) ((List.range n).flatMap fun p => (List.range n).map fun q => (W p q, T (o.getD p 0) (o.getD q 0))) (up_sorted _) (dn_sorted _) ?_ ?_
  · rw [dot_zip, psum_map, List.map_flatMap] at hr
    simp only [List.map_map, Function.comp_def] at hr
    rw [sum_flat] at hr
    exact hr
  · rw [List.map_flatMap]
    simp only [List.map_map, Function.comp_def]
    exact up_perm _
  · rw [List.map_flatMap]
    simp only [List.map_map, Function.comp_def]
    refine (dn_perm _).trans ?_
    have e : ((List.range n).flatMap fun p => (List.range n).map fun q => T (o.getD p 0) (o.getD q 0)) = o.flatMap fun u => o.map (T u) := by
      have e1 := row_map h.len
      conv => rhs; rw [← e1]
      rw [List.flatMap_map]
      simp only [List.map_map, Function.comp_def]
    rw [e]
    have p := h.perm.symm
    exact (p.flatMap_right _).trans (flatMap_perm (fun a => p.map _) o)
end Lib
end

section
set_option Elab.async false
set_option linter.all false
set_option maxRecDepth 10000
/-! k34: the bound, by the program and by the law. -/
namespace Lib
open DS PySem
theorem up_small {n : Nat} {W : Nat → Nat → Int} (hW : Sml W) {x : Int} (h : x ∈ up (flt n W)) : 0 ≤ x ∧ x ≤ 40 := by
  have := (up_perm _).mem_iff.mp h
  unfold flt at this
  simp only [List.mem_flatMap, List.mem_map] at this
  obtain ⟨u, _, v, _, rfl⟩ := this
  exact hW u v
theorem up_len (n : Nat) (W : Nat → Nat → Int) : (up (flt n W)).length = n * n := by rw [(up_perm _).length_eq, flt_len]
theorem dn_len (n : Nat) (W : Nat → Nat → Int) : (dn (flt n W)).length = n * n := by rw [(dn_perm _).length_eq, flt_len]
section
variable {n : Nat} {W T : Nat → Nat → Int}
theorem flat_lc (hn : n ≤ 6) {ρ : PEnv} {i j : Nat} {f : FE} (hf : f ρ = some (tb n W)) (h4 : ∀ x : D, eVar 4 (setsD (wipeD ρ [4, j]) [(4, x)]) = some x) (hj : ∀ x y : D, eVar j (setsD (wipeD (setsD (wipeD ρ [4, j]) [(4, x)]) [j]) [(j, y)]) = some y) :
    eLc2 (iSeq f) (.nm 4) tTrue (iSeq (eVar 4)) (.nm j) tTrue (eVar j) [4, j] [j] ρ = some (.list ((flt n W).map PyData.int)) := by
  rw [← flt_map]
  refine eLc2_of (fun u => trow n (W u)) (fun u => (List.range n).map fun v => .int (W u v)) (l := List.range n) (by rw [iSeq_a, hf]; rfl) ?_ ?_
  · intro u hu
    refine ⟨[(4, trow n (W u))], rfl, ?_⟩
    refine inLc_of (fun v => .int (W u v)) (fun v => .int (W u v)) (l := List.range n) (by rw [iSeq_a, h4]; rfl) ?_
    intro v hv
    exact ⟨[(j, .int (W u v))], rfl, hj _ _⟩
  · rw [flt_map, List.length_map, flt_len]
    have : n * n ≤ 6 * 6 := Nat.mul_le_mul hn hn
    omega
theorem layout_bound_ok (hn : n ≤ 6) (hW : Sml W) : den_layout_bound [tb n W, tb n T] = some (.int (bd n W T)) := by
  have nn : n * n ≤ 6 * 6 := Nat.mul_le_mul hn hn
  refine dfun_ret [some (tb n W), some (tb n T), none, none, none, none, none] [0, 0, 0, 0, 0, 0, 0] rfl rfl rfl ?_
  have h1 : eLc2 (iSeq (eVar 0)) (.nm 4) tTrue (iSeq (eVar 4)) (.nm 5) tTrue (eVar 5) [4, 5] [5] [some (tb n W), some (tb n T), none, none, none, none, none] = some (.list ((flt n W).map PyData.int)) :=
    flat_lc (i := 0) (j := 5) hn rfl (fun _ => rfl) (fun _ _ => rfl)
  rw [sSeq_next (sSet_deep (d := .list ((up (flt n W)).map PyData.int)) (by rw [eCB_a, aCons_a, h1, aNil_a, o2_ss, o1_s, d1_1, dSorted_ints]) (flat_list _))]
  have h2 : eLc2 (iSeq (eVar 1)) (.nm 4) tTrue (iSeq (eVar 4)) (.nm 6) tTrue (eVar 6) [4, 6] [6] [some (tb n W), some (tb n T), some (.list ((up (flt n W)).map PyData.int)), none, none, none, none] = some (.list ((flt n T).map PyData.int)) :=
    flat_lc (i := 1) (j := 6) hn rfl (fun _ => rfl) (fun _ _ => rfl)
  simp only [List.set_cons_zero, List.set_cons_succ]
  rw [sSeq_next (sSet_deep (d := .list ((dn (flt n T)).map PyData.int)) (by rw [eOp_a, h2, eC_a, o2_ss, dSortRv_ints]) (flat_list _))]
  simp only [List.set_cons_zero, List.set_cons_succ]
  refine sRet_ok ?_
  have hz : iZip2 (eVar 2) (eVar 3) [some (tb n W), some (tb n T), some (.list ((up (flt n W)).map PyData.int)), some (.list ((dn (flt n T)).map PyData.int)), none, none, none] = some (((up (flt n W)).zip (dn (flt n T))).map fun p => .tuple [.int p.1, .int p.2]) := by
    show some ((((up (flt n W)).map PyData.int).zip ((dn (flt n T)).map PyData.int)).map fun p => PyData.tuple [p.1, p.2]) = _
    rw [List.zip_map, List.map_map]
    rfl
  have hc := eLc_of (t := .tp [(.nm 5), (.nm 6)]) (vs := [5, 6]) (fe := eOp dMul (eVar 5) (eVar 6)) (fun p : Int × Int => .tuple [.int p.1, .int p.2]) (fun p => .int (p.1 * p.2)) (l := (up (flt n W)).zip (dn (flt n T))) hz (by rw [List.length_zip, up_len, dn_len]; omega) (by
    intro p hp
    refine ⟨[(5, .int p.1), (6, .int p.2)], rfl, ?_⟩
    have b := up_small hW (List.of_mem_zip hp).1
    simp only [setsD, wipeD, List.foldl_cons, List.foldl_nil, List.set_cons_zero, List.set_cons_succ, eOp_a, eVar_0, eVar_s, o2_ss]
    exact dMul_i (mulOk_l (by omega)))
  rw [eCB_a, aCons_a, hc, aNil_a, o2_ss, o1_s, d1_1]
  have : ((up (flt n W)).zip (dn (flt n T))).map (fun p => PyData.int (p.1 * p.2)) = (((up (flt n W)).zip (dn (flt n T))).map fun p => p.1 * p.2).map PyData.int := by rw [List.map_map]; rfl
  rw [this, dSum_ok]
  rfl
theorem flt_take (n k : Nat) (W : Nat → Nat → Int) : ((List.range (k + 1)).flatMap fun u => (List.range n).map (W u)) = ((List.range k).flatMap fun u => (List.range n).map (W u)) ++ (List.range n).map (W k) := by
  rw [List.range_succ, List.flatMap_append]
  simp
def fltk (n : Nat) (W : Nat → Nat → Int) (k : Nat) : List Int := (List.range k).flatMap fun u => (List.range n).map (W u)
theorem fltk_len (n k : Nat) (W : Nat → Nat → Int) : (fltk n W k).length = k * n := by
  have : ∀ l : List Nat, (l.flatMap fun u => (List.range n).map (W u)).length = l.length * n := by
    intro l
    induction l with
    | nil => simp
    | cons a l ih => rw [List.flatMap_cons, List.length_append, ih, List.length_map, List.length_range, List.length_cons, Nat.succ_mul, Nat.add_comm]
  unfold fltk
  rw [this, List.length_range]
theorem cat_row (hn : n ≤ 6) {k : Nat} (hk : k < n) : dAdd (.list ((fltk n W k).map PyData.int)) (.list ((List.range n).map fun v => .int (W k v))) = some (.list ((fltk n W (k + 1)).map PyData.int)) := by
  have e : (List.range n).map (fun v => PyData.int (W k v)) = ((List.range n).map (W k)).map PyData.int := by rw [List.map_map]; rfl
  have : k * n ≤ 6 * 6 := Nat.mul_le_mul (by omega) hn
  show (if ((fltk n W k).map PyData.int).length + ((List.range n).map fun v => PyData.int (W k v)).length ≤ sz then _ else _) = _
  rw [if_pos (by
    rw [List.length_map, fltk_len, List.length_map, List.length_range]
    show _ ≤ 16777216
    omega), e, ← List.map_append]
  unfold fltk
  rw [flt_take]
theorem law_bound_ok (hn : n ≤ 6) (hW : Sml W) : den__law_bound [tb n W, tb n T] = some (.int (bd n W T)) := by
  have nn : n * n ≤ 6 * 6 := Nat.mul_le_mul hn hn
  refine dfun_ret [some (tb n W), some (tb n T), none, none, none, none] [0, 0, 0, 0, 0, 0] rfl rfl rfl ?_
  rw [sSeq_next (s' := ([some (tb n W), some (tb n T), some (.list []), some (.list []), none, none], [0, 0, 0, 0, 0, 0])) (by rfl)]
  obtain ⟨s', e, x4, rfl⟩ := for_rng (i := 4) (n := n) (lo := 0) (body := (sSeq (sSet 2 0 (eOp dAdd (eVar 2) (eCB (d1 dList) (aCons (eIx (eVar 0) (eVar 4)) aNil))) ([(2, 1)] ++ ([(0, 2)] ++ [])))
  (sSet 3 0 (eOp dAdd (eVar 3) (eCB (d1 dList) (aCons (eIx (eVar 1) (eVar 4)) aNil))) ([(3, 1)] ++ ([(1, 2)] ++ [])))))
    (fun k s => ∃ x4, s = ([some (tb n W), some (tb n T), some (.list ((fltk n W k).map PyData.int)), some (.list ((fltk n T k).map PyData.int)), x4, none], [0, 0, 0, 0, 0, 0])) _ ⟨none, rfl⟩ (by
      rintro k _ hk ⟨x4, rfl⟩
      rw [Int.zero_add]
      simp only [List.set_cons_zero, List.set_cons_succ]
      have ix1 := tb_ix (W := W) hk
      have ix2 := tb_ix (W := T) hk
      have l1 : dList (trow n (W k)) = some (.list ((List.range n).map fun v => .int (W k v))) := rfl
      have l2 : dList (trow n (T k)) = some (.list ((List.range n).map fun v => .int (T k v))) := rfl
      rw [sSeq_next (sSet_deep (d := .list ((fltk n W (k + 1)).map PyData.int)) (by
        simp only [eOp_a, eCB_a, aCons_a, aNil_a, eIx_a, eVar_0, eVar_s, o2_ss, o1_s, d1_1, ix1, l1, cat_row hn hk]) (flat_list _))]
      simp only [List.set_cons_zero, List.set_cons_succ]
      refine ⟨_, sSet_deep (d := .list ((fltk n T (k + 1)).map PyData.int)) (by
        simp only [eOp_a, eCB_a, aCons_a, aNil_a, eIx_a, eVar_0, eVar_s, o2_ss, o1_s, d1_1, ix2, l2, cat_row hn hk]) (flat_list _), some (.int k), rfl⟩)
  rw [sSeq_next (by
    rw [sFor_at (range1_ok (n := n) (by simp) (by omega))]
    exact e)]
  have e1 : fltk n W n = flt n W := rfl
  have e2 : fltk n T n = flt n T := rfl
  rw [e1, e2]
  rw [sSeq_next (s' := ([some (tb n W), some (tb n T), some (.list ((up (flt n W)).map PyData.int)), some (.list ((dn (flt n T)).map PyData.int)), x4, none], [0, 0, 0, 0, 0, 0])) (by
    unfold sTup
    have : eTup (aCons (eCB (d1 dSorted) (aCons (eVar 2) aNil)) (aCons (eOp dSortRv (eVar 3) (eC (.bool true))) aNil)) [some (tb n W), some (tb n T), some (.list ((flt n W).map PyData.int)), some (.list ((flt n T).map PyData.int)), x4, none] = some (.tuple [.list ((up (flt n W)).map PyData.int), .list ((dn (flt n T)).map PyData.int)]) := by
      simp only [eTup, eOp_a, eCB_a, aCons_a, aNil_a, eVar_0, eVar_s, eC_a, o2_ss, o1_s, d1_1, dSorted_ints, dSortRv_ints]
      rfl
    simp only [this]
    have fl : flat (.tuple [.list ((up (flt n W)).map PyData.int), .list ((dn (flt n T)).map PyData.int)]) = false := by simp [flat, flats]
    have tg : Tg.go (.tp [(.nm 2), (.nm 3)]) (.tuple [.list ((up (flt n W)).map PyData.int), .list ((dn (flt n T)).map PyData.int)]) = some [(2, .list ((up (flt n W)).map PyData.int)), (3, .list ((dn (flt n T)).map PyData.int))] := rfl
    simp only [tg, fl]
    rfl)]
  refine sRet_ok ?_
  have hl : (eCB (d1 dLen) (aCons (eVar 2) aNil)) ([some (tb n W), some (tb n T), some (.list ((up (flt n W)).map PyData.int)), some (.list ((dn (flt n T)).map PyData.int)), x4, none]) = some (.int ((n * n : Nat) : Int)) := by
    simp only [eCB_a, aCons_a, aNil_a, eVar_0, eVar_s, o2_ss, o1_s, d1_1, dLen_l, List.length_map, up_len]
  have hc := eLc_of (t := .nm 5) (vs := [5]) (fe := (eOp dMul (eIx (eVar 2) (eVar 5)) (eIx (eVar 3) (eVar 5)))) nat (fun k => .int ((up (flt n W)).getD k 0 * (dn (flt n T)).getD k 0)) (l := List.range (n * n)) (range1_nat hl (by omega)) (by rw [List.length_range]; omega) (by
    intro k hk
    have hk := List.mem_range.mp hk
    have u1 : k < (up (flt n W)).length := by rw [up_len]; exact hk
    have u2 : k < (dn (flt n T)).length := by rw [dn_len]; exact hk
    refine ⟨[(5, nat k)], rfl, ?_⟩
    have i1 : dIx (.list ((up (flt n W)).map PyData.int)) (.int k) = some (.int ((up (flt n W)).getD k 0)) := by
      show L2.atI _ (k : Int) = _
      rw [atI_mp u1, List.getD_eq_getElem?_getD, List.getElem?_eq_getElem u1]
      rfl
    have i2 : dIx (.list ((dn (flt n T)).map PyData.int)) (.int k) = some (.int ((dn (flt n T)).getD k 0)) := by
      show L2.atI _ (k : Int) = _
      rw [atI_mp u2, List.getD_eq_getElem?_getD, List.getElem?_eq_getElem u2]
      rfl
    have b : 0 ≤ (up (flt n W)).getD k 0 ∧ (up (flt n W)).getD k 0 ≤ 40 := by
      rw [List.getD_eq_getElem?_getD, List.getElem?_eq_getElem u1]
      exact up_small hW (List.getElem_mem u1)
    simp only [setsD, wipeD, List.foldl_cons, List.foldl_nil, List.set_cons_zero, List.set_cons_succ, eOp_a, eIx_a, eVar_0, eVar_s, o2_ss, nat, i1, i2]
    exact dMul_i (mulOk_l (by omega)))
  rw [eCB_a, aCons_a, hc, aNil_a, o2_ss, o1_s, d1_1]
  have : (List.range (n * n)).map (fun k => PyData.int ((up (flt n W)).getD k 0 * (dn (flt n T)).getD k 0)) = (((up (flt n W)).zip (dn (flt n T))).map fun p => p.1 * p.2).map PyData.int := by
    refine List.ext_getElem? fun k => ?_
    by_cases hk : k < n * n
    · have u1 : k < (up (flt n W)).length := by rw [up_len]; exact hk
      have u2 : k < (dn (flt n T)).length := by rw [dn_len]; exact hk
      have uz : k < ((up (flt n W)).zip (dn (flt n T))).length := by rw [List.length_zip, up_len, dn_len]; omega
      simp [hk, List.getD_eq_getElem?_getD, u1, u2, List.getElem?_eq_getElem uz, List.getElem_zip]
    · rw [List.getElem?_eq_none (by simp; omega), List.getElem?_eq_none (by simp [up_len, dn_len]; omega)]
  rw [this, dSum_ok]
  rfl
end
end Lib
end

section
set_option Elab.async false
set_option linter.all false
set_option maxRecDepth 10000
/-! k34: things in a line. -/
namespace Lib
open DS PySem
def den_doubled_middles : Fn := dfun 5 2 (sSeq (sParF 2 3 (eOp dMul (eLst (aCons (eC (.int 0)) aNil)) (eCB (d1 dLen) (aCons (eVar 0) aNil))) (eC (.int 0)) (([] ++ []) ++ []))
  (sSeq (sFor (iSeq (eVar 1)) [(1, 0)] (.nm 4)
  (sSeq (sPut 2 (eVar 4) (eOp dAdd (eOp dMul (eC (.int 2)) (eVar 3)) (eIx (eVar 0) (eVar 4))) (([] ++ [(3, 1)]) ++ [(0, 2)]))
  (sAug 3 dAddI (eIx (eVar 0) (eVar 4)))))
  (sRet (eVar 2))))
def den_doubled_traffic : Fn := dfun 8 3 (sSeq (sSet 3 0 (eCall 2 den_doubled_middles (aCons (eVar 0) (aCons (eVar 2) aNil))) ([(0, 0)] ++ ([(2, 0)] ++ [])))
  (sRet (eCB (d1 dSum) (aCons (eLc2 (iEnumD (eVar 1)) (.tp [(.nm 4), (.nm 5)]) tTrue (iEnumD (eVar 5)) (.tp [(.nm 6), (.nm 7)]) tTrue (eOp dMul (eVar 7) (eCB (d1 dAbs) (aCons (eOp dSub (eIx (eVar 3) (eVar 4)) (eIx (eVar 3) (eVar 6))) aNil))) [4, 5, 6, 7] [6, 7]) aNil))))
def den_line_layout : Fn := dfun 5 2 (sSeq (sTup (.tp [(.nm 2), (.nm 3)]) (eCB (d1 dMin1) (aCons (eLc (iSeq (eCall 1 den_all_orders (aCons (eCB (d1 dLen) (aCons (eVar 0) aNil)) aNil))) (.nm 4) tTrue (eTup (aCons (eCall 3 den_doubled_traffic (aCons (eVar 0) (aCons (eVar 1) (aCons (eVar 4) aNil)))) (aCons (eVar 4) aNil))) [4]) aNil)) [])
  (sRet (eTup (aCons (eCall 2 den_lowest (aCons (eVar 2) (aCons (eC (.int 2)) aNil))) (aCons (eVar 3) aNil)))))
def den__law_line : Fn := dfun 10 2 (sSeq (sSet 2 0 (eC .none) [])
  (sSeq (sFor (iSeq (eCall 1 den__law_orders (aCons (eCB (d1 dLen) (aCons (eVar 0) aNil)) aNil))) ([] ++ []) (.nm 3)
  (sSeq (sPar3A 4 5 6 (eOp dMul (eLst (aCons (eC (.int 0)) aNil)) (eCB (d1 dLen) (aCons (eVar 0) aNil))) (eC (.int 0)) (eC (.int 0)) (([] ++ []) ++ []))
  (sSeq (sFor (iSeq (eVar 3)) [(3, 0)] (.nm 7)
  (sSeq (sPut 4 (eVar 7) (eOp dAdd (eOp dMul (eC (.int 2)) (eVar 5)) (eIx (eVar 0) (eVar 7))) (([] ++ [(5, 1)]) ++ [(0, 2)]))
  (sAug 5 dAddI (eIx (eVar 0) (eVar 7)))))
  (sSeq (sFor (iRange1 (eCB (d1 dLen) (aCons (eVar 0) aNil))) [] (.nm 8)
  (sFor (iRange1 (eCB (d1 dLen) (aCons (eVar 0) aNil))) [] (.nm 9)
  (sAug 6 dAddI (eOp dMul (eIx (eIx (eVar 1) (eVar 8)) (eVar 9)) (eCB (d1 dAbs) (aCons (eOp dSub (eIx (eVar 4) (eVar 8)) (eIx (eVar 4) (eVar 9))) aNil))))))
  (sIf (tOrD (tIsND (eVar 2)) (tCmp dLt (eVar 6) (eIx (eVar 2) (eC (.int 0)))))
  (sSet 2 0 (eTup (aCons (eVar 6) (aCons (eVar 3) aNil))) ([(6, 0)] ++ ([(3, 0)] ++ [])))
  sNil)))))
  (sRet (eTup (aCons (eCall 2 den__law_ratio (aCons (eIx (eVar 2) (eC (.int 0))) (aCons (eC (.int 2)) aNil))) (aCons (eIx (eVar 2) (eC (.int 1))) aNil))))))
theorem sPut_flat {i : Nat} {j f : FE} {c : Esc} {ρ : PEnv} {L : List Nat} {ds : List D} {d : D} {k : Nat} (h : f ρ = some d) (hi : eVar i ρ = some (.list ds)) (hj : j ρ = some (.int (k : Int))) (hk : k < ds.length) (hd : flat d = true) (hL : lv L i = 1) : sPut i j f c (ρ, L) = .next (ρ.set i (some (.list (ds.set k d))), L) := by
  unfold sPut
  simp only [h, hi, hj, ixN_nat hk, hd, if_true, hL]
theorem rep_zero {m : Nat} (hm : m ≤ 16777216) : dMul (.list [.int 0]) (.int m) = some (.list ((List.replicate m (0 : Int)).map PyData.int)) := by
  show (if [PyData.int 0].length * ((m : Int)).toNat ≤ sz ∧ -9223372036854775808 ≤ (m : Int) ∧ (m : Int) < 9223372036854775808 then some (PyData.list (List.replicate ((m : Int)).toNat [PyData.int 0]).flatten) else none) = _
  rw [if_pos ⟨by
    have : sz = 16777216 := rfl
    rw [this, Int.toNat_natCast]
    simpa using hm, by omega, by omega⟩, Int.toNat_natCast, List.map_replicate, List.flatten_replicate_singleton]
theorem ints_ix {M : List Int} {k : Nat} (h : k < M.length) : dIx (.list (M.map PyData.int)) (.int k) = some (.int (M.getD k 0)) := by
  show L2.atI _ (k : Int) = _
  rw [atI_mp h, List.getD_eq_getElem?_getD, List.getElem?_eq_getElem h]
  rfl
theorem enum_rng (m : Nat) (g : Nat → D) : enumD ((List.range m).map g) = (List.range m).map fun p => .tuple [nat p, g p] := by
  unfold enumD
  refine List.ext_getElem? fun k => ?_
  by_cases hk : k < m
  · simp [hk, nat]
  · rw [List.getElem?_eq_none (by simp; omega), List.getElem?_eq_none (by simp; omega)]
def mstep (F : Nat → Int) (fe : List Int × Int) (k : Nat) : List Int × Int := (fe.1.set k (2 * fe.2 + F k), fe.2 + F k)
def mids (m : Nat) (F : Nat → Int) (o : List Nat) : List Int × Int := o.foldl (mstep F) (List.replicate m 0, 0)
theorem mids_snoc (m : Nat) (F : Nat → Int) (o : List Nat) (k : Nat) : mids m F (o ++ [k]) = mstep F (mids m F o) k := by
  unfold mids
  rw [List.foldl_append]
  rfl
theorem mids_len (m : Nat) (F : Nat → Int) (o : List Nat) : (mids m F o).1.length = m := by
  have : ∀ (o : List Nat) (fe : List Int × Int), (o.foldl (mstep F) fe).1.length = fe.1.length := by
    intro o
    induction o with
    | nil => intro fe; rfl
    | cons a o ih => intro fe; rw [List.foldl_cons, ih]; simp [mstep]
  unfold mids
  rw [this, List.length_replicate]
theorem take_snoc {α : Type} {o : List α} {j : Nat} {k : α} (h : o[j]? = some k) : o.take (j + 1) = o.take j ++ [k] := by
  rw [List.take_add_one, h]
  rfl
def absI (x : Int) : Int := if x < 0 then -x else x
def dtc (m : Nat) (T : Nat → Nat → Int) (F : Nat → Int) (o : List Nat) : Int := rsum (fun i => rsum (fun j => T i j * absI ((mids m F o).1.getD i 0 - (mids m F o).1.getD j 0)) m) m
def midBody (i e k : Nat) : FS := (sSeq (sPut i (eVar k) (eOp dAdd (eOp dMul (eC (.int 2)) (eVar e)) (eIx (eVar 0) (eVar k))) (([] ++ [(e, 1)]) ++ [(0, 2)]))
  (sAug e dAddI (eIx (eVar 0) (eVar k))))
section
variable {m : Nat} {T : Nat → Nat → Int} {F : Nat → Int}
theorem middles_ok (hm : m ≤ 6) {o : List Nat} (h : IsRow m m o) : den_doubled_middles [trow m F, nt o] = some (.list ((mids m F o).1.map PyData.int)) := by
  refine dfun_ret [some (trow m F), some (nt o), none, none, none] [0, 0, 0, 0, 0] rfl rfl rfl ?_
  rw [sSeq_next (s' := ([some (trow m F), some (nt o), some (.list ((List.replicate m (0 : Int)).map PyData.int)), some (.int 0), none], [0, 0, 1, 0, 0])) (by
    unfold sParF
    have : (eOp dMul (eLst (aCons (eC (.int 0)) aNil)) (eCB (d1 dLen) (aCons (eVar 0) aNil))) [some (trow m F), some (nt o), none, none, none] = some (.list ((List.replicate m (0 : Int)).map PyData.int)) := by
      have e1 : eLst (aCons (eC (.int 0)) aNil) [some (trow m F), some (nt o), none, none, none] = some (.list [.int 0]) := rfl
      simp only [eOp_a, e1, eCB_a, aCons_a, aNil_a, eVar_0, o2_ss, o1_s, d1_1, trow_len, rep_zero (show m ≤ 16777216 by omega)]
    simp only [this]
    rfl)]
  obtain ⟨s', e, x4, rfl⟩ := for_inv (t := .nm 4) (body := (sSeq (sPut 2 (eVar 4) (eOp dAdd (eOp dMul (eC (.int 2)) (eVar 3)) (eIx (eVar 0) (eVar 4))) (([] ++ [(3, 1)]) ++ [(0, 2)]))
  (sAug 3 dAddI (eIx (eVar 0) (eVar 4)))))
    (fun j s => ∃ x4, s = ([some (trow m F), some (nt o), some (.list ((mids m F (o.take j)).1.map PyData.int)), some (.int (mids m F (o.take j)).2), x4], [0, 0, 1, 0, 0])) (o.map nat) 0 ([some (trow m F), some (nt o), some (.list ((List.replicate m (0 : Int)).map PyData.int)), some (.int 0), none], [0, 0, 1, 0, 0]) ⟨none, by rw [List.take_zero]; rfl⟩ (by
      rintro j d _ hd ⟨x4, rfl⟩
      rw [Nat.zero_add, List.getElem?_map] at *
      obtain ⟨k, hk, rfl⟩ := Option.map_eq_some_iff.mp hd
      have hkm := h.lt k (List.mem_of_getElem? hk)
      refine ⟨[(4, nat k)], _, rfl, ?_, some (nat k), rfl⟩
      simp only [setsD, zeros, List.foldl_cons, List.foldl_nil, List.set_cons_zero, List.set_cons_succ]
      have ix := trow_ix (f := F) hkm
      rw [sSeq_next (sPut_flat (k := k) (d := .int (2 * (mids m F (o.take j)).2 + F k)) (ds := (mids m F (o.take j)).1.map PyData.int) (by
        simp only [eOp_a, eIx_a, eC_a, eVar_0, eVar_s, o2_ss, nat, ix, dMul_i (mulOk_l (i := 2) (by decide)), dAdd_i]) rfl rfl (by rw [List.length_map, mids_len]; exact hkm) rfl rfl)]
      simp only [List.set_cons_zero, List.set_cons_succ]
      rw [sAug_next (x := .int (mids m F (o.take j)).2) (y := .int (F k)) (d := .int ((mids m F (o.take j)).2 + F k)) rfl (by simp only [eIx_a, eVar_0, eVar_s, o2_ss, nat, ix]) rfl]
      rw [take_snoc hk, mids_snoc, ← List.map_set]
      rfl)
  rw [sSeq_next (by
    rw [sFor_at (ds := o.map nat) rfl]
    exact e)]
  rw [Nat.zero_add, List.length_map, List.take_length]
  exact sRet_ok rfl
theorem traffic_ok (hm : m ≤ 6) (hT : Sml T) {o : List Nat} (h : IsRow m m o) : den_doubled_traffic [trow m F, tb m T, nt o] = some (.int (dtc m T F o)) := by
  have ml := mids_len m F o
  refine dfun_ret [some (trow m F), some (tb m T), some (nt o), none, none, none, none, none] [0, 0, 0, 0, 0, 0, 0, 0] rfl rfl rfl ?_
  rw [sSeq_next (sSet_deep (d := .list ((mids m F o).1.map PyData.int)) (by simp only [eCall_2, eVar_0, eVar_s, o1_s, middles_ok hm h]) (flat_list _))]
  simp only [List.set_cons_zero, List.set_cons_succ]
  refine sRet_ok ?_
  have hc := eLc2_of (fi := iEnumD (eVar 1)) (t := .tp [(.nm 4), (.nm 5)]) (fi1 := iEnumD (eVar 5)) (t1 := .tp [(.nm 6), (.nm 7)]) (ft1 := tTrue) (fe := (eOp dMul (eVar 7) (eCB (d1 dAbs) (aCons (eOp dSub (eIx (eVar 3) (eVar 4)) (eIx (eVar 3) (eVar 6))) aNil)))) (vs := [4, 5, 6, 7]) (vs1 := [6, 7]) (ρ := [some (trow m F), some (tb m T), some (nt o), some (.list ((mids m F o).1.map PyData.int)), none, none, none, none])
    (fun p => .tuple [nat p, trow m (T p)]) (fun p => (List.range m).map fun q => .int (T p q * absI ((mids m F o).1.getD p 0 - (mids m F o).1.getD q 0))) (l := List.range m) (by
      rw [← enum_rng]; rfl) (by
      intro p hp
      have hp := List.mem_range.mp hp
      refine ⟨[(4, nat p), (5, trow m (T p))], rfl, ?_⟩
      refine inLc_of (fun q => .tuple [nat q, .int (T p q)]) _ (l := List.range m) (by rw [← enum_rng]; rfl) ?_
      intro q hq
      have hq := List.mem_range.mp hq
      refine ⟨[(6, nat q), (7, .int (T p q))], rfl, ?_⟩
      have b := hT p q
      have e1 := ints_ix (M := (mids m F o).1) (k := p) (by omega)
      have e2 := ints_ix (M := (mids m F o).1) (k := q) (by omega)
      have ea : ∀ x : Int, dAbs (.int x) = some (.int (absI x)) := fun x => rfl
      simp only [setsD, wipeD, List.foldl_cons, List.foldl_nil, List.set_cons_zero, List.set_cons_succ, eOp_a, eIx_a, eCB_a, aCons_a, aNil_a, eVar_0, eVar_s, o2_ss, o1_s, d1_1, nat, e1, e2, dSub_i, ea]
      exact dMul_i (mulOk_l (by omega))) (by
      have : ∀ l : List Nat, (l.flatMap fun p => (List.range m).map fun q => (.int (T p q * absI ((mids m F o).1.getD p 0 - (mids m F o).1.getD q 0)) : D)).length = l.length * m := by
        intro l
        induction l with
        | nil => simp
        | cons a l ih => rw [List.flatMap_cons, List.length_append, ih, List.length_map, List.length_range, List.length_cons, Nat.succ_mul, Nat.add_comm]
      rw [this, List.length_range]
      have : m * m ≤ 6 * 6 := Nat.mul_le_mul hm hm
      omega)
  have hl2 : ((List.range m).flatMap fun p => (List.range m).map fun q => (.int (T p q * absI ((mids m F o).1.getD p 0 - (mids m F o).1.getD q 0)) : D)) = (((List.range m).flatMap fun p => (List.range m).map fun q => T p q * absI ((mids m F o).1.getD p 0 - (mids m F o).1.getD q 0))).map PyData.int := by
    rw [List.map_flatMap]
    simp only [List.map_map, Function.comp_def]
  rw [eCB_a, aCons_a, hc, aNil_a, o2_ss, o1_s, d1_1, hl2, dSum_ok, sum_flat]
  rfl
theorem line_ok (hm : m ≤ 6) (hT : Sml T) : den_line_layout [trow m F, tb m T] = some (.tuple [rt (Rat.divInt (dtc m T F (bestO (dtc m T F) m)) 2), nt (bestO (dtc m T F) m)]) := by
  refine dfun_ret [some (trow m F), some (tb m T), none, none, none] [0, 0, 0, 0, 0] rfl rfl rfl ?_
  have hi : iSeq (eCall 1 den_all_orders (aCons (eCB (d1 dLen) (aCons (eVar 0) aNil)) aNil)) [some (trow m F), some (tb m T), none, none, none] = some ((ords m m).map nt) := by
    simp only [iSeq_a, eCall_1, eCB_a, aCons_a, aNil_a, eVar_0, o2_ss, o1_s, d1_1, trow_len, all_orders_ok hm]
    rfl
  have hl := ords_len m hm
  have hc := eLc_of (t := .nm 4) (vs := [4]) (fe := (eTup (aCons (eCall 3 den_doubled_traffic (aCons (eVar 0) (aCons (eVar 1) (aCons (eVar 4) aNil)))) (aCons (eVar 4) aNil)))) nt (co (dtc m T F)) (l := ords m m) hi (by omega) (by
    intro o ho
    refine ⟨[(4, nt o)], rfl, ?_⟩
    simp only [setsD, wipeD, List.foldl_cons, List.foldl_nil, List.set_cons_zero, List.set_cons_succ, eTup, aCons_a, aNil_a, eCall_3, eVar_0, eVar_s, o1_s, o2_ss, traffic_ok hm hT (mem_ords.mp ho)]
    rfl)
  rw [sSeq_next (sTup_flat (d := co (dtc m T F) (bestO (dtc m T F) m)) (l := [(2, .int (dtc m T F (bestO (dtc m T F) m))), (3, nt (bestO (dtc m T F) m))]) (by rw [eCB_a, aCons_a, hc, aNil_a, o2_ss, o1_s, d1_1, min_orders]) rfl (co_flat _ _))]
  simp only [setsD, zeros, List.foldl_cons, List.foldl_nil, List.set_cons_zero, List.set_cons_succ]
  refine sRet_ok ?_
  have e := lowest_ok (a := dtc m T F (bestO (dtc m T F) m)) (b := 2) (k := 5) (by decide) (by decide) (by decide)
  simp only [eTup, aCons_a, aNil_a, eCall_2, eVar_0, eVar_s, eC_a, o1_s, o2_ss, e]
  rfl
end
end Lib
end

section
set_option Elab.async false
set_option linter.all false
set_option maxRecDepth 10000
/-! k34: things in a line, by the law. -/
namespace Lib
open DS PySem
/-- the best so far, in a loop that takes the first of the least -/
def boD (c : List Nat → Int) : Option (List Nat) → D
  | none => .none
  | some o => co c o
theorem boD_flat (c : List Nat → Int) (b : Option (List Nat)) : flat (boD c b) = true := by
  cases b with
  | none => rfl
  | some o => exact co_flat c o
def ltc (c : List Nat → Int) (a b : List Nat) : Bool := decide (c a < c b)
theorem best_all (c : List Nat → Int) (n : Nat) : ofold (ltc c) none (ords n n) = some (bestO c n) := by
  unfold bestO
  cases e : ords n n with
  | nil => exact absurd e (ords_ne n)
  | cons x xs => exact ofold_cons _ x xs
def wins (c : List Nat → Int) (b : Option (List Nat)) (o : List Nat) : Bool := match b with
  | none => true
  | some b => ltc c o b
theorem best_test {c : List Nat → Int} {b : Option (List Nat)} {o : List Nat} {ρ : PEnv} {i j : Nat} (hi : eVar i ρ = some (boD c b)) (hj : eVar j ρ = some (.int (c o))) :
    tOrD (tIsND (eVar i)) (tCmp dLt (eVar j) (eIx (eVar i) (eC (.int 0)))) ρ = some (wins c b o) := by
  cases b with
  | none => exact tOr_t (by rw [tIsND_a, hi, o1_s]; rfl)
  | some b =>
    have nn : isNon (co c b) = false := rfl
    have ix : dIx (co c b) (.int 0) = some (.int (c b)) := rfl
    rw [tOr_f (by rw [tIsND_a, hi, o1_s]; exact congrArg some nn), tCmp_a, eIx_a, hi, hj, eC_a, o2_ss]
    show o2 (some (PyData.int (c o))) (dIx (co c b) (.int 0)) dLt = _
    rw [ix, o2_ss, dLt_i]
    rfl
theorem best_one {c : List Nat → Int} {b : Option (List Nat)} {o : List Nat} : ofold (ltc c) b [o] = if wins c b o = true then some o else b := by
  rw [ofold_one]
  cases b with
  | none => rfl
  | some b => show (if ltc c o b = true then some o else some b) = _; rfl
section
variable {m : Nat} {T : Nat → Nat → Int} {F : Nat → Int}
def lnSum : FS := (sFor (iRange1 (eCB (d1 dLen) (aCons (eVar 0) aNil))) [] (.nm 8)
  (sFor (iRange1 (eCB (d1 dLen) (aCons (eVar 0) aNil))) [] (.nm 9)
  (sAug 6 dAddI (eOp dMul (eIx (eIx (eVar 1) (eVar 8)) (eVar 9)) (eCB (d1 dAbs) (aCons (eOp dSub (eIx (eVar 4) (eVar 8)) (eIx (eVar 4) (eVar 9))) aNil))))))
theorem lnSum_ok (hm : m ≤ 6) (hT : Sml T) (o : List Nat) (x2 x3 x5 x7 x8 x9 : Option D) : ∃ x8' x9', lnSum ([some (trow m F), some (tb m T), x2, x3, some (.list ((mids m F o).1.map PyData.int)), x5, some (.int 0), x7, x8, x9], [0, 0, 0, 0, 1, 0, 0, 0, 0, 0])
    = .next ([some (trow m F), some (tb m T), x2, x3, some (.list ((mids m F o).1.map PyData.int)), x5, some (.int (dtc m T F o)), x7, x8', x9'], [0, 0, 0, 0, 1, 0, 0, 0, 0, 0]) := by
  have ml := mids_len m F o
  unfold lnSum
  obtain ⟨s', e, x8', x9', rfl⟩ := for_rng (i := 8) (n := m) (lo := 0) (body := (sFor (iRange1 (eCB (d1 dLen) (aCons (eVar 0) aNil))) [] (.nm 9)
  (sAug 6 dAddI (eOp dMul (eIx (eIx (eVar 1) (eVar 8)) (eVar 9)) (eCB (d1 dAbs) (aCons (eOp dSub (eIx (eVar 4) (eVar 8)) (eIx (eVar 4) (eVar 9))) aNil))))))
    (fun k s => ∃ x8 x9, s = ([some (trow m F), some (tb m T), x2, x3, some (.list ((mids m F o).1.map PyData.int)), x5, some (.int (rsum (fun i => rsum (fun j => T i j * absI ((mids m F o).1.getD i 0 - (mids m F o).1.getD j 0)) m) k)), x7, x8, x9], [0, 0, 0, 0, 1, 0, 0, 0, 0, 0])) ([some (trow m F), some (tb m T), x2, x3, some (.list ((mids m F o).1.map PyData.int)), x5, some (.int 0), x7, x8, x9], [0, 0, 0, 0, 1, 0, 0, 0, 0, 0]) ⟨x8, x9, rfl⟩ (by
      rintro p _ hp ⟨x8, x9, rfl⟩
      rw [Int.zero_add]
      obtain ⟨s', e, x9, rfl⟩ := for_rng (i := 9) (n := m) (lo := 0) (body := (sAug 6 dAddI (eOp dMul (eIx (eIx (eVar 1) (eVar 8)) (eVar 9)) (eCB (d1 dAbs) (aCons (eOp dSub (eIx (eVar 4) (eVar 8)) (eIx (eVar 4) (eVar 9))) aNil)))))
        (fun k s => ∃ x9, s = ([some (trow m F), some (tb m T), x2, x3, some (.list ((mids m F o).1.map PyData.int)), x5, some (.int (rsum (fun i => rsum (fun j => T i j * absI ((mids m F o).1.getD i 0 - (mids m F o).1.getD j 0)) m) p + rsum (fun j => T p j * absI ((mids m F o).1.getD p 0 - (mids m F o).1.getD j 0)) k)), x7, some (.int (p : Int)), x9], [0, 0, 0, 0, 1, 0, 0, 0, 0, 0])) ([some (trow m F), some (tb m T), x2, x3, some (.list ((mids m F o).1.map PyData.int)), x5, some (.int (rsum (fun i => rsum (fun j => T i j * absI ((mids m F o).1.getD i 0 - (mids m F o).1.getD j 0)) m) p)), x7, some (.int (p : Int)), x9], [0, 0, 0, 0, 1, 0, 0, 0, 0, 0]) ⟨x9, by simp [rsum]⟩ (by
          rintro q _ hq ⟨x9, rfl⟩
          rw [Int.zero_add]
          refine ⟨_, ?_, some (.int (q : Int)), rfl⟩
          have b := hT p q
          have e1 := ints_ix (M := (mids m F o).1) (k := p) (by omega)
          have e2 := ints_ix (M := (mids m F o).1) (k := q) (by omega)
          have ea : ∀ x : Int, dAbs (.int x) = some (.int (absI x)) := fun x => rfl
          simp only [List.set_cons_zero, List.set_cons_succ]
          rw [sAug_next (x := .int (rsum (fun i => rsum (fun j => T i j * absI ((mids m F o).1.getD i 0 - (mids m F o).1.getD j 0)) m) p + rsum (fun j => T p j * absI ((mids m F o).1.getD p 0 - (mids m F o).1.getD j 0)) q)) (y := .int (T p q * absI ((mids m F o).1.getD p 0 - (mids m F o).1.getD q 0))) (d := .int (rsum (fun i => rsum (fun j => T i j * absI ((mids m F o).1.getD i 0 - (mids m F o).1.getD j 0)) m) p + rsum (fun j => T p j * absI ((mids m F o).1.getD p 0 - (mids m F o).1.getD j 0)) (q + 1))) rfl ?_ ?_]
          · rfl
          · simp only [eOp_a, eIx_a, eCB_a, aCons_a, aNil_a, eVar_0, eVar_s, o2_ss, o1_s, d1_1, tb_ix hp, trow_ix hq, e1, e2, dSub_i, ea]
            exact dMul_i (mulOk_l (by omega))
          · show some _ = some _
            simp only [rsum]
            congr 2
            omega)
      refine ⟨_, ?_, some (.int (p : Int)), x9, rfl⟩
      simp only [List.set_cons_zero, List.set_cons_succ]
      rw [sFor_at (range1_ok (n := m) (by simp) (by omega))]
      exact e)
  refine ⟨x8', x9', ?_⟩
  rw [sFor_at (range1_ok (n := m) (by simp) (by omega))]
  exact e
def lnMid : FS := (sFor (iSeq (eVar 3)) [(3, 0)] (.nm 7)
  (sSeq (sPut 4 (eVar 7) (eOp dAdd (eOp dMul (eC (.int 2)) (eVar 5)) (eIx (eVar 0) (eVar 7))) (([] ++ [(5, 1)]) ++ [(0, 2)]))
  (sAug 5 dAddI (eIx (eVar 0) (eVar 7)))))
theorem lnMid_ok {o : List Nat} (h : IsRow m m o) (x1 x2 x6 x7 x8 x9 : Option D) : ∃ x7', lnMid ([some (trow m F), x1, x2, some (nt o), some (.list ((List.replicate m (0 : Int)).map PyData.int)), some (.int 0), x6, x7, x8, x9], [0, 0, 0, 0, 1, 0, 0, 0, 0, 0])
    = .next ([some (trow m F), x1, x2, some (nt o), some (.list ((mids m F o).1.map PyData.int)), some (.int (mids m F o).2), x6, x7', x8, x9], [0, 0, 0, 0, 1, 0, 0, 0, 0, 0]) := by
  obtain ⟨s', e, x7', rfl⟩ := for_inv (t := .nm 7) (body := (sSeq (sPut 4 (eVar 7) (eOp dAdd (eOp dMul (eC (.int 2)) (eVar 5)) (eIx (eVar 0) (eVar 7))) (([] ++ [(5, 1)]) ++ [(0, 2)]))
  (sAug 5 dAddI (eIx (eVar 0) (eVar 7)))))
    (fun j s => ∃ x7, s = ([some (trow m F), x1, x2, some (nt o), some (.list ((mids m F (o.take j)).1.map PyData.int)), some (.int (mids m F (o.take j)).2), x6, x7, x8, x9], [0, 0, 0, 0, 1, 0, 0, 0, 0, 0])) (o.map nat) 0 ([some (trow m F), x1, x2, some (nt o), some (.list ((List.replicate m (0 : Int)).map PyData.int)), some (.int 0), x6, x7, x8, x9], [0, 0, 0, 0, 1, 0, 0, 0, 0, 0]) ⟨x7, by rw [List.take_zero]; rfl⟩ (by
      rintro j d _ hd ⟨x7, rfl⟩
      rw [Nat.zero_add, List.getElem?_map] at *
      obtain ⟨k, hk, rfl⟩ := Option.map_eq_some_iff.mp hd
      have hkm := h.lt k (List.mem_of_getElem? hk)
      refine ⟨[(7, nat k)], _, rfl, ?_, some (nat k), rfl⟩
      simp only [setsD, zeros, List.foldl_cons, List.foldl_nil, List.set_cons_zero, List.set_cons_succ]
      have ix := trow_ix (f := F) hkm
      rw [sSeq_next (sPut_flat (k := k) (d := .int (2 * (mids m F (o.take j)).2 + F k)) (ds := (mids m F (o.take j)).1.map PyData.int) (by
        simp only [eOp_a, eIx_a, eC_a, eVar_0, eVar_s, o2_ss, nat, ix, dMul_i (mulOk_l (i := 2) (by decide)), dAdd_i]) rfl rfl (by rw [List.length_map, mids_len]; exact hkm) rfl rfl)]
      simp only [List.set_cons_zero, List.set_cons_succ]
      rw [sAug_next (x := .int (mids m F (o.take j)).2) (y := .int (F k)) (d := .int ((mids m F (o.take j)).2 + F k)) rfl (by simp only [eIx_a, eVar_0, eVar_s, o2_ss, nat, ix]) rfl]
      rw [take_snoc hk, mids_snoc, ← List.map_set]
      rfl)
  refine ⟨x7', ?_⟩
  rw [Nat.zero_add, List.length_map, List.take_length] at e
  unfold lnMid
  rw [sFor_at (ds := o.map nat) rfl]
  exact e
def lnBody : FS := (sSeq (sPar3A 4 5 6 (eOp dMul (eLst (aCons (eC (.int 0)) aNil)) (eCB (d1 dLen) (aCons (eVar 0) aNil))) (eC (.int 0)) (eC (.int 0)) (([] ++ []) ++ []))
  (sSeq lnMid
  (sSeq lnSum
  (sIf (tOrD (tIsND (eVar 2)) (tCmp dLt (eVar 6) (eIx (eVar 2) (eC (.int 0)))))
  (sSet 2 0 (eTup (aCons (eVar 6) (aCons (eVar 3) aNil))) ([(6, 0)] ++ ([(3, 0)] ++ [])))
  sNil))))
theorem lnBody_ok (hm : m ≤ 6) (hT : Sml T) {o : List Nat} (h : IsRow m m o) (b : Option (List Nat)) (x4 x5 x6 x7 x8 x9 : Option D) (l4 : Nat) : ∃ x4' x5' x6' x7' x8' x9', lnBody ([some (trow m F), some (tb m T), some (boD (dtc m T F) b), some (nt o), x4, x5, x6, x7, x8, x9], [0, 0, 0, 0, l4, 0, 0, 0, 0, 0])
    = .next ([some (trow m F), some (tb m T), some (boD (dtc m T F) (ofold (ltc (dtc m T F)) b [o])), some (nt o), x4', x5', x6', x7', x8', x9'], [0, 0, 0, 0, 1, 0, 0, 0, 0, 0]) := by
  unfold lnBody
  rw [sSeq_next (s' := ([some (trow m F), some (tb m T), some (boD (dtc m T F) b), some (nt o), some (.list ((List.replicate m (0 : Int)).map PyData.int)), some (.int 0), some (.int 0), x7, x8, x9], [0, 0, 0, 0, 1, 0, 0, 0, 0, 0])) (by
    unfold sPar3A
    have : (eOp dMul (eLst (aCons (eC (.int 0)) aNil)) (eCB (d1 dLen) (aCons (eVar 0) aNil))) [some (trow m F), some (tb m T), some (boD (dtc m T F) b), some (nt o), x4, x5, x6, x7, x8, x9] = some (.list ((List.replicate m (0 : Int)).map PyData.int)) := by
      have e1 : eLst (aCons (eC (.int 0)) aNil) [some (trow m F), some (tb m T), some (boD (dtc m T F) b), some (nt o), x4, x5, x6, x7, x8, x9] = some (.list [.int 0]) := rfl
      simp only [eOp_a, e1, eCB_a, aCons_a, aNil_a, eVar_0, o2_ss, o1_s, d1_1, trow_len, rep_zero (show m ≤ 16777216 by omega)]
    simp only [this]
    rfl)]
  obtain ⟨x7', e1⟩ := lnMid_ok (F := F) h (some (tb m T)) (some (boD (dtc m T F) b)) (some (.int 0)) x7 x8 x9
  rw [sSeq_next e1]
  obtain ⟨x8', x9', e2⟩ := lnSum_ok (F := F) hm hT o (some (boD (dtc m T F) b)) (some (nt o)) (some (.int (mids m F o).2)) x7' x8 x9
  rw [sSeq_next e2]
  refine ⟨some (.list ((mids m F o).1.map PyData.int)), some (.int (mids m F o).2), some (.int (dtc m T F o)), x7', x8', x9', ?_⟩
  have ht := best_test (c := dtc m T F) (b := b) (o := o) (i := 2) (j := 6) (ρ := [some (trow m F), some (tb m T), some (boD (dtc m T F) b), some (nt o), some (.list ((mids m F o).1.map PyData.int)), some (.int (mids m F o).2), some (.int (dtc m T F o)), x7', x8', x9']) rfl rfl
  rw [best_one]
  generalize hq : wins (dtc m T F) b o = q at ht ⊢
  cases q with
  | true =>
    rw [sIf_tt ht, sSet_flat (d := co (dtc m T F) o) rfl (co_flat _ _)]
    rfl
  | false =>
    rw [sIf_ff ht]
    rfl
theorem law_line_ok (hm : m ≤ 6) (hT : Sml T) : den__law_line [trow m F, tb m T] = some (.tuple [rt (Rat.divInt (dtc m T F (bestO (dtc m T F) m)) 2), nt (bestO (dtc m T F) m)]) := by
  refine dfun_ret [some (trow m F), some (tb m T), none, none, none, none, none, none, none, none] [0, 0, 0, 0, 0, 0, 0, 0, 0, 0] rfl rfl rfl ?_
  rw [sSeq_next (sSet_flat (d := .none) rfl rfl)]
  simp only [List.set_cons_zero, List.set_cons_succ]
  have hi : iSeq (eCall 1 den__law_orders (aCons (eCB (d1 dLen) (aCons (eVar 0) aNil)) aNil)) [some (trow m F), some (tb m T), some .none, none, none, none, none, none, none, none] = some ((ords m m).map nt) := by
    simp only [iSeq_a, eCall_1, eCB_a, aCons_a, aNil_a, eVar_0, o2_ss, o1_s, d1_1, trow_len, law_orders_ok hm]
    rfl
  obtain ⟨s', e, x3, x4, x5, x6, x7, x8, x9, l4, rfl⟩ := for_inv (t := .nm 3) (body := lnBody)
    (fun j s => ∃ x3 x4 x5 x6 x7 x8 x9 l4, s = ([some (trow m F), some (tb m T), some (boD (dtc m T F) (ofold (ltc (dtc m T F)) none ((ords m m).take j))), x3, x4, x5, x6, x7, x8, x9], [0, 0, 0, 0, l4, 0, 0, 0, 0, 0])) ((ords m m).map nt) 0 ([some (trow m F), some (tb m T), some .none, none, none, none, none, none, none, none], [0, 0, 0, 0, 0, 0, 0, 0, 0, 0]) ⟨none, none, none, none, none, none, none, 0, by rw [List.take_zero]; rfl⟩ (by
      rintro j d _ hd ⟨x3, x4, x5, x6, x7, x8, x9, l4, rfl⟩
      rw [Nat.zero_add, List.getElem?_map] at *
      obtain ⟨o, ho, rfl⟩ := Option.map_eq_some_iff.mp hd
      have hr := mem_ords.mp (List.mem_of_getElem? ho)
      obtain ⟨x4', x5', x6', x7', x8', x9', e⟩ := lnBody_ok (F := F) hm hT hr (ofold (ltc (dtc m T F)) none ((ords m m).take j)) x4 x5 x6 x7 x8 x9 l4
      refine ⟨[(3, nt o)], _, rfl, e, some (nt o), x4', x5', x6', x7', x8', x9', 1, ?_⟩
      rw [take_snoc ho, ofold_app])
  rw [Nat.zero_add, List.length_map, List.take_length, best_all] at e
  unfold lnBody lnMid lnSum at e
  rw [sSeq_next (by
    rw [sFor_at hi]
    exact e)]
  refine sRet_ok ?_
  have ix0 : dIx (co (dtc m T F) (bestO (dtc m T F) m)) (.int 0) = some (.int (dtc m T F (bestO (dtc m T F) m))) := rfl
  have ix1 : dIx (co (dtc m T F) (bestO (dtc m T F) m)) (.int 1) = some (nt (bestO (dtc m T F) m)) := rfl
  have e := ratio_ok (a := dtc m T F (bestO (dtc m T F) m)) (b := 2) (k := 5) (by decide) (by decide) (by decide)
  simp only [eTup, aCons_a, aNil_a, eCall_2, eIx_a, eVar_0, eVar_s, eC_a, o1_s, o2_ss, boD, ix0, ix1, e]
  rfl
end
end Lib
end

section
set_option Elab.async false
set_option linter.all false
/-! Plain: tasks: the first of the fairest, taking turns, sharing by loads. -/
namespace Lib
/-! ### the first of the least -/
theorem shr_sorted (n : Nat) : ∀ k, (shr n k).Pairwise fun a b => llt a b = true
  | 0 => by simp [shr]
  | k + 1 => by
    show ((shr n k).flatMap _).Pairwise _
    rw [List.pairwise_flatMap]
    refine ⟨?_, ?_⟩
    · intro row _
      rw [List.pairwise_map]
      refine List.Pairwise.imp ?_ (List.pairwise_lt_range (n := n))
      intro a b hab
      refine llt_app_r row ?_
      unfold llt
      rw [if_neg (by omega)]
      exact decide_eq_true hab
    · refine List.Pairwise.imp_of_mem ?_ (shr_sorted n k)
      intro a b ha hb hab x hx y hy
      simp only [List.mem_map] at hx hy
      obtain ⟨i, _, rfl⟩ := hx
      obtain ⟨j, _, rfl⟩ := hy
      exact llt_app_l _ _ (by rw [(mem_shr.mp ha).len, (mem_shr.mp hb).len]) hab
def bestL (c : List Nat → Int) (n m : Nat) : List Nat := match shr n m with
  | [] => []
  | x :: xs => fmin (ltc c) x xs
theorem bestL_all (c : List Nat → Int) {n m : Nat} (h : 1 ≤ n) : ofold (ltc c) none (shr n m) = some (bestL c n m) := by
  unfold bestL
  cases e : shr n m with
  | nil => exact absurd e (shr_ne h)
  | cons x xs => exact ofold_cons _ x xs
theorem bestL_is (c : List Nat → Int) {n m : Nat} (h : 1 ≤ n) : IsShr n m (bestL c n m) := by
  refine mem_shr.mp ?_
  unfold bestL
  cases e : shr n m with
  | nil => exact absurd e (shr_ne h)
  | cons x xs => exact fmin_mem _ xs x
/-- less, or as much and ahead -/
def ltl (c : List Nat → Int) (a b : List Nat) : Bool := if c a = c b then llt a b else decide (c a < c b)
theorem ltl_iff (c : List Nat → Int) (a b : List Nat) : ltl c a b = true ↔ c a < c b ∨ (c a = c b ∧ llt a b = true) := by
  unfold ltl
  split
  · rename_i h; simp [h]
  · rename_i h; simp only [decide_eq_true_eq]; constructor
    · exact .inl
    · rintro (h' | ⟨h', _⟩)
      · exact h'
      · exact absurd h' h
theorem ltl_tr (c : List Nat → Int) {a b d : List Nat} (h : ltl c a b = true) (h' : ltl c b d = true) : ltl c a d = true := by
  rw [ltl_iff] at *
  rcases h with h | ⟨h1, h2⟩ <;> rcases h' with h' | ⟨h1', h2'⟩
  · left; omega
  · left; omega
  · left; omega
  · right; exact ⟨by omega, llt_trans h2 h2'⟩
theorem ltl_ir (c : List Nat → Int) (a : List Nat) : ltl c a a = false := by
  unfold ltl
  rw [if_pos rfl, llt_irrefl]
theorem llt_co {a b : List Nat} (d : List Nat) (h : llt a b = true) : llt a d = true ∨ llt d b = true := by
  cases q : llt a d with
  | true => exact .inl rfl
  | false =>
    cases q' : llt d b with
    | true => exact .inr rfl
    | false =>
      cases r : llt d a with
      | true => rw [llt_trans r h] at q'; cases q'
      | false =>
        have := llt_tri _ _ q r
        subst this
        rw [h] at q'; cases q'
theorem ltl_co (c : List Nat → Int) {a b : List Nat} (d : List Nat) (h : ltl c a b = true) : ltl c a d = true ∨ ltl c d b = true := by
  rw [ltl_iff, ltl_iff]
  rw [ltl_iff] at h
  rcases h with h | ⟨h1, h2⟩
  · by_cases q : c a < c d
    · exact .inl (.inl q)
    · exact .inr (.inl (by omega))
  · by_cases q : c a < c d
    · exact .inl (.inl q)
    · by_cases q' : c a = c d
      · rcases llt_co d h2 with r | r
        · exact .inl (.inr ⟨q', r⟩)
        · exact .inr (.inr ⟨by omega, r⟩)
      · exact .inr (.inl (by omega))
theorem ltl_tri (c : List Nat → Int) {a b : List Nat} (h : ltl c a b = false) (h' : ltl c b a = false) : a = b := by
  have n1 : ¬ (c a < c b ∨ (c a = c b ∧ llt a b = true)) := fun q => by rw [(ltl_iff c a b).mpr q] at h; cases h
  have n2 : ¬ (c b < c a ∨ (c b = c a ∧ llt b a = true)) := fun q => by rw [(ltl_iff c b a).mpr q] at h'; cases h'
  have e : c a = c b := by
    rcases Int.lt_or_le (c a) (c b) with q | q
    · exact absurd (.inl q) n1
    · rcases Int.lt_or_le (c b) (c a) with q' | q'
      · exact absurd (.inl q') n2
      · omega
  refine llt_tri a b ?_ ?_
  · cases q : llt a b with
    | false => rfl
    | true => exact absurd (.inr ⟨e, q⟩) n1
  · cases q : llt b a with
    | false => rfl
    | true => exact absurd (.inr ⟨e.symm, q⟩) n2
theorem bestL_first (c : List Nat → Int) {n m : Nat} (h : 1 ≤ n) {o : List Nat} (ho : IsShr n m o) : ltl c o (bestL c n m) = false := by
  have hm := mem_shr.mpr ho
  have hs := shr_sorted n m
  unfold bestL
  cases e : shr n m with
  | nil => exact absurd e (shr_ne h)
  | cons x xs =>
    rw [e] at hm hs
    have k := fmin_key (lt := ltl c) (c := c) xs x (hs.imp fun {a b} hab => by
      have nb : llt b a = false := by
        cases q : llt b a with
        | false => rfl
        | true => have := llt_trans hab q; rw [llt_irrefl] at this; cases this
      unfold ltl
      split
      · rename_i q; rw [nb]; exact (decide_eq_false (by omega)).symm
      · rfl)
    show ltl c o (fmin (ltc c) x xs) = false
    have k' : fmin (ltc c) x xs = fmin (ltl c) x xs := k.symm
    rw [k']
    exact fmin_le (lt := ltl c) (fun {a b d} => ltl_tr c) (fun {a b d} hh => ltl_co c d hh) (ltl_ir c) xs x o hm
/-- the loads of the persons, the greatest one -/
def top (n : Nat) (W : Nat → Nat → Int) (m : Nat) (s : List Nat) : Int := imax 0 (sums n W s m)
/-! ### a list of keys and rows -/
abbrev AL := List (List Int × List Nat)
def aget (l : AL) (k : List Int) : Option (List Nat) := (l.find? fun p => decide (p.1 = k)).map (·.2)
def aput (l : AL) (k : List Int) (v : List Nat) : AL := if (l.any fun p => decide (p.1 = k)) = true then l.map fun p => if decide (p.1 = k) = true then (p.1, v) else p else l ++ [(k, v)]
theorem aget_any (l : AL) (k : List Int) : (l.any fun p => decide (p.1 = k)) = (aget l k).isSome := by
  unfold aget
  induction l with
  | nil => rfl
  | cons p l ih =>
    rw [List.any_cons, ih, List.find?_cons]
    cases decide (p.1 = k) <;> rfl
theorem aget_map (l : AL) (k j : List Int) (v : List Nat) : aget (l.map fun p => if decide (p.1 = k) = true then (p.1, v) else p) j = if j = k then (aget l j).map fun _ => v else aget l j := by
  unfold aget
  induction l with
  | nil => split <;> rfl
  | cons p l ih =>
    rw [List.map_cons, List.find?_cons, List.find?_cons]
    by_cases h : p.1 = k
    · rw [decide_eq_true h, if_pos rfl]
      by_cases hj : p.1 = j
      · have : j = k := by rw [← hj, h]
        simp [hj, this]
      · have hj' : decide (p.1 = j) = false := decide_eq_false hj
        simp only [hj']
        exact ih
    · rw [decide_eq_false h, if_neg (by decide)]
      by_cases hj : p.1 = j
      · have : ¬ j = k := fun q => h (by rw [hj, q])
        simp [hj, this]
      · have hj' : decide (p.1 = j) = false := decide_eq_false hj
        simp only [hj']
        exact ih
theorem aget_put (l : AL) (k j : List Int) (v : List Nat) : aget (aput l k v) j = if j = k then some v else aget l j := by
  unfold aput
  split
  · rename_i h
    rw [aget_map]
    split
    · rename_i e
      subst e
      rw [aget_any] at h
      obtain ⟨r, hr⟩ := Option.isSome_iff_exists.mp h
      rw [hr]; rfl
    · rfl
  · rename_i h
    rw [aget_any, Bool.not_eq_true] at h
    have hn : aget l k = none := by cases e : aget l k with
      | none => rfl
      | some r => rw [e] at h; cases h
    unfold aget at hn ⊢
    rw [List.find?_append]
    by_cases e : j = k
    · subst e
      rw [if_pos rfl]
      have : l.find? (fun p => decide (p.1 = j)) = none := by
        cases q : l.find? (fun p => decide (p.1 = j)) with
        | none => rfl
        | some r => rw [q] at hn; cases hn
      rw [this]
      simp
    · rw [if_neg e]
      have : ¬ k = j := fun q => e q.symm
      simp [this]
theorem aput_len (l : AL) (k : List Int) (v : List Nat) : (aput l k v).length ≤ l.length + 1 := by
  unfold aput
  split
  · rw [List.length_map]; omega
  · rw [List.length_append]; simp
theorem aget_keys {l : AL} {k : List Int} (h : k ∈ l.map (·.1)) : ∃ r, aget l k = some r := by
  refine Option.isSome_iff_exists.mp ?_
  rw [← aget_any, List.any_eq_true]
  obtain ⟨p, hp, e⟩ := List.mem_map.mp h
  exact ⟨p, hp, decide_eq_true e⟩
theorem keys_aget {l : AL} {k : List Int} {r : List Nat} (h : aget l k = some r) : k ∈ l.map (·.1) := by
  have : (l.any fun p => decide (p.1 = k)) = true := by rw [aget_any, h]; rfl
  obtain ⟨p, hp, e⟩ := List.any_eq_true.mp this
  exact List.mem_map.mpr ⟨p, hp, of_decide_eq_true e⟩
/-- keep the first row in order -/
def gwin (g : AL) (p : List Int × List Nat) : Bool := match aget g p.1 with
  | none => true
  | some r => llt p.2 r
def gstep (g : AL) (p : List Int × List Nat) : AL := if gwin g p = true then aput g p.1 p.2 else g
theorem gstep_get (g : AL) (p : List Int × List Nat) (k : List Int) : aget (gstep g p) k = if p.1 = k then ofold llt (aget g k) [p.2] else aget g k := by
  unfold gstep gwin
  by_cases h : p.1 = k
  · subst h
    rw [if_pos rfl, ofold_one]
    cases e : aget g p.1 with
    | none => rw [if_pos rfl, aget_put, if_pos rfl]
    | some r =>
      show aget (if llt p.2 r = true then aput g p.1 p.2 else g) p.1 = if llt p.2 r = true then some p.2 else some r
      split
      · rw [aget_put, if_pos rfl]
      · exact e
  · rw [if_neg h]
    have h' : ¬ k = p.1 := fun q => h q.symm
    generalize (match aget g p.1 with
      | none => true
      | some r => llt p.2 r) = q
    cases q with
    | true => rw [if_pos rfl, aget_put, if_neg h']
    | false => rfl
theorem gfold_get : ∀ (P : AL) (g : AL) (k : List Int), aget (P.foldl gstep g) k = ofold llt (aget g k) ((P.filter fun p => decide (p.1 = k)).map (·.2))
  | [], g, k => rfl
  | p :: P, g, k => by
    rw [List.foldl_cons, gfold_get P, gstep_get]
    by_cases h : p.1 = k
    · rw [if_pos h, List.filter_cons_of_pos (by exact decide_eq_true h), List.map_cons, ← ofold_app]
      rfl
    · rw [if_neg h, List.filter_cons_of_neg (by simpa using h)]
theorem gfold_len : ∀ (P : AL) (g : AL), (P.foldl gstep g).length ≤ g.length + P.length
  | [], g => by simp
  | p :: P, g => by
    rw [List.foldl_cons]
    have := gfold_len P (gstep g p)
    have h : (gstep g p).length ≤ g.length + 1 := by
      unfold gstep
      split
      · exact aput_len _ _ _
      · omega
    rw [List.length_cons]
    omega
theorem ofold_ne {l : List (List Nat)} (h : l ≠ []) : ∃ r, ofold llt none l = some r ∧ r ∈ l ∧ ∀ x ∈ l, llt x r = false := by
  cases l with
  | nil => exact absurd rfl h
  | cons x xs =>
    refine ⟨_, ofold_cons _ x xs, fmin_mem _ xs x, ?_⟩
    exact fmin_le (lt := llt) (fun {a b c} => llt_trans) (fun {a b c} hh => llt_co c hh) llt_irrefl xs x
/-! ### sharing by loads -/
section
variable {n : Nat} {f : Nat → Int}
def inc (L : List Int) (i : Nat) (x : Int) : List Int := L.set i (L.getD i 0 + x)
/-- the round of one length -/
def rnd (n : Nat) (b : AL) (x : Int) : AL := (b.map (·.1)).flatMap fun L => (List.range n).map fun i => (inc L i x, (aget b L).getD [] ++ [i])
def dps (n : Nat) (f : Nat → Int) : Nat → AL
  | 0 => [(List.replicate n 0, [])]
  | k + 1 => (rnd n (dps n f k) (f k)).foldl gstep []
def lds (n : Nat) (f : Nat → Int) (s : List Nat) (k : Nat) : List Int := sums n (fun _ => f) s k
theorem sw_app {s : List Nat} {i p : Nat} : ∀ {k : Nat}, k ≤ s.length → sw f k (s ++ [i]) p = sw f k s p
  | 0, _ => rfl
  | k + 1, h => by
    show sw f k (s ++ [i]) p + (if (s ++ [i]).getD k 0 = p then f k else 0) = sw f k s p + (if s.getD k 0 = p then f k else 0)
    rw [sw_app (k := k) (by omega)]
    have : (s ++ [i]).getD k 0 = s.getD k 0 := by
      rw [List.getD_eq_getElem?_getD, List.getD_eq_getElem?_getD, List.getElem?_append_left (by omega)]
    rw [this]
theorem lds_len (s : List Nat) (k : Nat) : (lds n f s k).length = n := by simp [lds, sums]
theorem lds_snoc {s : List Nat} {i k : Nat} (hl : s.length = k) (hi : i < n) : lds n f (s ++ [i]) (k + 1) = inc (lds n f s k) i (f k) := by
  have e : (s ++ [i]).getD k 0 = i := by
    rw [List.getD_eq_getElem?_getD, List.getElem?_append_right (by omega)]
    simp [hl]
  unfold lds
  rw [← sums_set (W := fun _ => f) e]
  have a : sums n (fun _ => f) (s ++ [i]) k = sums n (fun _ => f) s k := by
    unfold sums
    refine List.map_congr_left fun p _ => ?_
    exact sw_app (by omega)
  rw [a]
  unfold inc
  congr 2
  rw [sw_app (by omega)]
  unfold sums
  rw [List.getD_eq_getElem?_getD, List.getElem?_map, List.getElem?_range hi]
  rfl
theorem dps_ok : ∀ k : Nat, (∀ L r, aget (dps n f k) L = some r → IsShr n k r ∧ lds n f r k = L ∧ ∀ r', IsShr n k r' → lds n f r' k = L → llt r' r = false) ∧ (∀ r, IsShr n k r → ∃ r0, aget (dps n f k) (lds n f r k) = some r0)
  | 0 => by
    have e0 : ∀ s : List Nat, lds n f s 0 = List.replicate n 0 := by
      intro s
      refine List.eq_replicate_iff.mpr ⟨lds_len _ _, ?_⟩
      intro x hx
      obtain ⟨p, _, rfl⟩ := List.mem_map.mp hx
      rfl
    refine ⟨?_, ?_⟩
    · intro L r h
      have hL : L = List.replicate n 0 := by
        have := keys_aget h
        simpa [dps] using this
      subst hL
      have hr : r = [] := by
        unfold aget dps at h
        simp at h
        exact h
      subst hr
      refine ⟨⟨rfl, by simp⟩, e0 _, ?_⟩
      intro r' h' _
      have := List.length_eq_zero_iff.mp h'.len
      subst this
      rfl
    · intro r _
      rw [e0]
      exact ⟨[], by simp [aget, dps]⟩
  | k + 1 => by
    obtain ⟨A, B⟩ := dps_ok k
    have mem : ∀ (L : List Int) (r : List Nat), (L, r) ∈ rnd n (dps n f k) (f k) ↔ ∃ q i, i < n ∧ aget (dps n f k) (lds n f q k) = some q ∧ IsShr n k q ∧ r = q ++ [i] ∧ L = lds n f r (k + 1) := by
      intro L r
      unfold rnd
      rw [List.mem_flatMap]
      constructor
      · rintro ⟨L0, h0, h1⟩
        obtain ⟨i, hi, h1⟩ := List.mem_map.mp h1
        rw [List.mem_range] at hi
        injection h1 with h1 h2
        subst h1 h2
        obtain ⟨q, hq⟩ := aget_keys h0
        obtain ⟨s1, s2, _⟩ := A _ _ hq
        rw [hq]
        refine ⟨q, i, hi, by rw [s2]; exact hq, s1, rfl, ?_⟩
        show _ = lds n f (q ++ [i]) (k + 1)
        rw [lds_snoc s1.len hi, s2]
      · rintro ⟨q, i, hi, hq, s1, rfl, rfl⟩
        refine ⟨_, keys_aget hq, List.mem_map.mpr ⟨i, List.mem_range.mpr hi, ?_⟩⟩
        rw [lds_snoc s1.len hi, hq]
        rfl
    have get : ∀ L, aget (dps n f (k + 1)) L = ofold llt none (((rnd n (dps n f k) (f k)).filter fun p => decide (p.1 = L)).map (·.2)) := fun L => gfold_get _ [] L
    have memf : ∀ L r, r ∈ ((rnd n (dps n f k) (f k)).filter fun p => decide (p.1 = L)).map (·.2) ↔ (L, r) ∈ rnd n (dps n f k) (f k) := by
      intro L r
      simp only [List.mem_map, List.mem_filter, decide_eq_true_eq]
      constructor
      · rintro ⟨⟨a, b⟩, ⟨h, rfl⟩, rfl⟩; exact h
      · intro h; exact ⟨_, ⟨h, rfl⟩, rfl⟩
    -- a row of k + 1 has one at least as early among those tried
    have early : ∀ r', IsShr n (k + 1) r' → ∃ r0, (lds n f r' (k + 1), r0) ∈ rnd n (dps n f k) (f k) ∧ llt r' r0 = false := by
      intro r' h'
      obtain ⟨q, hq, i, hi, rfl⟩ : ∃ q, IsShr n k q ∧ ∃ i, i < n ∧ r' = q ++ [i] := by
        have := mem_shr.mpr h'
        have : r' ∈ (shr n k).flatMap _ := this
        simp only [List.mem_flatMap, List.mem_map, List.mem_range] at this
        obtain ⟨q, hq, i, hi, e⟩ := this
        exact ⟨q, mem_shr.mp hq, i, hi, e.symm⟩
      obtain ⟨q0, h0⟩ := B q hq
      obtain ⟨a1, a2, a3⟩ := A _ _ h0
      refine ⟨q0 ++ [i], (mem _ _).mpr ⟨q0, i, hi, by rw [a2]; exact h0, a1, rfl, ?_⟩, ?_⟩
      · rw [lds_snoc hq.len hi, lds_snoc a1.len hi, a2]
      · have h1 := a3 q hq rfl
        cases e : llt (q ++ [i]) (q0 ++ [i]) with
        | false => rfl
        | true =>
          exfalso
          cases e2 : llt q0 q with
          | true =>
            have := llt_app_l [i] [i] (by rw [a1.len, hq.len]) e2
            have := llt_trans this e
            rw [llt_irrefl] at this
            cases this
          | false =>
            have := llt_tri _ _ e2 h1
            subst this
            rw [llt_irrefl] at e
            cases e
    refine ⟨?_, ?_⟩
    · intro L r h
      rw [get] at h
      have hne : ((rnd n (dps n f k) (f k)).filter fun p => decide (p.1 = L)).map (·.2) ≠ [] := by
        intro e
        rw [e] at h
        cases h
      obtain ⟨r1, h1, h2, h3⟩ := ofold_ne hne
      rw [h1] at h
      cases h
      obtain ⟨q, i, hi, hq, s1, e1, e2⟩ := (mem _ _).mp ((memf _ _).mp h2)
      refine ⟨mem_shr.mp (by
        show _ ∈ (shr n k).flatMap _
        simp only [List.mem_flatMap, List.mem_map, List.mem_range]
        exact ⟨q, mem_shr.mpr s1, i, hi, e1.symm⟩), e2.symm, ?_⟩
      intro r' h' e'
      obtain ⟨r0, m0, l0⟩ := early r' h'
      rw [e'] at m0
      have h4 := h3 r0 ((memf _ _).mpr m0)
      cases e : llt r' r with
      | false => rfl
      | true =>
        rcases llt_co r0 e with x | x
        · rw [x] at l0; cases l0
        · rw [x] at h4; cases h4
    · intro r' h'
      obtain ⟨r0, m0, l0⟩ := early r' h'
      rw [get]
      obtain ⟨r1, h1, _⟩ := ofold_ne (List.ne_nil_of_mem ((memf _ _).mpr m0))
      exact ⟨r1, h1⟩
theorem dps_small : ∀ k : Nat, (dps n f k).length ≤ n ^ k
  | 0 => by simp [dps]
  | k + 1 => by
    have h := gfold_len (rnd n (dps n f k) (f k)) []
    have e : (rnd n (dps n f k) (f k)).length = (dps n f k).length * n := by
      unfold rnd
      have go : ∀ l : List (List Int), (l.flatMap fun L => (List.range n).map fun i => (inc L i (f k), (aget (dps n f k) L).getD [] ++ [i])).length = l.length * n := by
        intro l
        induction l with
        | nil => simp
        | cons a l ih => rw [List.flatMap_cons, List.length_append, ih, List.length_map, List.length_range, List.length_cons, Nat.succ_mul, Nat.add_comm]
      rw [go, List.length_map]
    rw [e, List.length_nil, Nat.zero_add] at h
    show ((rnd n (dps n f k) (f k)).foldl gstep []).length ≤ _
    have := Nat.mul_le_mul_right n (dps_small k)
    rw [Nat.pow_succ]
    omega
end
end Lib
end

section
set_option Elab.async false
set_option linter.all false
set_option maxRecDepth 10000
/-! k53: best_sharing by loads. -/
namespace Lib
open DS PySem
def den_best_sharing : Fn := dfun 9 2 (sSeq (sSet 2 0 (eOp dD1 (eOp dMulT (eTup (aCons (eC (.int 0)) aNil)) (eVar 1)) (eTup aNil)) [])
  (sSeq (sFor (iSeq (eVar 0)) [(0, 0)] (.nm 3)
  (sSeq (sSet 4 1 eD0 [])
  (sSeq (sFor (iDk (eVar 2)) [(2, 0)] (.nm 5)
  (sFor (iRange1 (eVar 1)) [] (.nm 6)
  (sSeq (sSet 7 0 (eOp dAdd (eOp dAdd (eSl (eVar 5) oNone (oSome (eVar 6))) (eTup (aCons (eOp dAdd (eIx (eVar 5) (eVar 6)) (eVar 3)) aNil))) (eSl (eVar 5) (oSome (eOp dAdd (eVar 6) (eC (.int 1)))) oNone)) (([(5, 1)] ++ (([(5, 2)] ++ [(3, 1)]) ++ [])) ++ [(5, 1)]))
  (sSeq (sSet 8 0 (eOp dAdd (eOp dGetD (eVar 2) (eVar 5)) (eTup (aCons (eVar 6) aNil))) ([(2, 1)] ++ ([(6, 0)] ++ [])))
  (sIf (tOrD (tCmp dNotInD (eVar 7) (eVar 4)) (tCmp dLt (eVar 8) (eOp dGetD (eVar 4) (eVar 7))))
  (sPutD 4 (eVar 7) (eVar 8))
  sNil)))))
  (sSet 2 0 (eVar 4) [(4, 0)]))))
  (sRet (eCB (d1 dMin1) (aCons (eLc (iDk (eVar 2)) (.nm 5) tTrue (eTup (aCons (eCB (d1 dMax1) (aCons (eVar 5) aNil)) (aCons (eOp dGetD (eVar 2) (eVar 5)) aNil))) [5]) aNil)))))
/-! tuples of integers, dicts of them -/
def it (l : List Int) : D := .tuple (l.map PyData.int)
def ddl (l : AL) : List (D × D) := l.map fun p => (it p.1, nt p.2)
def dd (l : AL) : D := .dict (ddl l)
theorem it_key (l : List Int) : it l = .tuple ((l.map (Sum.inl : Int → L2.Key)).map keyD) := by
  unfold it
  rw [List.map_map]
  rfl
theorem it_flat (l : List Int) : flat (it l) = true := by
  have : ∀ l : List Int, flats (l.map PyData.int) = true := by
    intro l
    induction l with
    | nil => rfl
    | cons a l ih => simpa [flats, flat] using ih
  simpa [it, flat] using this l
theorem it_keyK (l : List Int) : (keyK (it l)).isSome = true := by
  have : ∀ l : List Int, ∃ ks, keysOf (l.map PyData.int) = some ks := by
    intro l
    induction l with
    | nil => exact ⟨[], rfl⟩
    | cons a l ih =>
      obtain ⟨ks, e⟩ := ih
      exact ⟨.inl a :: ks, by rw [List.map_cons, keysOf, e]; rfl⟩
  obtain ⟨ks, e⟩ := this l
  show ((keysOf (l.map PyData.int)).map Sum.inr : Option (L2.Key ⊕ List L2.Key)).isSome = true
  rw [e]; rfl
theorem it_eqv (a b : List Int) : PyData.eqv (it a) (it b) = decide (a = b) := by
  rw [it_key, it_key, eqv_keys, decide_eq_decide]
  constructor
  · intro h
    exact List.map_inj_right (fun _ _ e => Sum.inl.inj e) |>.mp h
  · intro h; rw [h]
theorem kind_dd (l : AL) (k : List Int) : kindOk (ddl l) (it k) = true := by
  cases l with
  | nil => exact it_keyK k
  | cons p l =>
    show ((keyK (it k)).isSome && !noneD (it p.1) && (isT (it p.1) == isT (it k))) = true
    rw [it_keyK]
    rfl
theorem find_dd (l : AL) (k : List Int) : dFind (ddl l) (it k) = (aget l k).map nt := by
  unfold dFind aget ddl
  rw [List.find?_map]
  have : ((fun p : D × D => PyData.eqv p.1 (it k)) ∘ fun p : List Int × List Nat => (it p.1, nt p.2)) = fun p => decide (p.1 = k) := by
    funext p
    exact it_eqv p.1 k
  rw [this]
  cases l.find? fun p => decide (p.1 = k) <;> rfl
theorem get_dd {l : AL} {k : List Int} {r : List Nat} (h : aget l k = some r) : dGetD (dd l) (it k) = some (nt r) := by
  show (if kindOk (ddl l) (it k) = true then dFind (ddl l) (it k) else none) = _
  rw [if_pos (kind_dd l k), find_dd, h]
  rfl
theorem notin_dd (l : AL) (k : List Int) : dNotInD (it k) (dd l) = some (!(aget l k).isSome) := by
  show o1 (if kindOk (ddl l) (it k) = true then some (dFind (ddl l) (it k)).isSome else none) _ = _
  rw [if_pos (kind_dd l k), o1_s, find_dd]
  cases aget l k <;> rfl
theorem put_dd (l : AL) (k : List Int) (v : List Nat) : putD (ddl l) (it k) (nt v) = ddl (aput l k v) := by
  have e : ((ddl l).any fun p => PyData.eqv p.1 (it k)) = l.any fun p => decide (p.1 = k) := by
    unfold ddl
    rw [List.any_map]
    congr 1
    funext p
    exact it_eqv p.1 k
  unfold putD aput
  rw [e]
  split
  · unfold ddl
    rw [List.map_map, List.map_map]
    refine List.map_congr_left fun p _ => ?_
    show (if PyData.eqv (it p.1) (it k) = true then (it p.1, nt v) else (it p.1, nt p.2)) = _
    rw [it_eqv]
    show _ = (fun p : List Int × List Nat => (it p.1, nt p.2)) (if decide (p.1 = k) = true then (p.1, v) else p)
    split <;> rfl
  · unfold ddl
    rw [List.map_append]
    rfl
theorem keys_dd (l : AL) : keysD (dd l) = some ((l.map (·.1)).map it) := by
  cases l with
  | nil => rfl
  | cons p l =>
    show some ((ddl (p :: l)).map (·.1)) = _
    unfold ddl
    rw [List.map_map, List.map_map]
    rfl
theorem it_ix {l : List Int} {i : Nat} (h : i < l.length) : dIx (it l) (.int i) = some (.int (l.getD i 0)) := by
  show L2.atI (l.map PyData.int) (i : Int) = _
  rw [atI_mp h]
  simp [List.getD_eq_getElem?_getD, h]
theorem it_cut {l : List Int} {i : Nat} (h : i ≤ l.length) : dSlice none (some (i : Int)) (it l) = some (it (l.take i)) := by
  show some (PyData.tuple (cutD (l.map PyData.int) none (some (i : Int)))) = _
  unfold cutD
  rw [HT.sIx_none, HT.sIx_nat, List.length_map, Nat.min_eq_left h, List.drop_zero, Nat.sub_zero, ← List.map_take]
  rfl
theorem it_cut2 {l : List Int} {i : Nat} (h : i ≤ l.length) : dSlice (some (i : Int)) none (it l) = some (it (l.drop i)) := by
  show some (PyData.tuple (cutD (l.map PyData.int) (some (i : Int)) none)) = _
  unfold cutD
  rw [HT.sIx_none, HT.sIx_nat, List.length_map, Nat.min_eq_left h, ← List.map_drop, List.take_of_length_le (by simp)]
  rfl
theorem it_cat {a b : List Int} (h : a.length + b.length ≤ 16777216) : dAdd (it a) (it b) = some (it (a ++ b)) := by
  show (if (a.map PyData.int).length + (b.map PyData.int).length ≤ sz then _ else _) = _
  rw [if_pos (by rw [List.length_map, List.length_map]; exact h), ← List.map_append]
  rfl
theorem inc_eq {l : List Int} {i : Nat} (h : i < l.length) (x : Int) : l.take i ++ [l.getD i 0 + x] ++ l.drop (i + 1) = inc l i x := by
  unfold inc
  rw [List.set_eq_take_append_cons_drop, if_pos h]
  simp
def bsIn : FS := (sSeq (sSet 7 0 (eOp dAdd (eOp dAdd (eSl (eVar 5) oNone (oSome (eVar 6))) (eTup (aCons (eOp dAdd (eIx (eVar 5) (eVar 6)) (eVar 3)) aNil))) (eSl (eVar 5) (oSome (eOp dAdd (eVar 6) (eC (.int 1)))) oNone)) (([(5, 1)] ++ (([(5, 2)] ++ [(3, 1)]) ++ [])) ++ [(5, 1)]))
  (sSeq (sSet 8 0 (eOp dAdd (eOp dGetD (eVar 2) (eVar 5)) (eTup (aCons (eVar 6) aNil))) ([(2, 1)] ++ ([(6, 0)] ++ [])))
  (sIf (tOrD (tCmp dNotInD (eVar 7) (eVar 4)) (tCmp dLt (eVar 8) (eOp dGetD (eVar 4) (eVar 7))))
  (sPutD 4 (eVar 7) (eVar 8))
  sNil)))
theorem sPutD_ok {i : Nat} {j f : FE} {ρ : PEnv} {L : List Nat} {es : List (D × D)} {k d : D} (h : f ρ = some d) (hi : eVar i ρ = some (.dict es)) (hj : j ρ = some k) (hd : flat d = true) (hk : kindOk es k = true) (hz : es.length < 16777216) (hL : lv L i = 1) : sPutD i j f (ρ, L) = .next (ρ.set i (some (.dict (putD es k d))), L) := by
  unfold sPutD
  have : es.length < sz := hz
  simp only [h, hi, hj, hd, hk, hL, decide_eq_true this, decide_true, Bool.and_true, if_true]
theorem cmp_nt (a b : List Nat) : dLt (nt a) (nt b) = some (llt a b) := by
  show (if cmpOk (nt a) (nt b) = true then some (PySem.W.dataLt (nt a) (nt b)) else none) = _
  rw [dataLt_nt, if_pos]
  unfold cmpOk
  have := depth_nt a
  have := depth_nt b
  simp [lay_nt, alike_nt, show noneD (nt a) = false from rfl, show noneD (nt b) = false from rfl, show (nt a).depth ≤ 60 by omega, show (nt b).depth ≤ 60 by omega]
section
variable {n m : Nat} {f : Nat → Int}
theorem bsIn_ok {b g : AL} {L : List Int} {r : List Nat} {i : Nat} (hn : n ≤ 100) (hL : L.length = n) (hi : i < n) (hb : aget b L = some r) (hr : r.length ≤ 1000) (hg : g.length ≤ 10000) (x0 x7 x8 : Option D) (x : Int) :
    ∃ y7 y8, bsIn ([x0, some (.int n), some (dd b), some (.int x), some (dd g), some (it L), some (nat i), x7, x8], [0, 0, 0, 0, 1, 0, 0, 0, 0])
    = .next ([x0, some (.int n), some (dd b), some (.int x), some (dd (gstep g (inc L i x, r ++ [i]))), some (it L), some (nat i), y7, y8], [0, 0, 0, 0, 1, 0, 0, 0, 0]) := by
  refine ⟨some (it (inc L i x)), some (nt (r ++ [i])), ?_⟩
  unfold bsIn
  have e1 : (eOp dAdd (eOp dAdd (eSl (eVar 5) oNone (oSome (eVar 6))) (eTup (aCons (eOp dAdd (eIx (eVar 5) (eVar 6)) (eVar 3)) aNil))) (eSl (eVar 5) (oSome (eOp dAdd (eVar 6) (eC (.int 1)))) oNone)) [x0, some (.int n), some (dd b), some (.int x), some (dd g), some (it L), some (nat i), x7, x8] = some (it (inc L i x)) := by
    have s1 : eSl (eVar 5) oNone (oSome (eVar 6)) [x0, some (.int n), some (dd b), some (.int x), some (dd g), some (it L), some (nat i), x7, x8] = some (it (L.take i)) := it_cut (by omega)
    have s2 : eSl (eVar 5) (oSome (eOp dAdd (eVar 6) (eC (.int 1)))) oNone [x0, some (.int n), some (dd b), some (.int x), some (dd g), some (it L), some (nat i), x7, x8] = some (it (L.drop (i + 1))) := by
      have := it_cut2 (l := L) (i := i + 1) (by omega)
      push_cast at this
      exact this
    have s3 : eTup (aCons (eOp dAdd (eIx (eVar 5) (eVar 6)) (eVar 3)) aNil) [x0, some (.int n), some (dd b), some (.int x), some (dd g), some (it L), some (nat i), x7, x8] = some (it [L.getD i 0 + x]) := by
      unfold eTup
      have := it_ix (l := L) (i := i) (by omega)
      simp only [aCons_a, aNil_a, eOp_a, eIx_a, eVar_s, eVar_0, nat, o2_ss, o1_s, this, dAdd_i]
      rfl
    rw [eOp_a, eOp_a, s1, s2, s3, o2_ss, it_cat (by simp only [List.length_take, List.length_cons, List.length_nil]; omega), o2_ss, it_cat (by simp only [List.length_take, List.length_append, List.length_drop, List.length_cons, List.length_nil]; omega), inc_eq (by omega)]
  rw [sSeq_next (sSet_flat e1 (it_flat _))]
  simp only [List.set_cons_zero, List.set_cons_succ]
  have e2 : (eOp dAdd (eOp dGetD (eVar 2) (eVar 5)) (eTup (aCons (eVar 6) aNil))) [x0, some (.int n), some (dd b), some (.int x), some (dd g), some (it L), some (nat i), some (it (inc L i x)), x8] = some (nt (r ++ [i])) := by
    have s3 : eTup (aCons (eVar 6) aNil) [x0, some (.int n), some (dd b), some (.int x), some (dd g), some (it L), some (nat i), some (it (inc L i x)), x8] = some (.tuple [nat i]) := rfl
    rw [eOp_a, eOp_a, s3]
    show o2 (dGetD (dd b) (it L)) _ dAdd = _
    rw [get_dd hb, o2_ss, nt_snoc (by omega)]
  rw [sSeq_next (sSet_flat e2 (nt_flat _))]
  simp only [List.set_cons_zero, List.set_cons_succ]
  have ht : tOrD (tCmp dNotInD (eVar 7) (eVar 4)) (tCmp dLt (eVar 8) (eOp dGetD (eVar 4) (eVar 7))) [x0, some (.int n), some (dd b), some (.int x), some (dd g), some (it L), some (nat i), some (it (inc L i x)), some (nt (r ++ [i]))] = some (gwin g (inc L i x, r ++ [i])) := by
    unfold gwin
    cases q : aget g (inc L i x) with
    | none =>
      refine tOr_t ?_
      show dNotInD (it (inc L i x)) (dd g) = _
      rw [notin_dd, q]; rfl
    | some r' =>
      rw [tOr_f (by
        show dNotInD (it (inc L i x)) (dd g) = _
        rw [notin_dd, q]; rfl)]
      show o2 (some (nt (r ++ [i]))) (dGetD (dd g) (it (inc L i x))) dLt = _
      rw [get_dd q, o2_ss, cmp_nt]
  unfold gstep
  generalize gwin g (inc L i x, r ++ [i]) = q at ht
  cases q with
  | true =>
    rw [sIf_tt ht, if_pos rfl]
    rw [sPutD_ok (es := ddl g) (k := it (inc L i x)) (d := nt (r ++ [i])) rfl rfl rfl (nt_flat _) (kind_dd _ _) (by unfold ddl; rw [List.length_map]; omega) rfl, put_dd]
    rfl
  | false =>
    rw [sIf_ff ht]
    rfl
theorem bsMid_ok {b g : AL} {L : List Int} {r : List Nat} (hn : n ≤ 100) (hL : L.length = n) (hb : aget b L = some r) (hr : r.length ≤ 1000) (hg : g.length + n ≤ 10000) (x0 x6 x7 x8 : Option D) (x : Int) :
    ∃ y6 y7 y8, sFor (iRange1 (eVar 1)) [] (.nm 6) bsIn ([x0, some (.int n), some (dd b), some (.int x), some (dd g), some (it L), x6, x7, x8], [0, 0, 0, 0, 1, 0, 0, 0, 0])
    = .next ([x0, some (.int n), some (dd b), some (.int x), some (dd (((List.range n).map fun i => (inc L i x, r ++ [i])).foldl gstep g)), some (it L), y6, y7, y8], [0, 0, 0, 0, 1, 0, 0, 0, 0]) := by
  obtain ⟨s', e, y6, y7, y8, rfl⟩ := for_rng (i := 6) (n := n) (lo := 0) (body := bsIn)
    (fun k s => ∃ x6 x7 x8, s = ([x0, some (.int n), some (dd b), some (.int x), some (dd (((List.range k).map fun i => (inc L i x, r ++ [i])).foldl gstep g)), some (it L), x6, x7, x8], [0, 0, 0, 0, 1, 0, 0, 0, 0])) ([x0, some (.int n), some (dd b), some (.int x), some (dd g), some (it L), x6, x7, x8], [0, 0, 0, 0, 1, 0, 0, 0, 0]) ⟨x6, x7, x8, rfl⟩ (by
      rintro k _ hk ⟨x6, x7, x8, rfl⟩
      have hg' := gfold_len ((List.range k).map fun i => (inc L i x, r ++ [i])) g
      rw [List.length_map, List.length_range] at hg'
      obtain ⟨y7, y8, e⟩ := bsIn_ok (x := x) hn hL hk hb hr (by omega : (((List.range k).map fun i => (inc L i x, r ++ [i])).foldl gstep g).length ≤ 10000) x0 x7 x8
      refine ⟨_, ?_, some (nat k), y7, y8, rfl⟩
      rw [Int.zero_add]
      simp only [List.set_cons_zero, List.set_cons_succ]
      have e' : ((List.range (k + 1)).map fun i => (inc L i x, r ++ [i])).foldl gstep g = gstep (((List.range k).map fun i => (inc L i x, r ++ [i])).foldl gstep g) (inc L k x, r ++ [k]) := by
        rw [List.range_succ, List.map_append, List.foldl_append]
        rfl
      rw [e']
      exact e)
  refine ⟨y6, y7, y8, ?_⟩
  rw [sFor_at (range1_ok (n := n) rfl (by omega))]
  exact e
def bsRow (b : AL) (L : List Int) : List Nat := (aget b L).getD []
theorem bsOut_ok {b : AL} (hn : n ≤ 100) (hb : ∀ L ∈ b.map (·.1), ∃ r, aget b L = some r ∧ L.length = n ∧ r.length ≤ 1000) (hz : b.length * n ≤ 3000) (x0 x5 x6 x7 x8 : Option D) (x : Int) :
    ∃ y5 y6 y7 y8, sFor (iDk (eVar 2)) [(2, 0)] (.nm 5) (sFor (iRange1 (eVar 1)) [] (.nm 6) bsIn) ([x0, some (.int n), some (dd b), some (.int x), some (dd []), x5, x6, x7, x8], [0, 0, 0, 0, 1, 0, 0, 0, 0])
    = .next ([x0, some (.int n), some (dd b), some (.int x), some (dd ((rnd n b x).foldl gstep [])), y5, y6, y7, y8], [0, 0, 0, 0, 1, 0, 0, 0, 0]) := by
  obtain ⟨s', e, y5, y6, y7, y8, rfl⟩ := for_inv (t := .nm 5) (body := (sFor (iRange1 (eVar 1)) [] (.nm 6) bsIn))
    (fun j s => ∃ x5 x6 x7 x8, s = ([x0, some (.int n), some (dd b), some (.int x), some (dd ((((b.map (·.1)).take j).flatMap fun L => (List.range n).map fun i => (inc L i x, bsRow b L ++ [i])).foldl gstep [])), x5, x6, x7, x8], [0, 0, 0, 0, 1, 0, 0, 0, 0])) ((b.map (·.1)).map it) 0 ([x0, some (.int n), some (dd b), some (.int x), some (dd []), x5, x6, x7, x8], [0, 0, 0, 0, 1, 0, 0, 0, 0]) ⟨x5, x6, x7, x8, rfl⟩ (by
      rintro j d _ hd ⟨x5, x6, x7, x8, rfl⟩
      rw [Nat.zero_add, List.getElem?_map] at *
      obtain ⟨L, hL, rfl⟩ := Option.map_eq_some_iff.mp hd
      have hj : j < b.length := by
        have := (List.getElem?_eq_some_iff.mp hL).1
        simpa using this
      obtain ⟨r, hr, l1, l2⟩ := hb L (List.mem_of_getElem? hL)
      have et : (b.map (·.1)).take (j + 1) = (b.map (·.1)).take j ++ [L] := by
        rw [List.take_add_one, hL]; rfl
      generalize hg : (((b.map (·.1)).take j).flatMap fun L => (List.range n).map fun i => (inc L i x, bsRow b L ++ [i])).foldl gstep [] = g
      have lg : g.length + n ≤ 10000 := by
        rw [← hg]
        have h := gfold_len (((b.map (·.1)).take j).flatMap fun L => (List.range n).map fun i => (inc L i x, bsRow b L ++ [i])) []
        have go : ∀ l : List (List Int), (l.flatMap fun L => (List.range n).map fun i => (inc L i x, bsRow b L ++ [i])).length = l.length * n := by
          intro l
          induction l with
          | nil => simp
          | cons a l ih => rw [List.flatMap_cons, List.length_append, ih, List.length_map, List.length_range, List.length_cons, Nat.succ_mul, Nat.add_comm]
        rw [go, List.length_nil, Nat.zero_add, List.length_take, List.length_map] at h
        have := Nat.mul_le_mul_right n (Nat.min_le_right j b.length)
        omega
      obtain ⟨y6, y7, y8, e⟩ := bsMid_ok (x := x) hn l1 hr l2 lg x0 x6 x7 x8
      refine ⟨[(5, it L)], _, rfl, e, some (it L), y6, y7, y8, ?_⟩
      rw [et, List.flatMap_append, List.foldl_append, hg, List.flatMap_cons, List.flatMap_nil, List.append_nil]
      have : bsRow b L = r := by unfold bsRow; rw [hr]; rfl
      rw [this])
  refine ⟨y5, y6, y7, y8, ?_⟩
  have hk : iDk (eVar 2) [x0, some (.int n), some (dd b), some (.int x), some (dd []), x5, x6, x7, x8] = some ((b.map (·.1)).map it) := keys_dd b
  rw [sFor_at hk]
  rw [Nat.zero_add, List.length_map, List.take_length] at e
  exact e
theorem dMax1_it (x : Int) (xs : List Int) : dMax1 (it (x :: xs)) = some (.int (imax x xs)) := by
  have m := maxD_ints xs x
  have ok : allCmp (.int x :: xs.map PyData.int) = true := allCmp_int (x :: xs)
  show bestOf PySem.W.maxD (.int x :: xs.map PyData.int) = _
  unfold bestOf
  simp only [m, ok]
  rfl
theorem lds_nonneg (hf : ∀ k, 0 ≤ f k) {s : List Nat} : ∀ x ∈ lds n f s m, 0 ≤ x := by
  intro x hx
  obtain ⟨p, _, rfl⟩ := List.mem_map.mp hx
  exact sw_nonneg hf m
theorem max_lds (h1 : 1 ≤ n) (hf : ∀ k, 0 ≤ f k) (s : List Nat) : dMax1 (it (lds n f s m)) = some (.int (top n (fun _ => f) m s)) := by
  have hl := lds_len (n := n) (f := f) s m
  have hp := lds_nonneg (n := n) (m := m) hf (s := s)
  have et : top n (fun _ => f) m s = imax 0 (lds n f s m) := rfl
  rw [et]
  generalize lds n f s m = L at hl hp
  cases L with
  | nil => simp at hl; omega
  | cons x xs => rw [dMax1_it, imax_0 (hp x (.head _))]
theorem dps_keys (k : Nat) {L : List Int} (h : L ∈ (dps n f k).map (·.1)) : ∃ r, aget (dps n f k) L = some r ∧ IsShr n k r ∧ lds n f r k = L := by
  obtain ⟨r, hr⟩ := aget_keys h
  obtain ⟨a, b, _⟩ := (dps_ok k).1 L r hr
  exact ⟨r, hr, a, b⟩
theorem dps_best (h1 : 1 ≤ n) {x : List Nat} {xs : List (List Nat)} (e : ((dps n f m).map (·.1)).map (bsRow (dps n f m)) = x :: xs) : fmin (ltl (top n (fun _ => f) m)) x xs = bestL (top n (fun _ => f) m) n m := by
  obtain ⟨A, B⟩ := dps_ok (n := n) (f := f) m
  generalize hc : top n (fun _ => f) m = c
  have hr := fmin_mem (ltl c) xs x
  have hle := fmin_le (lt := ltl c) (fun {a b d} => ltl_tr c) (fun {a b d} hh => ltl_co c d hh) (ltl_ir c) xs x
  generalize fmin (ltl c) x xs = r at hr hle
  rw [← e] at hr hle
  obtain ⟨L, hL, rfl⟩ := List.mem_map.mp hr
  obtain ⟨r, h2, h3, h4⟩ := dps_keys m hL
  have er : bsRow (dps n f m) L = r := by unfold bsRow; rw [h2]; rfl
  rw [er] at hr hle ⊢
  have hb := bestL_is c h1 (m := m)
  obtain ⟨r0, h5⟩ := B _ hb
  obtain ⟨h6, h7, h8⟩ := A _ _ h5
  have m0 : r0 ∈ ((dps n f m).map (·.1)).map (bsRow (dps n f m)) := List.mem_map.mpr ⟨_, keys_aget h5, by unfold bsRow; rw [h5]; rfl⟩
  have ec : c r0 = c (bestL c n m) := by
    have cs : ∀ s, c s = imax 0 (lds n f s m) := fun s => by rw [← hc]; rfl
    rw [cs, cs, h7]
  refine ltl_tri c (bestL_first c h1 h3) ?_
  cases q : ltl c (bestL c n m) r with
  | false => rfl
  | true =>
    rcases ltl_co c r0 q with q' | q'
    · unfold ltl at q'
      rw [if_pos ec.symm, h8 _ hb rfl] at q'
      cases q'
    · rw [hle r0 m0] at q'; cases q'
theorem best_sharing_ok (h1 : 1 ≤ n) (hn : n ≤ 100) (hm : m ≤ 100) (hf : ∀ k, 0 ≤ f k) (hs : n ^ m ≤ 3000) : den_best_sharing [trow m f, .int n] = some (co (top n (fun _ => f) m) (bestL (top n (fun _ => f) m) n m)) := by
  refine dfun_ret [some (trow m f), some (.int n), none, none, none, none, none, none, none] [0, 0, 0, 0, 0, 0, 0, 0, 0] rfl rfl rfl ?_
  have e0 : (eOp dD1 (eOp dMulT (eTup (aCons (eC (.int 0)) aNil)) (eVar 1)) (eTup aNil)) [some (trow m f), some (.int n), none, none, none, none, none, none, none] = some (dd (dps n f 0)) := by
    have t1 : (eOp dMulT (eTup (aCons (eC (.int 0)) aNil)) (eVar 1)) [some (trow m f), some (.int n), none, none, none, none, none, none, none] = some (it (List.replicate n 0)) := by
      show dMulT (.tuple [.int 0]) (.int n) = _
      show (if [PyData.int 0] ≠ [] ∧ [PyData.int 0].length ≤ 1000 ∧ -1000000 ≤ (n : Int) ∧ (n : Int) ≤ 1000 then some (PyData.tuple (List.replicate ((n : Int)).toNat [PyData.int 0]).flatten) else none) = _
      rw [if_pos ⟨by simp, by simp, by omega, by omega⟩, Int.toNat_natCast, List.flatten_replicate_singleton]
      unfold it
      rw [List.map_replicate]
    have t2 : eTup aNil [some (trow m f), some (.int n), none, none, none, none, none, none, none] = some (nt []) := rfl
    rw [eOp_a, t1, t2, o2_ss]
    show (if ((keyK (it (List.replicate n 0))).isSome && flat (nt [])) = true then some (PyData.dict [(it (List.replicate n 0), nt [])]) else none) = _
    rw [it_keyK, nt_flat, if_pos (by rfl)]
    rfl
  have fd : ∀ l : AL, flat (dd l) = false := fun l => by simp [dd, flat]
  rw [sSeq_next (by
    rw [sSet_deep e0 (fd _)])]
  simp only [List.set_cons_zero, List.set_cons_succ]
  obtain ⟨s', e, x3, x4, x5, x6, x7, x8, rfl⟩ := for_inv (t := .nm 3) (body := (sSeq (sSet 4 1 eD0 [])
  (sSeq (sFor (iDk (eVar 2)) [(2, 0)] (.nm 5) (sFor (iRange1 (eVar 1)) [] (.nm 6) bsIn))
  (sSet 2 0 (eVar 4) [(4, 0)]))))
    (fun k s => ∃ x3 x4 x5 x6 x7 x8, s = ([some (trow m f), some (.int n), some (dd (dps n f k)), x3, x4, x5, x6, x7, x8], [0, 0, 0, 0, 0, 0, 0, 0, 0])) ((List.range m).map fun v => .int (f v)) 0 ([some (trow m f), some (.int n), some (dd (dps n f 0)), none, none, none, none, none, none], [0, 0, 0, 0, 0, 0, 0, 0, 0]) ⟨none, none, none, none, none, none, rfl⟩ (by
      rintro k d _ hd ⟨x3, x4, x5, x6, x7, x8, rfl⟩
      have hk : k < m := by
        have := (List.getElem?_eq_some_iff.mp hd).1
        simpa using this
      rw [Nat.zero_add]
      rw [List.getElem?_map, List.getElem?_range hk] at hd
      have hd' := (Option.some.inj hd).symm
      subst hd'
      have hsm := dps_small (n := n) (f := f) k
      have hp : n ^ (k + 1) ≤ 3000 := Nat.le_trans (Nat.pow_le_pow_right h1 (by omega)) hs
      have hz : (dps n f k).length * n ≤ 3000 := Nat.le_trans (Nat.mul_le_mul_right n hsm) (by rw [← Nat.pow_succ]; exact hp)
      obtain ⟨y5, y6, y7, y8, e⟩ := bsOut_ok (b := dps n f k) hn (fun L hL => by
        obtain ⟨r, a1, a2, a3⟩ := dps_keys k hL
        exact ⟨r, a1, by rw [← a3]; exact lds_len _ _, by rw [a2.len]; omega⟩) hz (some (trow m f)) x5 x6 x7 x8 (f k)
      refine ⟨[(3, .int (f k))], _, rfl, ?_, some (.int (f k)), some (dd (dps n f (k + 1))), y5, y6, y7, y8, rfl⟩
      simp only [setsD, zeros, List.foldl_cons, List.foldl_nil, List.set_cons_zero, List.set_cons_succ]
      rw [sSeq_next (s' := ([some (trow m f), some (.int n), some (dd (dps n f k)), some (.int (f k)), some (dd []), x5, x6, x7, x8], [0, 0, 0, 0, 1, 0, 0, 0, 0])) (by rfl)]
      rw [sSeq_next e]
      rw [sSet_deep (d := dd (dps n f (k + 1))) rfl (fd _)]
      rfl)
  unfold bsIn at e
  rw [sSeq_next (by
    rw [sFor_at (ds := (List.range m).map fun v => .int (f v)) rfl]
    exact e)]
  rw [Nat.zero_add, List.length_map, List.length_range]
  refine sRet_ok ?_
  have hk : iDk (eVar 2) [some (trow m f), some (.int n), some (dd (dps n f m)), x3, x4, x5, x6, x7, x8] = some (((dps n f m).map (·.1)).map it) := keys_dd _
  have hsm := dps_small (n := n) (f := f) m
  have hc := eLc_of (t := .nm 5) (fe := (eTup (aCons (eCB (d1 dMax1) (aCons (eVar 5) aNil)) (aCons (eOp dGetD (eVar 2) (eVar 5)) aNil)))) (vs := [5]) it (fun L => co (top n (fun _ => f) m) (bsRow (dps n f m) L)) hk (by rw [List.length_map]; omega) (by
    intro L hL
    obtain ⟨r, a1, a2, a3⟩ := dps_keys m hL
    have er : bsRow (dps n f m) L = r := by unfold bsRow; rw [a1]; rfl
    refine ⟨_, rfl, ?_⟩
    rw [er]
    unfold eTup
    have g2 : dGetD (dd (dps n f m)) (it L) = some (nt r) := get_dd a1
    have mx := max_lds (m := m) h1 hf r
    rw [a3] at mx
    show o1 (o2 (o1 (o2 (some (it L)) (some []) fun d ds => some (d :: ds)) (d1 dMax1)) (o2 (dGetD (dd (dps n f m)) (it L)) (some []) fun d ds => some (d :: ds)) fun d ds => some (d :: ds)) _ = _
    rw [g2, o2_ss, o2_ss, o1_s, d1_1, mx, o2_ss, o1_s]
    rfl)
  rw [eCB_a, aCons_a, hc, aNil_a, o2_ss, o1_s, d1_1]
  have em : ((dps n f m).map (·.1)).map (fun L => co (top n (fun _ => f) m) (bsRow (dps n f m) L)) = (((dps n f m).map (·.1)).map (bsRow (dps n f m))).map (co (top n (fun _ => f) m)) := by
    rw [List.map_map (g := co _)]
    rfl
  rw [em]
  cases q : ((dps n f m).map (·.1)).map (bsRow (dps n f m)) with
  | nil =>
    exfalso
    obtain ⟨r0, h5⟩ := (dps_ok (n := n) (f := f) m).2 _ (bestL_is (top n (fun _ => f) m) h1 (m := m))
    have := List.mem_map_of_mem (f := bsRow (dps n f m)) (keys_aget h5)
    rw [q] at this
    cases this
  | cons x xs =>
    rw [min_list (lt := ltl (top n (fun _ => f) m)) (allCmp_co _ _) (co_flat _) (dataLt_co _), dps_best h1 q]
end
end Lib
end

section
set_option Elab.async false
set_option linter.all false
/-! Plain: ways through all places, by sets of places. -/
namespace Lib
/-! ### lists of keys and rows -/
section
variable {κ β : Type} [DecidableEq κ]
def kget (l : List (κ × β)) (k : κ) : Option β := (l.find? fun p => decide (p.1 = k)).map (·.2)
def kput (l : List (κ × β)) (k : κ) (v : β) : List (κ × β) := if (l.any fun p => decide (p.1 = k)) = true then l.map fun p => if decide (p.1 = k) = true then (p.1, v) else p else l ++ [(k, v)]
theorem kget_any (l : List (κ × β)) (k : κ) : (l.any fun p => decide (p.1 = k)) = (kget l k).isSome := by
  unfold kget
  induction l with
  | nil => rfl
  | cons p l ih =>
    rw [List.any_cons, ih, List.find?_cons]
    cases decide (p.1 = k) <;> rfl
theorem kget_map (l : List (κ × β)) (k j : κ) (v : β) : kget (l.map fun p => if decide (p.1 = k) = true then (p.1, v) else p) j = if j = k then (kget l j).map fun _ => v else kget l j := by
  unfold kget
  induction l with
  | nil => split <;> rfl
  | cons p l ih =>
    rw [List.map_cons, List.find?_cons, List.find?_cons]
    by_cases h : p.1 = k
    · rw [decide_eq_true h, if_pos rfl]
      by_cases hj : p.1 = j
      · have : j = k := by rw [← hj, h]
        simp [hj, this]
      · have hj' : decide (p.1 = j) = false := decide_eq_false hj
        simp only [hj']
        exact ih
    · rw [decide_eq_false h, if_neg (by decide)]
      by_cases hj : p.1 = j
      · have : ¬ j = k := fun q => h (by rw [hj, q])
        simp [hj, this]
      · have hj' : decide (p.1 = j) = false := decide_eq_false hj
        simp only [hj']
        exact ih
theorem kget_put (l : List (κ × β)) (k j : κ) (v : β) : kget (kput l k v) j = if j = k then some v else kget l j := by
  unfold kput
  split
  · rename_i h
    rw [kget_map]
    split
    · rename_i e
      subst e
      rw [kget_any] at h
      obtain ⟨r, hr⟩ := Option.isSome_iff_exists.mp h
      rw [hr]; rfl
    · rfl
  · rename_i h
    rw [kget_any, Bool.not_eq_true] at h
    have hn : kget l k = none := by cases e : kget l k with
      | none => rfl
      | some r => rw [e] at h; cases h
    unfold kget at hn ⊢
    rw [List.find?_append]
    by_cases e : j = k
    · subst e
      rw [if_pos rfl]
      have : l.find? (fun p => decide (p.1 = j)) = none := by
        cases q : l.find? (fun p => decide (p.1 = j)) with
        | none => rfl
        | some r => rw [q] at hn; cases hn
      rw [this]
      simp
    · rw [if_neg e]
      have : ¬ k = j := fun q => e q.symm
      simp [this]
theorem kput_len (l : List (κ × β)) (k : κ) (v : β) : (kput l k v).length ≤ l.length + 1 := by
  unfold kput
  split
  · rw [List.length_map]; omega
  · rw [List.length_append]; simp
theorem kget_keys {l : List (κ × β)} {k : κ} (h : k ∈ l.map (·.1)) : ∃ r, kget l k = some r := by
  refine Option.isSome_iff_exists.mp ?_
  rw [← kget_any, List.any_eq_true]
  obtain ⟨p, hp, e⟩ := List.mem_map.mp h
  exact ⟨p, hp, decide_eq_true e⟩
theorem keys_kget {l : List (κ × β)} {k : κ} {r : β} (h : kget l k = some r) : k ∈ l.map (·.1) := by
  have : (l.any fun p => decide (p.1 = k)) = true := by rw [kget_any, h]; rfl
  obtain ⟨p, hp, e⟩ := List.any_eq_true.mp this
  exact List.mem_map.mpr ⟨p, hp, of_decide_eq_true e⟩
def kwin (lt : β → β → Bool) (g : List (κ × β)) (p : κ × β) : Bool := match kget g p.1 with
  | none => true
  | some r => lt p.2 r
def kstep (lt : β → β → Bool) (g : List (κ × β)) (p : κ × β) : List (κ × β) := if kwin lt g p = true then kput g p.1 p.2 else g
theorem kstep_get (lt : β → β → Bool) (g : List (κ × β)) (p : κ × β) (k : κ) : kget (kstep lt g p) k = if p.1 = k then ofold lt (kget g k) [p.2] else kget g k := by
  unfold kstep kwin
  by_cases h : p.1 = k
  · subst h
    rw [if_pos rfl, ofold_one]
    cases e : kget g p.1 with
    | none => rw [if_pos rfl, kget_put, if_pos rfl]
    | some r =>
      show kget (if lt p.2 r = true then kput g p.1 p.2 else g) p.1 = if lt p.2 r = true then some p.2 else some r
      split
      · rw [kget_put, if_pos rfl]
      · exact e
  · rw [if_neg h]
    have h' : ¬ k = p.1 := fun q => h q.symm
    generalize (match kget g p.1 with
      | none => true
      | some r => lt p.2 r) = q
    cases q with
    | true => rw [if_pos rfl, kget_put, if_neg h']
    | false => rfl
theorem kfold_get (lt : β → β → Bool) : ∀ (P g : List (κ × β)) (k : κ), kget (P.foldl (kstep lt) g) k = ofold lt (kget g k) ((P.filter fun p => decide (p.1 = k)).map (·.2))
  | [], g, k => rfl
  | p :: P, g, k => by
    rw [List.foldl_cons, kfold_get lt P, kstep_get]
    by_cases h : p.1 = k
    · rw [if_pos h, List.filter_cons_of_pos (by exact decide_eq_true h), List.map_cons, ← ofold_app]
      rfl
    · rw [if_neg h, List.filter_cons_of_neg (by simpa using h)]
theorem kfold_len (lt : β → β → Bool) : ∀ (P g : List (κ × β)), (P.foldl (kstep lt) g).length ≤ g.length + P.length
  | [], g => by simp
  | p :: P, g => by
    rw [List.foldl_cons]
    have := kfold_len lt P (kstep lt g p)
    have h : (kstep lt g p).length ≤ g.length + 1 := by
      unfold kstep
      split
      · exact kput_len _ _ _
      · omega
    rw [List.length_cons]
    omega
/-- the keys that were not there before, as they come -/
def kfresh (lt : β → β → Bool) (s : List (κ × β) × List κ) (p : κ × β) : List (κ × β) × List κ := (kstep lt s.1 p, if (kget s.1 p.1).isSome = true then s.2 else s.2 ++ [p.1])
theorem kfresh_fst (lt : β → β → Bool) : ∀ (P : List (κ × β)) (s : List (κ × β) × List κ), (P.foldl (kfresh lt) s).1 = P.foldl (kstep lt) s.1
  | [], _ => rfl
  | p :: P, s => kfresh_fst lt P (kfresh lt s p)
theorem kfresh_len (lt : β → β → Bool) : ∀ (P : List (κ × β)) (s : List (κ × β) × List κ), (P.foldl (kfresh lt) s).2.length ≤ s.2.length + P.length
  | [], _ => by simp
  | p :: P, s => by
    have := kfresh_len lt P (kfresh lt s p)
    have h : (kfresh lt s p).2.length ≤ s.2.length + 1 := by
      unfold kfresh
      show (if _ then _ else _ : List κ).length ≤ _
      split
      · omega
      · rw [List.length_append]; simp
    rw [List.foldl_cons, List.length_cons]
    omega
theorem kstep_some (lt : β → β → Bool) (g : List (κ × β)) (p : κ × β) (k : κ) : (kget (kstep lt g p) k).isSome = true ↔ p.1 = k ∨ (kget g k).isSome = true := by
  rw [kstep_get]
  by_cases h : p.1 = k
  · rw [if_pos h]
    refine ⟨fun _ => .inl h, fun _ => ?_⟩
    rw [ofold_one]
    cases kget g k with
    | none => rfl
    | some r => show (if lt p.2 r = true then some p.2 else some r).isSome = true; split <;> rfl
  · rw [if_neg h]
    exact ⟨.inr, fun q => q.elim (fun q => absurd q h) id⟩
theorem kfresh_mem (lt : β → β → Bool) : ∀ (P : List (κ × β)) (s : List (κ × β) × List κ) (b : List (κ × β)), (∀ k, k ∈ s.2 ↔ (kget s.1 k).isSome = true ∧ kget b k = none) → (∀ k, (kget b k).isSome = true → (kget s.1 k).isSome = true) → (∀ p ∈ P, kget b p.1 = none) →
    ∀ k, k ∈ (P.foldl (kfresh lt) s).2 ↔ (k ∈ s.2 ∨ k ∈ P.map (·.1))
  | [], s, b, _, _, _, k => by simp
  | p :: P, s, b, h, hb, hp, k => by
    rw [List.foldl_cons, kfresh_mem lt P (kfresh lt s p) b (fun k => ?_) (fun k hk => (kstep_some lt s.1 p k).mpr (.inr (hb k hk))) (fun q hq => hp q (.tail _ hq)) k]
    · have : k ∈ (kfresh lt s p).2 ↔ k ∈ s.2 ∨ k = p.1 := by
        unfold kfresh
        show k ∈ (if (kget s.1 p.1).isSome = true then s.2 else s.2 ++ [p.1]) ↔ _
        split
        · rename_i q
          refine ⟨.inl, fun z => z.elim id fun e => ?_⟩
          rw [e]
          exact (h p.1).mpr ⟨q, hp p (.head _)⟩
        · simp
      rw [this, List.map_cons, List.mem_cons]
      constructor
      · rintro ((a | a) | a)
        · exact .inl a
        · exact .inr (.inl a)
        · exact .inr (.inr a)
      · rintro (a | a | a)
        · exact .inl (.inl a)
        · exact .inl (.inr a)
        · exact .inr a
    · unfold kfresh
      show k ∈ (if (kget s.1 p.1).isSome = true then s.2 else s.2 ++ [p.1]) ↔ (kget (kstep lt s.1 p) k).isSome = true ∧ kget b k = none
      rw [kstep_some]
      split
      · rename_i q
        rw [h k]
        constructor
        · rintro ⟨a, c⟩; exact ⟨.inr a, c⟩
        · rintro ⟨a | a, c⟩
          · subst a; exact ⟨q, c⟩
          · exact ⟨a, c⟩
      · rw [List.mem_append, List.mem_singleton, h k]
        constructor
        · rintro (⟨a, c⟩ | a)
          · exact ⟨.inr a, c⟩
          · subst a; exact ⟨.inl rfl, hp p (.head _)⟩
        · rintro ⟨a | a, c⟩
          · exact .inr a.symm
          · exact .inl ⟨a, c⟩
end
/-! ### sets of places as numbers -/
def msk (r : List Nat) : Nat := r.foldl (fun a x => a ||| 2 ^ x) 0
theorem msk_snoc (r : List Nat) (x : Nat) : msk (r ++ [x]) = msk r ||| 2 ^ x := by
  unfold msk
  rw [List.foldl_append]
  rfl
theorem two_bit (x p : Nat) : (2 ^ x).testBit p = decide (x = p) := by
  rw [Nat.testBit_two_pow]
theorem msk_bit (p : Nat) : ∀ r : List Nat, (msk r).testBit p = decide (p ∈ r) := by
  have go : ∀ (r : List Nat) (a : Nat), (r.foldl (fun a x => a ||| 2 ^ x) a).testBit p = (a.testBit p || decide (p ∈ r)) := by
    intro r
    induction r with
    | nil => intro a; simp
    | cons x r ih =>
      intro a
      rw [List.foldl_cons, ih, Nat.testBit_or, two_bit, Bool.or_assoc]
      congr 1
      rw [← Bool.decide_or]
      rw [decide_eq_decide]
      rw [List.mem_cons]
      constructor
      · rintro (h | h)
        · exact .inl h.symm
        · exact .inr h
      · rintro (h | h)
        · exact .inl h.symm
        · exact .inr h
  intro r
  unfold msk
  rw [go r 0]
  simp
theorem msk_mem {r r' : List Nat} (h : msk r = msk r') (p : Nat) : p ∈ r ↔ p ∈ r' := by
  have h1 := msk_bit p r
  rw [h, msk_bit p r'] at h1
  rw [decide_eq_decide] at h1
  exact h1.symm
theorem msk_len {r r' : List Nat} (h : msk r = msk r') (n1 : r.Nodup) (n2 : r'.Nodup) : r.length = r'.length :=
  ((List.perm_ext_iff_of_nodup n1 n2).mpr (msk_mem h)).length_eq
theorem msk_full {n : Nat} {r : List Nat} (h : ∀ x ∈ r, x < n) : msk r = 2 ^ n - 1 ↔ ∀ p, p < n → p ∈ r := by
  constructor
  · intro e p hp
    have := msk_bit p r
    rw [e, Nat.testBit_two_pow_sub_one] at this
    rw [decide_eq_true hp] at this
    exact of_decide_eq_true this.symm
  · intro hh
    refine Nat.eq_of_testBit_eq fun p => ?_
    rw [msk_bit, Nat.testBit_two_pow_sub_one, decide_eq_decide]
    exact ⟨h p, hh p⟩
end Lib
end

section
set_option Elab.async false
set_option linter.all false
/-! Plain: the least way for each set of places and last place. -/
namespace Lib
def gok (n : Nat) (g : Option Nat) (j p : Nat) : Bool := !decide (g = some p) || decide (j + 1 = n)
def kof (r : List Nat) : Nat × Nat := (msk r, r.getD (r.length - 1) 0)
def plen (W : Nat → Nat → Int) (r : List Nat) : Int := rsum (fun k => W (r.getD k 0) (r.getD (k + 1) 0)) (r.length - 1)
theorem last_snoc (q : List Nat) (p : Nat) : (q ++ [p]).getD ((q ++ [p]).length - 1) 0 = p := by
  rw [List.getD_eq_getElem?_getD, List.length_append, List.length_singleton, Nat.add_sub_cancel, List.getElem?_append_right (Nat.le_refl _), Nat.sub_self]
  rfl
theorem kof_snoc (q : List Nat) (p : Nat) : kof (q ++ [p]) = (msk q ||| 2 ^ p, p) := by
  unfold kof
  rw [last_snoc, msk_snoc]
theorem getD_app {q : List Nat} {x k : Nat} (h : k < q.length) : (q ++ [x]).getD k 0 = q.getD k 0 := by
  rw [List.getD_eq_getElem?_getD, List.getD_eq_getElem?_getD, List.getElem?_append_left h]
theorem plen_snoc (W : Nat → Nat → Int) {q : List Nat} (h : q ≠ []) (p : Nat) : plen W (q ++ [p]) = plen W q + W (q.getD (q.length - 1) 0) p := by
  have hl : 0 < q.length := List.length_pos_iff.mpr h
  unfold plen
  obtain ⟨m, hm⟩ : ∃ m, q.length = m + 1 := ⟨q.length - 1, by omega⟩
  rw [List.length_append, List.length_singleton, Nat.add_sub_cancel, hm]
  show rsum _ m + W ((q ++ [p]).getD m 0) ((q ++ [p]).getD (m + 1) 0) = _
  rw [getD_app (by omega), Nat.add_sub_cancel]
  congr 1
  · exact rsum_congr fun k hk => by rw [getD_app (by omega), getD_app (by omega)]
  · congr 1
    have := last_snoc q p
    rw [List.length_append, List.length_singleton, Nat.add_sub_cancel, hm] at this
    exact this
section
variable (n s : Nat) (g : Option Nat) (W : Nat → Nat → Int)
def wrows : Nat → List (List Nat)
  | 0 => [[s]]
  | k + 1 => (wrows k).flatMap fun r => ((List.range n).filter fun p => !r.contains p && gok n g r.length p).map fun p => r ++ [p]
abbrev KL := List ((Nat × Nat) × List Nat)
def hrow (b : KL) (K : Nat × Nat) : List Nat := (kget b K).getD []
def hexp (b : KL) (ly : List (Nat × Nat)) : KL := ly.flatMap fun K => ((List.range n).filter fun p => !K.1.testBit p && gok n g (hrow b K).length p).map fun p => ((K.1 ||| 2 ^ p, p), hrow b K ++ [p])
def hk : Nat → KL × List (Nat × Nat)
  | 0 => ([((2 ^ s, s), [s])], [(2 ^ s, s)])
  | k + 1 => (hexp n g (hk k).1 (hk k).2).foldl (kfresh (ltl (plen W))) ((hk k).1, [])
end
section
variable {n s : Nat} {g : Option Nat} {W : Nat → Nat → Int}
structure IsW (n k : Nat) (r : List Nat) : Prop where
  len : r.length = k + 1
  nd : r.Nodup
  lt : ∀ x ∈ r, x < n
theorem wrows_is (hs : s < n) : ∀ {k : Nat} {r : List Nat}, r ∈ wrows n s g k → IsW n k r
  | 0, r, h => by
    have : r = [s] := by simpa [wrows] using h
    subst this
    exact ⟨rfl, by simp, by simpa using hs⟩
  | k + 1, r, h => by
    have h : r ∈ (wrows n s g k).flatMap _ := h
    obtain ⟨q, hq, h1⟩ := List.mem_flatMap.mp h
    obtain ⟨p, hp, rfl⟩ := List.mem_map.mp h1
    rw [List.mem_filter, List.mem_range] at hp
    have iw := wrows_is hs hq
    have hn : p ∉ q := by
      have := hp.2
      rw [Bool.and_eq_true, Bool.not_eq_true', List.contains_eq_mem, decide_eq_false_iff_not] at this
      exact this.1
    refine ⟨by rw [List.length_append, iw.len]; rfl, ?_, ?_⟩
    · rw [List.nodup_append]
      refine ⟨iw.nd, by simp, ?_⟩
      intro a ha b hb
      simp at hb
      subst hb
      intro e; subst e; exact hn ha
    · intro x hx
      rcases List.mem_append.mp hx with h1 | h1
      · exact iw.lt x h1
      · simp at h1; omega
theorem wrows_succ {k : Nat} {r : List Nat} : r ∈ wrows n s g (k + 1) ↔ ∃ q ∈ wrows n s g k, ∃ p, p < n ∧ p ∉ q ∧ gok n g q.length p = true ∧ r = q ++ [p] := by
  show r ∈ (wrows n s g k).flatMap _ ↔ _
  simp only [List.mem_flatMap, List.mem_map, List.mem_filter, List.mem_range, Bool.and_eq_true, Bool.not_eq_true', List.contains_eq_mem, decide_eq_false_iff_not]
  constructor
  · rintro ⟨q, hq, p, ⟨h1, h2, h3⟩, rfl⟩; exact ⟨q, hq, p, h1, h2, h3, rfl⟩
  · rintro ⟨q, hq, p, h1, h2, h3, rfl⟩; exact ⟨q, hq, p, ⟨h1, h2, h3⟩, rfl⟩
theorem ofold_ltl {c : List Nat → Int} {l : List (List Nat)} (h : l ≠ []) : ∃ r, ofold (ltl c) none l = some r ∧ r ∈ l ∧ ∀ x ∈ l, ltl c x r = false := by
  cases l with
  | nil => exact absurd rfl h
  | cons x xs =>
    refine ⟨_, ofold_cons _ x xs, fmin_mem _ xs x, ?_⟩
    exact fmin_le (lt := ltl c) (fun {a b d} => ltl_tr c) (fun {a b d} hh => ltl_co c d hh) (ltl_ir c) xs x
/-- one place more on both -/
theorem ltl_snoc {q q' : List Nat} {p : Nat} (hq : q ≠ []) (hq' : q' ≠ []) (hl : q.length = q'.length) (hk : q.getD (q.length - 1) 0 = q'.getD (q'.length - 1) 0) (h : ltl (plen W) q q' = false) : ltl (plen W) (q ++ [p]) (q' ++ [p]) = false := by
  cases e : ltl (plen W) (q ++ [p]) (q' ++ [p]) with
  | false => rfl
  | true =>
    exfalso
    rw [ltl_iff, plen_snoc W hq, plen_snoc W hq', hk] at e
    have nn : ¬ (plen W q < plen W q' ∨ (plen W q = plen W q' ∧ llt q q' = true)) := fun z => by
      rw [(ltl_iff (plen W) q q').mpr z] at h; cases h
    rcases e with e | ⟨e1, e2⟩
    · exact nn (.inl (by omega))
    · have e1 : plen W q = plen W q' := by omega
      cases a : llt q q' with
      | true => exact nn (.inr ⟨e1, a⟩)
      | false =>
        cases b : llt q' q with
        | true =>
          have := llt_app_l [p] [p] hl.symm b
          have := llt_trans this e2
          rw [llt_irrefl] at this
          cases this
        | false =>
          have := llt_tri _ _ a b
          subst this
          rw [llt_irrefl] at e2
          cases e2
structure HK (n s : Nat) (g : Option Nat) (W : Nat → Nat → Int) (k : Nat) (b : KL) (ly : List (Nat × Nat)) : Prop where
  A : ∀ j, j ≤ k → ∀ r ∈ wrows n s g j, ∃ r0 ∈ wrows n s g j, kget b (kof r) = some r0 ∧ kof r0 = kof r ∧ ∀ r' ∈ wrows n s g j, kof r' = kof r → ltl (plen W) r' r0 = false
  B : ∀ K r, kget b K = some r → ∃ j, j ≤ k ∧ r ∈ wrows n s g j ∧ kof r = K
  C : ∀ K, K ∈ ly ↔ ∃ r ∈ wrows n s g k, kof r = K
theorem wlen_of_kof (hs : s < n) {j k : Nat} {r r' : List Nat} (h : r ∈ wrows n s g j) (h' : r' ∈ wrows n s g k) (e : kof r = kof r') : j = k := by
  have a := wrows_is hs h
  have b := wrows_is hs h'
  have := msk_len (Prod.mk.inj e).1 a.nd b.nd
  rw [a.len, b.len] at this
  omega
theorem hexp_mem (hs : s < n) {k : Nat} {b : KL} {ly : List (Nat × Nat)} (h : HK n s g W k b ly) (K : Nat × Nat) (r : List Nat) : (K, r) ∈ hexp n g b ly ↔ ∃ q ∈ wrows n s g k, kget b (kof q) = some q ∧ ∃ p, p < n ∧ p ∉ q ∧ gok n g q.length p = true ∧ r = q ++ [p] ∧ K = kof r := by
  unfold hexp
  rw [List.mem_flatMap]
  constructor
  · rintro ⟨K0, h0, h1⟩
    obtain ⟨p, hp, h1⟩ := List.mem_map.mp h1
    injection h1 with h1 h2
    subst h1 h2
    obtain ⟨q, hq, e⟩ := (h.C K0).mp h0
    obtain ⟨q0, hq0, g0, k0, _⟩ := h.A k (Nat.le_refl k) q hq
    rw [e] at g0 k0
    have er : hrow b K0 = q0 := by unfold hrow; rw [g0]; rfl
    rw [er] at hp ⊢
    rw [List.mem_filter, List.mem_range, Bool.and_eq_true, Bool.not_eq_true'] at hp
    have em : K0.1 = msk q0 := by rw [← k0]; rfl
    rw [em, msk_bit, decide_eq_false_iff_not] at hp
    exact ⟨q0, hq0, by rw [k0]; exact g0, p, hp.1, hp.2.1, hp.2.2, rfl, by rw [kof_snoc, em]⟩
  · rintro ⟨q, hq, gq, p, hp, hn, hg, rfl, rfl⟩
    refine ⟨kof q, (h.C _).mpr ⟨q, hq, rfl⟩, List.mem_map.mpr ⟨p, ?_, ?_⟩⟩
    · have er : hrow b (kof q) = q := by unfold hrow; rw [gq]; rfl
      rw [er, List.mem_filter, List.mem_range, Bool.and_eq_true, Bool.not_eq_true']
      refine ⟨hp, ?_, hg⟩
      show (msk q).testBit p = false
      rw [msk_bit]
      exact decide_eq_false hn
    · have er : hrow b (kof q) = q := by unfold hrow; rw [gq]; rfl
      rw [er, kof_snoc]
      rfl
theorem hexp_new (hs : s < n) {k : Nat} {b : KL} {ly : List (Nat × Nat)} (h : HK n s g W k b ly) : ∀ p ∈ hexp n g b ly, kget b p.1 = none ∧ p.2 ∈ wrows n s g (k + 1) ∧ p.1 = kof p.2 := by
  rintro ⟨K, r⟩ hp
  obtain ⟨q, hq, gq, p, h1, h2, h3, e1, e2⟩ := (hexp_mem hs h K r).mp hp
  have hr : r ∈ wrows n s g (k + 1) := wrows_succ.mpr ⟨q, hq, p, h1, h2, h3, e1⟩
  refine ⟨?_, hr, e2⟩
  show kget b K = none
  cases e : kget b K with
  | none => rfl
  | some r' =>
    obtain ⟨j, hj, hr', ek⟩ := h.B K r' e
    have := wlen_of_kof hs hr' hr (by rw [ek, e2])
    omega
theorem hk_ok (hs : s < n) : ∀ k, HK n s g W k (hk n s g W k).1 (hk n s g W k).2
  | 0 => by
    have m0 : msk [s] = 2 ^ s := by simp [msk]
    have k0 : kof [s] = (2 ^ s, s) := by unfold kof; rw [m0]; rfl
    refine ⟨fun j hj r hr => ?_, fun K r h => ?_, fun K => ?_⟩
    · have : j = 0 := by omega
      subst this
      have : r = [s] := by simpa [wrows] using hr
      subst this
      refine ⟨[s], hr, ?_, rfl, fun r' hr' _ => ?_⟩
      · rw [k0]; show kget [((2 ^ s, s), [s])] _ = _; simp [kget]
      · have : r' = [s] := by simpa [wrows] using hr'
        subst this
        exact ltl_ir _ _
    · have hK : K = (2 ^ s, s) := by
        have := keys_kget h
        simpa [hk] using this
      subst hK
      have : r = [s] := by
        have h : kget [((2 ^ s, s), [s])] (2 ^ s, s) = some r := h
        simp [kget] at h
        exact h.symm
      subst this
      exact ⟨0, Nat.le_refl _, by simp [wrows], k0⟩
    · show K ∈ [(2 ^ s, s)] ↔ _
      simp only [List.mem_singleton, wrows, exists_eq_left, k0]
      exact eq_comm
  | k + 1 => by
    have ih := hk_ok hs k
    have get : ∀ K, kget (hk n s g W (k + 1)).1 K = ofold (ltl (plen W)) (kget (hk n s g W k).1 K) (((hexp n g (hk n s g W k).1 (hk n s g W k).2).filter fun p => decide (p.1 = K)).map (·.2)) := by
      intro K
      show kget ((hexp n g (hk n s g W k).1 (hk n s g W k).2).foldl (kfresh (ltl (plen W))) ((hk n s g W k).1, [])).1 K = _
      rw [kfresh_fst, kfold_get]
    have memf : ∀ K r, r ∈ ((hexp n g (hk n s g W k).1 (hk n s g W k).2).filter fun p => decide (p.1 = K)).map (·.2) ↔ (K, r) ∈ hexp n g (hk n s g W k).1 (hk n s g W k).2 := by
      intro L r
      simp only [List.mem_map, List.mem_filter, decide_eq_true_eq]
      constructor
      · rintro ⟨⟨a, b⟩, ⟨h, rfl⟩, rfl⟩; exact h
      · intro h; exact ⟨_, ⟨h, rfl⟩, rfl⟩
    have new := hexp_new hs ih
    have mem := hexp_mem hs ih
    have lyk : ∀ K, K ∈ (hk n s g W (k + 1)).2 ↔ K ∈ (hexp n g (hk n s g W k).1 (hk n s g W k).2).map (·.1) := by
      intro K
      have := kfresh_mem (ltl (plen W)) (hexp n g (hk n s g W k).1 (hk n s g W k).2) ((hk n s g W k).1, []) (hk n s g W k).1 (fun k' => by
        constructor
        · intro h; cases h
        · rintro ⟨h1, h2⟩
          rw [h2] at h1
          cases h1) (fun _ h => h) (fun p hp => (new p hp).1) K
      show K ∈ ((hexp n g (hk n s g W k).1 (hk n s g W k).2).foldl (kfresh (ltl (plen W))) ((hk n s g W k).1, [])).2 ↔ _
      rw [this]
      constructor
      · rintro (h | h)
        · cases h
        · exact h
      · exact .inr
    generalize hexp n g (hk n s g W k).1 (hk n s g W k).2 = P at get memf new mem lyk
    generalize (hk n s g W k).1 = b at ih get new mem
    generalize (hk n s g W k).2 = ly at ih
    generalize (hk n s g W (k + 1)).1 = b' at get
    generalize (hk n s g W (k + 1)).2 = ly' at lyk
    -- a row has one at least as early among those tried
    have early : ∀ r' ∈ wrows n s g (k + 1), ∃ r0, (kof r', r0) ∈ P ∧ ltl (plen W) r' r0 = false := by
      intro r' h'
      obtain ⟨q, hq, p, h1, h2, h3, rfl⟩ := wrows_succ.mp h'
      obtain ⟨q0, hq0, g0, k0, m0⟩ := ih.A k (Nat.le_refl k) q hq
      have a := wrows_is hs hq
      have b := wrows_is hs hq0
      have em := (Prod.mk.inj k0).1
      refine ⟨q0 ++ [p], (mem _ _).mpr ⟨q0, hq0, by rw [k0]; exact g0, p, h1, fun z => h2 ((msk_mem em p).mp z), by rw [b.len, ← a.len]; exact h3, rfl, by rw [kof_snoc, kof_snoc, em]⟩, ?_⟩
      exact ltl_snoc (by intro z; subst z; have := a.len; simp at this) (by intro z; subst z; have := b.len; simp at this) (by rw [a.len, b.len]) (Prod.mk.inj k0).2.symm (m0 q hq rfl)
    refine ⟨fun j hj r hr => ?_, fun K r h => ?_, fun K => ?_⟩
    · by_cases hjk : j ≤ k
      · obtain ⟨r0, h1, h2, h3, h4⟩ := ih.A j hjk r hr
        refine ⟨r0, h1, ?_, h3, h4⟩
        rw [get, h2]
        have : ((P.filter fun p => decide (p.1 = kof r)).map (·.2)) = [] := by
          cases e : ((P.filter fun p => decide (p.1 = kof r)).map (·.2)) with
          | nil => rfl
          | cons x xs =>
            exfalso
            have hx := (memf (kof r) x).mp (by rw [e]; exact .head _)
            obtain ⟨_, n2, n3⟩ := new _ hx
            have := wlen_of_kof hs hr n2 n3
            omega
        rw [this]
        rfl
      · have : j = k + 1 := by omega
        subst this
        obtain ⟨r0, m0, _⟩ := early r hr
        have hn := (new _ m0).1
        obtain ⟨r1, h1, h2, h3⟩ := ofold_ltl (c := plen W) (List.ne_nil_of_mem ((memf _ _).mpr m0))
        obtain ⟨_, n2, n3⟩ := new _ ((memf _ _).mp h2)
        refine ⟨r1, n2, ?_, n3.symm, fun r' h' e' => ?_⟩
        · rw [get]
          have hn : kget b (kof r) = none := hn
          rw [hn, h1]
        · obtain ⟨r2, m2, l2⟩ := early r' h'
          rw [e'] at m2
          have h4 := h3 r2 ((memf _ _).mpr m2)
          cases e : ltl (plen W) r' r1 with
          | false => rfl
          | true =>
            rcases ltl_co (plen W) r2 e with x | x
            · rw [x] at l2; cases l2
            · rw [x] at h4; cases h4
    · rw [get] at h
      by_cases e : ((P.filter fun p => decide (p.1 = K)).map (·.2)) = []
      · rw [e] at h
        obtain ⟨j, a1, a2, a3⟩ := ih.B K r h
        exact ⟨j, by omega, a2, a3⟩
      · obtain ⟨r1, h1, h2, _⟩ := ofold_ltl (c := plen W) e
        obtain ⟨n1, n2, n3⟩ := new _ ((memf _ _).mp h2)
        have n1 : kget b K = none := n1
        rw [n1, h1] at h
        cases h
        exact ⟨k + 1, Nat.le_refl _, n2, n3.symm⟩
    · rw [lyk, List.mem_map]
      constructor
      · rintro ⟨⟨a, r⟩, hp, rfl⟩
        obtain ⟨_, n2, n3⟩ := new _ hp
        exact ⟨r, n2, n3.symm⟩
      · rintro ⟨r, hr, rfl⟩
        obtain ⟨r0, m0, _⟩ := early r hr
        exact ⟨_, m0, rfl⟩
theorem hexp_len (b : KL) (ly : List (Nat × Nat)) : (hexp n g b ly).length ≤ ly.length * n := by
  unfold hexp
  induction ly with
  | nil => simp
  | cons a l ih =>
    rw [List.flatMap_cons, List.length_append, List.length_map, List.length_cons, Nat.succ_mul]
    have := List.length_filter_le (fun p => !a.1.testBit p && gok n g (hrow b a).length p) (List.range n)
    rw [List.length_range] at this
    omega
theorem hk_len (hn : 1 ≤ n) : ∀ k, (hk n s g W k).2.length ≤ n ^ k ∧ (hk n s g W k).1.length ≤ (k + 1) * n ^ k
  | 0 => by simp [hk]
  | k + 1 => by
    obtain ⟨h1, h2⟩ := hk_len hn k
    have he := hexp_len (n := n) (g := g) (hk n s g W k).1 (hk n s g W k).2
    have hm := Nat.mul_le_mul_right n h1
    have a := kfresh_len (ltl (plen W)) (hexp n g (hk n s g W k).1 (hk n s g W k).2) ((hk n s g W k).1, [])
    have b := kfold_len (ltl (plen W)) (hexp n g (hk n s g W k).1 (hk n s g W k).2) (hk n s g W k).1
    have c : (hk n s g W (k + 1)).1.length = ((hexp n g (hk n s g W k).1 (hk n s g W k).2).foldl (kstep (ltl (plen W))) (hk n s g W k).1).length := by
      show ((hexp n g (hk n s g W k).1 (hk n s g W k).2).foldl (kfresh (ltl (plen W))) ((hk n s g W k).1, [])).1.length = _
      rw [kfresh_fst]
    have up : n ^ k ≤ n ^ (k + 1) := Nat.pow_le_pow_right hn (by omega)
    have hm : (hk n s g W k).2.length * n ≤ n ^ (k + 1) := hm
    refine ⟨?_, ?_⟩
    · show ((hexp n g (hk n s g W k).1 (hk n s g W k).2).foldl (kfresh (ltl (plen W))) ((hk n s g W k).1, [])).2.length ≤ _
      simp only [List.length_nil] at a
      omega
    · rw [c]
      have : (k + 1) * n ^ k ≤ (k + 1) * n ^ (k + 1) := Nat.mul_le_mul_left _ up
      rw [Nat.succ_mul (k + 1)]
      omega
/-- all full rows -/
theorem wrows_full (hs : s < n) {k : Nat} {r : List Nat} : r ∈ wrows n s g k ↔ IsW n k r ∧ r.getD 0 0 = s ∧ ∀ i, 1 ≤ i → i ≤ k → gok n g i (r.getD i 0) = true := by
  constructor
  · intro h
    refine ⟨wrows_is hs h, ?_⟩
    induction k generalizing r with
    | zero =>
      have : r = [s] := by simpa [wrows] using h
      subst this
      exact ⟨rfl, fun i h1 h2 => by omega⟩
    | succ k ih =>
      obtain ⟨q, hq, p, h1, h2, h3, rfl⟩ := wrows_succ.mp h
      obtain ⟨i1, i2⟩ := ih hq
      have ql := (wrows_is hs hq).len
      refine ⟨by rw [getD_app (by omega)]; exact i1, fun i hi hk => ?_⟩
      by_cases e : i = k + 1
      · subst e
        have := last_snoc q p
        rw [List.length_append, List.length_singleton, Nat.add_sub_cancel, ql] at this
        rw [this, ← ql]
        exact h3
      · rw [getD_app (by omega)]
        exact i2 i hi (by omega)
  · rintro ⟨h1, h2, h3⟩
    induction k generalizing r with
    | zero =>
      have : r = [s] := by
        match r, h1.len, h2 with
        | [x], _, h2 => exact congrArg (fun x => [x]) h2
      subst this
      simp [wrows]
    | succ k ih =>
      have hl := h1.len
      have hne : r ≠ [] := by intro e; subst e; simp at hl
      have e := List.dropLast_concat_getLast hne
      have nd := h1.nd
      generalize r.dropLast = q at e
      generalize r.getLast hne = p at e
      subst e
      have ql : q.length = k + 1 := by simpa using hl
      rw [List.nodup_append] at nd
      refine wrows_succ.mpr ⟨q, ih ⟨ql, nd.1, fun x hx => h1.lt x (List.mem_append_left _ hx)⟩ (by rw [getD_app (by omega)] at h2; exact h2) (fun i a b => by
        have := h3 i a (by omega)
        rw [getD_app (by omega)] at this
        exact this), p, h1.lt p (by simp), fun z => nd.2.2 p z p (by simp) rfl, ?_, rfl⟩
      have := h3 (k + 1) (by omega) (Nat.le_refl _)
      have l := last_snoc q p
      rw [List.length_append, List.length_singleton, Nat.add_sub_cancel, ql] at l
      rw [l] at this
      rw [ql]
      exact this
end
end Lib
end

section
set_option Elab.async false
set_option linter.all false
/-! Plain: layouts of a ring, of a row, on a line. -/
namespace Lib
open DS
theorem perm_sum {l l' : List Int} (h : l.Perm l') : l.sum = l'.sum := by
  induction h with
  | nil => rfl
  | cons x _ ih => rw [List.sum_cons, List.sum_cons, ih]
  | swap x y l => simp only [List.sum_cons]; omega
  | trans _ _ a b => rw [a, b]
section
variable {n : Nat} {o : List Nat} {W : Nat → Nat → Int}
def inv (n : Nat) (o : List Nat) : List Nat := (List.range n).map fun u => o.idxOf u
theorem row_mem (h : IsRow n n o) {u : Nat} (hu : u < n) : u ∈ o := h.perm.symm.subset (List.mem_range.mpr hu)
theorem inv_get (h : IsRow n n o) {u : Nat} (hu : u < n) : (inv n o).getD u 0 = o.idxOf u := by
  unfold inv
  rw [List.getD_eq_getElem?_getD, List.getElem?_map, List.getElem?_range hu]
  rfl
theorem inv_lt (h : IsRow n n o) {u : Nat} (hu : u < n) : o.idxOf u < n := by
  have := List.idxOf_lt_length_of_mem (row_mem h hu)
  rwa [h.len] at this
theorem at_inv (h : IsRow n n o) {u : Nat} (hu : u < n) : o.getD (o.idxOf u) 0 = u := by
  have hl := List.idxOf_lt_length_of_mem (row_mem h hu)
  rw [List.getD_eq_getElem?_getD, List.getElem?_eq_getElem hl]
  exact List.getElem_idxOf hl
theorem inv_at (h : IsRow n n o) {p : Nat} (hp : p < n) : o.idxOf (o.getD p 0) = p := by
  have hl : p < o.length := by rw [h.len]; exact hp
  rw [List.getD_eq_getElem?_getD, List.getElem?_eq_getElem hl]
  exact h.nd.idxOf_getElem p hl
theorem inv_row (h : IsRow n n o) : IsRow n n (inv n o) := by
  refine ⟨by unfold inv; simp, ?_, fun x hx => ?_⟩
  · unfold inv
    rw [List.nodup_iff_pairwise_ne, List.pairwise_map]
    refine List.Pairwise.imp_of_mem ?_ (List.nodup_iff_pairwise_ne.mp (List.nodup_range (n := n)))
    intro a b ha hb hab e
    have ha := List.mem_range.mp ha
    have hb := List.mem_range.mp hb
    have := at_inv h ha
    rw [e, at_inv h hb] at this
    exact hab this.symm
  · unfold inv at hx
    obtain ⟨u, hu, rfl⟩ := List.mem_map.mp hx
    exact inv_lt h (List.mem_range.mp hu)
theorem inv_inv (h : IsRow n n o) : inv n (inv n o) = o := by
  have hi := inv_row h
  refine List.ext_getElem? fun p => ?_
  by_cases hp : p < n
  · have h1 := inv_get hi hp
    have ol : p < o.length := by rw [h.len]; exact hp
    have il : p < (inv n (inv n o)).length := by rw [(inv_row hi).len]; exact hp
    rw [List.getElem?_eq_getElem ol, List.getElem?_eq_getElem il]
    congr 1
    have h2 : (inv n (inv n o)).getD p 0 = o.getD p 0 := by
      rw [h1]
      have hv := h.lt _ (List.getElem_mem ol)
      have e : (inv n o).getD (o.getD p 0) 0 = p := by
        rw [inv_get h (IsRow.at h hp), inv_at h hp]
      have := inv_at hi (IsRow.at h hp)
      rw [e] at this
      exact this
    rw [List.getD_eq_getElem?_getD, List.getD_eq_getElem?_getD, List.getElem?_eq_getElem ol, List.getElem?_eq_getElem il] at h2
    exact h2
  · rw [List.getElem?_eq_none (by rw [(inv_row hi).len]; omega), List.getElem?_eq_none (by rw [h.len]; omega)]
theorem reidx (h : IsRow n n o) (F : Nat → Nat → Int) : rsum (fun p => F (o.getD p 0) p) n = rsum (fun u => F u ((inv n o).getD u 0)) n := by
  have e1 : (List.range n).map (fun p => F (o.getD p 0) p) = o.map fun u => F u (o.idxOf u) := by
    refine List.ext_getElem? fun p => ?_
    by_cases hp : p < n
    · have ol : p < o.length := by rw [h.len]; exact hp
      rw [List.getElem?_map, List.getElem?_map, List.getElem?_range hp, List.getElem?_eq_getElem ol]
      show some _ = some _
      congr 1
      have a : o.getD p 0 = o[p] := by rw [List.getD_eq_getElem?_getD, List.getElem?_eq_getElem ol]; rfl
      have b := inv_at h hp
      rw [a] at b
      show F (o.getD p 0) p = F o[p] (o.idxOf o[p])
      rw [b, a]
    · rw [List.getElem?_eq_none (by simp; omega), List.getElem?_eq_none (by simp [h.len]; omega)]
  have e2 := perm_sum (h.perm.map fun u => F u (o.idxOf u))
  rw [← e1, rsum_list, rsum_list] at e2
  rw [e2]
  exact rsum_congr fun u hu => by rw [inv_get h hu]
theorem lc_inv (h : IsRow n n o) (T : Nat → Nat → Int) : lc n W T o = rsum (fun u => rsum (fun v => W ((inv n o).getD u 0) ((inv n o).getD v 0) * T u v) n) n := by
  unfold lc
  have e : ∀ p, rsum (fun q => W p q * T (o.getD p 0) (o.getD q 0)) n = rsum (fun v => W p ((inv n o).getD v 0) * T (o.getD p 0) v) n := fun p => reidx h fun u q => W p q * T (o.getD p 0) u
  rw [rsum_congr (h := fun p => rsum (fun v => W p ((inv n o).getD v 0) * T (o.getD p 0) v) n) fun p _ => e p]
  exact reidx h fun u p => rsum (fun v => W p ((inv n o).getD v 0) * T u v) n
theorem rsum_pick (A : Nat → Int) (t : Nat) : ∀ n, rsum (fun v => A v * (if v = t then 1 else 0)) n = if t < n then A t else 0
  | 0 => rfl
  | n + 1 => by
    show rsum _ n + A n * (if n = t then 1 else 0) = _
    rw [rsum_pick A t n]
    by_cases e : n = t
    · subst e
      rw [if_pos rfl, if_neg (by omega), if_pos (by omega)]
      omega
    · rw [if_neg e]
      by_cases h : t < n
      · rw [if_pos h, if_pos (by omega)]; omega
      · rw [if_neg h, if_neg (by omega)]; omega
def tour (W : Nat → Nat → Int) (r : List Nat) : Int := plen W r + W (r.getD (r.length - 1) 0) (r.getD 0 0)
def ringT (n u v : Nat) : Int := if v = (u + 1) % n then 1 else 0
def lineT (u v : Nat) : Int := if v = u + 1 then 1 else 0
theorem lc_ring (h1 : 1 ≤ n) (h : IsRow n n o) : lc n W (ringT n) o = tour W (inv n o) := by
  rw [lc_inv h]
  have hl := (inv_row h).len
  generalize inv n o = r at hl
  obtain ⟨m, rfl⟩ : ∃ m, n = m + 1 := ⟨n - 1, by omega⟩
  have e : ∀ u, rsum (fun v => W (r.getD u 0) (r.getD v 0) * ringT (m + 1) u v) (m + 1) = W (r.getD u 0) (r.getD ((u + 1) % (m + 1)) 0) := by
    intro u
    have := rsum_pick (fun v => W (r.getD u 0) (r.getD v 0)) ((u + 1) % (m + 1)) (m + 1)
    rw [if_pos (Nat.mod_lt _ (by omega))] at this
    exact this
  rw [rsum_congr (h := fun u => W (r.getD u 0) (r.getD ((u + 1) % (m + 1)) 0)) fun u _ => e u]
  unfold tour plen
  rw [hl, Nat.add_sub_cancel]
  show rsum _ m + W (r.getD m 0) (r.getD ((m + 1) % (m + 1)) 0) = _
  rw [Nat.mod_self]
  congr 1
  exact rsum_congr fun u hu => by rw [Nat.mod_eq_of_lt (show u + 1 < m + 1 by omega)]
theorem lc_line (h1 : 1 ≤ n) (h : IsRow n n o) : lc n W lineT o = plen W (inv n o) := by
  rw [lc_inv h]
  have hl := (inv_row h).len
  generalize inv n o = r at hl
  obtain ⟨m, rfl⟩ : ∃ m, n = m + 1 := ⟨n - 1, by omega⟩
  have e : ∀ u, rsum (fun v => W (r.getD u 0) (r.getD v 0) * lineT u v) (m + 1) = if u + 1 < m + 1 then W (r.getD u 0) (r.getD (u + 1) 0) else 0 := fun u => rsum_pick (fun v => W (r.getD u 0) (r.getD v 0)) (u + 1) (m + 1)
  rw [rsum_congr (h := fun u => if u + 1 < m + 1 then W (r.getD u 0) (r.getD (u + 1) 0) else 0) fun u _ => e u]
  unfold plen
  rw [hl, Nat.add_sub_cancel]
  show rsum _ m + (if m + 1 < m + 1 then _ else 0) = _
  rw [if_neg (by omega), Int.add_zero]
  exact rsum_congr fun u hu => by rw [if_pos (by omega)]
theorem plen_cons (x : Nat) {t : List Nat} (h : t ≠ []) : plen W (x :: t) = W x (t.getD 0 0) + plen W t := by
  have hl : 0 < t.length := List.length_pos_iff.mpr h
  obtain ⟨m, hm⟩ : ∃ m, t.length = m + 1 := ⟨t.length - 1, by omega⟩
  unfold plen
  rw [List.length_cons, Nat.add_sub_cancel, hm, Nat.add_sub_cancel, rsum_front]
  rfl
theorem tour_rot (x : Nat) {t : List Nat} (h : t ≠ []) : tour W (x :: t) = tour W (t ++ [x]) := by
  have hl : 0 < t.length := List.length_pos_iff.mpr h
  unfold tour
  rw [plen_cons x h, plen_snoc W h, last_snoc, getD_app hl]
  have e : (x :: t).getD ((x :: t).length - 1) 0 = t.getD (t.length - 1) 0 := by
    obtain ⟨m, hm⟩ : ∃ m, t.length = m + 1 := ⟨t.length - 1, by omega⟩
    rw [List.length_cons, Nat.add_sub_cancel, hm, Nat.add_sub_cancel]
    rfl
  rw [e]
  show W x (t.getD 0 0) + plen W t + W (t.getD (t.length - 1) 0) x = _
  omega
theorem to_front (h2 : 2 ≤ n) : ∀ (i : Nat) (r : List Nat), IsRow n n r → i < n → r.getD i 0 = 0 → ∃ r', IsRow n n r' ∧ r'.getD 0 0 = 0 ∧ tour W r' = tour W r
  | 0, r, h, _, e => ⟨r, h, e, rfl⟩
  | i + 1, r, h, hi, e => by
    cases r with
    | nil => have := h.len; simp at this; omega
    | cons x t =>
      have hl := h.len
      rw [List.length_cons] at hl
      have ht : t ≠ [] := by intro z; subst z; simp at hl; omega
      have hp : (t ++ [x]).Perm (x :: t) := by
        have := List.perm_append_comm (l₁ := t) (l₂ := [x])
        exact this
      have hr := h.of_perm' hp
      have e' : (t ++ [x]).getD i 0 = 0 := by
        rw [getD_app (by omega)]
        exact e
      obtain ⟨r', a, b, c⟩ := to_front h2 i (t ++ [x]) hr (by omega) e'
      exact ⟨r', a, b, by rw [c, tour_rot x ht]⟩
/-- the least round, the least cost of the ring -/
theorem ring_least (h2 : 2 ≤ n) {r : List Nat} (hr : IsRow n n r) (h0 : r.getD 0 0 = 0) (hb : ∀ o, IsRow n n o → o.getD 0 0 = 0 → tour W r ≤ tour W o) : lc n W (ringT n) (bestO (lc n W (ringT n)) n) = tour W r := by
  have a := bestO_le (lc n W (ringT n)) n (inv_row hr)
  rw [lc_ring (by omega) (inv_row hr), inv_inv hr] at a
  have bo := bestO_row (lc n W (ringT n)) n
  rw [lc_ring (by omega) bo] at a ⊢
  have hi := inv_row bo
  obtain ⟨r', h1, h3, h4⟩ := to_front (W := W) h2 _ _ hi (inv_lt hi (show 0 < n by omega)) (at_inv hi (show 0 < n by omega))
  have := hb r' h1 h3
  omega
theorem line_least (h1 : 1 ≤ n) {r : List Nat} (hr : IsRow n n r) (hb : ∀ o, IsRow n n o → plen W r ≤ plen W o) : lc n W lineT (bestO (lc n W lineT) n) = plen W r := by
  have a := bestO_le (lc n W lineT) n (inv_row hr)
  rw [lc_line (by omega) (inv_row hr), inv_inv hr] at a
  have bo := bestO_row (lc n W lineT) n
  rw [lc_line (by omega) bo] at a ⊢
  have := hb _ (inv_row bo)
  omega
/-! on a line -/
def farT (u v : Nat) : Int := absI ((u : Int) - v)
theorem mids_one : ∀ (j : Nat), j ≤ n → IsRow n n o → (mids n (fun _ => 1) (o.take j)).2 = j ∧ ∀ p, p < j → (mids n (fun _ => 1) (o.take j)).1.getD (o.getD p 0) 0 = 2 * p + 1
  | 0, _, _ => ⟨by rw [List.take_zero]; rfl, fun p h => by omega⟩
  | j + 1, hj, h => by
    obtain ⟨i1, i2⟩ := mids_one j (by omega) h
    have ol : j < o.length := by rw [h.len]; omega
    have et : o.take (j + 1) = o.take j ++ [o.getD j 0] := by
      rw [List.take_add_one, List.getElem?_eq_getElem ol, List.getD_eq_getElem?_getD, List.getElem?_eq_getElem ol]
      rfl
    rw [et, mids_snoc]
    unfold mstep
    refine ⟨?_, fun p hp => ?_⟩
    · show (mids n (fun _ => 1) (o.take j)).2 + 1 = _
      rw [i1]; push_cast; rfl
    · show ((mids n (fun _ => 1) (o.take j)).1.set (o.getD j 0) (2 * (mids n (fun _ => 1) (o.take j)).2 + 1)).getD (o.getD p 0) 0 = _
      rw [i1, List.getD_eq_getElem?_getD, List.getElem?_set]
      by_cases e : p = j
      · subst e
        rw [if_pos rfl, if_pos (by rw [mids_len]; exact IsRow.at h (by omega))]
        rfl
      · rw [if_neg, ← List.getD_eq_getElem?_getD, i2 p (by omega)]
        intro z
        have a := inv_at h (show j < n by omega)
        have b := inv_at h (show p < n by omega)
        rw [z, b] at a
        exact e a
theorem mids_at (h : IsRow n n o) {u : Nat} (hu : u < n) : (mids n (fun _ => 1) o).1.getD u 0 = 2 * ((inv n o).getD u 0 : Nat) + 1 := by
  obtain ⟨_, i2⟩ := mids_one n (Nat.le_refl n) h
  rw [List.take_of_length_le (by rw [h.len]; exact Nat.le_refl n)] at i2
  have := i2 (o.idxOf u) (inv_lt h hu)
  rw [at_inv h hu] at this
  rw [inv_get h hu, this]
theorem dtc_far (h : IsRow n n o) (T : Nat → Nat → Int) : dtc n T (fun _ => 1) o = 2 * lc n farT T o := by
  rw [lc_inv h]
  unfold dtc
  have e : ∀ u, u < n → rsum (fun v => T u v * absI ((mids n (fun _ => 1) o).1.getD u 0 - (mids n (fun _ => 1) o).1.getD v 0)) n = rsum (fun v => 2 * (farT ((inv n o).getD u 0) ((inv n o).getD v 0) * T u v)) n := by
    intro u hu
    refine rsum_congr fun v hv => ?_
    rw [mids_at h hu, mids_at h hv]
    unfold farT absI
    generalize ((inv n o).getD u 0 : Nat) = a
    generalize ((inv n o).getD v 0 : Nat) = b
    have : (2 * (a : Int) + 1 - (2 * (b : Int) + 1)) = 2 * ((a : Int) - b) := by omega
    rw [this]
    generalize (a : Int) - b = x
    by_cases hx : x < 0
    · rw [if_pos hx, if_pos (by omega)]
      rw [← Int.mul_neg, Int.mul_comm (T u v), Int.mul_assoc]
    · rw [if_neg hx, if_neg (by omega), Int.mul_comm (T u v), Int.mul_assoc]
  have two : ∀ (g : Nat → Int) (m : Nat), rsum (fun v => 2 * g v) m = 2 * rsum g m := by
    intro g m
    induction m with
    | zero => rfl
    | succ m ih =>
      show rsum _ m + 2 * g m = 2 * (rsum g m + g m)
      rw [ih]; omega
  rw [rsum_congr (h := fun u => 2 * rsum (fun v => farT ((inv n o).getD u 0) ((inv n o).getD v 0) * T u v) n) fun u hu => by rw [e u hu, two], two]
theorem fmin_cong {α : Type} {lt lt' : α → α → Bool} : ∀ (xs : List α) (x : α), (∀ a ∈ x :: xs, ∀ b ∈ x :: xs, lt a b = lt' a b) → fmin lt x xs = fmin lt' x xs
  | [], _, _ => rfl
  | y :: ys, x, h => by
    show fmin lt (if lt y x = true then y else x) ys = fmin lt' (if lt' y x = true then y else x) ys
    rw [h y (.tail _ (.head _)) x (.head _)]
    refine fmin_cong ys _ fun a ha b hb => h a ?_ b ?_
    · rcases List.mem_cons.mp ha with e | ha
      · rw [e]; split
        · exact .tail _ (.head _)
        · exact .head _
      · exact .tail _ (.tail _ ha)
    · rcases List.mem_cons.mp hb with e | hb
      · rw [e]; split
        · exact .tail _ (.head _)
        · exact .head _
      · exact .tail _ (.tail _ hb)
theorem far_best (T : Nat → Nat → Int) : bestO (dtc n T fun _ => 1) n = bestO (lc n farT T) n := by
  unfold bestO
  cases e : ords n n with
  | nil => rfl
  | cons x xs =>
    refine fmin_cong xs x fun a ha b hb => ?_
    have ra := mem_ords.mp (by rw [e]; exact ha)
    have rb := mem_ords.mp (by rw [e]; exact hb)
    rw [dtc_far ra, dtc_far rb, decide_eq_decide]
    omega
theorem climb_best (h2 : 2 ≤ n) (c : List Nat → Int) (k : Nat) : climb c n k (bestO c n) = bestO c n := by
  cases k with
  | zero => rfl
  | succ k =>
    have hr := best_row (c := c) h2 (bestO_row c n)
    have := bestO_le c n hr.1
    unfold climb
    rw [if_pos (by rw [hr.2]; exact this)]
end
end Lib
end

section
set_option Elab.async false
set_option linter.all false
set_option maxRecDepth 10000
/-! Dicts as lists of keys and rows; bits. -/
namespace Lib
open DS PySem
/-- keys that are told apart as trees are -/
structure KeyF {κ : Type} [DecidableEq κ] (kf : κ → D) : Prop where
  eqv : ∀ a b, PyData.eqv (kf a) (kf b) = decide (a = b)
  key : ∀ a, (keyK (kf a)).isSome = true
  tup : ∀ a, isT (kf a) = true
section
variable {κ β : Type} [DecidableEq κ] {kf : κ → D} {vf : β → D}
def kl (kf : κ → D) (vf : β → D) (l : List (κ × β)) : List (D × D) := l.map fun p => (kf p.1, vf p.2)
def kd (kf : κ → D) (vf : β → D) (l : List (κ × β)) : D := .dict (kl kf vf l)
theorem kd_flat (l : List (κ × β)) : flat (kd kf vf l) = false := by simp [kd, flat]
theorem KeyF.non (hk : KeyF kf) (a : κ) : noneD (kf a) = false := by
  have := hk.tup a
  cases e : kf a <;> rw [e] at this <;> first | rfl | simp [isT] at this
theorem kl_kind (hk : KeyF kf) (l : List (κ × β)) (k : κ) : kindOk (kl kf vf l) (kf k) = true := by
  cases l with
  | nil => exact hk.key k
  | cons p l =>
    show ((keyK (kf k)).isSome && !noneD (kf p.1) && (isT (kf p.1) == isT (kf k))) = true
    rw [hk.key, hk.non, hk.tup, hk.tup]
    rfl
theorem kl_find (hk : KeyF kf) (l : List (κ × β)) (k : κ) : dFind (kl kf vf l) (kf k) = (kget l k).map vf := by
  unfold dFind kget kl
  rw [List.find?_map]
  have : ((fun p : D × D => PyData.eqv p.1 (kf k)) ∘ fun p : κ × β => (kf p.1, vf p.2)) = fun p => decide (p.1 = k) := by
    funext p
    exact hk.eqv p.1 k
  rw [this]
  cases l.find? fun p => decide (p.1 = k) <;> rfl
theorem kd_get (hk : KeyF kf) {l : List (κ × β)} {k : κ} {r : β} (h : kget l k = some r) : dGetD (kd kf vf l) (kf k) = some (vf r) := by
  show (if kindOk (kl kf vf l) (kf k) = true then dFind (kl kf vf l) (kf k) else none) = _
  rw [if_pos (kl_kind hk l k), kl_find hk, h]
  rfl
theorem kd_notin (hk : KeyF kf) (l : List (κ × β)) (k : κ) : dNotInD (kf k) (kd kf vf l) = some (!(kget l k).isSome) := by
  show o1 (if kindOk (kl kf vf l) (kf k) = true then some (dFind (kl kf vf l) (kf k)).isSome else none) _ = _
  rw [if_pos (kl_kind hk l k), o1_s, kl_find hk]
  cases kget l k <;> rfl
theorem kl_put (hk : KeyF kf) (l : List (κ × β)) (k : κ) (v : β) : putD (kl kf vf l) (kf k) (vf v) = kl kf vf (kput l k v) := by
  have e : ((kl kf vf l).any fun p => PyData.eqv p.1 (kf k)) = l.any fun p => decide (p.1 = k) := by
    unfold kl
    rw [List.any_map]
    congr 1
    funext p
    exact hk.eqv p.1 k
  unfold putD kput
  rw [e]
  split
  · unfold kl
    rw [List.map_map, List.map_map]
    refine List.map_congr_left fun p _ => ?_
    show (if PyData.eqv (kf p.1) (kf k) = true then (kf p.1, vf v) else (kf p.1, vf p.2)) = _
    rw [hk.eqv]
    show _ = (fun p : κ × β => (kf p.1, vf p.2)) (if decide (p.1 = k) = true then (p.1, v) else p)
    split <;> rfl
  · unfold kl
    rw [List.map_append]
    rfl
theorem kd_keys (hk : KeyF kf) (l : List (κ × β)) : keysD (kd kf vf l) = some ((l.map (·.1)).map kf) := by
  cases l with
  | nil => rfl
  | cons p l =>
    have hn := hk.tup p.1
    have : keysD (.dict ((kf p.1, vf p.2) :: kl kf vf l)) = some (((kf p.1, vf p.2) :: kl kf vf l).map (·.1)) := by
      unfold keysD
      cases e : kf p.1 <;> rw [e] at hn <;> first | rfl | simp [isT] at hn
    show keysD (.dict ((kf p.1, vf p.2) :: kl kf vf l)) = _
    rw [this]
    unfold kl
    simp
end
/-! bits -/
theorem and_one (u p : Nat) : Builtin.bitAnd ((u : Int) / 2 ^ p) 1 = if u.testBit p then 1 else 0 := by
  have e : ((u : Int) / 2 ^ p) = ((u / 2 ^ p : Nat) : Int) := by push_cast; rfl
  rw [e]
  have : Builtin.bitAnd ((u / 2 ^ p : Nat) : Int) 1 = ((((u / 2 ^ p) &&& 1 : Nat)) : Int) := by
    unfold Builtin.bitAnd
    rw [decide_eq_true (show (0 : Int) ≤ ((u / 2 ^ p : Nat) : Int) from Int.natCast_nonneg _)]
    rfl
  rw [this, Nat.and_one_is_mod, Nat.testBit_eq_decide_div_mod_eq]
  have := Nat.mod_lt (u / 2 ^ p) (show 0 < 2 by decide)
  by_cases h : u / 2 ^ p % 2 = 1
  · rw [decide_eq_true h, if_pos rfl, h]; rfl
  · rw [decide_eq_false h, if_neg (by decide)]
    have : u / 2 ^ p % 2 = 0 := by omega
    rw [this]; rfl
theorem or_nat (u v : Nat) : Builtin.bitOr (u : Int) (v : Int) = ((u ||| v : Nat) : Int) := by
  unfold Builtin.bitOr Builtin.bitAnd
  have h1 : ¬ (0 : Int) ≤ Builtin.bitNot (u : Int) := by unfold Builtin.bitNot; omega
  have h2 : ¬ (0 : Int) ≤ Builtin.bitNot (v : Int) := by unfold Builtin.bitNot; omega
  rw [decide_eq_false h1, decide_eq_false h2]
  show Builtin.bitNot (Builtin.bitNot (((Builtin.bitNot (Builtin.bitNot (u : Int))).toNat ||| (Builtin.bitNot (Builtin.bitNot (v : Int))).toNat : Nat) : Int)) = _
  have nn : ∀ x : Int, Builtin.bitNot (Builtin.bitNot x) = x := fun x => by unfold Builtin.bitNot; omega
  rw [nn, nn, nn]
  rfl
def kD2 (K : Nat × Nat) : D := .tuple [nat K.1, nat K.2]
theorem kD2_key : KeyF kD2 := by
  have e : ∀ K, kD2 K = .tuple (([Sum.inl (K.1 : Int), Sum.inl (K.2 : Int)] : List L2.Key).map keyD) := fun K => rfl
  refine ⟨fun a b => ?_, fun a => rfl, fun a => rfl⟩
  rw [e, e, eqv_keys, decide_eq_decide]
  obtain ⟨a1, a2⟩ := a
  obtain ⟨b1, b2⟩ := b
  simp only [List.cons.injEq, Sum.inl.injEq, Prod.mk.injEq, and_true]
  omega
theorem cmp_co (c : List Nat → Int) (a b : List Nat) : dLt (co c a) (co c b) = some (ltl c a b) := by
  show (if cmpOk (co c a) (co c b) = true then some (PySem.W.dataLt (co c a) (co c b)) else none) = _
  rw [dataLt_co, if_pos]
  · rfl
  · unfold cmpOk
    have h1 := depth_nt a
    have h2 := alike_nt a b
    have h3 : (co c a).depth ≤ 60 := by
      simp only [co, PyData.depth, PyData.depthAll]
      omega
    rw [decide_eq_true h3]
    simp [co, PyData.canLay0, PyData.canLayAll0, lay_nt, PySem.W.alike, PySem.W.alikeAll, h2, noneD]
end Lib
end

section
set_option Elab.async false
set_option linter.all false
set_option maxRecDepth 10000
/-! k35: ways_from. -/
namespace Lib
open DS PySem
def den_ways_from : Fn := dfun 15 3 (sSeq (sSet 3 0 (eCB (d1 dLen) (aCons (eVar 0) aNil)) [])
  (sSeq (sSet 4 1 (eOp dD1 (eTup (aCons (eOp dShl (eC (.int 1)) (eVar 1)) (aCons (eVar 1) aNil))) (eTup (aCons (eC (.int 0)) (aCons (eTup (aCons (eVar 1) aNil)) aNil)))) [])
  (sSeq (sSet 5 0 (eLst (aCons (eTup (aCons (eOp dShl (eC (.int 1)) (eVar 1)) (aCons (eVar 1) aNil))) aNil)) ((([] ++ [(1, 1)]) ++ ([(1, 0)] ++ [])) ++ []))
  (sSeq (sFor (iRange1 (eOp dSub (eVar 3) (eC (.int 1)))) [] (.nm 6)
  (sSeq (sSet 7 1 (eLst aNil) [])
  (sSeq (sFor (iSeq (eVar 5)) [(5, 0)] (.tp [(.nm 8), (.nm 9)])
  (sSeq (sTup (.tp [(.nm 10), (.nm 11)]) (eOp dGetD (eVar 4) (eTup (aCons (eVar 8) (aCons (eVar 9) aNil)))) [(4, 1)])
  (sFor (iRange1 (eVar 3)) [] (.nm 12)
  (sIf (tAndD (tCmp dEq (eOp dAnd (eOp dShr (eVar 8) (eVar 12)) (eC (.int 1))) (eC (.int 0))) (tOrD (tCmp dNe (eVar 12) (eVar 2)) (tCmp dEq (eCB (d1 dLen) (aCons (eVar 11) aNil)) (eOp dSub (eVar 3) (eC (.int 1))))))
  (sSeq (sSet 13 0 (eTup (aCons (eOp dOr (eVar 8) (eOp dShl (eC (.int 1)) (eVar 12))) (aCons (eVar 12) aNil))) (([(8, 1)] ++ ([] ++ [(12, 1)])) ++ ([(12, 0)] ++ [])))
  (sSeq (sSet 14 0 (eTup (aCons (eOp dAdd (eVar 10) (eIx (eIx (eVar 0) (eVar 9)) (eVar 12))) (aCons (eOp dAdd (eVar 11) (eTup (aCons (eVar 12) aNil))) aNil))) (([(10, 1)] ++ [(0, 3)]) ++ (([(11, 1)] ++ ([(12, 0)] ++ [])) ++ [])))
  (sSeq (sIf (tCmp dNotInD (eVar 13) (eVar 4))
  (sApp 7 (eVar 13) [(13, 0)])
  sNil)
  (sIf (tOrD (tCmp dNotInD (eVar 13) (eVar 4)) (tCmp dLt (eVar 14) (eOp dGetD (eVar 4) (eVar 13))))
  (sPutD 4 (eVar 13) (eVar 14))
  sNil))))
  sNil))))
  (sSet 5 0 (eVar 7) [(7, 0)]))))
  (sRet (eVar 4))))))
def gD : Option Nat → D
  | none => .none
  | some t => nat t
section
variable {n s : Nat} {g : Option Nat} {W : Nat → Nat → Int}
abbrev wd (W : Nat → Nat → Int) (b : KL) : D := kd kD2 (co (plen W)) b
abbrev lyD (ly : List (Nat × Nat)) : D := .list (ly.map kD2)
def wfIn : FS := (sIf (tAndD (tCmp dEq (eOp dAnd (eOp dShr (eVar 8) (eVar 12)) (eC (.int 1))) (eC (.int 0))) (tOrD (tCmp dNe (eVar 12) (eVar 2)) (tCmp dEq (eCB (d1 dLen) (aCons (eVar 11) aNil)) (eOp dSub (eVar 3) (eC (.int 1))))))
  (sSeq (sSet 13 0 (eTup (aCons (eOp dOr (eVar 8) (eOp dShl (eC (.int 1)) (eVar 12))) (aCons (eVar 12) aNil))) (([(8, 1)] ++ ([] ++ [(12, 1)])) ++ ([(12, 0)] ++ [])))
  (sSeq (sSet 14 0 (eTup (aCons (eOp dAdd (eVar 10) (eIx (eIx (eVar 0) (eVar 9)) (eVar 12))) (aCons (eOp dAdd (eVar 11) (eTup (aCons (eVar 12) aNil))) aNil))) (([(10, 1)] ++ [(0, 3)]) ++ (([(11, 1)] ++ ([(12, 0)] ++ [])) ++ [])))
  (sSeq (sIf (tCmp dNotInD (eVar 13) (eVar 4))
  (sApp 7 (eVar 13) [(13, 0)])
  sNil)
  (sIf (tOrD (tCmp dNotInD (eVar 13) (eVar 4)) (tCmp dLt (eVar 14) (eOp dGetD (eVar 4) (eVar 13))))
  (sPutD 4 (eVar 13) (eVar 14))
  sNil))))
  sNil)
theorem dNe_goal (p : Nat) (g : Option Nat) : dNe (nat p) (gD g) = some (!decide (g = some p)) := by
  cases g with
  | none => rfl
  | some t =>
    show dNe (nat p) (nat t) = _
    rw [dNe_nat]
    congr 1
    rw [← decide_not, decide_eq_decide]
    simp only [Option.some.injEq]
    omega
theorem shl_one (p : Nat) (h : p ≤ 1000) : dShl (.int 1) (nat p) = some (nat (2 ^ p)) := by
  show (if powOk 1 (p : Int) = true then some (PyData.int (1 * 2 ^ ((p : Int)).toNat)) else none) = _
  rw [if_pos (by
    unfold powOk
    rw [decide_eq_true (show (0 : Int) ≤ (p : Int) by omega), decide_eq_true (show (p : Int) ≤ 1000000 by omega)]
    rfl), Int.toNat_natCast]
  unfold nat
  rw [Int.one_mul]
  push_cast
  rfl
/-- what one place does -/
def wnext (n : Nat) (g : Option Nat) (W : Nat → Nat → Int) (u : Nat) (r : List Nat) (x : KL × List (Nat × Nat)) (p : Nat) : KL × List (Nat × Nat) := if (!u.testBit p && gok n g r.length p) = true then kfresh (ltl (plen W)) x ((u ||| 2 ^ p, p), r ++ [p]) else x
theorem wfIn_ok {b : KL} {ly : List (Nat × Nat)} {u l p : Nat} {r : List Nat} (hn : n ≤ 20) (hl : l < n) (hp : p < n) (hr : r ≠ []) (hlast : r.getD (r.length - 1) 0 = l) (hr2 : r.length ≤ 1000) (hb : b.length ≤ 10000) (hly : ly.length ≤ 10000) (x1 x5 x6 x13 x14 : Option D) :
    ∃ y13 y14, wfIn ([some (tb n W), x1, some (gD g), some (.int n), some (wd W b), x5, x6, some (lyD ly), some (nat u), some (nat l), some (.int (plen W r)), some (nt r), some (nat p), x13, x14], [0, 0, 0, 0, 1, 0, 0, 1, 0, 0, 0, 0, 0, 0, 0])
    = .next ([some (tb n W), x1, some (gD g), some (.int n), some (wd W (wnext n g W u r (b, ly) p).1), x5, x6, some (lyD (wnext n g W u r (b, ly) p).2), some (nat u), some (nat l), some (.int (plen W r)), some (nt r), some (nat p), y13, y14], [0, 0, 0, 0, 1, 0, 0, 1, 0, 0, 0, 0, 0, 0, 0]) := by
  have hrl : 0 < r.length := List.length_pos_iff.mpr hr
  have t1 : tCmp dEq (eOp dAnd (eOp dShr (eVar 8) (eVar 12)) (eC (.int 1))) (eC (.int 0)) [some (tb n W), x1, some (gD g), some (.int n), some (wd W b), x5, x6, some (lyD ly), some (nat u), some (nat l), some (.int (plen W r)), some (nt r), some (nat p), x13, x14] = some (!u.testBit p) := by
    have e1 : dShr (nat u) (nat p) = some (.int ((u : Int) / 2 ^ p)) := by
      show (if (0 : Int) ≤ (p : Int) then some (PyData.int ((u : Int) / 2 ^ ((p : Int)).toNat)) else none) = _
      rw [if_pos (by omega), Int.toNat_natCast]
    have e2 : dAnd (.int ((u : Int) / 2 ^ p)) (.int 1) = some (.int (if u.testBit p then 1 else 0)) := by
      show some (PyData.int _) = _
      rw [and_one]
    rw [tCmp_a, eOp_a, eOp_a]
    show o2 (o2 (dShr (nat u) (nat p)) (some (.int 1)) dAnd) (some (.int 0)) dEq = _
    rw [e1, o2_ss, e2, o2_ss, dEq_i]
    cases u.testBit p <;> rfl
  have t2 : tOrD (tCmp dNe (eVar 12) (eVar 2)) (tCmp dEq (eCB (d1 dLen) (aCons (eVar 11) aNil)) (eOp dSub (eVar 3) (eC (.int 1)))) [some (tb n W), x1, some (gD g), some (.int n), some (wd W b), x5, x6, some (lyD ly), some (nat u), some (nat l), some (.int (plen W r)), some (nt r), some (nat p), x13, x14] = some (gok n g r.length p) := by
    have a1 : tCmp dNe (eVar 12) (eVar 2) [some (tb n W), x1, some (gD g), some (.int n), some (wd W b), x5, x6, some (lyD ly), some (nat u), some (nat l), some (.int (plen W r)), some (nt r), some (nat p), x13, x14] = some (!decide (g = some p)) := dNe_goal p g
    unfold gok
    by_cases e : g = some p
    · rw [decide_eq_true e] at a1 ⊢
      rw [tOr_f a1]
      simp only [tCmp_a, eOp_a, eCB_a, aCons_a, aNil_a, eC_a, eVar_0, eVar_s, o2_ss, o1_s, d1_1, nt_len, dSub_i, dEq_i]
      rw [Bool.not_true, Bool.false_or]
      congr 1
      rw [decide_eq_decide]
      omega
    · rw [decide_eq_false e] at a1 ⊢
      rw [tOr_t a1]
      rfl
  have t3 : tAndD (tCmp dEq (eOp dAnd (eOp dShr (eVar 8) (eVar 12)) (eC (.int 1))) (eC (.int 0))) (tOrD (tCmp dNe (eVar 12) (eVar 2)) (tCmp dEq (eCB (d1 dLen) (aCons (eVar 11) aNil)) (eOp dSub (eVar 3) (eC (.int 1))))) [some (tb n W), x1, some (gD g), some (.int n), some (wd W b), x5, x6, some (lyD ly), some (nat u), some (nat l), some (.int (plen W r)), some (nt r), some (nat p), x13, x14] = some (!u.testBit p && gok n g r.length p) := by
    cases q : u.testBit p with
    | true => rw [q] at t1; rw [tAnd_f t1]; rfl
    | false => rw [q] at t1; rw [tAnd_t t1, t2]; rfl
  unfold wfIn wnext
  generalize (!u.testBit p && gok n g r.length p) = q at t3
  cases q with
  | false =>
    refine ⟨x13, x14, ?_⟩
    rw [sIf_ff t3]
    rfl
  | true =>
    refine ⟨some (kD2 (u ||| 2 ^ p, p)), some (co (plen W) (r ++ [p])), ?_⟩
    rw [sIf_tt t3, if_pos rfl]
    have sh := shl_one p (by omega)
    have e1 : eTup (aCons (eOp dOr (eVar 8) (eOp dShl (eC (.int 1)) (eVar 12))) (aCons (eVar 12) aNil)) [some (tb n W), x1, some (gD g), some (.int n), some (wd W b), x5, x6, some (lyD ly), some (nat u), some (nat l), some (.int (plen W r)), some (nt r), some (nat p), x13, x14] = some (kD2 (u ||| 2 ^ p, p)) := by
      have e : dOr (nat u) (nat (2 ^ p)) = some (nat (u ||| 2 ^ p)) := by
        show some (PyData.int (Builtin.bitOr (u : Int) ((2 ^ p : Nat) : Int))) = _
        rw [or_nat]
        rfl
      unfold eTup
      show o1 (o2 (o2 (some (nat u)) (dShl (.int 1) (nat p)) dOr) (o2 (some (nat p)) (some []) fun d ds => some (d :: ds)) fun d ds => some (d :: ds)) _ = _
      rw [sh, o2_ss, e]
      rfl
    rw [sSeq_next (sSet_flat e1 rfl)]
    simp only [List.set_cons_zero, List.set_cons_succ]
    have e2 : eTup (aCons (eOp dAdd (eVar 10) (eIx (eIx (eVar 0) (eVar 9)) (eVar 12))) (aCons (eOp dAdd (eVar 11) (eTup (aCons (eVar 12) aNil))) aNil)) [some (tb n W), x1, some (gD g), some (.int n), some (wd W b), x5, x6, some (lyD ly), some (nat u), some (nat l), some (.int (plen W r)), some (nt r), some (nat p), some (kD2 (u ||| 2 ^ p, p)), x14] = some (co (plen W) (r ++ [p])) := by
      have i1 : dIx (tb n W) (nat l) = some (trow n (W l)) := tb_ix hl
      have i2 : dIx (trow n (W l)) (nat p) = some (.int (W l p)) := trow_ix hp
      unfold eTup
      show o1 (o2 (o2 (some (.int (plen W r))) (o2 (dIx (tb n W) (nat l)) (some (nat p)) dIx) dAdd) (o2 (o2 (some (nt r)) (some (.tuple [nat p])) dAdd) (some []) fun d ds => some (d :: ds)) fun d ds => some (d :: ds)) _ = _
      rw [i1, o2_ss, i2, o2_ss, dAdd_i, o2_ss, nt_snoc (by omega), o2_ss, o2_ss, o1_s]
      unfold co
      rw [plen_snoc W hr, hlast]
      rfl
    rw [sSeq_next (sSet_flat e2 (co_flat _ _))]
    simp only [List.set_cons_zero, List.set_cons_succ]
    have n1 : tCmp dNotInD (eVar 13) (eVar 4) [some (tb n W), x1, some (gD g), some (.int n), some (wd W b), x5, x6, some (lyD ly), some (nat u), some (nat l), some (.int (plen W r)), some (nt r), some (nat p), some (kD2 (u ||| 2 ^ p, p)), some (co (plen W) (r ++ [p]))] = some (!(kget b (u ||| 2 ^ p, p)).isSome) := kd_notin kD2_key b _
    rw [sSeq_next (s' := ([some (tb n W), x1, some (gD g), some (.int n), some (wd W b), x5, x6, some (lyD (if (kget b (u ||| 2 ^ p, p)).isSome = true then ly else ly ++ [(u ||| 2 ^ p, p)])), some (nat u), some (nat l), some (.int (plen W r)), some (nt r), some (nat p), some (kD2 (u ||| 2 ^ p, p)), some (co (plen W) (r ++ [p]))], [0, 0, 0, 0, 1, 0, 0, 1, 0, 0, 0, 0, 0, 0, 0])) (by
      cases q : (kget b (u ||| 2 ^ p, p)).isSome with
      | true =>
        rw [q] at n1
        rw [sIf_ff n1, if_pos rfl]
        rfl
      | false =>
        rw [q] at n1
        rw [sIf_tt n1, if_neg (by decide)]
        rw [sApp_flat (d := kD2 (u ||| 2 ^ p, p)) (ds := ly.map kD2) rfl rfl rfl (by rw [List.length_map]; omega) rfl]
        show _ = Out.next ([some (tb n W), x1, some (gD g), some (.int n), some (wd W b), x5, x6, some (.list ((ly ++ [(u ||| 2 ^ p, p)]).map kD2)), some (nat u), some (nat l), some (.int (plen W r)), some (nt r), some (nat p), some (kD2 (u ||| 2 ^ p, p)), some (co (plen W) (r ++ [p]))], [0, 0, 0, 0, 1, 0, 0, 1, 0, 0, 0, 0, 0, 0, 0])
        rw [List.map_append]
        rfl)]
    show _ = Out.next ([some (tb n W), x1, some (gD g), some (.int n), some (wd W (kstep (ltl (plen W)) b ((u ||| 2 ^ p, p), r ++ [p]))), x5, x6, some (lyD (if (kget b (u ||| 2 ^ p, p)).isSome = true then ly else ly ++ [(u ||| 2 ^ p, p)])), some (nat u), some (nat l), some (.int (plen W r)), some (nt r), some (nat p), some (kD2 (u ||| 2 ^ p, p)), some (co (plen W) (r ++ [p]))], [0, 0, 0, 0, 1, 0, 0, 1, 0, 0, 0, 0, 0, 0, 0])
    generalize (if (kget b (u ||| 2 ^ p, p)).isSome = true then ly else ly ++ [(u ||| 2 ^ p, p)]) = ly2
    have n2 : tCmp dNotInD (eVar 13) (eVar 4) [some (tb n W), x1, some (gD g), some (.int n), some (wd W b), x5, x6, some (lyD ly2), some (nat u), some (nat l), some (.int (plen W r)), some (nt r), some (nat p), some (kD2 (u ||| 2 ^ p, p)), some (co (plen W) (r ++ [p]))] = some (!(kget b (u ||| 2 ^ p, p)).isSome) := kd_notin kD2_key b _
    have ht : tOrD (tCmp dNotInD (eVar 13) (eVar 4)) (tCmp dLt (eVar 14) (eOp dGetD (eVar 4) (eVar 13))) [some (tb n W), x1, some (gD g), some (.int n), some (wd W b), x5, x6, some (lyD ly2), some (nat u), some (nat l), some (.int (plen W r)), some (nt r), some (nat p), some (kD2 (u ||| 2 ^ p, p)), some (co (plen W) (r ++ [p]))] = some (kwin (ltl (plen W)) b ((u ||| 2 ^ p, p), r ++ [p])) := by
      unfold kwin
      cases q : kget b (u ||| 2 ^ p, p) with
      | none => rw [q] at n2; exact tOr_t n2
      | some r' =>
        rw [q] at n2
        rw [tOr_f n2]
        show o2 (some (co (plen W) (r ++ [p]))) (dGetD (wd W b) (kD2 (u ||| 2 ^ p, p))) dLt = _
        rw [kd_get kD2_key q, o2_ss, cmp_co]
    unfold kstep
    generalize kwin (ltl (plen W)) b ((u ||| 2 ^ p, p), r ++ [p]) = q at ht
    cases q with
    | true =>
      rw [sIf_tt ht, if_pos rfl]
      rw [sPutD_ok (es := kl kD2 (co (plen W)) b) (k := kD2 (u ||| 2 ^ p, p)) (d := co (plen W) (r ++ [p])) rfl rfl rfl (co_flat _ _) (kl_kind kD2_key _ _) (by unfold kl; rw [List.length_map]; omega) rfl, kl_put kD2_key]
      rfl
    | false =>
      rw [sIf_ff ht]
      rfl
/-- the places of one row -/
def wpl (n : Nat) (g : Option Nat) (K : Nat × Nat) (r : List Nat) : KL := ((List.range n).filter fun p => !K.1.testBit p && gok n g r.length p).map fun p => ((K.1 ||| 2 ^ p, p), r ++ [p])
theorem wnext_fold (K : Nat × Nat) (r : List Nat) (x : KL × List (Nat × Nat)) : ∀ l : List Nat, l.foldl (wnext n g W K.1 r) x = ((l.filter fun p => !K.1.testBit p && gok n g r.length p).map fun p => ((K.1 ||| 2 ^ p, p), r ++ [p])).foldl (kfresh (ltl (plen W))) x := by
  intro l
  induction l generalizing x with
  | nil => rfl
  | cons p l ih =>
    rw [List.foldl_cons, ih]
    unfold wnext
    cases q : (!K.1.testBit p && gok n g r.length p) with
    | true => rw [if_pos rfl, List.filter_cons_of_pos (by exact q)]; rfl
    | false => rw [if_neg (by decide), List.filter_cons_of_neg (by rw [q]; decide)]
def wfMid : FS := (sSeq (sTup (.tp [(.nm 10), (.nm 11)]) (eOp dGetD (eVar 4) (eTup (aCons (eVar 8) (aCons (eVar 9) aNil)))) [(4, 1)])
  (sFor (iRange1 (eVar 3)) [] (.nm 12) wfIn))
theorem wfMid_ok {x : KL × List (Nat × Nat)} {K : Nat × Nat} {r : List Nat} (hn : n ≤ 20) (hl : K.2 < n) (hr : r ≠ []) (hlast : r.getD (r.length - 1) 0 = K.2) (hr2 : r.length ≤ 1000) (hg : kget x.1 K = some r) (hb : x.1.length + n ≤ 10000) (hly : x.2.length + n ≤ 10000) (x1 x5 x6 x10 x11 x12 x13 x14 : Option D) :
    ∃ y10 y11 y12 y13 y14, wfMid ([some (tb n W), x1, some (gD g), some (.int n), some (wd W x.1), x5, x6, some (lyD x.2), some (nat K.1), some (nat K.2), x10, x11, x12, x13, x14], [0, 0, 0, 0, 1, 0, 0, 1, 0, 0, 0, 0, 0, 0, 0])
    = .next ([some (tb n W), x1, some (gD g), some (.int n), some (wd W ((wpl n g K r).foldl (kfresh (ltl (plen W))) x).1), x5, x6, some (lyD ((wpl n g K r).foldl (kfresh (ltl (plen W))) x).2), some (nat K.1), some (nat K.2), y10, y11, y12, y13, y14], [0, 0, 0, 0, 1, 0, 0, 1, 0, 0, 0, 0, 0, 0, 0]) := by
  have fl : ∀ k, k ≤ n → ((List.range k).foldl (wnext n g W K.1 r) x).1.length ≤ x.1.length + k ∧ ((List.range k).foldl (wnext n g W K.1 r) x).2.length ≤ x.2.length + k := by
    intro k _
    rw [wnext_fold, kfresh_fst]
    have a := kfold_len (ltl (plen W)) (((List.range k).filter fun p => !K.1.testBit p && gok n g r.length p).map fun p => ((K.1 ||| 2 ^ p, p), r ++ [p])) x.1
    have b := kfresh_len (ltl (plen W)) (((List.range k).filter fun p => !K.1.testBit p && gok n g r.length p).map fun p => ((K.1 ||| 2 ^ p, p), r ++ [p])) x
    have c := List.length_filter_le (fun p => !K.1.testBit p && gok n g r.length p) (List.range k)
    rw [List.length_range] at c
    rw [List.length_map] at a b
    omega
  obtain ⟨s', e, y12, y13, y14, rfl⟩ := for_rng (i := 12) (n := n) (lo := 0) (body := wfIn)
    (fun k s => ∃ x12 x13 x14, s = ([some (tb n W), x1, some (gD g), some (.int n), some (wd W ((List.range k).foldl (wnext n g W K.1 r) x).1), x5, x6, some (lyD ((List.range k).foldl (wnext n g W K.1 r) x).2), some (nat K.1), some (nat K.2), some (.int (plen W r)), some (nt r), x12, x13, x14], [0, 0, 0, 0, 1, 0, 0, 1, 0, 0, 0, 0, 0, 0, 0])) ([some (tb n W), x1, some (gD g), some (.int n), some (wd W x.1), x5, x6, some (lyD x.2), some (nat K.1), some (nat K.2), some (.int (plen W r)), some (nt r), x12, x13, x14], [0, 0, 0, 0, 1, 0, 0, 1, 0, 0, 0, 0, 0, 0, 0]) ⟨x12, x13, x14, rfl⟩ (by
      rintro k _ hk ⟨x12, x13, x14, rfl⟩
      have f := fl k (by omega)
      obtain ⟨y13, y14, e⟩ := wfIn_ok (g := g) (W := W) (b := ((List.range k).foldl (wnext n g W K.1 r) x).1) (ly := ((List.range k).foldl (wnext n g W K.1 r) x).2) (u := K.1) hn hl hk hr hlast hr2 (by omega) (by omega) x1 x5 x6 x13 x14
      refine ⟨_, ?_, some (nat k), y13, y14, rfl⟩
      rw [Int.zero_add]
      simp only [List.set_cons_zero, List.set_cons_succ]
      have e' : (List.range (k + 1)).foldl (wnext n g W K.1 r) x = wnext n g W K.1 r (((List.range k).foldl (wnext n g W K.1 r) x).1, ((List.range k).foldl (wnext n g W K.1 r) x).2) k := by
        rw [List.range_succ, List.foldl_append]
        rfl
      rw [e']
      exact e)
  refine ⟨some (.int (plen W r)), some (nt r), y12, y13, y14, ?_⟩
  unfold wfMid
  rw [sSeq_next (sTup_flat (d := co (plen W) r) (l := [(10, .int (plen W r)), (11, nt r)]) (by
    rw [eOp_a]
    show o2 (some (wd W x.1)) (some (kD2 K)) dGetD = _
    rw [o2_ss, kd_get kD2_key hg]) rfl (co_flat _ _))]
  simp only [setsD, zeros, List.foldl_cons, List.foldl_nil, List.set_cons_zero, List.set_cons_succ]
  rw [sFor_at (range1_ok (n := n) rfl (by omega))]
  rw [wnext_fold] at e
  exact e
def wfOut : FS := (sSeq (sSet 7 1 (eLst aNil) [])
  (sSeq (sFor (iSeq (eVar 5)) [(5, 0)] (.tp [(.nm 8), (.nm 9)]) wfMid)
  (sSet 5 0 (eVar 7) [(7, 0)])))
theorem hexp_wpl (b : KL) (ly : List (Nat × Nat)) : hexp n g b ly = ly.flatMap fun K => wpl n g K (hrow b K) := rfl
theorem kfresh_keep {lt : List Nat → List Nat → Bool} {K : Nat × Nat} : ∀ (P : KL) (x : KL × List (Nat × Nat)), (∀ p ∈ P, p.1 ≠ K) → kget (P.foldl (kfresh lt) x).1 K = kget x.1 K := by
  intro P x h
  rw [kfresh_fst, kfold_get]
  have : (P.filter fun p => decide (p.1 = K)) = [] := List.filter_eq_nil_iff.mpr fun p hp => by simpa using h p hp
  rw [this]
  rfl
theorem wfOut_ok (hs : s < n) (hn : n ≤ 20) {k : Nat} (hk100 : k ≤ 100) {b : KL} {ly : List (Nat × Nat)} (h : HK n s g W k b ly) (hz : b.length + ly.length * n + n ≤ 10000) (x1 x6 x7 x8 x9 x10 x11 x12 x13 x14 : Option D) (l7 : Nat) :
    ∃ y7 y8 y9 y10 y11 y12 y13 y14, wfOut ([some (tb n W), x1, some (gD g), some (.int n), some (wd W b), some (lyD ly), x6, x7, x8, x9, x10, x11, x12, x13, x14], [0, 0, 0, 0, 1, 0, 0, l7, 0, 0, 0, 0, 0, 0, 0])
    = .next ([some (tb n W), x1, some (gD g), some (.int n), some (wd W ((hexp n g b ly).foldl (kfresh (ltl (plen W))) (b, [])).1), some (lyD ((hexp n g b ly).foldl (kfresh (ltl (plen W))) (b, [])).2), x6, y7, y8, y9, y10, y11, y12, y13, y14], [0, 0, 0, 0, 1, 0, 0, 0, 0, 0, 0, 0, 0, 0, 0]) := by
  have new := hexp_new hs h
  have keep : ∀ (j : Nat) (K : Nat × Nat), K ∈ ly → kget (((ly.take j).flatMap fun K => wpl n g K (hrow b K)).foldl (kfresh (ltl (plen W))) (b, [])).1 K = kget b K := by
    intro j K hK
    refine kfresh_keep _ _ fun p hp e => ?_
    have hp' : p ∈ hexp n g b ly := by
      rw [hexp_wpl]
      obtain ⟨K', h1, h2⟩ := List.mem_flatMap.mp hp
      exact List.mem_flatMap.mpr ⟨K', List.mem_of_mem_take h1, h2⟩
    obtain ⟨a1, _, _⟩ := new p hp'
    rw [e] at a1
    obtain ⟨q, hq, ek⟩ := (h.C K).mp hK
    obtain ⟨r0, _, g0, _⟩ := h.A k (Nat.le_refl k) q hq
    rw [ek, a1] at g0
    cases g0
  obtain ⟨s', e, y8, y9, y10, y11, y12, y13, y14, rfl⟩ := for_inv (t := .tp [(.nm 8), (.nm 9)]) (body := wfMid)
    (fun j s => ∃ x8 x9 x10 x11 x12 x13 x14, s = ([some (tb n W), x1, some (gD g), some (.int n), some (wd W (((ly.take j).flatMap fun K => wpl n g K (hrow b K)).foldl (kfresh (ltl (plen W))) (b, [])).1), some (lyD ly), x6, some (lyD (((ly.take j).flatMap fun K => wpl n g K (hrow b K)).foldl (kfresh (ltl (plen W))) (b, [])).2), x8, x9, x10, x11, x12, x13, x14], [0, 0, 0, 0, 1, 0, 0, 1, 0, 0, 0, 0, 0, 0, 0])) (ly.map kD2) 0 ([some (tb n W), x1, some (gD g), some (.int n), some (wd W b), some (lyD ly), x6, some (lyD []), x8, x9, x10, x11, x12, x13, x14], [0, 0, 0, 0, 1, 0, 0, 1, 0, 0, 0, 0, 0, 0, 0]) ⟨x8, x9, x10, x11, x12, x13, x14, rfl⟩ (by
      rintro j d _ hd ⟨x8, x9, x10, x11, x12, x13, x14, rfl⟩
      rw [Nat.zero_add, List.getElem?_map] at *
      obtain ⟨K, hK, rfl⟩ := Option.map_eq_some_iff.mp hd
      have hj : j < ly.length := (List.getElem?_eq_some_iff.mp hK).1
      have hK' := List.mem_of_getElem? hK
      obtain ⟨q, hq, ek⟩ := (h.C K).mp hK'
      obtain ⟨r0, h1, g0, k0, _⟩ := h.A k (Nat.le_refl k) q hq
      rw [ek] at g0 k0
      have iw := wrows_is hs h1
      have er : hrow b K = r0 := by unfold hrow; rw [g0]; rfl
      have hne : r0 ≠ [] := by intro z; subst z; have := iw.len; simp at this
      have hlast : r0.getD (r0.length - 1) 0 = K.2 := by rw [← k0]; rfl
      have hlt : K.2 < n := by
        have hlen := iw.len
        have hi : r0.length - 1 < r0.length := by omega
        rw [← hlast, List.getD_eq_getElem?_getD, List.getElem?_eq_getElem hi]
        exact iw.lt _ (List.getElem_mem hi)
      have rlen : r0.length ≤ 1000 := by rw [iw.len]; omega
      generalize hx : ((ly.take j).flatMap fun K => wpl n g K (hrow b K)).foldl (kfresh (ltl (plen W))) (b, []) = x
      have kp := keep j K hK'
      rw [hx, g0] at kp
      have zl : ((ly.take j).flatMap fun K => wpl n g K (hrow b K)).length ≤ ly.length * n := by
        have a := hexp_len (n := n) (g := g) b (ly.take j)
        rw [hexp_wpl, List.length_take] at a
        exact Nat.le_trans a (Nat.mul_le_mul_right n (Nat.min_le_right _ _))
      have z1 : x.1.length ≤ b.length + ly.length * n := by
        rw [← hx, kfresh_fst]
        have := kfold_len (ltl (plen W)) ((ly.take j).flatMap fun K => wpl n g K (hrow b K)) b
        show (((ly.take j).flatMap fun K => wpl n g K (hrow b K)).foldl (kstep (ltl (plen W))) b).length ≤ _
        omega
      have z2 : x.2.length ≤ ly.length * n := by
        rw [← hx]
        have := kfresh_len (ltl (plen W)) ((ly.take j).flatMap fun K => wpl n g K (hrow b K)) (b, [])
        simp only [List.length_nil] at this
        omega
      obtain ⟨y10, y11, y12, y13, y14, e⟩ := wfMid_ok (g := g) (W := W) (x := x) (K := K) hn hlt hne hlast rlen kp (by omega) (by omega) x1 (some (lyD ly)) x6 x10 x11 x12 x13 x14
      refine ⟨[(8, nat K.1), (9, nat K.2)], _, rfl, e, some (nat K.1), some (nat K.2), y10, y11, y12, y13, y14, ?_⟩
      have et : ly.take (j + 1) = ly.take j ++ [K] := by
        rw [List.take_add_one, hK]; rfl
      rw [et, List.flatMap_append, List.foldl_append, hx, List.flatMap_cons, List.flatMap_nil, List.append_nil, er])
  rw [Nat.zero_add, List.length_map, List.take_length, ← hexp_wpl] at e
  refine ⟨some (lyD ((hexp n g b ly).foldl (kfresh (ltl (plen W))) (b, [])).2), y8, y9, y10, y11, y12, y13, y14, ?_⟩
  unfold wfOut
  rw [sSeq_next (s' := ([some (tb n W), x1, some (gD g), some (.int n), some (wd W b), some (lyD ly), x6, some (lyD []), x8, x9, x10, x11, x12, x13, x14], [0, 0, 0, 0, 1, 0, 0, 1, 0, 0, 0, 0, 0, 0, 0])) (by rfl)]
  rw [sSeq_next (by
    rw [sFor_at (ds := ly.map kD2) rfl]
    exact e)]
  rw [sSet_deep (d := lyD ((hexp n g b ly).foldl (kfresh (ltl (plen W))) (b, [])).2) rfl (flat_list _)]
  rfl
theorem ways_from_ok (hs : s < n) (hn : n ≤ 5) : den_ways_from [tb n W, nat s, gD g] = some (wd W (hk n s g W (n - 1)).1) := by
  refine dfun_ret [some (tb n W), some (nat s), some (gD g), none, none, none, none, none, none, none, none, none, none, none, none] [0, 0, 0, 0, 0, 0, 0, 0, 0, 0, 0, 0, 0, 0, 0] rfl rfl rfl ?_
  have sh := shl_one s (by omega)
  rw [sSeq_next (sSet_flat (d := .int n) (by simp only [eCB_a, aCons_a, aNil_a, eVar_0, o2_ss, o1_s, d1_1, tb_len]) rfl)]
  simp only [List.set_cons_zero, List.set_cons_succ]
  have ek : ∀ ρ : PEnv, eVar 1 ρ = some (nat s) → eTup (aCons (eOp dShl (eC (.int 1)) (eVar 1)) (aCons (eVar 1) aNil)) ρ = some (kD2 (2 ^ s, s)) := by
    intro ρ h
    unfold eTup
    rw [aCons_a, eOp_a, eC_a, aCons_a, h, aNil_a, o2_ss, sh, o2_ss, o2_ss, o1_s]
    rfl
  have ev : eTup (aCons (eC (.int 0)) (aCons (eTup (aCons (eVar 1) aNil)) aNil)) [some (tb n W), some (nat s), some (gD g), some (.int n), none, none, none, none, none, none, none, none, none, none, none] = some (co (plen W) [s]) := rfl
  have e0 : (eOp dD1 (eTup (aCons (eOp dShl (eC (.int 1)) (eVar 1)) (aCons (eVar 1) aNil))) (eTup (aCons (eC (.int 0)) (aCons (eTup (aCons (eVar 1) aNil)) aNil)))) [some (tb n W), some (nat s), some (gD g), some (.int n), none, none, none, none, none, none, none, none, none, none, none] = some (wd W (hk n s g W 0).1) := by
    rw [eOp_a, ek _ rfl, ev, o2_ss]
    show (if ((keyK (kD2 (2 ^ s, s))).isSome && flat (co (plen W) [s])) = true then some (PyData.dict [(kD2 (2 ^ s, s), co (plen W) [s])]) else none) = _
    rw [kD2_key.key, co_flat, if_pos (by rfl)]
    rfl
  rw [sSeq_next (by rw [sSet_deep e0 (kd_flat _)])]
  simp only [List.set_cons_zero, List.set_cons_succ]
  have e1 : eLst (aCons (eTup (aCons (eOp dShl (eC (.int 1)) (eVar 1)) (aCons (eVar 1) aNil))) aNil) [some (tb n W), some (nat s), some (gD g), some (.int n), some (wd W (hk n s g W 0).1), none, none, none, none, none, none, none, none, none, none] = some (lyD (hk n s g W 0).2) := by
    unfold eLst
    rw [aCons_a, ek _ rfl, aNil_a, o2_ss, o1_s]
    rfl
  rw [sSeq_next (by rw [sSet_deep e1 (flat_list _)])]
  simp only [List.set_cons_zero, List.set_cons_succ]
  obtain ⟨s', e, x6, x7, x8, x9, x10, x11, x12, x13, x14, rfl⟩ := for_rng (i := 6) (n := n - 1) (lo := 0) (body := wfOut)
    (fun k s' => ∃ x6 x7 x8 x9 x10 x11 x12 x13 x14, s' = ([some (tb n W), some (nat s), some (gD g), some (.int n), some (wd W (hk n s g W k).1), some (lyD (hk n s g W k).2), x6, x7, x8, x9, x10, x11, x12, x13, x14], [0, 0, 0, 0, 1, 0, 0, 0, 0, 0, 0, 0, 0, 0, 0])) ([some (tb n W), some (nat s), some (gD g), some (.int n), some (wd W (hk n s g W 0).1), some (lyD (hk n s g W 0).2), none, none, none, none, none, none, none, none, none], [0, 0, 0, 0, 1, 0, 0, 0, 0, 0, 0, 0, 0, 0, 0]) ⟨none, none, none, none, none, none, none, none, none, rfl⟩ (by
      rintro k _ hk1 ⟨x6, x7, x8, x9, x10, x11, x12, x13, x14, rfl⟩
      have hl := hk_len (n := n) (s := s) (g := g) (W := W) (by omega) k
      have p1 := Nat.pow_le_pow_left hn k
      have p2 := Nat.pow_le_pow_right (show 0 < 5 by decide) (show k ≤ 3 by omega)
      have p3 : 5 ^ 3 = 125 := by decide
      have m1 : (k + 1) * n ^ k ≤ 4 * 125 := Nat.mul_le_mul (by omega) (by omega)
      have m2 : (hk n s g W k).2.length * n ≤ 125 * 5 := Nat.mul_le_mul (by omega) hn
      obtain ⟨y7, y8, y9, y10, y11, y12, y13, y14, e⟩ := wfOut_ok hs (by omega) (by omega) (hk_ok hs k (g := g) (W := W)) (by omega) (some (nat s)) (some (nat k)) x7 x8 x9 x10 x11 x12 x13 x14 0
      refine ⟨_, ?_, some (nat k), y7, y8, y9, y10, y11, y12, y13, y14, rfl⟩
      rw [Int.zero_add]
      simp only [List.set_cons_zero, List.set_cons_succ]
      exact e)
  have c : (n : Int) - 1 = ((n - 1 : Nat) : Int) := by omega
  unfold wfOut wfMid wfIn at e
  rw [sSeq_next (by
    rw [sFor_at (range1_ok (n := n - 1) (by simp only [eOp_a, eC_a, eVar_0, eVar_s, o2_ss, dSub_i, c]) (by omega))]
    exact e)]
  exact sRet_ok rfl
end
end Lib
end

section
set_option Elab.async false
set_option linter.all false
set_option maxRecDepth 10000
/-! k35: best_round, best_path, lengths, the first layout. -/
namespace Lib
open DS PySem
def den_best_round : Fn := dfun 5 1 (sSeq (sSet 1 0 (eCB (d1 dLen) (aCons (eVar 0) aNil)) [])
  (sSeq (sSet 2 0 (eCall 3 den_ways_from (aCons (eVar 0) (aCons (eC (.int 0)) (aCons (eC .none) aNil)))) ([(0, 0)] ++ ([] ++ ([] ++ []))))
  (sSeq (sSet 3 0 (eLc (iDk (eVar 2)) (.nm 4) (tCmp dEq (eIx (eVar 4) (eC (.int 0))) (eOp dSub (eOp dShl (eC (.int 1)) (eVar 1)) (eC (.int 1)))) (eTup (aCons (eOp dAdd (eIx (eOp dGetD (eVar 2) (eVar 4)) (eC (.int 0))) (eIx (eIx (eVar 0) (eIx (eVar 4) (eC (.int 1)))) (eC (.int 0)))) (aCons (eIx (eOp dGetD (eVar 2) (eVar 4)) (eC (.int 1))) aNil))) [4]) ([(2, 0)] ++ (([(2, 1)] ++ [(0, 3)]) ++ ([(2, 1)] ++ []))))
  (sRet (eCB (d1 dMin1) (aCons (eVar 3) aNil))))))
def den_best_path : Fn := dfun 4 3 (sSeq (sSet 3 0 (eCB (d1 dLen) (aCons (eVar 0) aNil)) [])
  (sSeq (sIf (tCmp dEq (eVar 3) (eC (.int 1)))
  (sRet (eTup (aCons (eC (.int 0)) (aCons (eTup (aCons (eC (.int 0)) aNil)) aNil))))
  sNil)
  (sRet (eOp dGetD (eCall 3 den_ways_from (aCons (eVar 0) (aCons (eVar 1) (aCons (eVar 2) aNil)))) (eTup (aCons (eOp dSub (eOp dShl (eC (.int 1)) (eVar 3)) (eC (.int 1))) (aCons (eVar 2) aNil)))))))
def den__law_first : Fn := dfun 5 2 (sSeq (sSet 2 0 (eC .none) [])
  (sSeq (sFor (iSeq (eCall 1 den__law_orders (aCons (eCB (d1 dLen) (aCons (eVar 0) aNil)) aNil))) ([] ++ []) (.nm 3)
  (sSeq (sSet 4 0 (eCall 3 den__law_cost (aCons (eVar 0) (aCons (eVar 1) (aCons (eVar 3) aNil)))) ([(0, 0)] ++ ([(1, 0)] ++ ([(3, 0)] ++ []))))
  (sIf (tOrD (tIsND (eVar 2)) (tCmp dLt (eVar 4) (eIx (eVar 2) (eC (.int 0)))))
  (sSet 2 0 (eTup (aCons (eVar 4) (aCons (eVar 3) aNil))) ([(4, 0)] ++ ([(3, 0)] ++ [])))
  sNil)))
  (sRet (eVar 2))))
def den__law_length : Fn := dfun 3 2 (sRet (eCB (d1 dSum) (aCons (eLc (iRange1 (eOp dSub (eCB (d1 dLen) (aCons (eVar 1) aNil)) (eC (.int 1)))) (.nm 2) tTrue (eIx (eIx (eVar 0) (eIx (eVar 1) (eVar 2))) (eIx (eVar 1) (eOp dAdd (eVar 2) (eC (.int 1))))) [2]) aNil)))
section
variable {n s t : Nat} {g : Option Nat} {W T : Nat → Nat → Int}
theorem isW_row (h1 : 1 ≤ n) {r : List Nat} : IsW n (n - 1) r ↔ IsRow n n r :=
  ⟨fun h => ⟨by rw [h.len]; omega, h.nd, h.lt⟩, fun h => ⟨by rw [h.len]; omega, h.nd, h.lt⟩⟩
theorem rows_none (hs : s < n) {r : List Nat} : r ∈ wrows n s none (n - 1) ↔ IsRow n n r ∧ r.getD 0 0 = s := by
  rw [wrows_full hs, isW_row (by omega)]
  exact ⟨fun h => ⟨h.1, h.2.1⟩, fun h => ⟨h.1, h.2, fun i _ _ => rfl⟩⟩
theorem row_at_inj {r : List Nat} (h : IsRow n n r) {i j : Nat} (hi : i < n) (hj : j < n) (e : r.getD i 0 = r.getD j 0) : i = j := by
  have a := inv_at h hi
  have b := inv_at h hj
  rw [e, b] at a
  exact a.symm
theorem rows_some (hs : s < n) (ht : t < n) (hst : s ≠ t) {r : List Nat} : r ∈ wrows n s (some t) (n - 1) ↔ IsRow n n r ∧ r.getD 0 0 = s ∧ r.getD (n - 1) 0 = t := by
  rw [wrows_full hs, isW_row (by omega)]
  constructor
  · rintro ⟨h1, h2, h3⟩
    refine ⟨h1, h2, ?_⟩
    have lt := inv_lt h1 ht
    have at_ := at_inv h1 ht
    by_cases e : r.idxOf t = n - 1
    · rw [← e]; exact at_
    · exfalso
      have i1 : 1 ≤ r.idxOf t := by
        rcases Nat.eq_zero_or_pos (r.idxOf t) with z | z
        · rw [z, h2] at at_; exact absurd at_ hst
        · exact z
      have := h3 _ i1 (by omega)
      rw [at_] at this
      unfold gok at this
      rw [decide_eq_true rfl, decide_eq_false (by omega)] at this
      cases this
  · rintro ⟨h1, h2, h3⟩
    refine ⟨h1, h2, fun i hi hk => ?_⟩
    unfold gok
    by_cases e : i = n - 1
    · rw [decide_eq_true (show i + 1 = n by omega), Bool.or_true]
    · rw [decide_eq_false (fun z => e ?_)]
      · rfl
      · have z := Option.some.inj z
        exact row_at_inj h1 (by omega) (by omega) (by rw [h3, z])
/-- a row from s to t -/
theorem row_from_to (hs : s < n) (ht : t < n) (hst : s ≠ t) : ∃ r, IsRow n n r ∧ r.getD 0 0 = s ∧ r.getD (n - 1) 0 = t := by
  obtain ⟨o, ho, h0⟩ : ∃ o, IsRow n n o ∧ o.getD 0 0 = s := by
    by_cases e : s = 0
    · refine ⟨List.range n, range_row n, ?_⟩
      rw [List.getD_eq_getElem?_getD, List.getElem?_range (by omega), e]; rfl
    · refine ⟨exch (List.range n) 0 s, exch_row (range_row n) (by omega) hs, ?_⟩
      unfold exch
      rw [List.getD_eq_getElem?_getD, List.getElem?_set, if_neg (by omega), List.getElem?_set, if_pos rfl, if_pos (by simp; omega)]
      show (List.range n).getD s 0 = s
      rw [List.getD_eq_getElem?_getD, List.getElem?_range hs]; rfl
  have pt := inv_lt ho ht
  have at_ := at_inv ho ht
  generalize o.idxOf t = p at pt at_
  have p0 : p ≠ 0 := fun z => by rw [z, h0] at at_; exact hst at_
  by_cases e : p = n - 1
  · exact ⟨o, ho, h0, by rw [← e]; exact at_⟩
  · refine ⟨exch o p (n - 1), exch_row ho (by omega) (by omega), ?_, ?_⟩
    · unfold exch
      rw [List.getD_eq_getElem?_getD, List.getElem?_set, if_neg (by omega), List.getElem?_set, if_neg p0, ← List.getD_eq_getElem?_getD]
      exact h0
    · unfold exch
      rw [List.getD_eq_getElem?_getD, List.getElem?_set, if_pos rfl, if_pos (by rw [List.length_set, ho.len]; omega)]
      exact at_
theorem pow_one (n : Nat) : ((2 ^ n : Nat) : Int) - 1 = ((2 ^ n - 1 : Nat) : Int) := by
  have := Nat.two_pow_pos n
  omega
theorem row_full (h : IsRow n n r) : msk r = 2 ^ n - 1 := (msk_full h.lt).mpr fun p hp => row_mem h hp
theorem best_path_ok (hs : s < n) (ht : t < n) (hst : s ≠ t) (hn : n ≤ 5) : ∃ r, IsRow n n r ∧ r.getD 0 0 = s ∧ r.getD (n - 1) 0 = t ∧ (∀ o, IsRow n n o → o.getD 0 0 = s → o.getD (n - 1) 0 = t → ltl (plen W) o r = false) ∧ den_best_path [tb n W, nat s, nat t] = some (co (plen W) r) := by
  obtain ⟨q, q1, q2, q3⟩ := row_from_to hs ht hst
  have kf : ∀ o, IsRow n n o → o.getD (n - 1) 0 = t → kof o = (2 ^ n - 1, t) := by
    intro o ho h
    unfold kof
    rw [row_full ho, ho.len, h]
  obtain ⟨r, h1, h2, h3, h4⟩ := (hk_ok hs (n - 1) (g := some t) (W := W)).A (n - 1) (Nat.le_refl _) q ((rows_some hs ht hst).mpr ⟨q1, q2, q3⟩)
  rw [kf q q1 q3] at h2 h3 h4
  obtain ⟨r1, r2, r3⟩ := (rows_some hs ht hst).mp h1
  refine ⟨r, r1, r2, r3, fun o o1 o2 o3 => h4 o ((rows_some hs ht hst).mpr ⟨o1, o2, o3⟩) (kf o o1 o3), ?_⟩
  refine dfun_ret [some (tb n W), some (nat s), some (nat t), none] [0, 0, 0, 0] rfl rfl rfl ?_
  rw [sSeq_next (sSet_flat (d := .int n) (by simp only [eCB_a, aCons_a, aNil_a, eVar_0, o2_ss, o1_s, d1_1, tb_len]) rfl)]
  simp only [List.set_cons_zero, List.set_cons_succ]
  rw [sSeq_next (s' := ([some (tb n W), some (nat s), some (nat t), some (.int n)], [0, 0, 0, 0])) (by
    rw [sIf_ff (by
      simp only [tCmp_a, eC_a, eVar_0, eVar_s, o2_ss, dEq_i]
      rw [decide_eq_false (by omega)])]
    rfl)]
  refine sRet_ok ?_
  have wf := ways_from_ok (n := n) (s := s) (g := some t) (W := W) hs hn
  have wf' : den_ways_from [tb n W, nat s, nat t] = some (wd W (hk n s (some t) W (n - 1)).1) := wf
  have sh : dShl (.int 1) (.int n) = some (nat (2 ^ n)) := shl_one n (by omega)
  have ek : eTup (aCons (eOp dSub (eOp dShl (eC (.int 1)) (eVar 3)) (eC (.int 1))) (aCons (eVar 2) aNil)) [some (tb n W), some (nat s), some (nat t), some (.int n)] = some (kD2 (2 ^ n - 1, t)) := by
    unfold eTup
    simp only [aCons_a, aNil_a, eOp_a, eC_a, eVar_0, eVar_s, o2_ss, o1_s, sh]
    have : dSub (nat (2 ^ n)) (.int 1) = some (nat (2 ^ n - 1)) := by
      show some (PyData.int (((2 ^ n : Nat) : Int) - 1)) = _
      rw [pow_one]
      rfl
    rw [this, o2_ss, o1_s]
    rfl
  rw [eOp_a, ek]
  simp only [eCall_3, eVar_0, eVar_s, o1_s, wf', o2_ss]
  exact kd_get kD2_key h2
theorem best_round_ok (h1 : 1 ≤ n) (hn : n ≤ 5) : ∃ r, IsRow n n r ∧ r.getD 0 0 = 0 ∧ (∀ o, IsRow n n o → o.getD 0 0 = 0 → ltl (tour W) o r = false) ∧ den_best_round [tb n W] = some (co (tour W) r) := by
  have hk0 := hk_ok (n := n) (s := 0) (by omega) (n - 1) (g := none) (W := W)
  have wf := ways_from_ok (n := n) (s := 0) (g := none) (W := W) (by omega) hn
  have wf' : den_ways_from [tb n W, .int 0, .none] = some (wd W (hk n 0 none W (n - 1)).1) := wf
  have hkl := (hk_len (n := n) (s := 0) (g := none) (W := W) h1 (n - 1)).2
  generalize (hk n 0 none W (n - 1)).1 = b at hk0 wf' hkl
  generalize (hk n 0 none W (n - 1)).2 = ly at hk0
  have kf : ∀ o, IsRow n n o → kof o = (2 ^ n - 1, o.getD (n - 1) 0) := by
    intro o ho
    unfold kof
    rw [row_full ho, ho.len]
  have keyrow : ∀ K ∈ b.map (·.1), K.1 = 2 ^ n - 1 → kget b K = some (hrow b K) ∧ IsRow n n (hrow b K) ∧ (hrow b K).getD 0 0 = 0 ∧ kof (hrow b K) = K := by
    intro K hK e
    obtain ⟨r, hr⟩ := kget_keys hK
    have er : hrow b K = r := by unfold hrow; rw [hr]; rfl
    rw [er]
    obtain ⟨j, hj, hw, ek⟩ := hk0.B K r hr
    have iw := wrows_is (by omega) hw
    have em : msk r = 2 ^ n - 1 := by rw [← e, ← ek]; rfl
    have hj' : j = n - 1 := by
      have := msk_len (r := r) (r' := List.range n) (by rw [em, row_full (range_row n)]) iw.nd List.nodup_range
      rw [iw.len, List.length_range] at this
      omega
    subst hj'
    obtain ⟨a1, a2⟩ := (rows_none (by omega)).mp hw
    exact ⟨hr, a1, a2, ek⟩
  -- the rows that are looked at
  have hrows : ∀ r ∈ ((b.map (·.1)).filter fun K => decide (K.1 = 2 ^ n - 1)).map (hrow b), IsRow n n r ∧ r.getD 0 0 = 0 := by
    intro r hr
    obtain ⟨K, hK, rfl⟩ := List.mem_map.mp hr
    rw [List.mem_filter] at hK
    obtain ⟨_, a, c, _⟩ := keyrow K hK.1 (of_decide_eq_true hK.2)
    exact ⟨a, c⟩
  have hev : ∀ o, IsRow n n o → o.getD 0 0 = 0 → ∃ r ∈ ((b.map (·.1)).filter fun K => decide (K.1 = 2 ^ n - 1)).map (hrow b), ltl (tour W) o r = false := by
    intro o ho h0
    obtain ⟨r0, r1, r2, r3, r4⟩ := hk0.A (n - 1) (Nat.le_refl _) o ((rows_none (by omega)).mpr ⟨ho, h0⟩)
    obtain ⟨a1, a2⟩ := (rows_none (by omega)).mp r1
    refine ⟨r0, List.mem_map.mpr ⟨kof o, List.mem_filter.mpr ⟨keys_kget r2, decide_eq_true (by rw [kf o ho])⟩, by unfold hrow; rw [r2]; rfl⟩, ?_⟩
    have m := r4 o ((rows_none (by omega)).mpr ⟨ho, h0⟩) rfl
    have el : r0.getD (n - 1) 0 = o.getD (n - 1) 0 := by
      have := r3
      rw [kf o ho, kf r0 a1] at this
      exact (Prod.mk.inj this).2
    cases q : ltl (tour W) o r0 with
    | false => rfl
    | true =>
      exfalso
      rw [ltl_iff] at q
      have e1 : tour W o = plen W o + W (o.getD (n - 1) 0) 0 := by unfold tour; rw [ho.len, h0]
      have e2 : tour W r0 = plen W r0 + W (o.getD (n - 1) 0) 0 := by unfold tour; rw [a1.len, a2, el]
      rw [e1, e2] at q
      have : ltl (plen W) o r0 = true := (ltl_iff _ _ _).mpr (by
        rcases q with q | ⟨q1, q2⟩
        · exact .inl (by omega)
        · exact .inr ⟨by omega, q2⟩)
      rw [m] at this
      cases this
  generalize hR : ((b.map (·.1)).filter fun K => decide (K.1 = 2 ^ n - 1)).map (hrow b) = R at hrows hev
  obtain ⟨x, xs, eR⟩ : ∃ x xs, R = x :: xs := by
    obtain ⟨r, hr, _⟩ := hev (List.range n) (range_row n) (by rw [List.getD_eq_getElem?_getD, List.getElem?_range (by omega)]; rfl)
    cases R with
    | nil => cases hr
    | cons x xs => exact ⟨x, xs, rfl⟩
  have hm := fmin_mem (ltl (tour W)) xs x
  have hle := fmin_le (lt := ltl (tour W)) (fun {a b d} => ltl_tr _) (fun {a b d} hh => ltl_co _ d hh) (ltl_ir _) xs x
  rw [← eR] at hm hle
  refine ⟨fmin (ltl (tour W)) x xs, (hrows _ hm).1, (hrows _ hm).2, fun o ho h0 => ?_, ?_⟩
  · obtain ⟨r, hr, l⟩ := hev o ho h0
    cases q : ltl (tour W) o (fmin (ltl (tour W)) x xs) with
    | false => rfl
    | true =>
      rcases ltl_co (tour W) r q with z | z
      · rw [z] at l; cases l
      · rw [hle r hr] at z; cases z
  refine dfun_ret [some (tb n W), none, none, none, none] [0, 0, 0, 0, 0] rfl rfl rfl ?_
  rw [sSeq_next (sSet_flat (d := .int n) (by simp only [eCB_a, aCons_a, aNil_a, eVar_0, o2_ss, o1_s, d1_1, tb_len]) rfl)]
  simp only [List.set_cons_zero, List.set_cons_succ]
  rw [sSeq_next (by rw [sSet_deep (d := wd W b) (by simp only [eCall_3, eC_a, eVar_0, o1_s, wf']) (kd_flat _)])]
  simp only [List.set_cons_zero, List.set_cons_succ]
  have sh : dShl (.int 1) (.int n) = some (nat (2 ^ n)) := shl_one n (by omega)
  have hks : iDk (eVar 2) [some (tb n W), some (.int n), some (wd W b), none, none] = some ((b.map (·.1)).map kD2) := kd_keys kD2_key b
  have hc := eLc_if (t := .nm 4) (ft := (tCmp dEq (eIx (eVar 4) (eC (.int 0))) (eOp dSub (eOp dShl (eC (.int 1)) (eVar 1)) (eC (.int 1))))) (fe := (eTup (aCons (eOp dAdd (eIx (eOp dGetD (eVar 2) (eVar 4)) (eC (.int 0))) (eIx (eIx (eVar 0) (eIx (eVar 4) (eC (.int 1)))) (eC (.int 0)))) (aCons (eIx (eOp dGetD (eVar 2) (eVar 4)) (eC (.int 1))) aNil)))) (vs := [4]) kD2 (fun K => co (tour W) (hrow b K)) (fun K => decide (K.1 = 2 ^ n - 1)) hks (by
    rw [List.length_map]
    have p1 := Nat.pow_le_pow_left hn (n - 1)
    have p2 := Nat.pow_le_pow_right (show 0 < 5 by decide) (show n - 1 ≤ 4 by omega)
    have p3 : 5 ^ 4 = 625 := by decide
    have : (n - 1 + 1) * n ^ (n - 1) ≤ 5 * 625 := Nat.mul_le_mul (by omega) (by omega)
    omega) (by
    intro K hK
    refine ⟨[(4, kD2 K)], rfl, ?_, fun hp => ?_⟩
    · have ds : dSub (nat (2 ^ n)) (.int 1) = some (nat (2 ^ n - 1)) := by
        show some (PyData.int (((2 ^ n : Nat) : Int) - 1)) = _
        rw [pow_one]
        rfl
      show o2 (some (nat K.1)) (o2 (dShl (.int 1) (.int n)) (some (.int 1)) dSub) dEq = _
      rw [sh, o2_ss, ds, o2_ss, dEq_nat]
    · obtain ⟨a1, a2, a3, a4⟩ := keyrow K hK (of_decide_eq_true hp)
      have g2 : dGetD (wd W b) (kD2 K) = some (co (plen W) (hrow b K)) := kd_get kD2_key a1
      have k2 : K.2 = (hrow b K).getD (n - 1) 0 := by
        exact congrArg Prod.snd (a4.symm.trans (kf _ a2))
      have kn : K.2 < n := by rw [k2]; exact IsRow.at a2 (by omega)
      have i1 : dIx (tb n W) (nat K.2) = some (trow n (W K.2)) := tb_ix kn
      have i2 : dIx (trow n (W K.2)) (.int 0) = some (.int (W K.2 0)) := trow_ix (v := 0) (by omega)
      unfold eTup
      show o1 (o2 (o2 (o2 (dGetD (wd W b) (kD2 K)) (some (.int 0)) dIx) (o2 (o2 (some (tb n W)) (some (nat K.2)) dIx) (some (.int 0)) dIx) dAdd) (o2 (o2 (dGetD (wd W b) (kD2 K)) (some (.int 1)) dIx) (some []) fun d ds => some (d :: ds)) fun d ds => some (d :: ds)) _ = _
      have x0 : dIx (co (plen W) (hrow b K)) (.int 0) = some (.int (plen W (hrow b K))) := rfl
      have x1 : dIx (co (plen W) (hrow b K)) (.int 1) = some (nt (hrow b K)) := rfl
      simp only [g2, o2_ss, x0, x1, i1, i2, dAdd_i, o1_s]
      unfold co tour
      rw [a2.len, a3, ← k2]
      rfl)
  have em : ((b.map (·.1)).filter fun K => decide (K.1 = 2 ^ n - 1)).map (fun K => co (tour W) (hrow b K)) = R.map (co (tour W)) := by
    rw [← hR, List.map_map]
    rfl
  rw [em] at hc
  rw [sSeq_next (by rw [sSet_deep hc (flat_list _)])]
  simp only [List.set_cons_zero, List.set_cons_succ]
  refine sRet_ok ?_
  rw [eCB_a, aCons_a, aNil_a]
  show o1 (o2 (some (PyData.list (R.map (co (tour W))))) (some []) fun d ds => some (d :: ds)) (d1 dMin1) = _
  rw [o2_ss, o1_s, d1_1, eR]
  exact min_list (lt := ltl (tour W)) (allCmp_co _ _) (co_flat _) (dataLt_co _)
theorem law_length_ok {r : List Nat} (hn : n ≤ 100) (h1 : 1 ≤ r.length) (h2 : r.length ≤ 1000) (hr : ∀ x ∈ r, x < n) : den__law_length [tb n W, nt r] = some (.int (plen W r)) := by
  refine dfun_ret [some (tb n W), some (nt r), none] [0, 0, 0] rfl rfl rfl ?_
  refine sRet_ok ?_
  have c : ((r.length : Nat) : Int) - 1 = ((r.length - 1 : Nat) : Int) := by omega
  have at_ : ∀ k, k < r.length → r.getD k 0 < n := fun k hk => by
    rw [List.getD_eq_getElem?_getD, List.getElem?_eq_getElem hk]
    exact hr _ (List.getElem_mem hk)
  have hc := eLc_of (t := .nm 2) (fe := (eIx (eIx (eVar 0) (eIx (eVar 1) (eVar 2))) (eIx (eVar 1) (eOp dAdd (eVar 2) (eC (.int 1)))))) (vs := [2]) (ρ := [some (tb n W), some (nt r), none]) nat (fun k => .int (W (r.getD k 0) (r.getD (k + 1) 0))) (l := List.range (r.length - 1)) (range1_nat (f := (eOp dSub (eCB (d1 dLen) (aCons (eVar 1) aNil)) (eC (.int 1)))) (by
    simp only [eOp_a, eCB_a, aCons_a, aNil_a, eC_a, eVar_0, eVar_s, o2_ss, o1_s, d1_1, nt_len, dSub_i, c]) (by omega)) (by rw [List.length_range]; omega) (by
    intro k hk
    have hk := List.mem_range.mp hk
    have e1 : dIx (nt r) (nat k) = some (nat (r.getD k 0)) := nt_ix (by omega)
    have e2 := nt_ix (o := r) (i := k + 1) (by omega)
    have e2' : dIx (nt r) (.int ((k : Int) + 1)) = some (nat (r.getD (k + 1) 0)) := by push_cast at e2; exact e2
    have e3 : dIx (tb n W) (nat (r.getD k 0)) = some (trow n (W (r.getD k 0))) := tb_ix (at_ k (by omega))
    have e4 : dIx (trow n (W (r.getD k 0))) (nat (r.getD (k + 1) 0)) = some (.int (W (r.getD k 0) (r.getD (k + 1) 0))) := trow_ix (at_ (k + 1) (by omega))
    refine ⟨[(2, nat k)], rfl, ?_⟩
    show o2 (o2 (some (tb n W)) (dIx (nt r) (nat k)) dIx) (o2 (some (nt r)) (some (.int ((k : Int) + 1))) dIx) dIx = _
    rw [e1, o2_ss, e3, o2_ss, e2', o2_ss, e4])
  have e9 : (List.range (r.length - 1)).map (fun k => PyData.int (W (r.getD k 0) (r.getD (k + 1) 0))) = ((List.range (r.length - 1)).map fun k => W (r.getD k 0) (r.getD (k + 1) 0)).map PyData.int := by
    rw [List.map_map]; rfl
  rw [eCB_a, aCons_a, hc, aNil_a, o2_ss, o1_s, d1_1, e9, dSum_ok, rsum_list]
  rfl
def l1Body : FS := (sSeq (sSet 4 0 (eCall 3 den__law_cost (aCons (eVar 0) (aCons (eVar 1) (aCons (eVar 3) aNil)))) ([(0, 0)] ++ ([(1, 0)] ++ ([(3, 0)] ++ []))))
  (sIf (tOrD (tIsND (eVar 2)) (tCmp dLt (eVar 4) (eIx (eVar 2) (eC (.int 0)))))
  (sSet 2 0 (eTup (aCons (eVar 4) (aCons (eVar 3) aNil))) ([(4, 0)] ++ ([(3, 0)] ++ [])))
  sNil))
theorem law_first_ok (hn : n ≤ 6) (hW : Sml W) : den__law_first [tb n W, tb n T] = some (co (lc n W T) (bestO (lc n W T) n)) := by
  refine dfun_ret [some (tb n W), some (tb n T), none, none, none] [0, 0, 0, 0, 0] rfl rfl rfl ?_
  rw [sSeq_next (sSet_flat (d := .none) rfl rfl)]
  simp only [List.set_cons_zero, List.set_cons_succ]
  have hi : iSeq (eCall 1 den__law_orders (aCons (eCB (d1 dLen) (aCons (eVar 0) aNil)) aNil)) [some (tb n W), some (tb n T), some .none, none, none] = some ((ords n n).map nt) := by
    simp only [iSeq_a, eCall_1, eCB_a, aCons_a, aNil_a, eVar_0, o2_ss, o1_s, d1_1, tb_len, law_orders_ok hn]
    rfl
  have lcs := fun o (ho : IsRow n n o) => law_cost_ok hn (T := T) hW ho
  generalize lc n W T = c at lcs
  obtain ⟨s', e, x3, x4, rfl⟩ := for_inv (t := .nm 3) (body := l1Body)
    (fun j s => ∃ x3 x4, s = ([some (tb n W), some (tb n T), some (boD c (ofold (ltc c) none ((ords n n).take j))), x3, x4], [0, 0, 0, 0, 0])) ((ords n n).map nt) 0 ([some (tb n W), some (tb n T), some .none, none, none], [0, 0, 0, 0, 0]) ⟨none, none, by rw [List.take_zero]; rfl⟩ (by
      rintro j d _ hd ⟨x3, x4, rfl⟩
      rw [Nat.zero_add, List.getElem?_map] at *
      obtain ⟨o, ho, rfl⟩ := Option.map_eq_some_iff.mp hd
      have hr := mem_ords.mp (List.mem_of_getElem? ho)
      refine ⟨[(3, nt o)], _, rfl, ?_, some (nt o), some (.int (c o)), rfl⟩
      simp only [setsD, zeros, List.foldl_cons, List.foldl_nil, List.set_cons_zero, List.set_cons_succ]
      unfold l1Body
      generalize hb : ofold (ltc c) none ((ords n n).take j) = b
      rw [sSeq_next (sSet_flat (d := .int (c o)) (by simp only [eCall_3, eVar_0, eVar_s, o1_s, lcs o hr]) rfl)]
      simp only [List.set_cons_zero, List.set_cons_succ]
      have ht := best_test (c := c) (b := b) (o := o) (i := 2) (j := 4) (ρ := [some (tb n W), some (tb n T), some (boD c b), some (nt o), some (.int (c o))]) rfl rfl
      have et : (ords n n).take (j + 1) = (ords n n).take j ++ [o] := by
        rw [List.take_add_one, ho]; rfl
      rw [et, ofold_app, hb, best_one]
      generalize hq : wins c b o = q at ht ⊢
      cases q with
      | true =>
        rw [sIf_tt ht, sSet_flat (d := co c o) rfl (co_flat _ _)]
        rfl
      | false =>
        rw [sIf_ff ht]
        rfl)
  rw [Nat.zero_add, List.length_map, List.take_length, best_all] at e
  unfold l1Body at e
  rw [sSeq_next (by
    rw [sFor_at hi]
    exact e)]
  exact sRet_ok rfl
end
end Lib
end

section
set_option Elab.async false
set_option linter.all false
set_option maxRecDepth 100000
set_option maxHeartbeats 4000000
namespace Law
open PySem PySem.Spec PyProof.Rows L2 DS
def topS (i : Nat) : Stmt := PySem.Challenge.pw_planskept_k35_whole_round_layouts.main.body.getD i (.Pass ⟨0, 0, 0, 0⟩)
/-- what the top has written -/
structure Tp (K : PySem.W.Frag) (mg : Str → Option Value) (ad : Nat → Addr) (fo : Nat → FuncData) : Prop where
  F_divisor : Fun K "divisor" "divisor" (topS 1) (ad 0) (fo 0)
  b_divisor : Binds K (fo 0) ["first", "second"] []
  g_divisor : mg "divisor" = some (.ref (ad 0))
  F_lowest : Fun K "lowest" "lowest" (topS 2) (ad 1) (fo 1)
  b_lowest : Binds K (fo 1) ["a", "b"] []
  g_lowest : mg "lowest" = some (.ref (ad 1))
  F_all_orders : Fun K "all_orders" "all_orders" (topS 3) (ad 2) (fo 2)
  b_all_orders : Binds K (fo 2) ["n"] []
  g_all_orders : mg "all_orders" = some (.ref (ad 2))
  F_layout_cost : Fun K "layout_cost" "layout_cost" (topS 5) (ad 3) (fo 3)
  b_layout_cost : Binds K (fo 3) ["ways", "traffic", "order"] []
  g_layout_cost : mg "layout_cost" = some (.ref (ad 3))
  F_best_layout : Fun K "best_layout" "best_layout" (topS 6) (ad 4) (fo 4)
  b_best_layout : Binds K (fo 4) ["ways", "traffic"] []
  g_best_layout : mg "best_layout" = some (.ref (ad 4))
  F_exchanged : Fun K "exchanged" "exchanged" (topS 7) (ad 5) (fo 5)
  b_exchanged : Binds K (fo 5) ["order", "first", "second"] []
  g_exchanged : mg "exchanged" = some (.ref (ad 5))
  F_swapped_layout : Fun K "swapped_layout" "swapped_layout" (topS 8) (ad 6) (fo 6)
  b_swapped_layout : Binds K (fo 6) ["ways", "traffic", "order"] []
  g_swapped_layout : mg "swapped_layout" = some (.ref (ad 6))
  F_layout_bound : Fun K "layout_bound" "layout_bound" (topS 9) (ad 7) (fo 7)
  b_layout_bound : Binds K (fo 7) ["ways", "traffic"] []
  g_layout_bound : mg "layout_bound" = some (.ref (ad 7))
  F_doubled_middles : Fun K "doubled_middles" "doubled_middles" (topS 10) (ad 8) (fo 8)
  b_doubled_middles : Binds K (fo 8) ["lengths", "order"] []
  g_doubled_middles : mg "doubled_middles" = some (.ref (ad 8))
  F_doubled_traffic : Fun K "doubled_traffic" "doubled_traffic" (topS 11) (ad 9) (fo 9)
  b_doubled_traffic : Binds K (fo 9) ["lengths", "traffic", "order"] []
  g_doubled_traffic : mg "doubled_traffic" = some (.ref (ad 9))
  F_line_layout : Fun K "line_layout" "line_layout" (topS 12) (ad 10) (fo 10)
  b_line_layout : Binds K (fo 10) ["lengths", "traffic"] []
  g_line_layout : mg "line_layout" = some (.ref (ad 10))
  F_ways_from : Fun K "ways_from" "ways_from" (topS 14) (ad 11) (fo 11)
  b_ways_from : Binds K (fo 11) ["ways", "start", "goal"] []
  g_ways_from : mg "ways_from" = some (.ref (ad 11))
  F_best_round : Fun K "best_round" "best_round" (topS 15) (ad 12) (fo 12)
  b_best_round : Binds K (fo 12) ["ways"] []
  g_best_round : mg "best_round" = some (.ref (ad 12))
  F_best_path : Fun K "best_path" "best_path" (topS 16) (ad 13) (fo 13)
  b_best_path : Binds K (fo 13) ["ways", "start", "goal"] []
  g_best_path : mg "best_path" = some (.ref (ad 13))
  F__law_mixed : Fun K "_law_mixed" "_law_mixed" (topS 18) (ad 14) (fo 14)
  b__law_mixed : Binds K (fo 14) ["script", "k"] []
  g__law_mixed : mg "_law_mixed" = some (.ref (ad 14))
  F__law_row : Fun K "_law_row" "_law_row" (topS 19) (ad 15) (fo 15)
  b__law_row : Binds K (fo 15) ["script", "many"] []
  g__law_row : mg "_law_row" = some (.ref (ad 15))
  F__law_is_int : Fun K "_law_is_int" "_law_is_int" (topS 20) (ad 16) (fo 16)
  b__law_is_int : Binds K (fo 16) ["value"] []
  g__law_is_int : mg "_law_is_int" = some (.ref (ad 16))
  F__law_like : Fun K "_law_like" "_law_like" (topS 21) (ad 17) (fo 17)
  b__law_like : Binds K (fo 17) ["value", "due"] []
  g__law_like : mg "_law_like" = some (.ref (ad 17))
  F__law_orders : Fun K "_law_orders" "_law_orders" (topS 22) (ad 18) (fo 18)
  b__law_orders : Binds K (fo 18) ["count"] []
  g__law_orders : mg "_law_orders" = some (.ref (ad 18))
  F__law_table : Fun K "_law_table" "_law_table" (topS 23) (ad 19) (fo 19)
  b__law_table : Binds K (fo 19) ["row", "n", "most", "even"] []
  g__law_table : mg "_law_table" = some (.ref (ad 19))
  F__law_cost : Fun K "_law_cost" "_law_cost" (topS 24) (ad 20) (fo 20)
  b__law_cost : Binds K (fo 20) ["ways", "traffic", "order"] []
  g__law_cost : mg "_law_cost" = some (.ref (ad 20))
  F__law_first : Fun K "_law_first" "_law_first" (topS 25) (ad 21) (fo 21)
  b__law_first : Binds K (fo 21) ["ways", "traffic"] []
  g__law_first : mg "_law_first" = some (.ref (ad 21))
  F__law_length : Fun K "_law_length" "_law_length" (topS 26) (ad 22) (fo 22)
  b__law_length : Binds K (fo 22) ["ways", "order"] []
  g__law_length : mg "_law_length" = some (.ref (ad 22))
  F__law_round_right : Fun K "_law_round_right" "_law_round_right" (topS 27) (ad 23) (fo 23)
  b__law_round_right : Binds K (fo 23) ["ways"] []
  g__law_round_right : mg "_law_round_right" = some (.ref (ad 23))
  F_law : Fun K "law" "law" (topS 28) (ad 24) (fo 24)
  b_law : Binds K (fo 24) ["script"] []
  g_law : mg "law" = some (.ref (ad 24))
  z_abs : mg "abs" = none
  z_all : mg "all" = none
  z_bool : mg "bool" = none
  z_enumerate : mg "enumerate" = none
  z_int : mg "int" = none
  z_isinstance : mg "isinstance" = none
  z_len : mg "len" = none
  z_list : mg "list" = none
  z_max : mg "max" = none
  z_min : mg "min" = none
  z_range : mg "range" = none
  z_sorted : mg "sorted" = none
  z_str : mg "str" = none
  z_sum : mg "sum" = none
  z_tuple : mg "tuple" = none
  z_zip : mg "zip" = none
theorem sc_divisor : FnScope ["first", "second"] ["first", "second"] (defScope (topS 1)) := ⟨rfl, rfl, rfl, by decide +kernel, rfl, by decide +kernel, by decide +kernel⟩
def den_divisor : Fn := dfun 2 2 (sSeq (sPar 0 1 (eCB (d1 dAbs) (aCons (eVar 0) aNil)) (eCB (d1 dAbs) (aCons (eVar 1) aNil)) ([] ++ []))
  (sSeq (sWhile 100000 (tCmp dGt (eVar 1) (eC (.int 0)))
  (sPar 0 1 (eVar 1) (eOp dMod (eVar 0) (eVar 1)) ([(1, 0)] ++ ([(0, 1)] ++ [(1, 1)]))))
  (sRet (eVar 0))))
theorem ok_divisor {P : Program} {w : World} {K : PySem.W.Frag} {mg : Str → Option Value} {base : Heap} {ad : Nat → Addr} {fo : Nat → FuncData} (T : Tp K mg ad fo) : FnOk P w K mg base CX0 1 (ad 0) (fo 0) ["first", "second"] (spD K 2 den_divisor) :=
  fun_den (k := 0) T.F_divisor sc_divisor rfl rfl (by decide) fun cdv A outer s H E hr =>
  (ss_cons (ss_par 0 1 rfl sc_divisor.nd (qe_bF call_abs cf_abs (by rfl) T.z_abs (by decide +kernel) (qa_cons (qv 0) qa_nil)) (qe_bF call_abs cf_abs (by rfl) T.z_abs (by decide +kernel) (qa_cons (qv 1) qa_nil)) (by rfl))
  (ss_cons (ss_while 100000 PassesOwn.never (qt_cmp (op_gtA (hu_of64 hr)) oc_gt (qv 1) qint (nomark _))
  (ss_one (ss_par 0 1 rfl sc_divisor.nd (qv 1) (qe_mod (qv 0) (qv 1)) (by rfl))))
  (ss_one (ss_ret (qv 0)))))
theorem sc_lowest : FnScope ["a", "b", "common"] ["a", "b"] (defScope (topS 2)) := ⟨rfl, rfl, rfl, by decide +kernel, rfl, by decide +kernel, by decide +kernel⟩
def den_lowest : Fn := dfun 3 2 (sSeq (sSet 2 0 (eIfD (tCmp dGt (eVar 1) (eC (.int 0))) (eCall 2 den_divisor (aCons (eVar 0) (aCons (eVar 1) aNil))) (eUn dNeg (eCall 2 den_divisor (aCons (eVar 0) (aCons (eVar 1) aNil))))) (([(0, 0)] ++ ([(1, 0)] ++ [])) ++ []))
  (sRet (eTup (aCons (eOp dFdiv (eVar 0) (eVar 2)) (aCons (eOp dFdiv (eVar 1) (eVar 2)) aNil)))))
theorem ok_lowest {P : Program} {w : World} {K : PySem.W.Frag} {mg : Str → Option Value} {base : Heap} {ad : Nat → Addr} {fo : Nat → FuncData} (T : Tp K mg ad fo) : FnOk P w K mg base CX0 2 (ad 1) (fo 1) ["a", "b"] (spD K 2 den_lowest) :=
  fun_den (k := 1) T.F_lowest sc_lowest rfl rfl (by decide) fun cdv A outer s H E hr =>
  (ss_cons (ss_set 2 0 sc_lowest.nd (qe_if (qt_cmp (op_gtA (hu_of64 hr)) oc_gt (qv 1) qint (nomark _)) (qe_call (ok_divisor T) (hr.mono (by decide)) (by rfl) T.g_divisor T.F_divisor.kp T.b_divisor (qa_cons (qv 0) (qa_cons (qv 1) qa_nil))) (qe_neg (qe_call (ok_divisor T) (hr.mono (by decide)) (by rfl) T.g_divisor T.F_divisor.kp T.b_divisor (qa_cons (qv 0) (qa_cons (qv 1) qa_nil))))))
  (ss_one (ss_ret (qe_tup (qa_cons (qe_fdiv (qv 0) (qv 2)) (qa_cons (qe_fdiv (qv 1) (qv 2)) qa_nil))))))
theorem sc_all_orders : FnScope ["n", "rows", "_", "row", "index"] ["n"] (defScope (topS 3)) := ⟨rfl, rfl, rfl, by decide +kernel, rfl, by decide +kernel, by decide +kernel⟩
def den_all_orders : Fn := dfun 5 1 (sSeq (sSet 1 0 (eLst (aCons (eTup aNil) aNil)) ([] ++ []))
  (sSeq (sFor (iRange1 (eVar 0)) [] (.nm 2)
  (sSet 1 0 (eLc2 (iSeq (eVar 1)) (.nm 3) tTrue (iRange1 (eVar 0)) (.nm 4) (tCmp dNotIn (eVar 4) (eVar 3)) (eOp dAdd (eVar 3) (eTup (aCons (eVar 4) aNil))) [3, 4] [4]) ([(1, 1)] ++ ([] ++ ([(3, 1)] ++ ([(4, 0)] ++ []))))))
  (sRet (eVar 1))))
theorem ok_all_orders {P : Program} {w : World} {K : PySem.W.Frag} {mg : Str → Option Value} {base : Heap} {ad : Nat → Addr} {fo : Nat → FuncData} (T : Tp K mg ad fo) : FnOk P w K mg base CX0 1 (ad 2) (fo 2) ["n"] (spD K 1 den_all_orders) :=
  fun_den (k := 0) T.F_all_orders sc_all_orders rfl rfl (by decide) fun cdv A outer s H E hr =>
  (ss_cons (ss_set 1 0 sc_all_orders.nd (qe_lst (qa_cons (qe_tup qa_nil) qa_nil)))
  (ss_cons (ss_for PassesOwn.never rfl (qi_range1 (by rfl) T.z_range (qv 0)) (gg 2 sc_all_orders.nd)
  (ss_one (ss_setLc2 1 0 (own := [("row", 3), ("index", 4)]) (vs1 := [4]) rfl sc_all_orders.nd (qi_seq (qv 1)) (blkOk_by (own := [("row", 3), ("index", 4)]) (N := ["n", "rows", "_", "row", "index"]) (sc := (defScope (topS 3))) (by decide +kernel)) (by rfl) (fun _ _ _ _ _ => (gg 3 sc_all_orders.nd)) (fun _ _ _ _ _ => qts_nil) (fun _ _ _ _ _ => (qi_range1 (by rfl) T.z_range (qv 0))) (fun _ _ _ _ _ => (gg 4 sc_all_orders.nd)) (fun _ _ _ _ _ => (qts_one (qt_cmp ((op_notInD (hu2_of hr)).or op_notIn_seq) oc_notIn (qv 4) (qv 3) (by rfl)))) (fun _ _ _ _ _ => (qe_add (qv 3) (qe_tup (qa_cons (qv 4) qa_nil)))))))
  (ss_one (ss_ret (qv 1)))))
theorem sc_layout_cost : FnScope ["ways", "traffic", "order", "place", "first", "other", "second"] ["ways", "traffic", "order"] (defScope (topS 5)) := ⟨rfl, rfl, rfl, by decide +kernel, rfl, by decide +kernel, by decide +kernel⟩
def den_layout_cost : Fn := dfun 7 3 (sRet (eCB (d1 dSum) (aCons (eLc2 (iEnumD (eVar 2)) (.tp [(.nm 3), (.nm 4)]) tTrue (iEnumD (eVar 2)) (.tp [(.nm 5), (.nm 6)]) tTrue (eOp dMul (eIx (eIx (eVar 1) (eVar 4)) (eVar 6)) (eIx (eIx (eVar 0) (eVar 3)) (eVar 5))) [3, 4, 5, 6] [5, 6]) aNil)))
theorem ok_layout_cost {P : Program} {w : World} {K : PySem.W.Frag} {mg : Str → Option Value} {base : Heap} {ad : Nat → Addr} {fo : Nat → FuncData} (T : Tp K mg ad fo) : FnOk P w K mg base CX0 1 (ad 3) (fo 3) ["ways", "traffic", "order"] (spD K 3 den_layout_cost) :=
  fun_den (k := 0) T.F_layout_cost sc_layout_cost rfl rfl (by decide) fun cdv A outer s H E hr =>
  (ss_one (ss_ret (qe_bF (cr_sumA rfl) cf_sum (by rfl) T.z_sum (by decide +kernel) (qa_cons (qe_lc2 (own := [("place", 3), ("first", 4), ("other", 5), ("second", 6)]) (vs1 := [5, 6]) rfl sc_layout_cost.nd (qi_enum (by rfl) T.z_enumerate (qv 2)) (blkOk_by (own := [("place", 3), ("first", 4), ("other", 5), ("second", 6)]) (N := ["ways", "traffic", "order", "place", "first", "other", "second"]) (sc := (defScope (topS 5))) (by decide +kernel)) (by rfl) (fun _ _ _ _ _ => (gg_tup rfl (ggs_cons (gg 3 sc_layout_cost.nd) (ggs_cons (gg 4 sc_layout_cost.nd) ggs_nil)))) (fun _ _ _ _ _ => qts_nil) (fun _ _ _ _ _ => (qi_enum (by rfl) T.z_enumerate (qv 2))) (fun _ _ _ _ _ => (gg_tup rfl (ggs_cons (gg 5 sc_layout_cost.nd) (ggs_cons (gg 6 sc_layout_cost.nd) ggs_nil)))) (fun _ _ _ _ _ => qts_nil) (fun _ _ _ _ _ => (qe_mul (qe_ix (qe_ix (qv 1) (qv 4) (fun _ _ => rfl)) (qv 6) (fun _ _ => rfl)) (qe_ix (qe_ix (qv 0) (qv 3) (fun _ _ => rfl)) (qv 5) (fun _ _ => rfl))))) qa_nil))))
theorem sc_best_layout : FnScope ["ways", "traffic", "order"] ["ways", "traffic"] (defScope (topS 6)) := ⟨rfl, rfl, rfl, by decide +kernel, rfl, by decide +kernel, by decide +kernel⟩
def den_best_layout : Fn := dfun 3 2 (sRet (eCB (d1 dMin1) (aCons (eLc (iSeq (eCall 1 den_all_orders (aCons (eCB (d1 dLen) (aCons (eVar 0) aNil)) aNil))) (.nm 2) tTrue (eTup (aCons (eCall 3 den_layout_cost (aCons (eVar 0) (aCons (eVar 1) (aCons (eVar 2) aNil)))) (aCons (eVar 2) aNil))) [2]) aNil)))
theorem ok_best_layout {P : Program} {w : World} {K : PySem.W.Frag} {mg : Str → Option Value} {base : Heap} {ad : Nat → Addr} {fo : Nat → FuncData} (T : Tp K mg ad fo) : FnOk P w K mg base CX0 2 (ad 4) (fo 4) ["ways", "traffic"] (spD K 2 den_best_layout) :=
  fun_den (k := 1) T.F_best_layout sc_best_layout rfl rfl (by decide) fun cdv A outer s H E hr =>
  (ss_one (ss_ret (qe_bF (cr_minD rfl (hu_of64 hr)) cf_min1 (by rfl) T.z_min (by decide +kernel) (qa_cons (qe_lc (own := [("order", 2)]) rfl sc_best_layout.nd (qi_seq (qe_call (ok_all_orders T) (hr.mono (by decide)) (by rfl) T.g_all_orders T.F_all_orders.kp T.b_all_orders (qa_cons (qe_bF call_len_seq cf_len (by rfl) T.z_len (by decide +kernel) (qa_cons (qv 0) qa_nil)) qa_nil))) (blkOk_by (own := [("order", 2)]) (N := ["ways", "traffic", "order"]) (sc := (defScope (topS 6))) (by decide +kernel)) (fun _ _ _ _ _ => (gg 2 sc_best_layout.nd)) (fun _ _ _ _ _ => qts_nil) (fun _ _ _ _ _ => (qe_tup (qa_cons (qe_call (ok_layout_cost T) (hr.mono (by decide)) (by rfl) T.g_layout_cost T.F_layout_cost.kp T.b_layout_cost (qa_cons (qv 0) (qa_cons (qv 1) (qa_cons (qv 2) qa_nil)))) (qa_cons (qv 2) qa_nil))))) qa_nil))))
theorem sc_exchanged : FnScope ["order", "first", "second", "found"] ["order", "first", "second"] (defScope (topS 7)) := ⟨rfl, rfl, rfl, by decide +kernel, rfl, by decide +kernel, by decide +kernel⟩
def den_exchanged : Fn := dfun 4 3 (sSeq (sSet 3 1 (eCB (d1 dList) (aCons (eVar 0) aNil)) ([(0, 1)] ++ []))
  (sSeq (sPut2 3 (eVar 1) 3 (eVar 2) (eTup (aCons (eIx (eVar 0) (eVar 2)) (aCons (eIx (eVar 0) (eVar 1)) aNil))))
  (sRet (eCB (d1 dTuple) (aCons (eVar 3) aNil)))))
theorem ok_exchanged {P : Program} {w : World} {K : PySem.W.Frag} {mg : Str → Option Value} {base : Heap} {ad : Nat → Addr} {fo : Nat → FuncData} (T : Tp K mg ad fo) : FnOk P w K mg base CX0 1 (ad 5) (fo 5) ["order", "first", "second"] (spD K 3 den_exchanged) :=
  fun_den (k := 0) T.F_exchanged sc_exchanged rfl rfl (by decide) fun cdv A outer s H E hr =>
  (ss_cons (ss_set 3 1 sc_exchanged.nd (qe_tD call_list_of cd_list (by rfl) T.z_list (by decide +kernel) (qa_cons (qv 0) qa_nil)))
  (ss_cons (ss_put2 3 3 (ps_asg (qe_tup (qa_cons (qe_ix (qv 0) (qv 2) (fun _ _ => rfl)) (qa_cons (qe_ix (qv 0) (qv 1) (fun _ _ => rfl)) qa_nil))) (pg_tup rfl (pgs_cons (pg_sub (pv 3) (qv 1) set_list) (pgs_cons (pg_sub (pv 3) (qv 2) set_list) pgs_nil)))))
  (ss_one (ss_ret (qe_tD call_tuple_of cd_tuple (by rfl) T.z_tuple (by decide +kernel) (qa_cons (qv 3) qa_nil))))))
theorem sc_swapped_layout : FnScope ["ways", "traffic", "order", "found", "cost", "pairs", "best", "second", "first"] ["ways", "traffic", "order"] (defScope (topS 8)) := ⟨rfl, rfl, rfl, by decide +kernel, rfl, by decide +kernel, by decide +kernel⟩
def den_swapped_layout : Fn := dfun 9 3 (sSeq (sTup (.tp [(.nm 3), (.nm 4)]) (eTup (aCons (eCB (d1 dTuple) (aCons (eVar 2) aNil)) (aCons (eCall 3 den_layout_cost (aCons (eVar 0) (aCons (eVar 1) (aCons (eVar 2) aNil)))) aNil))) (([(2, 1)] ++ []) ++ (([(0, 0)] ++ ([(1, 0)] ++ ([(2, 0)] ++ []))) ++ [])))
  (sSeq (sSet 5 0 (eLc2 (iRange1 (eCB (d1 dLen) (aCons (eVar 2) aNil))) (.nm 7) tTrue (iRange1 (eVar 7)) (.nm 8) tTrue (eTup (aCons (eVar 8) (aCons (eVar 7) aNil))) [7, 8] [8]) ([] ++ ([] ++ ([(8, 0)] ++ ([(7, 0)] ++ [])))))
  (sSeq (sWhile 100000 (tTru (eVar 5))
  (sSeq (sSet 6 0 (eCB (d1 dMin1) (aCons (eLc (iSeq (eVar 5)) (.tp [(.nm 8), (.nm 7)]) tTrue (eTup (aCons (eCall 3 den_layout_cost (aCons (eVar 0) (aCons (eVar 1) (aCons (eCall 3 den_exchanged (aCons (eVar 3) (aCons (eVar 8) (aCons (eVar 7) aNil)))) aNil)))) (aCons (eVar 8) (aCons (eVar 7) aNil)))) [8, 7]) aNil)) [])
  (sSeq (sIf (tCmp dGe (eIx (eVar 6) (eC (.int 0))) (eVar 4))
  (sRet (eVar 3))
  sNil)
  (sSeq (sSet 4 0 (eIx (eVar 6) (eC (.int 0))) [(6, 1)])
  (sSet 3 0 (eCall 3 den_exchanged (aCons (eVar 3) (aCons (eIx (eVar 6) (eC (.int 1))) (aCons (eIx (eVar 6) (eC (.int 2))) aNil)))) ([(3, 0)] ++ ([(6, 1)] ++ ([(6, 1)] ++ []))))))))
  (sRet (eVar 3)))))
theorem ok_swapped_layout {P : Program} {w : World} {K : PySem.W.Frag} {mg : Str → Option Value} {base : Heap} {ad : Nat → Addr} {fo : Nat → FuncData} (T : Tp K mg ad fo) : FnOk P w K mg base CX0 2 (ad 6) (fo 6) ["ways", "traffic", "order"] (spD K 3 den_swapped_layout) :=
  fun_den (k := 1) T.F_swapped_layout sc_swapped_layout rfl rfl (by decide) fun cdv A outer s H E hr =>
  (ss_cons (ss_tup (qe_tup (qa_cons (qe_tD call_tuple_of cd_tuple (by rfl) T.z_tuple (by decide +kernel) (qa_cons (qv 2) qa_nil)) (qa_cons (qe_call (ok_layout_cost T) (hr.mono (by decide)) (by rfl) T.g_layout_cost T.F_layout_cost.kp T.b_layout_cost (qa_cons (qv 0) (qa_cons (qv 1) (qa_cons (qv 2) qa_nil)))) qa_nil))) (gg_tup rfl (ggs_cons (gg 3 sc_swapped_layout.nd) (ggs_cons (gg 4 sc_swapped_layout.nd) ggs_nil))))
  (ss_cons (ss_setLc2 5 0 (own := [("second", 7), ("first", 8)]) (vs1 := [8]) rfl sc_swapped_layout.nd (qi_range1 (by rfl) T.z_range (qe_bF call_len_seq cf_len (by rfl) T.z_len (by decide +kernel) (qa_cons (qv 2) qa_nil))) (blkOk_by (own := [("second", 7), ("first", 8)]) (N := ["ways", "traffic", "order", "found", "cost", "pairs", "best", "second", "first"]) (sc := (defScope (topS 8))) (by decide +kernel)) (by rfl) (fun _ _ _ _ _ => (gg 7 sc_swapped_layout.nd)) (fun _ _ _ _ _ => qts_nil) (fun _ _ _ _ _ => (qi_range1 (by rfl) T.z_range (qv 7))) (fun _ _ _ _ _ => (gg 8 sc_swapped_layout.nd)) (fun _ _ _ _ _ => qts_nil) (fun _ _ _ _ _ => (qe_tup (qa_cons (qv 8) (qa_cons (qv 7) qa_nil)))))
  (ss_cons (ss_while 100000 PassesOwn.never (qt_tru (qv 5) (by intro _; rfl))
  (ss_cons (ss_set 6 0 sc_swapped_layout.nd (qe_bF (cr_minD rfl (hu_of64 hr)) cf_min1 (by rfl) T.z_min (by decide +kernel) (qa_cons (qe_lc (own := [("first", 8), ("second", 7)]) rfl sc_swapped_layout.nd (qi_seq (qv 5)) (blkOk_by (own := [("first", 8), ("second", 7)]) (N := ["ways", "traffic", "order", "found", "cost", "pairs", "best", "second", "first"]) (sc := (defScope (topS 8))) (by decide +kernel)) (fun _ _ _ _ _ => (gg_tup rfl (ggs_cons (gg 8 sc_swapped_layout.nd) (ggs_cons (gg 7 sc_swapped_layout.nd) ggs_nil)))) (fun _ _ _ _ _ => qts_nil) (fun _ _ _ _ _ => (qe_tup (qa_cons (qe_call (ok_layout_cost T) (hr.mono (by decide)) (by rfl) T.g_layout_cost T.F_layout_cost.kp T.b_layout_cost (qa_cons (qv 0) (qa_cons (qv 1) (qa_cons (qe_call (ok_exchanged T) (hr.mono (by decide)) (by rfl) T.g_exchanged T.F_exchanged.kp T.b_exchanged (qa_cons (qv 3) (qa_cons (qv 8) (qa_cons (qv 7) qa_nil)))) qa_nil)))) (qa_cons (qv 8) (qa_cons (qv 7) qa_nil)))))) qa_nil)))
  (ss_cons (ss_if (qt_cmp (op_geA (hu_of64 hr)) oc_ge (qe_ix (qv 6) qint (fun _ _ => rfl)) (qv 4) (nomark _))
  (ss_one (ss_ret (qv 3)))
  ss_nil)
  (ss_cons (ss_set 4 0 sc_swapped_layout.nd (qe_ix (qv 6) qint (fun _ _ => rfl)))
  (ss_one (ss_set 3 0 sc_swapped_layout.nd (qe_call (ok_exchanged T) (hr.mono (by decide)) (by rfl) T.g_exchanged T.F_exchanged.kp T.b_exchanged (qa_cons (qv 3) (qa_cons (qe_ix (qv 6) qint (fun _ _ => rfl)) (qa_cons (qe_ix (qv 6) qint (fun _ _ => rfl)) qa_nil))))))))))
  (ss_one (ss_ret (qv 3))))))
theorem sc_layout_bound : FnScope ["ways", "traffic", "rising", "falling", "row", "way", "part"] ["ways", "traffic"] (defScope (topS 9)) := ⟨rfl, rfl, rfl, by decide +kernel, rfl, by decide +kernel, by decide +kernel⟩
def den_layout_bound : Fn := dfun 7 2 (sSeq (sSet 2 0 (eCB (d1 dSorted) (aCons (eLc2 (iSeq (eVar 0)) (.nm 4) tTrue (iSeq (eVar 4)) (.nm 5) tTrue (eVar 5) [4, 5] [5]) aNil)) (([(0, 1)] ++ ([(4, 0)] ++ [(5, 0)])) ++ []))
  (sSeq (sSet 3 0 (eOp dSortRv (eLc2 (iSeq (eVar 1)) (.nm 4) tTrue (iSeq (eVar 4)) (.nm 6) tTrue (eVar 6) [4, 6] [6]) (eC (.bool true))) (([(1, 1)] ++ ([(4, 0)] ++ [(6, 0)])) ++ []))
  (sRet (eCB (d1 dSum) (aCons (eLc (iZip2 (eVar 2) (eVar 3)) (.tp [(.nm 5), (.nm 6)]) tTrue (eOp dMul (eVar 5) (eVar 6)) [5, 6]) aNil)))))
theorem ok_layout_bound {P : Program} {w : World} {K : PySem.W.Frag} {mg : Str → Option Value} {base : Heap} {ad : Nat → Addr} {fo : Nat → FuncData} (T : Tp K mg ad fo) : FnOk P w K mg base CX0 1 (ad 7) (fo 7) ["ways", "traffic"] (spD K 2 den_layout_bound) :=
  fun_den (k := 0) T.F_layout_bound sc_layout_bound rfl rfl (by decide) fun cdv A outer s H E hr =>
  (ss_cons (ss_set 2 0 sc_layout_bound.nd (qe_bD (cr_sortedA (hu_of64 hr)) cd_sorted (by rfl) T.z_sorted (by decide +kernel) (qa_cons (qe_lc2 (own := [("row", 4), ("way", 5)]) (vs1 := [5]) rfl sc_layout_bound.nd (qi_seq (qv 0)) (blkOk_by (own := [("row", 4), ("way", 5)]) (N := ["ways", "traffic", "rising", "falling", "row", "way", "part"]) (sc := (defScope (topS 9))) (by decide +kernel)) (by rfl) (fun _ _ _ _ _ => (gg 4 sc_layout_bound.nd)) (fun _ _ _ _ _ => qts_nil) (fun _ _ _ _ _ => (qi_seq (qv 4))) (fun _ _ _ _ _ => (gg 5 sc_layout_bound.nd)) (fun _ _ _ _ _ => qts_nil) (fun _ _ _ _ _ => (qv 5))) qa_nil)))
  (ss_cons (ss_set 3 0 sc_layout_bound.nd (qe_k1D (crk_sortedRv (hu_of64 hr)) ckd_sortedRv (by rfl) T.z_sorted (by decide +kernel) (qe_lc2 (own := [("row", 4), ("part", 6)]) (vs1 := [6]) rfl sc_layout_bound.nd (qi_seq (qv 1)) (blkOk_by (own := [("row", 4), ("part", 6)]) (N := ["ways", "traffic", "rising", "falling", "row", "way", "part"]) (sc := (defScope (topS 9))) (by decide +kernel)) (by rfl) (fun _ _ _ _ _ => (gg 4 sc_layout_bound.nd)) (fun _ _ _ _ _ => qts_nil) (fun _ _ _ _ _ => (qi_seq (qv 4))) (fun _ _ _ _ _ => (gg 6 sc_layout_bound.nd)) (fun _ _ _ _ _ => qts_nil) (fun _ _ _ _ _ => (qv 6))) qbl))
  (ss_one (ss_ret (qe_bF (cr_sumA rfl) cf_sum (by rfl) T.z_sum (by decide +kernel) (qa_cons (qe_lc (own := [("way", 5), ("part", 6)]) rfl sc_layout_bound.nd (qi_zip (by rfl) T.z_zip (qv 2) (qv 3)) (blkOk_by (own := [("way", 5), ("part", 6)]) (N := ["ways", "traffic", "rising", "falling", "row", "way", "part"]) (sc := (defScope (topS 9))) (by decide +kernel)) (fun _ _ _ _ _ => (gg_tup rfl (ggs_cons (gg 5 sc_layout_bound.nd) (ggs_cons (gg 6 sc_layout_bound.nd) ggs_nil)))) (fun _ _ _ _ _ => qts_nil) (fun _ _ _ _ _ => (qe_mul (qv 5) (qv 6)))) qa_nil))))))
theorem sc_doubled_middles : FnScope ["lengths", "order", "found", "end", "index"] ["lengths", "order"] (defScope (topS 10)) := ⟨rfl, rfl, rfl, by decide +kernel, rfl, by decide +kernel, by decide +kernel⟩
def den_doubled_middles : Fn := dfun 5 2 (sSeq (sParF 2 3 (eOp dMul (eLst (aCons (eC (.int 0)) aNil)) (eCB (d1 dLen) (aCons (eVar 0) aNil))) (eC (.int 0)) (([] ++ []) ++ []))
  (sSeq (sFor (iSeq (eVar 1)) [(1, 0)] (.nm 4)
  (sSeq (sPut 2 (eVar 4) (eOp dAdd (eOp dMul (eC (.int 2)) (eVar 3)) (eIx (eVar 0) (eVar 4))) (([] ++ [(3, 1)]) ++ [(0, 2)]))
  (sAug 3 dAddI (eIx (eVar 0) (eVar 4)))))
  (sRet (eVar 2))))
theorem ok_doubled_middles {P : Program} {w : World} {K : PySem.W.Frag} {mg : Str → Option Value} {base : Heap} {ad : Nat → Addr} {fo : Nat → FuncData} (T : Tp K mg ad fo) : FnOk P w K mg base CX0 1 (ad 8) (fo 8) ["lengths", "order"] (spD K 2 den_doubled_middles) :=
  fun_den (k := 0) T.F_doubled_middles sc_doubled_middles rfl rfl (by decide) fun cdv A outer s H E hr =>
  (ss_cons (ss_parF 2 3 rfl sc_doubled_middles.nd (qe_mul (qe_lst (qa_cons qint qa_nil)) (qe_bF call_len_seq cf_len (by rfl) T.z_len (by decide +kernel) (qa_cons (qv 0) qa_nil))) qint (by rfl))
  (ss_cons (ss_for PassesOwn.never rfl (qi_seq (qv 1)) (gg 4 sc_doubled_middles.nd)
  (ss_cons (ss_put 2 (ps_asg (qe_add (qe_mul qint (qv 3)) (qe_ix (qv 0) (qv 4) (fun _ _ => rfl))) (pg_sub (pv 2) (qv 4) set_list)))
  (ss_one (ss_augAdd 3 sc_doubled_middles.nd (qe_ix (qv 0) (qv 4) (fun _ _ => rfl))))))
  (ss_one (ss_ret (qv 2)))))
theorem sc_doubled_traffic : FnScope ["lengths", "traffic", "order", "middles", "first", "row", "second", "part"] ["lengths", "traffic", "order"] (defScope (topS 11)) := ⟨rfl, rfl, rfl, by decide +kernel, rfl, by decide +kernel, by decide +kernel⟩
def den_doubled_traffic : Fn := dfun 8 3 (sSeq (sSet 3 0 (eCall 2 den_doubled_middles (aCons (eVar 0) (aCons (eVar 2) aNil))) ([(0, 0)] ++ ([(2, 0)] ++ [])))
  (sRet (eCB (d1 dSum) (aCons (eLc2 (iEnumD (eVar 1)) (.tp [(.nm 4), (.nm 5)]) tTrue (iEnumD (eVar 5)) (.tp [(.nm 6), (.nm 7)]) tTrue (eOp dMul (eVar 7) (eCB (d1 dAbs) (aCons (eOp dSub (eIx (eVar 3) (eVar 4)) (eIx (eVar 3) (eVar 6))) aNil))) [4, 5, 6, 7] [6, 7]) aNil))))
theorem ok_doubled_traffic {P : Program} {w : World} {K : PySem.W.Frag} {mg : Str → Option Value} {base : Heap} {ad : Nat → Addr} {fo : Nat → FuncData} (T : Tp K mg ad fo) : FnOk P w K mg base CX0 2 (ad 9) (fo 9) ["lengths", "traffic", "order"] (spD K 3 den_doubled_traffic) :=
  fun_den (k := 1) T.F_doubled_traffic sc_doubled_traffic rfl rfl (by decide) fun cdv A outer s H E hr =>
  (ss_cons (ss_set 3 0 sc_doubled_traffic.nd (qe_call (ok_doubled_middles T) (hr.mono (by decide)) (by rfl) T.g_doubled_middles T.F_doubled_middles.kp T.b_doubled_middles (qa_cons (qv 0) (qa_cons (qv 2) qa_nil))))
  (ss_one (ss_ret (qe_bF (cr_sumA rfl) cf_sum (by rfl) T.z_sum (by decide +kernel) (qa_cons (qe_lc2 (own := [("first", 4), ("row", 5), ("second", 6), ("part", 7)]) (vs1 := [6, 7]) rfl sc_doubled_traffic.nd (qi_enum (by rfl) T.z_enumerate (qv 1)) (blkOk_by (own := [("first", 4), ("row", 5), ("second", 6), ("part", 7)]) (N := ["lengths", "traffic", "order", "middles", "first", "row", "second", "part"]) (sc := (defScope (topS 11))) (by decide +kernel)) (by rfl) (fun _ _ _ _ _ => (gg_tup rfl (ggs_cons (gg 4 sc_doubled_traffic.nd) (ggs_cons (gg 5 sc_doubled_traffic.nd) ggs_nil)))) (fun _ _ _ _ _ => qts_nil) (fun _ _ _ _ _ => (qi_enum (by rfl) T.z_enumerate (qv 5))) (fun _ _ _ _ _ => (gg_tup rfl (ggs_cons (gg 6 sc_doubled_traffic.nd) (ggs_cons (gg 7 sc_doubled_traffic.nd) ggs_nil)))) (fun _ _ _ _ _ => qts_nil) (fun _ _ _ _ _ => (qe_mul (qv 7) (qe_bF call_abs cf_abs (by rfl) T.z_abs (by decide +kernel) (qa_cons (qe_sub (qe_ix (qv 3) (qv 4) (fun _ _ => rfl)) (qe_ix (qv 3) (qv 6) (fun _ _ => rfl))) qa_nil))))) qa_nil)))))
theorem sc_line_layout : FnScope ["lengths", "traffic", "cost", "order", "row"] ["lengths", "traffic"] (defScope (topS 12)) := ⟨rfl, rfl, rfl, by decide +kernel, rfl, by decide +kernel, by decide +kernel⟩
def den_line_layout : Fn := dfun 5 2 (sSeq (sTup (.tp [(.nm 2), (.nm 3)]) (eCB (d1 dMin1) (aCons (eLc (iSeq (eCall 1 den_all_orders (aCons (eCB (d1 dLen) (aCons (eVar 0) aNil)) aNil))) (.nm 4) tTrue (eTup (aCons (eCall 3 den_doubled_traffic (aCons (eVar 0) (aCons (eVar 1) (aCons (eVar 4) aNil)))) (aCons (eVar 4) aNil))) [4]) aNil)) [])
  (sRet (eTup (aCons (eCall 2 den_lowest (aCons (eVar 2) (aCons (eC (.int 2)) aNil))) (aCons (eVar 3) aNil)))))
theorem ok_line_layout {P : Program} {w : World} {K : PySem.W.Frag} {mg : Str → Option Value} {base : Heap} {ad : Nat → Addr} {fo : Nat → FuncData} (T : Tp K mg ad fo) : FnOk P w K mg base CX0 3 (ad 10) (fo 10) ["lengths", "traffic"] (spD K 2 den_line_layout) :=
  fun_den (k := 2) T.F_line_layout sc_line_layout rfl rfl (by decide) fun cdv A outer s H E hr =>
  (ss_cons (ss_tup (qe_bF (cr_minD rfl (hu_of64 hr)) cf_min1 (by rfl) T.z_min (by decide +kernel) (qa_cons (qe_lc (own := [("row", 4)]) rfl sc_line_layout.nd (qi_seq (qe_call (ok_all_orders T) (hr.mono (by decide)) (by rfl) T.g_all_orders T.F_all_orders.kp T.b_all_orders (qa_cons (qe_bF call_len_seq cf_len (by rfl) T.z_len (by decide +kernel) (qa_cons (qv 0) qa_nil)) qa_nil))) (blkOk_by (own := [("row", 4)]) (N := ["lengths", "traffic", "cost", "order", "row"]) (sc := (defScope (topS 12))) (by decide +kernel)) (fun _ _ _ _ _ => (gg 4 sc_line_layout.nd)) (fun _ _ _ _ _ => qts_nil) (fun _ _ _ _ _ => (qe_tup (qa_cons (qe_call (ok_doubled_traffic T) (hr.mono (by decide)) (by rfl) T.g_doubled_traffic T.F_doubled_traffic.kp T.b_doubled_traffic (qa_cons (qv 0) (qa_cons (qv 1) (qa_cons (qv 4) qa_nil)))) (qa_cons (qv 4) qa_nil))))) qa_nil)) (gg_tup rfl (ggs_cons (gg 2 sc_line_layout.nd) (ggs_cons (gg 3 sc_line_layout.nd) ggs_nil))))
  (ss_one (ss_ret (qe_tup (qa_cons (qe_call (ok_lowest T) (hr.mono (by decide)) (by rfl) T.g_lowest T.F_lowest.kp T.b_lowest (qa_cons (qv 2) (qa_cons qint qa_nil))) (qa_cons (qv 3) qa_nil))))))
theorem sc_ways_from : FnScope ["ways", "start", "goal", "n", "best", "layer", "_", "grown", "used", "last", "length", "row", "place", "key", "after"] ["ways", "start", "goal"] (defScope (topS 14)) := ⟨rfl, rfl, rfl, by decide +kernel, rfl, by decide +kernel, by decide +kernel⟩
def den_ways_from : Fn := dfun 15 3 (sSeq (sSet 3 0 (eCB (d1 dLen) (aCons (eVar 0) aNil)) [])
  (sSeq (sSet 4 1 (eOp dD1 (eTup (aCons (eOp dShl (eC (.int 1)) (eVar 1)) (aCons (eVar 1) aNil))) (eTup (aCons (eC (.int 0)) (aCons (eTup (aCons (eVar 1) aNil)) aNil)))) [])
  (sSeq (sSet 5 0 (eLst (aCons (eTup (aCons (eOp dShl (eC (.int 1)) (eVar 1)) (aCons (eVar 1) aNil))) aNil)) ((([] ++ [(1, 1)]) ++ ([(1, 0)] ++ [])) ++ []))
  (sSeq (sFor (iRange1 (eOp dSub (eVar 3) (eC (.int 1)))) [] (.nm 6)
  (sSeq (sSet 7 1 (eLst aNil) [])
  (sSeq (sFor (iSeq (eVar 5)) [(5, 0)] (.tp [(.nm 8), (.nm 9)])
  (sSeq (sTup (.tp [(.nm 10), (.nm 11)]) (eOp dGetD (eVar 4) (eTup (aCons (eVar 8) (aCons (eVar 9) aNil)))) [(4, 1)])
  (sFor (iRange1 (eVar 3)) [] (.nm 12)
  (sIf (tAndD (tCmp dEq (eOp dAnd (eOp dShr (eVar 8) (eVar 12)) (eC (.int 1))) (eC (.int 0))) (tOrD (tCmp dNe (eVar 12) (eVar 2)) (tCmp dEq (eCB (d1 dLen) (aCons (eVar 11) aNil)) (eOp dSub (eVar 3) (eC (.int 1))))))
  (sSeq (sSet 13 0 (eTup (aCons (eOp dOr (eVar 8) (eOp dShl (eC (.int 1)) (eVar 12))) (aCons (eVar 12) aNil))) (([(8, 1)] ++ ([] ++ [(12, 1)])) ++ ([(12, 0)] ++ [])))
  (sSeq (sSet 14 0 (eTup (aCons (eOp dAdd (eVar 10) (eIx (eIx (eVar 0) (eVar 9)) (eVar 12))) (aCons (eOp dAdd (eVar 11) (eTup (aCons (eVar 12) aNil))) aNil))) (([(10, 1)] ++ [(0, 3)]) ++ (([(11, 1)] ++ ([(12, 0)] ++ [])) ++ [])))
  (sSeq (sIf (tCmp dNotInD (eVar 13) (eVar 4))
  (sApp 7 (eVar 13) [(13, 0)])
  sNil)
  (sIf (tOrD (tCmp dNotInD (eVar 13) (eVar 4)) (tCmp dLt (eVar 14) (eOp dGetD (eVar 4) (eVar 13))))
  (sPutD 4 (eVar 13) (eVar 14))
  sNil))))
  sNil))))
  (sSet 5 0 (eVar 7) [(7, 0)]))))
  (sRet (eVar 4))))))
theorem ok_ways_from {P : Program} {w : World} {K : PySem.W.Frag} {mg : Str → Option Value} {base : Heap} {ad : Nat → Addr} {fo : Nat → FuncData} (T : Tp K mg ad fo) : FnOk P w K mg base CX0 1 (ad 11) (fo 11) ["ways", "start", "goal"] (spD K 3 den_ways_from) :=
  fun_den (k := 0) T.F_ways_from sc_ways_from rfl rfl (by decide) fun cdv A outer s H E hr =>
  (ss_cons (ss_set 3 0 sc_ways_from.nd (qe_bF call_len_seq cf_len (by rfl) T.z_len (by decide +kernel) (qa_cons (qv 0) qa_nil)))
  (ss_cons (ss_set 4 1 sc_ways_from.nd (qe_d1 (Nat.lt_of_le_of_lt (Nat.add_le_add_left (by decide) _) (hu2_of hr)) (qe_tup (qa_cons (qe_shl qint (qv 1)) (qa_cons (qv 1) qa_nil))) (qe_tup (qa_cons qint (qa_cons (qe_tup (qa_cons (qv 1) qa_nil)) qa_nil)))))
  (ss_cons (ss_set 5 0 sc_ways_from.nd (qe_lst (qa_cons (qe_tup (qa_cons (qe_shl qint (qv 1)) (qa_cons (qv 1) qa_nil))) qa_nil)))
  (ss_cons (ss_for PassesOwn.never rfl (qi_range1 (by rfl) T.z_range (qe_sub (qv 3) qint)) (gg 6 sc_ways_from.nd)
  (ss_cons (ss_set 7 1 sc_ways_from.nd (qe_lst qa_nil))
  (ss_cons (ss_for PassesOwn.never rfl (qi_seq (qv 5)) (gg_tup rfl (ggs_cons (gg 8 sc_ways_from.nd) (ggs_cons (gg 9 sc_ways_from.nd) ggs_nil)))
  (ss_cons (ss_tup (qe_dget (Nat.lt_of_le_of_lt (Nat.add_le_add_left (by decide) _) (hu2_of hr)) (qv 4) (qe_tup (qa_cons (qv 8) (qa_cons (qv 9) qa_nil))) (fun _ _ => rfl)) (gg_tup rfl (ggs_cons (gg 10 sc_ways_from.nd) (ggs_cons (gg 11 sc_ways_from.nd) ggs_nil))))
  (ss_one (ss_for PassesOwn.never rfl (qi_range1 (by rfl) T.z_range (qv 3)) (gg 12 sc_ways_from.nd)
  (ss_one (ss_if (PW.pt (qw_and (qt_cmp (op_eqD (hu_of64 hr)) oc_eq (qe_band (qe_shr (qv 8) (qv 12)) qint) qint (nomark _)) (qw_and1 (PW.pt (qw_or (qt_cmp (op_neD (hu_of64 hr)) oc_ne (qv 12) (qv 2) (nomark _)) (qw_or1 (qt_cmp (op_eqD (hu_of64 hr)) oc_eq (qe_bF call_len_seq cf_len (by rfl) T.z_len (by decide +kernel) (qa_cons (qv 11) qa_nil)) (qe_sub (qv 3) qint) (nomark _))))))))
  (ss_cons (ss_set 13 0 sc_ways_from.nd (qe_tup (qa_cons (qe_bor (qv 8) (qe_shl qint (qv 12))) (qa_cons (qv 12) qa_nil))))
  (ss_cons (ss_set 14 0 sc_ways_from.nd (qe_tup (qa_cons (qe_add (qv 10) (qe_ix (qe_ix (qv 0) (qv 9) (fun _ _ => rfl)) (qv 12) (fun _ _ => rfl))) (qa_cons (qe_add (qv 11) (qe_tup (qa_cons (qv 12) qa_nil))) qa_nil))))
  (ss_cons (ss_if (qt_cmp (op_notInDk (Nat.lt_of_le_of_lt (Nat.add_le_add_left (by decide) _) (hu2_of hr))) oc_notInDk (qv 13) (qv 4) (by rfl))
  (ss_one (ss_app 7 (ps_expr (pe_bm PySem.F.plainAttrs_list PySem.F.slot_list_append PySem.F.type_list_append mt_append (pv 7) (pa_cons (qv 13) pa_nil)))))
  ss_nil)
  (ss_one (ss_if (PW.pt (qw_or (qt_cmp (op_notInDk (Nat.lt_of_le_of_lt (Nat.add_le_add_left (by decide) _) (hu2_of hr))) oc_notInDk (qv 13) (qv 4) (by rfl)) (qw_or1 (qt_cmp (op_ltA (hu_of64 hr)) oc_lt (qv 14) (qe_dget (Nat.lt_of_le_of_lt (Nat.add_le_add_left (by decide) _) (hu2_of hr)) (qv 4) (qv 13) (fun _ _ => rfl)) (nomark _)))))
  (ss_one (ss_putD 4 (ps_asg (qv 14) (pg_sub (pv 4) (qv 13) (set_dict (Nat.lt_of_le_of_lt (Nat.add_le_add_left (by decide) _) (hu2_of hr)))))))
  ss_nil)))))
  ss_nil))))))
  (ss_one (ss_set 5 0 sc_ways_from.nd (qv 7))))))
  (ss_one (ss_ret (qv 4)))))))
theorem sc_best_round : FnScope ["ways", "n", "best", "found", "key"] ["ways"] (defScope (topS 15)) := ⟨rfl, rfl, rfl, by decide +kernel, rfl, by decide +kernel, by decide +kernel⟩
def den_best_round : Fn := dfun 5 1 (sSeq (sSet 1 0 (eCB (d1 dLen) (aCons (eVar 0) aNil)) [])
  (sSeq (sSet 2 0 (eCall 3 den_ways_from (aCons (eVar 0) (aCons (eC (.int 0)) (aCons (eC .none) aNil)))) ([(0, 0)] ++ ([] ++ ([] ++ []))))
  (sSeq (sSet 3 0 (eLc (iDk (eVar 2)) (.nm 4) (tCmp dEq (eIx (eVar 4) (eC (.int 0))) (eOp dSub (eOp dShl (eC (.int 1)) (eVar 1)) (eC (.int 1)))) (eTup (aCons (eOp dAdd (eIx (eOp dGetD (eVar 2) (eVar 4)) (eC (.int 0))) (eIx (eIx (eVar 0) (eIx (eVar 4) (eC (.int 1)))) (eC (.int 0)))) (aCons (eIx (eOp dGetD (eVar 2) (eVar 4)) (eC (.int 1))) aNil))) [4]) ([(2, 0)] ++ (([(2, 1)] ++ [(0, 3)]) ++ ([(2, 1)] ++ []))))
  (sRet (eCB (d1 dMin1) (aCons (eVar 3) aNil))))))
theorem ok_best_round {P : Program} {w : World} {K : PySem.W.Frag} {mg : Str → Option Value} {base : Heap} {ad : Nat → Addr} {fo : Nat → FuncData} (T : Tp K mg ad fo) : FnOk P w K mg base CX0 2 (ad 12) (fo 12) ["ways"] (spD K 1 den_best_round) :=
  fun_den (k := 1) T.F_best_round sc_best_round rfl rfl (by decide) fun cdv A outer s H E hr =>
  (ss_cons (ss_set 1 0 sc_best_round.nd (qe_bF call_len_seq cf_len (by rfl) T.z_len (by decide +kernel) (qa_cons (qv 0) qa_nil)))
  (ss_cons (ss_set 2 0 sc_best_round.nd (qe_call (ok_ways_from T) (hr.mono (by decide)) (by rfl) T.g_ways_from T.F_ways_from.kp T.b_ways_from (qa_cons (qv 0) (qa_cons qint (qa_cons qnon qa_nil)))))
  (ss_cons (ss_setLcD 2 3 0 (own := [("key", 4)]) rfl sc_best_round.nd (pv 2) (blkOk_by (own := [("key", 4)]) (N := ["ways", "n", "best", "found", "key"]) (sc := (defScope (topS 15))) (by decide +kernel)) (fun _ _ _ _ _ => (gg 4 sc_best_round.nd)) (fun _ _ _ _ _ => (qts_one (qt_cmp (op_eqD (hu_of64 hr)) oc_eq (qe_ix (qv 4) qint (fun _ _ => rfl)) (qe_sub (qe_shl qint (qv 1)) qint) (nomark _)))) (fun _ _ _ _ _ => (qe_tup (qa_cons (qe_add (qe_ix (qe_dget (Nat.lt_of_le_of_lt (Nat.add_le_add_left (by decide) _) (hu2_of hr)) (qv 2) (qv 4) (fun _ _ => rfl)) qint (fun _ _ => rfl)) (qe_ix (qe_ix (qv 0) (qe_ix (qv 4) qint (fun _ _ => rfl)) (fun _ _ => rfl)) qint (fun _ _ => rfl))) (qa_cons (qe_ix (qe_dget (Nat.lt_of_le_of_lt (Nat.add_le_add_left (by decide) _) (hu2_of hr)) (qv 2) (qv 4) (fun _ _ => rfl)) qint (fun _ _ => rfl)) qa_nil)))))
  (ss_one (ss_ret (qe_bF (cr_minD rfl (hu_of64 hr)) cf_min1 (by rfl) T.z_min (by decide +kernel) (qa_cons (qv 3) qa_nil)))))))
theorem sc_best_path : FnScope ["ways", "start", "goal", "n"] ["ways", "start", "goal"] (defScope (topS 16)) := ⟨rfl, rfl, rfl, by decide +kernel, rfl, by decide +kernel, by decide +kernel⟩
def den_best_path : Fn := dfun 4 3 (sSeq (sSet 3 0 (eCB (d1 dLen) (aCons (eVar 0) aNil)) [])
  (sSeq (sIf (tCmp dEq (eVar 3) (eC (.int 1)))
  (sRet (eTup (aCons (eC (.int 0)) (aCons (eTup (aCons (eC (.int 0)) aNil)) aNil))))
  sNil)
  (sRet (eOp dGetD (eCall 3 den_ways_from (aCons (eVar 0) (aCons (eVar 1) (aCons (eVar 2) aNil)))) (eTup (aCons (eOp dSub (eOp dShl (eC (.int 1)) (eVar 3)) (eC (.int 1))) (aCons (eVar 2) aNil)))))))
theorem ok_best_path {P : Program} {w : World} {K : PySem.W.Frag} {mg : Str → Option Value} {base : Heap} {ad : Nat → Addr} {fo : Nat → FuncData} (T : Tp K mg ad fo) : FnOk P w K mg base CX0 2 (ad 13) (fo 13) ["ways", "start", "goal"] (spD K 3 den_best_path) :=
  fun_den (k := 1) T.F_best_path sc_best_path rfl rfl (by decide) fun cdv A outer s H E hr =>
  (ss_cons (ss_set 3 0 sc_best_path.nd (qe_bF call_len_seq cf_len (by rfl) T.z_len (by decide +kernel) (qa_cons (qv 0) qa_nil)))
  (ss_cons (ss_if (qt_cmp (op_eqD (hu_of64 hr)) oc_eq (qv 3) qint (nomark _))
  (ss_one (ss_ret (qe_tup (qa_cons qint (qa_cons (qe_tup (qa_cons qint qa_nil)) qa_nil)))))
  ss_nil)
  (ss_one (ss_ret (qe_dget (Nat.lt_of_le_of_lt (Nat.add_le_add_left (by decide) _) (hu2_of hr)) (qe_call (ok_ways_from T) (hr.mono (by decide)) (by rfl) T.g_ways_from T.F_ways_from.kp T.b_ways_from (qa_cons (qv 0) (qa_cons (qv 1) (qa_cons (qv 2) qa_nil)))) (qe_tup (qa_cons (qe_sub (qe_shl qint (qv 3)) qint) (qa_cons (qv 2) qa_nil))) (fun _ _ => rfl))))))
theorem sc__law_mixed : FnScope ["script", "k", "cell", "first", "second", "third"] ["script", "k"] (defScope (topS 18)) := ⟨rfl, rfl, rfl, by decide +kernel, rfl, by decide +kernel, by decide +kernel⟩
def den__law_mixed : Fn := dfun 6 2 (sSeq (sSet 2 0 (eC (.int 0)) [])
  (sSeq (sIf (tCmp dGt (eCB (d1 dLen) (aCons (eVar 0) aNil)) (eC (.int 0)))
  (sSet 2 0 (eIx (eVar 0) (eOp dMod (eVar 1) (eCB (d1 dLen) (aCons (eVar 0) aNil)))) [(0, 1)])
  sNil)
  (sSeq (sSet 3 0 (eOp dMod (eCB (d1 dInt) (aCons (eOp dAdd (eOp dAdd (eOp dMul (eVar 2) (eC (.int 48271))) (eOp dMul (eVar 1) (eC (.int 69621)))) (eC (.int 8191))) aNil)) (eC (.int 2147483647))) ([] ++ []))
  (sSeq (sSet 4 0 (eOp dMod (eCB (d1 dInt) (aCons (eOp dAdd (eOp dAdd (eOp dMul (eVar 3) (eVar 3)) (eOp dFdiv (eVar 3) (eC (.int 7)))) (eOp dMul (eVar 1) (eC (.int 16807)))) aNil)) (eC (.int 2147483629))) ([] ++ []))
  (sSeq (sSet 5 0 (eOp dMod (eCB (d1 dInt) (aCons (eOp dAdd (eOp dAdd (eOp dMul (eVar 4) (eVar 4)) (eOp dFdiv (eVar 4) (eC (.int 11)))) (eC (.int 40692))) aNil)) (eC (.int 2147483563))) ([] ++ []))
  (sRet (eOp dMod (eOp dFdiv (eVar 5) (eC (.int 5))) (eC (.int 1000003)))))))))
theorem ok__law_mixed {P : Program} {w : World} {K : PySem.W.Frag} {mg : Str → Option Value} {base : Heap} {ad : Nat → Addr} {fo : Nat → FuncData} (T : Tp K mg ad fo) : FnOk P w K mg base CX0 1 (ad 14) (fo 14) ["script", "k"] (spD K 2 den__law_mixed) :=
  fun_den (k := 0) T.F__law_mixed sc__law_mixed rfl rfl (by decide) fun cdv A outer s H E hr =>
  (ss_cons (ss_set 2 0 sc__law_mixed.nd qint)
  (ss_cons (ss_if (qt_cmp (op_gtA (hu_of64 hr)) oc_gt (qe_bF call_len_seq cf_len (by rfl) T.z_len (by decide +kernel) (qa_cons (qv 0) qa_nil)) qint (nomark _))
  (ss_one (ss_set 2 0 sc__law_mixed.nd (qe_ix (qv 0) (qe_mod (qv 1) (qe_bF call_len_seq cf_len (by rfl) T.z_len (by decide +kernel) (qa_cons (qv 0) qa_nil))) (fun _ _ => rfl))))
  ss_nil)
  (ss_cons (ss_set 3 0 sc__law_mixed.nd (qe_mod (qe_tF call_int1 cf_int (by rfl) T.z_int (by decide +kernel) (qa_cons (qe_add (qe_add (qe_mul (qv 2) qint) (qe_mul (qv 1) qint)) qint) qa_nil)) qint))
  (ss_cons (ss_set 4 0 sc__law_mixed.nd (qe_mod (qe_tF call_int1 cf_int (by rfl) T.z_int (by decide +kernel) (qa_cons (qe_add (qe_add (qe_mul (qv 3) (qv 3)) (qe_fdiv (qv 3) qint)) (qe_mul (qv 1) qint)) qa_nil)) qint))
  (ss_cons (ss_set 5 0 sc__law_mixed.nd (qe_mod (qe_tF call_int1 cf_int (by rfl) T.z_int (by decide +kernel) (qa_cons (qe_add (qe_add (qe_mul (qv 4) (qv 4)) (qe_fdiv (qv 4) qint)) qint) qa_nil)) qint))
  (ss_one (ss_ret (qe_mod (qe_fdiv (qv 5) qint) qint))))))))
theorem sc__law_row : FnScope ["script", "many", "big", "row", "k"] ["script", "many"] (defScope (topS 19)) := ⟨rfl, rfl, rfl, by decide +kernel, rfl, by decide +kernel, by decide +kernel⟩
def den__law_row : Fn := dfun 5 2 (sSeq (sSet 2 0 (eC (.int 0)) [])
  (sSeq (sIf (tAndD (tCmp dGt (eCB (d1 dLen) (aCons (eVar 0) aNil)) (eC (.int 0))) (tCmp dGe (eIx (eVar 0) (eC (.int 0))) (eOp dPow (eC (.int 10)) (eC (.int 18)))))
  (sSet 2 0 (eIx (eVar 0) (eC (.int 0))) [(0, 1)])
  sNil)
  (sSeq (sSet 3 1 (eLst aNil) [])
  (sSeq (sFor (iRange1 (eVar 1)) [] (.nm 4)
  (sIf (tCmp dGt (eVar 2) (eC (.int 0)))
  (sSeq (sApp 3 (eOp dMod (eCB (d1 dInt) (aCons (eVar 2) aNil)) (eC (.int 1000))) ([] ++ []))
  (sSet 2 0 (eOp dFdiv (eVar 2) (eC (.int 1000))) ([(2, 1)] ++ [])))
  (sApp 3 (eCall 2 den__law_mixed (aCons (eVar 0) (aCons (eVar 4) aNil))) ([(0, 0)] ++ ([(4, 0)] ++ [])))))
  (sRet (eVar 3))))))
theorem ok__law_row {P : Program} {w : World} {K : PySem.W.Frag} {mg : Str → Option Value} {base : Heap} {ad : Nat → Addr} {fo : Nat → FuncData} (T : Tp K mg ad fo) : FnOk P w K mg base CX0 2 (ad 15) (fo 15) ["script", "many"] (spD K 2 den__law_row) :=
  fun_den (k := 1) T.F__law_row sc__law_row rfl rfl (by decide) fun cdv A outer s H E hr =>
  (ss_cons (ss_set 2 0 sc__law_row.nd qint)
  (ss_cons (ss_if (PW.pt (qw_and (qt_cmp (op_gtA (hu_of64 hr)) oc_gt (qe_bF call_len_seq cf_len (by rfl) T.z_len (by decide +kernel) (qa_cons (qv 0) qa_nil)) qint (nomark _)) (qw_and1 (qt_cmp (op_geA (hu_of64 hr)) oc_ge (qe_ix (qv 0) qint (fun _ _ => rfl)) (qe_pow qint qint) (nomark _)))))
  (ss_one (ss_set 2 0 sc__law_row.nd (qe_ix (qv 0) qint (fun _ _ => rfl))))
  ss_nil)
  (ss_cons (ss_set 3 1 sc__law_row.nd (qe_lst qa_nil))
  (ss_cons (ss_for PassesOwn.never rfl (qi_range1 (by rfl) T.z_range (qv 1)) (gg 4 sc__law_row.nd)
  (ss_one (ss_if (qt_cmp (op_gtA (hu_of64 hr)) oc_gt (qv 2) qint (nomark _))
  (ss_cons (ss_app 3 (ps_expr (pe_bm PySem.F.plainAttrs_list PySem.F.slot_list_append PySem.F.type_list_append mt_append (pv 3) (pa_cons (qe_mod (qe_tF call_int1 cf_int (by rfl) T.z_int (by decide +kernel) (qa_cons (qv 2) qa_nil)) qint) pa_nil))))
  (ss_one (ss_set 2 0 sc__law_row.nd (qe_fdiv (qv 2) qint))))
  (ss_one (ss_app 3 (ps_expr (pe_bm PySem.F.plainAttrs_list PySem.F.slot_list_append PySem.F.type_list_append mt_append (pv 3) (pa_cons (qe_call (ok__law_mixed T) (hr.mono (by decide)) (by rfl) T.g__law_mixed T.F__law_mixed.kp T.b__law_mixed (qa_cons (qv 0) (qa_cons (qv 4) qa_nil))) pa_nil))))))))
  (ss_one (ss_ret (qv 3)))))))
theorem sc__law_is_int : FnScope ["value"] ["value"] (defScope (topS 20)) := ⟨rfl, rfl, rfl, by decide +kernel, rfl, by decide +kernel, by decide +kernel⟩
def den__law_is_int : Fn := dfun 1 1 (sRet (eAndD (eIsi "int" (eVar 0)) (eB (tNotD (tTru (eIsi "bool" (eVar 0)))))))
theorem ok__law_is_int {P : Program} {w : World} {K : PySem.W.Frag} {mg : Str → Option Value} {base : Heap} {ad : Nat → Addr} {fo : Nat → FuncData} (T : Tp K mg ad fo) : FnOk P w K mg base CX0 1 (ad 16) (fo 16) ["value"] (spD K 1 den__law_is_int) :=
  fun_den (k := 0) T.F__law_is_int sc__law_is_int rfl rfl (by decide) fun cdv A outer s H E hr =>
  (ss_one (ss_ret (qe_and (qe_isi (by rfl) T.z_isinstance (qv 0) (by rfl) T.z_int (by decide +kernel)) (qe_one (qe_not (qe_isi (by rfl) T.z_isinstance (qv 0) (by rfl) T.z_bool (by decide +kernel)))))))
theorem sc__law_like : FnScope ["value", "due", "k"] ["value", "due"] (defScope (topS 21)) := ⟨rfl, rfl, rfl, by decide +kernel, rfl, by decide +kernel, by decide +kernel⟩
def den__law_like : Nat → Fn
  | 0 => fun _ => none
  | n + 1 => dfun 3 2 (sSeq (sIf (tIsND (eVar 1))
  (sRet (eIsN (eVar 0)))
  sNil)
  (sSeq (sIf (tTru (eIsi "bool" (eVar 1)))
  (sRet (eAndD (eIsi "bool" (eVar 0)) (eB (tCmp dEq (eVar 0) (eVar 1)))))
  sNil)
  (sSeq (sIf (tTru (eIsi "tuple" (eVar 1)))
  (sSeq (sIf (tOrD (tNotD (tTru (eIsi "tuple" (eVar 0)))) (tCmp dNe (eCB (d1 dLen) (aCons (eVar 0) aNil)) (eCB (d1 dLen) (aCons (eVar 1) aNil))))
  (sRet (eC (.bool false)))
  sNil)
  (sRet (eCB (d1 dAll) (aCons (eLc (iRange1 (eCB (d1 dLen) (aCons (eVar 1) aNil))) (.nm 2) tTrue (eCall 2 (den__law_like n) (aCons (eIx (eVar 0) (eVar 2)) (aCons (eIx (eVar 1) (eVar 2)) aNil))) [2]) aNil))))
  sNil)
  (sSeq (sIf (tTru (eIsi "str" (eVar 1)))
  (sRet (eAndD (eIsi "str" (eVar 0)) (eB (tCmp dEq (eVar 0) (eVar 1)))))
  sNil)
  (sRet (eAndD (eCall 1 den__law_is_int (aCons (eVar 0) aNil)) (eB (tCmp dEq (eVar 0) (eVar 1)))))))))
theorem ok__law_like {P : Program} {w : World} {K : PySem.W.Frag} {mg : Str → Option Value} {base : Heap} {ad : Nat → Addr} {fo : Nat → FuncData} (T : Tp K mg ad fo) : ∀ n : Nat, FnOk P w K mg base CX0 (2 + n) (ad 17) (fo 17) ["value", "due"] (spD K 2 (den__law_like n))
  | 0 => fun_none (k := 1) T.F__law_like sc__law_like rfl
  | n + 1 => have ih := ok__law_like (P := P) (w := w) (base := base) T n
    fun_den (k := 2 + n) T.F__law_like sc__law_like rfl rfl (by decide) fun cdv A outer s H E hr =>
  (ss_cons (ss_if (qt_isN (qv 1))
  (ss_one (ss_ret (qe_isN (qv 0))))
  ss_nil)
  (ss_cons (ss_if (qt_tru (qe_isi (by rfl) T.z_isinstance (qv 1) (by rfl) T.z_bool (by decide +kernel)) (by intro _; rfl))
  (ss_one (ss_ret (qe_and (qe_isi (by rfl) T.z_isinstance (qv 0) (by rfl) T.z_bool (by decide +kernel)) (qe_one (qe_cmp (op_eqD (hu_of64 hr)) oc_eq (qv 0) (qv 1) (nomark _))))))
  ss_nil)
  (ss_cons (ss_if (qt_tru (qe_isi (by rfl) T.z_isinstance (qv 1) (by rfl) T.z_tuple (by decide +kernel)) (by intro _; rfl))
  (ss_cons (ss_if (PW.pt (qw_or (qt_not (qt_tru (qe_isi (by rfl) T.z_isinstance (qv 0) (by rfl) T.z_tuple (by decide +kernel)) (by intro _; rfl))) (qw_or1 (qt_cmp (op_neD (hu_of64 hr)) oc_ne (qe_bF call_len_seq cf_len (by rfl) T.z_len (by decide +kernel) (qa_cons (qv 0) qa_nil)) (qe_bF call_len_seq cf_len (by rfl) T.z_len (by decide +kernel) (qa_cons (qv 1) qa_nil)) (nomark _)))))
  (ss_one (ss_ret qbl))
  ss_nil)
  (ss_one (ss_ret (qe_bF (cr_all rfl) cf_all (by rfl) T.z_all (by decide +kernel) (qa_cons (qe_lc (own := [("k", 2)]) rfl sc__law_like.nd (qi_range1 (by rfl) T.z_range (qe_bF call_len_seq cf_len (by rfl) T.z_len (by decide +kernel) (qa_cons (qv 1) qa_nil))) (blkOk_by (own := [("k", 2)]) (N := ["value", "due", "k"]) (sc := (defScope (topS 21))) (by decide +kernel)) (fun _ _ _ _ _ => (gg 2 sc__law_like.nd)) (fun _ _ _ _ _ => qts_nil) (fun _ _ _ _ _ => (qe_call ih (hr.mono (Nat.le_refl _)) (by rfl) T.g__law_like T.F__law_like.kp T.b__law_like (qa_cons (qe_ix (qv 0) (qv 2) (fun _ _ => rfl)) (qa_cons (qe_ix (qv 1) (qv 2) (fun _ _ => rfl)) qa_nil))))) qa_nil)))))
  ss_nil)
  (ss_cons (ss_if (qt_tru (qe_isi (by rfl) T.z_isinstance (qv 1) (by rfl) T.z_str (by decide +kernel)) (by intro _; rfl))
  (ss_one (ss_ret (qe_and (qe_isi (by rfl) T.z_isinstance (qv 0) (by rfl) T.z_str (by decide +kernel)) (qe_one (qe_cmp (op_eqD (hu_of64 hr)) oc_eq (qv 0) (qv 1) (nomark _))))))
  ss_nil)
  (ss_one (ss_ret (qe_and (qe_call (ok__law_is_int T) (hr.mono (Nat.le_trans (by decide) (Nat.le_add_right 2 n))) (by rfl) T.g__law_is_int T.F__law_is_int.kp T.b__law_is_int (qa_cons (qv 0) qa_nil)) (qe_one (qe_cmp (op_eqD (hu_of64 hr)) oc_eq (qv 0) (qv 1) (nomark _))))))))))
theorem sc__law_orders : FnScope ["count", "rows", "turn", "grown", "row", "one"] ["count"] (defScope (topS 22)) := ⟨rfl, rfl, rfl, by decide +kernel, rfl, by decide +kernel, by decide +kernel⟩
def den__law_orders : Fn := dfun 6 1 (sSeq (sSet 1 0 (eLst (aCons (eTup aNil) aNil)) ([] ++ []))
  (sSeq (sFor (iRange1 (eVar 0)) [] (.nm 2)
  (sSeq (sSet 3 1 (eLst aNil) [])
  (sSeq (sFor (iSeq (eVar 1)) [(1, 0)] (.nm 4)
  (sExt 3 (eLc (iRange1 (eVar 0)) (.nm 5) (tCmp dNotIn (eVar 5) (eVar 4)) (eOp dAdd (eVar 4) (eTup (aCons (eVar 5) aNil))) [5]) ([] ++ ([(4, 1)] ++ ([(5, 0)] ++ [])))))
  (sSet 1 0 (eVar 3) [(3, 0)]))))
  (sRet (eVar 1))))
theorem ok__law_orders {P : Program} {w : World} {K : PySem.W.Frag} {mg : Str → Option Value} {base : Heap} {ad : Nat → Addr} {fo : Nat → FuncData} (T : Tp K mg ad fo) : FnOk P w K mg base CX0 1 (ad 18) (fo 18) ["count"] (spD K 1 den__law_orders) :=
  fun_den (k := 0) T.F__law_orders sc__law_orders rfl rfl (by decide) fun cdv A outer s H E hr =>
  (ss_cons (ss_set 1 0 sc__law_orders.nd (qe_lst (qa_cons (qe_tup qa_nil) qa_nil)))
  (ss_cons (ss_for PassesOwn.never rfl (qi_range1 (by rfl) T.z_range (qv 0)) (gg 2 sc__law_orders.nd)
  (ss_cons (ss_set 3 1 sc__law_orders.nd (qe_lst qa_nil))
  (ss_cons (ss_for PassesOwn.never rfl (qi_seq (qv 1)) (gg 4 sc__law_orders.nd)
  (ss_one (ss_ext 3 (ps_expr (pe_bm PySem.F.plainAttrs_list PySem.F.slot_list_extend PySem.F.type_list_extend mt_extend (pv 3) (pa_cons (qe_lc (own := [("one", 5)]) rfl sc__law_orders.nd (qi_range1 (by rfl) T.z_range (qv 0)) (blkOk_by (own := [("one", 5)]) (N := ["count", "rows", "turn", "grown", "row", "one"]) (sc := (defScope (topS 22))) (by decide +kernel)) (fun _ _ _ _ _ => (gg 5 sc__law_orders.nd)) (fun _ _ _ _ _ => (qts_one (qt_cmp ((op_notInD (hu2_of hr)).or op_notIn_seq) oc_notIn (qv 5) (qv 4) (by rfl)))) (fun _ _ _ _ _ => (qe_add (qv 4) (qe_tup (qa_cons (qv 5) qa_nil))))) pa_nil))))))
  (ss_one (ss_set 1 0 sc__law_orders.nd (qv 3))))))
  (ss_one (ss_ret (qv 1)))))
theorem sc__law_table : FnScope ["row", "n", "most", "even", "table", "u", "line", "v", "cell"] ["row", "n", "most", "even"] (defScope (topS 23)) := ⟨rfl, rfl, rfl, by decide +kernel, rfl, by decide +kernel, by decide +kernel⟩
def den__law_table : Fn := dfun 9 4 (sSeq (sSet 4 1 (eLst aNil) [])
  (sSeq (sFor (iRange1 (eVar 1)) [] (.nm 5)
  (sSeq (sSet 6 1 (eLst aNil) [])
  (sSeq (sFor (iRange1 (eVar 1)) [] (.nm 7)
  (sSeq (sSet 8 0 (eCB (d1 dInt) (aCons (eIx (eVar 0) (eOp dAdd (eOp dMul (eVar 1) (eCB (d2 dMin2) (aCons (eVar 5) (aCons (eVar 7) aNil)))) (eCB (d2 dMax2) (aCons (eVar 5) (aCons (eVar 7) aNil))))) aNil)) [])
  (sSeq (sIf (tAndD (tCmp dGt (eVar 5) (eVar 7)) (tNotD (tTru (eVar 3))))
  (sSet 8 0 (eOp dFdiv (eVar 8) (eC (.int 23))) ([(8, 1)] ++ []))
  sNil)
  (sApp 6 (eOp dMul (eOp dMod (eCB (d1 dInt) (aCons (eVar 8) aNil)) (eOp dAdd (eVar 2) (eC (.int 1)))) (eCB (d1 dInt) (aCons (eB (tCmp dNe (eVar 5) (eVar 7))) aNil))) (([] ++ ([(2, 1)] ++ [])) ++ [])))))
  (sApp 4 (eCB (d1 dTuple) (aCons (eVar 6) aNil)) ([(6, 1)] ++ [])))))
  (sRet (eCB (d1 dTuple) (aCons (eVar 4) aNil)))))
theorem ok__law_table {P : Program} {w : World} {K : PySem.W.Frag} {mg : Str → Option Value} {base : Heap} {ad : Nat → Addr} {fo : Nat → FuncData} (T : Tp K mg ad fo) : FnOk P w K mg base CX0 1 (ad 19) (fo 19) ["row", "n", "most", "even"] (spD K 4 den__law_table) :=
  fun_den (k := 0) T.F__law_table sc__law_table rfl rfl (by decide) fun cdv A outer s H E hr =>
  (ss_cons (ss_set 4 1 sc__law_table.nd (qe_lst qa_nil))
  (ss_cons (ss_for PassesOwn.never rfl (qi_range1 (by rfl) T.z_range (qv 1)) (gg 5 sc__law_table.nd)
  (ss_cons (ss_set 6 1 sc__law_table.nd (qe_lst qa_nil))
  (ss_cons (ss_for PassesOwn.never rfl (qi_range1 (by rfl) T.z_range (qv 1)) (gg 7 sc__law_table.nd)
  (ss_cons (ss_set 8 0 sc__law_table.nd (qe_tF call_int1 cf_int (by rfl) T.z_int (by decide +kernel) (qa_cons (qe_ix (qv 0) (qe_add (qe_mul (qv 1) (qe_bF (call_min2 rfl) cf_min2 (by rfl) T.z_min (by decide +kernel) (qa_cons (qv 5) (qa_cons (qv 7) qa_nil)))) (qe_bF (call_max2 rfl) cf_max2 (by rfl) T.z_max (by decide +kernel) (qa_cons (qv 5) (qa_cons (qv 7) qa_nil)))) (fun _ _ => rfl)) qa_nil)))
  (ss_cons (ss_if (PW.pt (qw_and (qt_cmp (op_gtA (hu_of64 hr)) oc_gt (qv 5) (qv 7) (nomark _)) (qw_and1 (qt_not (qt_tru (qv 3) (by intro _; rfl))))))
  (ss_one (ss_set 8 0 sc__law_table.nd (qe_fdiv (qv 8) qint)))
  ss_nil)
  (ss_one (ss_app 6 (ps_expr (pe_bm PySem.F.plainAttrs_list PySem.F.slot_list_append PySem.F.type_list_append mt_append (pv 6) (pa_cons (qe_mul (qe_mod (qe_tF call_int1 cf_int (by rfl) T.z_int (by decide +kernel) (qa_cons (qv 8) qa_nil)) (qe_add (qv 2) qint)) (qe_tF call_int1 cf_int (by rfl) T.z_int (by decide +kernel) (qa_cons (qe_cmp (op_neD (hu_of64 hr)) oc_ne (qv 5) (qv 7) (nomark _)) qa_nil))) pa_nil))))))))
  (ss_one (ss_app 4 (ps_expr (pe_bm PySem.F.plainAttrs_list PySem.F.slot_list_append PySem.F.type_list_append mt_append (pv 4) (pa_cons (qe_tD call_tuple_of cd_tuple (by rfl) T.z_tuple (by decide +kernel) (qa_cons (qv 6) qa_nil)) pa_nil))))))))
  (ss_one (ss_ret (qe_tD call_tuple_of cd_tuple (by rfl) T.z_tuple (by decide +kernel) (qa_cons (qv 4) qa_nil))))))
theorem sc__law_cost : FnScope ["ways", "traffic", "order", "total", "p", "q"] ["ways", "traffic", "order"] (defScope (topS 24)) := ⟨rfl, rfl, rfl, by decide +kernel, rfl, by decide +kernel, by decide +kernel⟩
def den__law_cost : Fn := dfun 6 3 (sSeq (sSet 3 0 (eC (.int 0)) [])
  (sSeq (sFor (iRange1 (eCB (d1 dLen) (aCons (eVar 2) aNil))) [] (.nm 4)
  (sFor (iRange1 (eCB (d1 dLen) (aCons (eVar 2) aNil))) [] (.nm 5)
  (sAug 3 dAddI (eOp dMul (eIx (eIx (eVar 0) (eVar 4)) (eVar 5)) (eIx (eIx (eVar 1) (eIx (eVar 2) (eVar 4))) (eIx (eVar 2) (eVar 5)))))))
  (sRet (eVar 3))))
theorem ok__law_cost {P : Program} {w : World} {K : PySem.W.Frag} {mg : Str → Option Value} {base : Heap} {ad : Nat → Addr} {fo : Nat → FuncData} (T : Tp K mg ad fo) : FnOk P w K mg base CX0 1 (ad 20) (fo 20) ["ways", "traffic", "order"] (spD K 3 den__law_cost) :=
  fun_den (k := 0) T.F__law_cost sc__law_cost rfl rfl (by decide) fun cdv A outer s H E hr =>
  (ss_cons (ss_set 3 0 sc__law_cost.nd qint)
  (ss_cons (ss_for PassesOwn.never rfl (qi_range1 (by rfl) T.z_range (qe_bF call_len_seq cf_len (by rfl) T.z_len (by decide +kernel) (qa_cons (qv 2) qa_nil))) (gg 4 sc__law_cost.nd)
  (ss_one (ss_for PassesOwn.never rfl (qi_range1 (by rfl) T.z_range (qe_bF call_len_seq cf_len (by rfl) T.z_len (by decide +kernel) (qa_cons (qv 2) qa_nil))) (gg 5 sc__law_cost.nd)
  (ss_one (ss_augAdd 3 sc__law_cost.nd (qe_mul (qe_ix (qe_ix (qv 0) (qv 4) (fun _ _ => rfl)) (qv 5) (fun _ _ => rfl)) (qe_ix (qe_ix (qv 1) (qe_ix (qv 2) (qv 4) (fun _ _ => rfl)) (fun _ _ => rfl)) (qe_ix (qv 2) (qv 5) (fun _ _ => rfl)) (fun _ _ => rfl))))))))
  (ss_one (ss_ret (qv 3)))))
theorem sc__law_first : FnScope ["ways", "traffic", "best", "order", "cost"] ["ways", "traffic"] (defScope (topS 25)) := ⟨rfl, rfl, rfl, by decide +kernel, rfl, by decide +kernel, by decide +kernel⟩
def den__law_first : Fn := dfun 5 2 (sSeq (sSet 2 0 (eC .none) [])
  (sSeq (sFor (iSeq (eCall 1 den__law_orders (aCons (eCB (d1 dLen) (aCons (eVar 0) aNil)) aNil))) ([] ++ []) (.nm 3)
  (sSeq (sSet 4 0 (eCall 3 den__law_cost (aCons (eVar 0) (aCons (eVar 1) (aCons (eVar 3) aNil)))) ([(0, 0)] ++ ([(1, 0)] ++ ([(3, 0)] ++ []))))
  (sIf (tOrD (tIsND (eVar 2)) (tCmp dLt (eVar 4) (eIx (eVar 2) (eC (.int 0)))))
  (sSet 2 0 (eTup (aCons (eVar 4) (aCons (eVar 3) aNil))) ([(4, 0)] ++ ([(3, 0)] ++ [])))
  sNil)))
  (sRet (eVar 2))))
theorem ok__law_first {P : Program} {w : World} {K : PySem.W.Frag} {mg : Str → Option Value} {base : Heap} {ad : Nat → Addr} {fo : Nat → FuncData} (T : Tp K mg ad fo) : FnOk P w K mg base CX0 2 (ad 21) (fo 21) ["ways", "traffic"] (spD K 2 den__law_first) :=
  fun_den (k := 1) T.F__law_first sc__law_first rfl rfl (by decide) fun cdv A outer s H E hr =>
  (ss_cons (ss_set 2 0 sc__law_first.nd qnon)
  (ss_cons (ss_for PassesOwn.never rfl (qi_seq (qe_call (ok__law_orders T) (hr.mono (by decide)) (by rfl) T.g__law_orders T.F__law_orders.kp T.b__law_orders (qa_cons (qe_bF call_len_seq cf_len (by rfl) T.z_len (by decide +kernel) (qa_cons (qv 0) qa_nil)) qa_nil))) (gg 3 sc__law_first.nd)
  (ss_cons (ss_set 4 0 sc__law_first.nd (qe_call (ok__law_cost T) (hr.mono (by decide)) (by rfl) T.g__law_cost T.F__law_cost.kp T.b__law_cost (qa_cons (qv 0) (qa_cons (qv 1) (qa_cons (qv 3) qa_nil)))))
  (ss_one (ss_if (PW.pt (qw_or (qt_isN (qv 2)) (qw_or1 (qt_cmp (op_ltA (hu_of64 hr)) oc_lt (qv 4) (qe_ix (qv 2) qint (fun _ _ => rfl)) (nomark _)))))
  (ss_one (ss_set 2 0 sc__law_first.nd (qe_tup (qa_cons (qv 4) (qa_cons (qv 3) qa_nil)))))
  ss_nil))))
  (ss_one (ss_ret (qv 2)))))
theorem sc__law_length : FnScope ["ways", "order", "k"] ["ways", "order"] (defScope (topS 26)) := ⟨rfl, rfl, rfl, by decide +kernel, rfl, by decide +kernel, by decide +kernel⟩
def den__law_length : Fn := dfun 3 2 (sRet (eCB (d1 dSum) (aCons (eLc (iRange1 (eOp dSub (eCB (d1 dLen) (aCons (eVar 1) aNil)) (eC (.int 1)))) (.nm 2) tTrue (eIx (eIx (eVar 0) (eIx (eVar 1) (eVar 2))) (eIx (eVar 1) (eOp dAdd (eVar 2) (eC (.int 1))))) [2]) aNil)))
theorem ok__law_length {P : Program} {w : World} {K : PySem.W.Frag} {mg : Str → Option Value} {base : Heap} {ad : Nat → Addr} {fo : Nat → FuncData} (T : Tp K mg ad fo) : FnOk P w K mg base CX0 1 (ad 22) (fo 22) ["ways", "order"] (spD K 2 den__law_length) :=
  fun_den (k := 0) T.F__law_length sc__law_length rfl rfl (by decide) fun cdv A outer s H E hr =>
  (ss_one (ss_ret (qe_bF (cr_sumA rfl) cf_sum (by rfl) T.z_sum (by decide +kernel) (qa_cons (qe_lc (own := [("k", 2)]) rfl sc__law_length.nd (qi_range1 (by rfl) T.z_range (qe_sub (qe_bF call_len_seq cf_len (by rfl) T.z_len (by decide +kernel) (qa_cons (qv 1) qa_nil)) qint)) (blkOk_by (own := [("k", 2)]) (N := ["ways", "order", "k"]) (sc := (defScope (topS 26))) (by decide +kernel)) (fun _ _ _ _ _ => (gg 2 sc__law_length.nd)) (fun _ _ _ _ _ => qts_nil) (fun _ _ _ _ _ => (qe_ix (qe_ix (qv 0) (qe_ix (qv 1) (qv 2) (fun _ _ => rfl)) (fun _ _ => rfl)) (qe_ix (qv 1) (qe_add (qv 2) qint) (fun _ _ => rfl)) (fun _ _ => rfl)))) qa_nil))))
theorem sc__law_round_right : FnScope ["ways", "n", "best", "orders", "ring", "line", "u", "order", "found", "first", "second", "paths", "start", "goal", "rows", "due", "traffic", "one", "bound", "v", "row"] ["ways"] (defScope (topS 27)) := ⟨rfl, rfl, rfl, by decide +kernel, rfl, by decide +kernel, by decide +kernel⟩
def den__law_round_right : Fn := dfun 21 1 (sSeq (sTup (.tp [(.nm 1), (.nm 2), (.nm 3)]) (eTup (aCons (eCB (d1 dLen) (aCons (eVar 0) aNil)) (aCons (eC .none) (aCons (eCall 1 den__law_orders (aCons (eCB (d1 dLen) (aCons (eVar 0) aNil)) aNil)) aNil)))) ([] ++ ([] ++ (([] ++ []) ++ []))))
  (sSeq (sParFF 4 5 (eLst aNil) (eLst aNil) ([] ++ []))
  (sSeq (sFor (iRange1 (eVar 1)) [] (.nm 6)
  (sSeq (sApp 4 (eCB (d1 dTuple) (aCons (eLc (iRange1 (eVar 1)) (.nm 19) tTrue (eCB (d1 dInt) (aCons (eB (tCmp dEq (eVar 19) (eOp dMod (eCB (d1 dInt) (aCons (eOp dAdd (eVar 6) (eC (.int 1))) aNil)) (eVar 1)))) aNil)) [19]) aNil)) (([] ++ []) ++ []))
  (sApp 5 (eCB (d1 dTuple) (aCons (eLc (iRange1 (eVar 1)) (.nm 19) tTrue (eCB (d1 dInt) (aCons (eB (tCmp dEq (eVar 19) (eOp dAdd (eVar 6) (eC (.int 1))))) aNil)) [19]) aNil)) (([] ++ []) ++ []))))
  (sSeq (sFor (iSeq (eVar 3)) [(3, 0)] (.nm 7)
  (sIf (tCmp dEq (eIx (eVar 7) (eC (.int 0))) (eC (.int 0)))
  (sSeq (sSet 8 0 (eTup (aCons (eCall 2 den__law_length (aCons (eVar 0) (aCons (eOp dAdd (eVar 7) (eTup (aCons (eC (.int 0)) aNil))) aNil))) (aCons (eVar 7) aNil))) (([(0, 0)] ++ (([(7, 1)] ++ ([] ++ [])) ++ [])) ++ ([(7, 0)] ++ [])))
  (sIf (tOrD (tIsND (eVar 2)) (tCmp dLt (eVar 8) (eVar 2)))
  (sSet 2 0 (eVar 8) [(8, 0)])
  sNil))
  sNil))
  (sSeq (sIf (tNotD (tTru (eCall 2 (den__law_like 30) (aCons (eCall 1 den_best_round (aCons (eVar 0) aNil)) (aCons (eVar 2) aNil)))))
  (sRet (eC (.bool false)))
  sNil)
  (sSeq (sPar 9 10 (eCall 2 den__law_first (aCons (eVar 0) (aCons (eCB (d1 dTuple) (aCons (eVar 4) aNil)) aNil))) (eCall 2 den__law_first (aCons (eVar 0) (aCons (eCB (d1 dTuple) (aCons (eVar 5) aNil)) aNil))) (([(0, 0)] ++ (([(4, 1)] ++ []) ++ [])) ++ ([(0, 0)] ++ (([(5, 1)] ++ []) ++ []))))
  (sSeq (sIf (tOrD (tCmp dNe (eIx (eVar 9) (eC (.int 0))) (eIx (eVar 2) (eC (.int 0)))) (tNotD (tTru (eCall 2 (den__law_like 30) (aCons (eCall 2 den_best_layout (aCons (eVar 0) (aCons (eCB (d1 dTuple) (aCons (eVar 4) aNil)) aNil))) (aCons (eVar 9) aNil))))))
  (sRet (eC (.bool false)))
  sNil)
  (sSeq (sSet 11 1 (eLst aNil) [])
  (sSeq (sFor (iRange1 (eVar 1)) [] (.nm 12)
  (sFor (iRange1 (eVar 1)) [] (.nm 13)
  (sIf (tCmp dNe (eVar 12) (eVar 13))
  (sSeq (sSet 14 0 (eLc (iSeq (eVar 3)) (.nm 20) (tAndD (tCmp dEq (eIx (eVar 20) (eC (.int 0))) (eVar 12)) (tCmp dEq (eIx (eVar 20) (eOp dSub (eVar 1) (eC (.int 1)))) (eVar 13))) (eVar 20) [20]) ([(3, 1)] ++ [(20, 0)]))
  (sSeq (sSet 15 0 (eCB (d1 dMin1) (aCons (eLc (iSeq (eVar 14)) (.nm 20) tTrue (eTup (aCons (eCall 2 den__law_length (aCons (eVar 0) (aCons (eVar 20) aNil))) (aCons (eVar 20) aNil))) [20]) aNil)) [])
  (sSeq (sIf (tNotD (tTru (eCall 2 (den__law_like 30) (aCons (eCall 3 den_best_path (aCons (eVar 0) (aCons (eVar 12) (aCons (eVar 13) aNil)))) (aCons (eVar 15) aNil)))))
  (sRet (eC (.bool false)))
  sNil)
  (sApp 11 (eIx (eVar 15) (eC (.int 0))) [(15, 1)]))))
  sNil)))
  (sSeq (sIf (tOrD (tCmp dNe (eIx (eVar 10) (eC (.int 0))) (eCB (d1 dMin1) (aCons (eVar 11) aNil))) (tNotD (tTru (eCall 2 (den__law_like 30) (aCons (eCall 2 den_best_layout (aCons (eVar 0) (aCons (eCB (d1 dTuple) (aCons (eVar 5) aNil)) aNil))) (aCons (eVar 10) aNil))))))
  (sRet (eC (.bool false)))
  sNil)
  (sSeq (sFor (iSeq (eTup (aCons (eTup (aCons (eCB (d1 dTuple) (aCons (eVar 4) aNil)) (aCons (eVar 9) aNil))) (aCons (eTup (aCons (eCB (d1 dTuple) (aCons (eVar 5) aNil)) (aCons (eVar 10) aNil))) aNil)))) ((([(4, 1)] ++ []) ++ ([(9, 0)] ++ [])) ++ ((([(5, 1)] ++ []) ++ ([(10, 0)] ++ [])) ++ [])) (.tp [(.nm 16), (.nm 17)])
  (sSeq (sSet 18 0 (eCall 2 den_layout_bound (aCons (eVar 0) (aCons (eVar 16) aNil))) ([(0, 0)] ++ ([(16, 0)] ++ [])))
  (sIf (tOrD (tNotD (tTru (eCall 1 den__law_is_int (aCons (eVar 18) aNil)))) (tOrD (tCmp dGt (eVar 18) (eIx (eVar 17) (eC (.int 0)))) (tNotD (tTru (eCall 2 (den__law_like 30) (aCons (eCall 3 den_swapped_layout (aCons (eVar 0) (aCons (eVar 16) (aCons (eIx (eVar 17) (eC (.int 1))) aNil)))) (aCons (eIx (eVar 17) (eC (.int 1))) aNil)))))))
  (sRet (eC (.bool false)))
  sNil)))
  (sRet (eC (.bool true))))))))))))))
theorem ok__law_round_right {P : Program} {w : World} {K : PySem.W.Frag} {mg : Str → Option Value} {base : Heap} {ad : Nat → Addr} {fo : Nat → FuncData} (T : Tp K mg ad fo) : FnOk P w K mg base CX0 33 (ad 23) (fo 23) ["ways"] (spD K 1 den__law_round_right) :=
  fun_den (k := 32) T.F__law_round_right sc__law_round_right rfl rfl (by decide) fun cdv A outer s H E hr =>
  (ss_cons (ss_tup (qe_tup (qa_cons (qe_bF call_len_seq cf_len (by rfl) T.z_len (by decide +kernel) (qa_cons (qv 0) qa_nil)) (qa_cons qnon (qa_cons (qe_call (ok__law_orders T) (hr.mono (by decide)) (by rfl) T.g__law_orders T.F__law_orders.kp T.b__law_orders (qa_cons (qe_bF call_len_seq cf_len (by rfl) T.z_len (by decide +kernel) (qa_cons (qv 0) qa_nil)) qa_nil)) qa_nil)))) (gg_tup rfl (ggs_cons (gg 1 sc__law_round_right.nd) (ggs_cons (gg 2 sc__law_round_right.nd) (ggs_cons (gg 3 sc__law_round_right.nd) ggs_nil)))))
  (ss_cons (ss_parFF 4 5 rfl sc__law_round_right.nd (qe_lst qa_nil) (qe_lst qa_nil) (by rfl))
  (ss_cons (ss_for PassesOwn.never rfl (qi_range1 (by rfl) T.z_range (qv 1)) (gg 6 sc__law_round_right.nd)
  (ss_cons (ss_app 4 (ps_expr (pe_bm PySem.F.plainAttrs_list PySem.F.slot_list_append PySem.F.type_list_append mt_append (pv 4) (pa_cons (qe_tD call_tuple_of cd_tuple (by rfl) T.z_tuple (by decide +kernel) (qa_cons (qe_lc (own := [("v", 19)]) rfl sc__law_round_right.nd (qi_range1 (by rfl) T.z_range (qv 1)) (blkOk_by (own := [("v", 19)]) (N := ["ways", "n", "best", "orders", "ring", "line", "u", "order", "found", "first", "second", "paths", "start", "goal", "rows", "due", "traffic", "one", "bound", "v", "row"]) (sc := (defScope (topS 27))) (by decide +kernel)) (fun _ _ _ _ _ => (gg 19 sc__law_round_right.nd)) (fun _ _ _ _ _ => qts_nil) (fun _ _ _ _ _ => (qe_tF call_int1 cf_int (by rfl) T.z_int (by decide +kernel) (qa_cons (qe_cmp (op_eqD (hu_of64 hr)) oc_eq (qv 19) (qe_mod (qe_tF call_int1 cf_int (by rfl) T.z_int (by decide +kernel) (qa_cons (qe_add (qv 6) qint) qa_nil)) (qv 1)) (nomark _)) qa_nil)))) qa_nil)) pa_nil))))
  (ss_one (ss_app 5 (ps_expr (pe_bm PySem.F.plainAttrs_list PySem.F.slot_list_append PySem.F.type_list_append mt_append (pv 5) (pa_cons (qe_tD call_tuple_of cd_tuple (by rfl) T.z_tuple (by decide +kernel) (qa_cons (qe_lc (own := [("v", 19)]) rfl sc__law_round_right.nd (qi_range1 (by rfl) T.z_range (qv 1)) (blkOk_by (own := [("v", 19)]) (N := ["ways", "n", "best", "orders", "ring", "line", "u", "order", "found", "first", "second", "paths", "start", "goal", "rows", "due", "traffic", "one", "bound", "v", "row"]) (sc := (defScope (topS 27))) (by decide +kernel)) (fun _ _ _ _ _ => (gg 19 sc__law_round_right.nd)) (fun _ _ _ _ _ => qts_nil) (fun _ _ _ _ _ => (qe_tF call_int1 cf_int (by rfl) T.z_int (by decide +kernel) (qa_cons (qe_cmp (op_eqD (hu_of64 hr)) oc_eq (qv 19) (qe_add (qv 6) qint) (nomark _)) qa_nil)))) qa_nil)) pa_nil)))))))
  (ss_cons (ss_for PassesOwn.never rfl (qi_seq (qv 3)) (gg 7 sc__law_round_right.nd)
  (ss_one (ss_if (qt_cmp (op_eqD (hu_of64 hr)) oc_eq (qe_ix (qv 7) qint (fun _ _ => rfl)) qint (nomark _))
  (ss_cons (ss_set 8 0 sc__law_round_right.nd (qe_tup (qa_cons (qe_call (ok__law_length T) (hr.mono (by decide)) (by rfl) T.g__law_length T.F__law_length.kp T.b__law_length (qa_cons (qv 0) (qa_cons (qe_add (qv 7) (qe_tup (qa_cons qint qa_nil))) qa_nil))) (qa_cons (qv 7) qa_nil))))
  (ss_one (ss_if (PW.pt (qw_or (qt_isN (qv 2)) (qw_or1 (qt_cmp (op_ltA (hu_of64 hr)) oc_lt (qv 8) (qv 2) (nomark _)))))
  (ss_one (ss_set 2 0 sc__law_round_right.nd (qv 8)))
  ss_nil)))
  ss_nil)))
  (ss_cons (ss_if (qt_not (qt_tru (qe_call (ok__law_like T 30) (hr.mono (by decide)) (by rfl) T.g__law_like T.F__law_like.kp T.b__law_like (qa_cons (qe_call (ok_best_round T) (hr.mono (by decide)) (by rfl) T.g_best_round T.F_best_round.kp T.b_best_round (qa_cons (qv 0) qa_nil)) (qa_cons (qv 2) qa_nil))) (by intro _; rfl)))
  (ss_one (ss_ret qbl))
  ss_nil)
  (ss_cons (ss_par 9 10 rfl sc__law_round_right.nd (qe_call (ok__law_first T) (hr.mono (by decide)) (by rfl) T.g__law_first T.F__law_first.kp T.b__law_first (qa_cons (qv 0) (qa_cons (qe_tD call_tuple_of cd_tuple (by rfl) T.z_tuple (by decide +kernel) (qa_cons (qv 4) qa_nil)) qa_nil))) (qe_call (ok__law_first T) (hr.mono (by decide)) (by rfl) T.g__law_first T.F__law_first.kp T.b__law_first (qa_cons (qv 0) (qa_cons (qe_tD call_tuple_of cd_tuple (by rfl) T.z_tuple (by decide +kernel) (qa_cons (qv 5) qa_nil)) qa_nil))) (by rfl))
  (ss_cons (ss_if (PW.pt (qw_or (qt_cmp (op_neD (hu_of64 hr)) oc_ne (qe_ix (qv 9) qint (fun _ _ => rfl)) (qe_ix (qv 2) qint (fun _ _ => rfl)) (nomark _)) (qw_or1 (qt_not (qt_tru (qe_call (ok__law_like T 30) (hr.mono (by decide)) (by rfl) T.g__law_like T.F__law_like.kp T.b__law_like (qa_cons (qe_call (ok_best_layout T) (hr.mono (by decide)) (by rfl) T.g_best_layout T.F_best_layout.kp T.b_best_layout (qa_cons (qv 0) (qa_cons (qe_tD call_tuple_of cd_tuple (by rfl) T.z_tuple (by decide +kernel) (qa_cons (qv 4) qa_nil)) qa_nil))) (qa_cons (qv 9) qa_nil))) (by intro _; rfl))))))
  (ss_one (ss_ret qbl))
  ss_nil)
  (ss_cons (ss_set 11 1 sc__law_round_right.nd (qe_lst qa_nil))
  (ss_cons (ss_for PassesOwn.never rfl (qi_range1 (by rfl) T.z_range (qv 1)) (gg 12 sc__law_round_right.nd)
  (ss_one (ss_for PassesOwn.never rfl (qi_range1 (by rfl) T.z_range (qv 1)) (gg 13 sc__law_round_right.nd)
  (ss_one (ss_if (qt_cmp (op_neD (hu_of64 hr)) oc_ne (qv 12) (qv 13) (nomark _))
  (ss_cons (ss_setLc 14 0 (own := [("row", 20)]) rfl sc__law_round_right.nd (qi_seq (qv 3)) (blkOk_by (own := [("row", 20)]) (N := ["ways", "n", "best", "orders", "ring", "line", "u", "order", "found", "first", "second", "paths", "start", "goal", "rows", "due", "traffic", "one", "bound", "v", "row"]) (sc := (defScope (topS 27))) (by decide +kernel)) (fun _ _ _ _ _ => (gg 20 sc__law_round_right.nd)) (fun _ _ _ _ _ => (qts_one (PW.pt (qw_and (qt_cmp (op_eqD (hu_of64 hr)) oc_eq (qe_ix (qv 20) qint (fun _ _ => rfl)) (qv 12) (nomark _)) (qw_and1 (qt_cmp (op_eqD (hu_of64 hr)) oc_eq (qe_ix (qv 20) (qe_sub (qv 1) qint) (fun _ _ => rfl)) (qv 13) (nomark _))))))) (fun _ _ _ _ _ => (qv 20)))
  (ss_cons (ss_set 15 0 sc__law_round_right.nd (qe_bF (cr_minD rfl (hu_of64 hr)) cf_min1 (by rfl) T.z_min (by decide +kernel) (qa_cons (qe_lc (own := [("row", 20)]) rfl sc__law_round_right.nd (qi_seq (qv 14)) (blkOk_by (own := [("row", 20)]) (N := ["ways", "n", "best", "orders", "ring", "line", "u", "order", "found", "first", "second", "paths", "start", "goal", "rows", "due", "traffic", "one", "bound", "v", "row"]) (sc := (defScope (topS 27))) (by decide +kernel)) (fun _ _ _ _ _ => (gg 20 sc__law_round_right.nd)) (fun _ _ _ _ _ => qts_nil) (fun _ _ _ _ _ => (qe_tup (qa_cons (qe_call (ok__law_length T) (hr.mono (by decide)) (by rfl) T.g__law_length T.F__law_length.kp T.b__law_length (qa_cons (qv 0) (qa_cons (qv 20) qa_nil))) (qa_cons (qv 20) qa_nil))))) qa_nil)))
  (ss_cons (ss_if (qt_not (qt_tru (qe_call (ok__law_like T 30) (hr.mono (by decide)) (by rfl) T.g__law_like T.F__law_like.kp T.b__law_like (qa_cons (qe_call (ok_best_path T) (hr.mono (by decide)) (by rfl) T.g_best_path T.F_best_path.kp T.b_best_path (qa_cons (qv 0) (qa_cons (qv 12) (qa_cons (qv 13) qa_nil)))) (qa_cons (qv 15) qa_nil))) (by intro _; rfl)))
  (ss_one (ss_ret qbl))
  ss_nil)
  (ss_one (ss_app 11 (ps_expr (pe_bm PySem.F.plainAttrs_list PySem.F.slot_list_append PySem.F.type_list_append mt_append (pv 11) (pa_cons (qe_ix (qv 15) qint (fun _ _ => rfl)) pa_nil))))))))
  ss_nil)))))
  (ss_cons (ss_if (PW.pt (qw_or (qt_cmp (op_neD (hu_of64 hr)) oc_ne (qe_ix (qv 10) qint (fun _ _ => rfl)) (qe_bF (cr_minD rfl (hu_of64 hr)) cf_min1 (by rfl) T.z_min (by decide +kernel) (qa_cons (qv 11) qa_nil)) (nomark _)) (qw_or1 (qt_not (qt_tru (qe_call (ok__law_like T 30) (hr.mono (by decide)) (by rfl) T.g__law_like T.F__law_like.kp T.b__law_like (qa_cons (qe_call (ok_best_layout T) (hr.mono (by decide)) (by rfl) T.g_best_layout T.F_best_layout.kp T.b_best_layout (qa_cons (qv 0) (qa_cons (qe_tD call_tuple_of cd_tuple (by rfl) T.z_tuple (by decide +kernel) (qa_cons (qv 5) qa_nil)) qa_nil))) (qa_cons (qv 10) qa_nil))) (by intro _; rfl))))))
  (ss_one (ss_ret qbl))
  ss_nil)
  (ss_cons (ss_for PassesOwn.never rfl (qi_seq (qe_tup (qa_cons (qe_tup (qa_cons (qe_tD call_tuple_of cd_tuple (by rfl) T.z_tuple (by decide +kernel) (qa_cons (qv 4) qa_nil)) (qa_cons (qv 9) qa_nil))) (qa_cons (qe_tup (qa_cons (qe_tD call_tuple_of cd_tuple (by rfl) T.z_tuple (by decide +kernel) (qa_cons (qv 5) qa_nil)) (qa_cons (qv 10) qa_nil))) qa_nil)))) (gg_tup rfl (ggs_cons (gg 16 sc__law_round_right.nd) (ggs_cons (gg 17 sc__law_round_right.nd) ggs_nil)))
  (ss_cons (ss_set 18 0 sc__law_round_right.nd (qe_call (ok_layout_bound T) (hr.mono (by decide)) (by rfl) T.g_layout_bound T.F_layout_bound.kp T.b_layout_bound (qa_cons (qv 0) (qa_cons (qv 16) qa_nil))))
  (ss_one (ss_if (PW.pt (qw_or (qt_not (qt_tru (qe_call (ok__law_is_int T) (hr.mono (by decide)) (by rfl) T.g__law_is_int T.F__law_is_int.kp T.b__law_is_int (qa_cons (qv 18) qa_nil)) (by intro _; rfl))) (qw_or (qt_cmp (op_gtA (hu_of64 hr)) oc_gt (qv 18) (qe_ix (qv 17) qint (fun _ _ => rfl)) (nomark _)) (qw_or1 (qt_not (qt_tru (qe_call (ok__law_like T 30) (hr.mono (by decide)) (by rfl) T.g__law_like T.F__law_like.kp T.b__law_like (qa_cons (qe_call (ok_swapped_layout T) (hr.mono (by decide)) (by rfl) T.g_swapped_layout T.F_swapped_layout.kp T.b_swapped_layout (qa_cons (qv 0) (qa_cons (qv 16) (qa_cons (qe_ix (qv 17) qint (fun _ _ => rfl)) qa_nil)))) (qa_cons (qe_ix (qv 17) qint (fun _ _ => rfl)) qa_nil))) (by intro _; rfl)))))))
  (ss_one (ss_ret qbl))
  ss_nil))))
  (ss_one (ss_ret qbl)))))))))))))
theorem sc_law : FnScope ["script", "row", "n", "ways", "line", "traffic", "best", "bound", "u", "v"] ["script"] (defScope (topS 28)) := ⟨rfl, rfl, rfl, by decide +kernel, rfl, by decide +kernel, by decide +kernel⟩
def den_law : Fn := dfun 10 1 (sSeq (sSet 1 0 (eCall 2 den__law_row (aCons (eVar 0) (aCons (eC (.int 80)) aNil))) ([(0, 0)] ++ ([] ++ [])))
  (sSeq (sSet 2 0 (eOp dAdd (eC (.int 3)) (eOp dMod (eCB (d1 dInt) (aCons (eIx (eVar 1) (eC (.int 0))) aNil)) (eC (.int 2)))) ([] ++ ([] ++ [])))
  (sSeq (sIf (tCmp dEq (eOp dMod (eIx (eVar 1) (eC (.int 1))) (eC (.int 12))) (eC (.int 7)))
  (sSet 2 0 (eC (.int 5)) [])
  sNil)
  (sSeq (sSet 3 0 (eCall 4 den__law_table (aCons (eSl (eVar 1) (oSome (eC (.int 4))) oNone) (aCons (eVar 2) (aCons (eIx (eLst (aCons (eC (.int 2)) (aCons (eC (.int 9)) (aCons (eC (.int 30)) aNil)))) (eOp dMod (eCB (d1 dInt) (aCons (eIx (eVar 1) (eC (.int 2))) aNil)) (eC (.int 3)))) (aCons (eB (tCmp dEq (eOp dMod (eIx (eVar 1) (eC (.int 3))) (eC (.int 2))) (eC (.int 0)))) aNil))))) ([(1, 1)] ++ ([(2, 0)] ++ (([] ++ ([] ++ ([] ++ []))) ++ ([] ++ [])))))
  (sSeq (sIf (tNotD (tTru (eCall 1 den__law_round_right (aCons (eVar 3) aNil))))
  (sRet (eC (.bool false)))
  sNil)
  (sSeq (sSet 2 0 (eOp dAdd (eC (.int 2)) (eOp dMod (eCB (d1 dInt) (aCons (eIx (eVar 1) (eC (.int 30))) aNil)) (eC (.int 3)))) ([] ++ ([] ++ [])))
  (sSeq (sSet 4 0 (eCB (d1 dTuple) (aCons (eLc (iRange1 (eVar 2)) (.nm 8) tTrue (eCB (d1 dTuple) (aCons (eLc (iRange1 (eVar 2)) (.nm 9) tTrue (eCB (d1 dAbs) (aCons (eOp dSub (eVar 8) (eVar 9)) aNil)) [9]) aNil)) [8]) aNil)) (([] ++ (([] ++ []) ++ [])) ++ []))
  (sSeq (sSet 5 0 (eCall 4 den__law_table (aCons (eSl (eVar 1) (oSome (eC (.int 32))) oNone) (aCons (eVar 2) (aCons (eIx (eLst (aCons (eC (.int 1)) (aCons (eC (.int 3)) (aCons (eC (.int 9)) aNil)))) (eOp dMod (eCB (d1 dInt) (aCons (eIx (eVar 1) (eC (.int 31))) aNil)) (eC (.int 3)))) (aCons (eB (tCmp dEq (eOp dMod (eOp dFdiv (eIx (eVar 1) (eC (.int 3))) (eC (.int 2))) (eC (.int 2))) (eC (.int 0)))) aNil))))) ([(1, 1)] ++ ([(2, 0)] ++ (([] ++ ([] ++ ([] ++ []))) ++ ([] ++ [])))))
  (sSeq (sSet 6 0 (eCall 2 den__law_first (aCons (eVar 4) (aCons (eVar 5) aNil))) ([(4, 0)] ++ ([(5, 0)] ++ [])))
  (sSeq (sIf (tOrD (tNotD (tTru (eCall 2 (den__law_like 30) (aCons (eCall 2 den_best_layout (aCons (eVar 4) (aCons (eVar 5) aNil))) (aCons (eVar 6) aNil))))) (tNotD (tTru (eCall 2 (den__law_like 30) (aCons (eCall 2 den_line_layout (aCons (eOp dMulT (eTup (aCons (eC (.int 1)) aNil)) (eVar 2)) (aCons (eVar 5) aNil))) (aCons (eTup (aCons (eTup (aCons (eIx (eVar 6) (eC (.int 0))) (aCons (eC (.int 1)) aNil))) (aCons (eIx (eVar 6) (eC (.int 1))) aNil))) aNil))))))
  (sRet (eC (.bool false)))
  sNil)
  (sSeq (sSet 7 0 (eCall 2 den_layout_bound (aCons (eVar 4) (aCons (eVar 5) aNil))) ([(4, 0)] ++ ([(5, 0)] ++ [])))
  (sRet (eAndD (eCall 1 den__law_is_int (aCons (eVar 7) aNil)) (eB (tCmp dLe (eVar 7) (eIx (eVar 6) (eC (.int 0))))))))))))))))))
theorem ok_law {P : Program} {w : World} {K : PySem.W.Frag} {mg : Str → Option Value} {base : Heap} {ad : Nat → Addr} {fo : Nat → FuncData} (T : Tp K mg ad fo) : FnOk P w K mg base CX0 34 (ad 24) (fo 24) ["script"] (spD K 1 den_law) :=
  fun_den (k := 33) T.F_law sc_law rfl rfl (by decide) fun cdv A outer s H E hr =>
  (ss_cons (ss_set 1 0 sc_law.nd (qe_call (ok__law_row T) (hr.mono (by decide)) (by rfl) T.g__law_row T.F__law_row.kp T.b__law_row (qa_cons (qv 0) (qa_cons qint qa_nil))))
  (ss_cons (ss_set 2 0 sc_law.nd (qe_add qint (qe_mod (qe_tF call_int1 cf_int (by rfl) T.z_int (by decide +kernel) (qa_cons (qe_ix (qv 1) qint (fun _ _ => rfl)) qa_nil)) qint)))
  (ss_cons (ss_if (qt_cmp (op_eqD (hu_of64 hr)) oc_eq (qe_mod (qe_ix (qv 1) qint (fun _ _ => rfl)) qint) qint (nomark _))
  (ss_one (ss_set 2 0 sc_law.nd qint))
  ss_nil)
  (ss_cons (ss_set 3 0 sc_law.nd (qe_call (ok__law_table T) (hr.mono (by decide)) (by rfl) T.g__law_table T.F__law_table.kp T.b__law_table (qa_cons (qe_sl (qv 1) (qo_some qint) qo_none) (qa_cons (qv 2) (qa_cons (qe_ix (qe_lst (qa_cons qint (qa_cons qint (qa_cons qint qa_nil)))) (qe_mod (qe_tF call_int1 cf_int (by rfl) T.z_int (by decide +kernel) (qa_cons (qe_ix (qv 1) qint (fun _ _ => rfl)) qa_nil)) qint) (fun _ _ => rfl)) (qa_cons (qe_cmp (op_eqD (hu_of64 hr)) oc_eq (qe_mod (qe_ix (qv 1) qint (fun _ _ => rfl)) qint) qint (nomark _)) qa_nil))))))
  (ss_cons (ss_if (qt_not (qt_tru (qe_call (ok__law_round_right T) (hr.mono (by decide)) (by rfl) T.g__law_round_right T.F__law_round_right.kp T.b__law_round_right (qa_cons (qv 3) qa_nil)) (by intro _; rfl)))
  (ss_one (ss_ret qbl))
  ss_nil)
  (ss_cons (ss_set 2 0 sc_law.nd (qe_add qint (qe_mod (qe_tF call_int1 cf_int (by rfl) T.z_int (by decide +kernel) (qa_cons (qe_ix (qv 1) qint (fun _ _ => rfl)) qa_nil)) qint)))
  (ss_cons (ss_set 4 0 sc_law.nd (qe_tD call_tuple_of cd_tuple (by rfl) T.z_tuple (by decide +kernel) (qa_cons (qe_lc (own := [("u", 8)]) rfl sc_law.nd (qi_range1 (by rfl) T.z_range (qv 2)) (blkOk_by (own := [("u", 8)]) (N := ["script", "row", "n", "ways", "line", "traffic", "best", "bound", "u", "v"]) (sc := (defScope (topS 28))) (by decide +kernel)) (fun _ _ _ _ _ => (gg 8 sc_law.nd)) (fun _ _ _ _ _ => qts_nil) (fun _ _ _ _ _ => (qe_tD call_tuple_of cd_tuple (by rfl) T.z_tuple (by decide +kernel) (qa_cons (qe_lc (own := [("v", 9)]) rfl sc_law.nd (qi_range1 (by rfl) T.z_range (qv 2)) (by exact blkOk_by (by kernel_rfl)) (fun _ _ _ _ _ => (gg 9 sc_law.nd)) (fun _ _ _ _ _ => qts_nil) (fun _ _ _ _ _ => (qe_bF call_abs cf_abs (by rfl) T.z_abs (by decide +kernel) (qa_cons (qe_sub (qv 8) (qv 9)) qa_nil)))) qa_nil)))) qa_nil)))
  (ss_cons (ss_set 5 0 sc_law.nd (qe_call (ok__law_table T) (hr.mono (by decide)) (by rfl) T.g__law_table T.F__law_table.kp T.b__law_table (qa_cons (qe_sl (qv 1) (qo_some qint) qo_none) (qa_cons (qv 2) (qa_cons (qe_ix (qe_lst (qa_cons qint (qa_cons qint (qa_cons qint qa_nil)))) (qe_mod (qe_tF call_int1 cf_int (by rfl) T.z_int (by decide +kernel) (qa_cons (qe_ix (qv 1) qint (fun _ _ => rfl)) qa_nil)) qint) (fun _ _ => rfl)) (qa_cons (qe_cmp (op_eqD (hu_of64 hr)) oc_eq (qe_mod (qe_fdiv (qe_ix (qv 1) qint (fun _ _ => rfl)) qint) qint) qint (nomark _)) qa_nil))))))
  (ss_cons (ss_set 6 0 sc_law.nd (qe_call (ok__law_first T) (hr.mono (by decide)) (by rfl) T.g__law_first T.F__law_first.kp T.b__law_first (qa_cons (qv 4) (qa_cons (qv 5) qa_nil))))
  (ss_cons (ss_if (PW.pt (qw_or (qt_not (qt_tru (qe_call (ok__law_like T 30) (hr.mono (by decide)) (by rfl) T.g__law_like T.F__law_like.kp T.b__law_like (qa_cons (qe_call (ok_best_layout T) (hr.mono (by decide)) (by rfl) T.g_best_layout T.F_best_layout.kp T.b_best_layout (qa_cons (qv 4) (qa_cons (qv 5) qa_nil))) (qa_cons (qv 6) qa_nil))) (by intro _; rfl))) (qw_or1 (qt_not (qt_tru (qe_call (ok__law_like T 30) (hr.mono (by decide)) (by rfl) T.g__law_like T.F__law_like.kp T.b__law_like (qa_cons (qe_call (ok_line_layout T) (hr.mono (by decide)) (by rfl) T.g_line_layout T.F_line_layout.kp T.b_line_layout (qa_cons (qe_mulT (qe_tup (qa_cons qint qa_nil)) (qv 2)) (qa_cons (qv 5) qa_nil))) (qa_cons (qe_tup (qa_cons (qe_tup (qa_cons (qe_ix (qv 6) qint (fun _ _ => rfl)) (qa_cons qint qa_nil))) (qa_cons (qe_ix (qv 6) qint (fun _ _ => rfl)) qa_nil))) qa_nil))) (by intro _; rfl))))))
  (ss_one (ss_ret qbl))
  ss_nil)
  (ss_cons (ss_set 7 0 sc_law.nd (qe_call (ok_layout_bound T) (hr.mono (by decide)) (by rfl) T.g_layout_bound T.F_layout_bound.kp T.b_layout_bound (qa_cons (qv 4) (qa_cons (qv 5) qa_nil))))
  (ss_one (ss_ret (qe_and (qe_call (ok__law_is_int T) (hr.mono (by decide)) (by rfl) T.g__law_is_int T.F__law_is_int.kp T.b__law_is_int (qa_cons (qv 7) qa_nil)) (qe_one (qe_cmp (op_leA (hu_of64 hr)) oc_le (qv 7) (qe_ix (qv 6) qint (fun _ _ => rfl)) (nomark _)))))))))))))))))
end Law
end

section
set_option Elab.async false
set_option linter.all false
set_option maxRecDepth 10000
namespace Law
open DS Lib PySem
theorem row_eq : den__law_row = Lib.den__law_row := rfl
theorem like_eq : den__law_like 30 = Lib.den__law_like 30 := rfl
theorem is_int_eq : den__law_is_int = Lib.den__law_is_int := rfl
theorem orders_eq : den__law_orders = Lib.den__law_orders := rfl
theorem table_eq : den__law_table = Lib.den__law_table := rfl
theorem first_eq : den__law_first = Lib.den__law_first := rfl
theorem length_eq : den__law_length = Lib.den__law_length := rfl
theorem round_eq : den_best_round = Lib.den_best_round := rfl
theorem path_eq : den_best_path = Lib.den_best_path := rfl
theorem best_layout_eq : den_best_layout = Lib.den_best_layout := rfl
theorem layout_bound_eq : den_layout_bound = Lib.den_layout_bound := rfl
theorem swapped_layout_eq : den_swapped_layout = Lib.den_swapped_layout := rfl
theorem line_layout_eq : den_line_layout = Lib.den_line_layout := rfl
abbrev E := Option D
theorem two (a b : FE) (ρ : PEnv) (x y : D) (ha : a ρ = some x) (hb : b ρ = some y) : eTup (aCons a (aCons b aNil)) ρ = some (.tuple [x, y]) := by
  unfold eTup
  rw [aCons_a, aCons_a, aNil_a, ha, hb, o2_ss, o2_ss, o1_s]
  rfl
theorem pl_nt (k : Nat) {s : List Nat} (h : s.length ≤ 1000) : pl (k + 2) (nt s) = true := by
  show (decide ((s.map nat).length ≤ 1000000) && (s.map nat).all (pl (k + 1))) = true
  rw [decide_eq_true (by rw [List.length_map]; omega), Bool.true_and, List.all_eq_true]
  intro x hx
  obtain ⟨i, _, rfl⟩ := List.mem_map.mp hx
  rfl
theorem pl_two (k : Nat) {a b : D} (ha : pl k a = true) (hb : pl k b = true) : pl (k + 1) (.tuple [a, b]) = true := by
  show (decide ([a, b].length ≤ 1000000) && [a, b].all (pl k)) = true
  rw [decide_eq_true (by simp), Bool.true_and]
  simp [ha, hb]
theorem pl_co (c : List Nat → Int) {o : List Nat} (h : o.length ≤ 1000) : pl 30 (co c o) = true := pl_two 29 rfl (pl_nt 27 h)
theorem sTup_deep {t : Tg} {f : FE} {c : Esc} {ρ : PEnv} {L : List Nat} {d : D} {l : List (Nat × D)} (h : f ρ = some d) (h' : t.go d = some l) (hd : flat d = false) : sTup t f c (ρ, L) = .next (setsD ρ l, zeros (demote c L) l) := by
  unfold sTup
  simp only [h, h', hd, Bool.false_eq_true, if_false]
theorem like_not {f g : FE} {ρ : PEnv} {d : D} (hf : f ρ = some d) (hg : g ρ = some d) (hp : pl 30 d = true) : tNotD (tTru (eCall 2 (den__law_like 30) (aCons f (aCons g aNil)))) ρ = some false := by
  have := like_ok 30 d hp
  rw [tNotD_a, tTru_a, eCall_2, hf, hg, o1_s, o1_s, like_eq, this, o1_s, dTru_b]
  rfl
section
variable {n : Nat} {W : Nat → Nat → Int}
/-! the ring and the row -/
def rrU : FS := (sSeq (sApp 4 (eCB (d1 dTuple) (aCons (eLc (iRange1 (eVar 1)) (.nm 19) tTrue (eCB (d1 dInt) (aCons (eB (tCmp dEq (eVar 19) (eOp dMod (eCB (d1 dInt) (aCons (eOp dAdd (eVar 6) (eC (.int 1))) aNil)) (eVar 1)))) aNil)) [19]) aNil)) (([] ++ []) ++ []))
  (sApp 5 (eCB (d1 dTuple) (aCons (eLc (iRange1 (eVar 1)) (.nm 19) tTrue (eCB (d1 dInt) (aCons (eB (tCmp dEq (eVar 19) (eOp dAdd (eVar 6) (eC (.int 1))))) aNil)) [19]) aNil)) (([] ++ []) ++ [])))
abbrev rt_ (n k : Nat) (f : Nat → Nat → Int) : D := .list ((List.range k).map fun u => trow n (f u))
theorem rrU_ok (hn : n ≤ 5) (h1 : 1 ≤ n) {k : Nat} (hk : k < n) (v0 v2 v3 v7 v8 v9 v10 v11 v12 v13 v14 v15 v16 v17 v18 v19 v20 : E) :
    rrU ([v0, some (.int n), v2, v3, some (rt_ n k (ringT n)), some (rt_ n k lineT), some (nat k), v7, v8, v9, v10, v11, v12, v13, v14, v15, v16, v17, v18, v19, v20], [0, 0, 0, 0, 1, 1, 0, 0, 0, 0, 0, 0, 0, 0, 0, 0, 0, 0, 0, 0, 0])
    = .next ([v0, some (.int n), v2, v3, some (rt_ n (k + 1) (ringT n)), some (rt_ n (k + 1) lineT), some (nat k), v7, v8, v9, v10, v11, v12, v13, v14, v15, v16, v17, v18, v19, v20], [0, 0, 0, 0, 1, 1, 0, 0, 0, 0, 0, 0, 0, 0, 0, 0, 0, 0, 0, 0, 0]) := by
  have ad : dAdd (nat k) (.int 1) = some (nat (k + 1)) := by
    show some (PyData.int ((k : Int) + 1)) = _
    unfold nat
    push_cast
    rfl
  have md : dMod (nat (k + 1)) (.int n) = some (nat ((k + 1) % n)) := by
    show dMod (.int ((k + 1 : Nat) : Int)) (.int (n : Int)) = some (.int (((k + 1) % n : Nat) : Int))
    rw [dMod_i (by omega), Int.natCast_emod]
  have di : dInt (nat (k + 1)) = some (nat (k + 1)) := rfl
  have e1 : ∀ (v4 v5 : E), (eCB (d1 dTuple) (aCons (eLc (iRange1 (eVar 1)) (.nm 19) tTrue (eCB (d1 dInt) (aCons (eB (tCmp dEq (eVar 19) (eOp dMod (eCB (d1 dInt) (aCons (eOp dAdd (eVar 6) (eC (.int 1))) aNil)) (eVar 1)))) aNil)) [19]) aNil)) [v0, some (.int n), v2, v3, v4, v5, some (nat k), v7, v8, v9, v10, v11, v12, v13, v14, v15, v16, v17, v18, v19, v20] = some (trow n (ringT n k)) := by
    intro v4 v5
    have hc := eLc_of (t := .nm 19) (fe := (eCB (d1 dInt) (aCons (eB (tCmp dEq (eVar 19) (eOp dMod (eCB (d1 dInt) (aCons (eOp dAdd (eVar 6) (eC (.int 1))) aNil)) (eVar 1)))) aNil))) (vs := [19]) (ρ := [v0, some (.int n), v2, v3, v4, v5, some (nat k), v7, v8, v9, v10, v11, v12, v13, v14, v15, v16, v17, v18, v19, v20]) nat (fun v => .int (ringT n k v)) (l := List.range n) (range1_nat (n := n) (show (eVar 1) _ = some (.int n) from rfl) (by omega)) (by rw [List.length_range]; omega) (by
      intro v hv
      refine ⟨[(19, nat v)], rfl, ?_⟩
      simp only [setsD, wipeD, List.foldl_cons, List.foldl_nil, List.set_cons_zero, List.set_cons_succ, eCB_a, aCons_a, aNil_a, eB_a, tCmp_a, eOp_a, eC_a, eVar_0, eVar_s, o2_ss, o1_s, d1_1, ad, di, md, dEq_nat, dInt_b]
      unfold ringT
      by_cases e : v = (k + 1) % n
      · rw [if_pos e, if_pos (decide_eq_true e)]
      · rw [if_neg e, if_neg (by simpa using e)])
    rw [eCB_a, aCons_a, hc, aNil_a, o2_ss, o1_s, d1_1]
    rfl
  have e2 : ∀ (v4 v5 : E), (eCB (d1 dTuple) (aCons (eLc (iRange1 (eVar 1)) (.nm 19) tTrue (eCB (d1 dInt) (aCons (eB (tCmp dEq (eVar 19) (eOp dAdd (eVar 6) (eC (.int 1))))) aNil)) [19]) aNil)) [v0, some (.int n), v2, v3, v4, v5, some (nat k), v7, v8, v9, v10, v11, v12, v13, v14, v15, v16, v17, v18, v19, v20] = some (trow n (lineT k)) := by
    intro v4 v5
    have hc := eLc_of (t := .nm 19) (fe := (eCB (d1 dInt) (aCons (eB (tCmp dEq (eVar 19) (eOp dAdd (eVar 6) (eC (.int 1))))) aNil))) (vs := [19]) (ρ := [v0, some (.int n), v2, v3, v4, v5, some (nat k), v7, v8, v9, v10, v11, v12, v13, v14, v15, v16, v17, v18, v19, v20]) nat (fun v => .int (lineT k v)) (l := List.range n) (range1_nat (n := n) (show (eVar 1) _ = some (.int n) from rfl) (by omega)) (by rw [List.length_range]; omega) (by
      intro v hv
      refine ⟨[(19, nat v)], rfl, ?_⟩
      simp only [setsD, wipeD, List.foldl_cons, List.foldl_nil, List.set_cons_zero, List.set_cons_succ, eCB_a, aCons_a, aNil_a, eB_a, tCmp_a, eOp_a, eC_a, eVar_0, eVar_s, o2_ss, o1_s, d1_1, ad, dEq_nat, dInt_b]
      unfold lineT
      by_cases e : v = k + 1
      · rw [if_pos e, if_pos (decide_eq_true e)]
      · rw [if_neg e, if_neg (by simpa using e)])
    rw [eCB_a, aCons_a, hc, aNil_a, o2_ss, o1_s, d1_1]
    rfl
  unfold rrU
  rw [sSeq_next (sApp_flat (d := trow n (ringT n k)) (ds := (List.range k).map fun u => trow n (ringT n u)) (e1 _ _) (trow_flat _ _) rfl (by rw [List.length_map, List.length_range]; omega) rfl)]
  simp only [List.set_cons_zero, List.set_cons_succ]
  rw [sApp_flat (d := trow n (lineT k)) (ds := (List.range k).map fun u => trow n (lineT u)) (e2 _ _) (trow_flat _ _) rfl (by rw [List.length_map, List.length_range]; omega) rfl]
  simp only [List.set_cons_zero, List.set_cons_succ]
  have a : ∀ f : Nat → Nat → Int, rt_ n (k + 1) f = .list (((List.range k).map fun u => trow n (f u)) ++ [trow n (f k)]) := fun f => by
    show PyData.list _ = _
    rw [List.range_succ, List.map_append]
    rfl
  rw [a, a]
/-! the least round -/
def rrO : FS := (sIf (tCmp dEq (eIx (eVar 7) (eC (.int 0))) (eC (.int 0)))
  (sSeq (sSet 8 0 (eTup (aCons (eCall 2 den__law_length (aCons (eVar 0) (aCons (eOp dAdd (eVar 7) (eTup (aCons (eC (.int 0)) aNil))) aNil))) (aCons (eVar 7) aNil))) (([(0, 0)] ++ (([(7, 1)] ++ ([] ++ [])) ++ [])) ++ ([(7, 0)] ++ [])))
  (sIf (tOrD (tIsND (eVar 2)) (tCmp dLt (eVar 8) (eVar 2)))
  (sSet 2 0 (eVar 8) [(8, 0)])
  sNil))
  sNil)
def oco (c : List Nat → Int) : Option (List Nat) → D
  | none => .none
  | some o => co c o
theorem rrO_ok (hn : n ≤ 5) (h1 : 1 ≤ n) {o : List Nat} (ho : IsRow n n o) (b : Option (List Nat)) (v3 v4 v5 v6 v8 v9 v10 v11 v12 v13 v14 v15 v16 v17 v18 v19 v20 : E) :
    ∃ y8, rrO ([some (tb n W), some (.int n), some (oco (tour W) b), v3, v4, v5, v6, some (nt o), v8, v9, v10, v11, v12, v13, v14, v15, v16, v17, v18, v19, v20], [0, 0, 0, 0, 1, 1, 0, 0, 0, 0, 0, 0, 0, 0, 0, 0, 0, 0, 0, 0, 0])
    = .next ([some (tb n W), some (.int n), some (oco (tour W) (if o.getD 0 0 = 0 then ofold (ltl (tour W)) b [o] else b)), v3, v4, v5, v6, some (nt o), y8, v9, v10, v11, v12, v13, v14, v15, v16, v17, v18, v19, v20], [0, 0, 0, 0, 1, 1, 0, 0, 0, 0, 0, 0, 0, 0, 0, 0, 0, 0, 0, 0, 0]) := by
  have hl := ho.len
  have i0 : dIx (nt o) (.int 0) = some (nat (o.getD 0 0)) := nt_ix (i := 0) (by omega)
  have ht : tCmp dEq (eIx (eVar 7) (eC (.int 0))) (eC (.int 0)) [some (tb n W), some (.int n), some (oco (tour W) b), v3, v4, v5, v6, some (nt o), v8, v9, v10, v11, v12, v13, v14, v15, v16, v17, v18, v19, v20] = some (decide (o.getD 0 0 = 0)) := by
    simp only [tCmp_a, eIx_a, eC_a, eVar_0, eVar_s, o2_ss, i0]
    exact dEq_nat _ 0
  unfold rrO
  by_cases h0 : o.getD 0 0 = 0
  · rw [decide_eq_true h0] at ht
    rw [sIf_tt ht, if_pos h0]
    have hne : o ≠ [] := by intro z; subst z; simp at hl; omega
    have ll := law_length_ok (n := n) (W := W) (r := o ++ [0]) (by omega) (by simp) (by simp [hl]; omega) (fun x hx => by
      rcases List.mem_append.mp hx with h | h
      · exact ho.lt x h
      · simp at h; omega)
    have tl : plen W (o ++ [0]) = tour W o := by
      rw [plen_snoc W hne]
      unfold tour
      rw [h0]
    rw [tl] at ll
    have cat : dAdd (nt o) (.tuple [.int 0]) = some (nt (o ++ [0])) := nt_snoc (i := 0) (by omega)
    have et : eTup (aCons (eCall 2 den__law_length (aCons (eVar 0) (aCons (eOp dAdd (eVar 7) (eTup (aCons (eC (.int 0)) aNil))) aNil))) (aCons (eVar 7) aNil)) [some (tb n W), some (.int n), some (oco (tour W) b), v3, v4, v5, v6, some (nt o), v8, v9, v10, v11, v12, v13, v14, v15, v16, v17, v18, v19, v20] = some (co (tour W) o) := by
      refine two _ _ _ _ _ ?_ rfl
      have inner : (eOp dAdd (eVar 7) (eTup (aCons (eC (.int 0)) aNil))) [some (tb n W), some (.int n), some (oco (tour W) b), v3, v4, v5, v6, some (nt o), v8, v9, v10, v11, v12, v13, v14, v15, v16, v17, v18, v19, v20] = some (nt (o ++ [0])) := cat
      simp only [eCall_2, inner, eVar_0, o1_s, length_eq, ll]
    rw [sSeq_next (sSet_flat et (co_flat _ _))]
    simp only [List.set_cons_zero, List.set_cons_succ]
    refine ⟨some (co (tour W) o), ?_⟩
    rw [ofold_one]
    cases b with
    | none =>
      rw [sIf_tt (tOr_t rfl), sSet_flat (d := co (tour W) o) rfl (co_flat _ _)]
      rfl
    | some r =>
      have ht2 : tOrD (tIsND (eVar 2)) (tCmp dLt (eVar 8) (eVar 2)) [some (tb n W), some (.int n), some (oco (tour W) (some r)), v3, v4, v5, v6, some (nt o), some (co (tour W) o), v9, v10, v11, v12, v13, v14, v15, v16, v17, v18, v19, v20] = some (ltl (tour W) o r) := by
        rw [tOr_f rfl]
        exact cmp_co (tour W) o r
      cases q : ltl (tour W) o r with
      | true =>
        rw [q] at ht2
        simp only [q, if_true]
        rw [sIf_tt ht2, sSet_flat (d := co (tour W) o) rfl (co_flat _ _)]
        rfl
      | false =>
        rw [q] at ht2
        simp only [q, Bool.false_eq_true, if_false]
        rw [sIf_ff ht2]
        rfl
  · rw [decide_eq_false h0] at ht
    rw [sIf_ff ht, if_neg h0]
    exact ⟨v8, rfl⟩
theorem rrO_fold (l : List (List Nat)) (o : List Nat) : ofold (ltl (tour W)) none ((l ++ [o]).filter fun o => decide (o.getD 0 0 = 0)) = if o.getD 0 0 = 0 then ofold (ltl (tour W)) (ofold (ltl (tour W)) none (l.filter fun o => decide (o.getD 0 0 = 0))) [o] else ofold (ltl (tour W)) none (l.filter fun o => decide (o.getD 0 0 = 0)) := by
  rw [List.filter_append, ofold_app]
  by_cases h : o.getD 0 0 = 0
  · rw [if_pos h, List.filter_cons_of_pos (by exact decide_eq_true h)]
    rfl
  · rw [if_neg h, List.filter_cons_of_neg (by simpa using h)]
    rfl
/-! the least ways between any two -/
def rrP : FS := (sIf (tCmp dNe (eVar 12) (eVar 13))
  (sSeq (sSet 14 0 (eLc (iSeq (eVar 3)) (.nm 20) (tAndD (tCmp dEq (eIx (eVar 20) (eC (.int 0))) (eVar 12)) (tCmp dEq (eIx (eVar 20) (eOp dSub (eVar 1) (eC (.int 1)))) (eVar 13))) (eVar 20) [20]) ([(3, 1)] ++ [(20, 0)]))
  (sSeq (sSet 15 0 (eCB (d1 dMin1) (aCons (eLc (iSeq (eVar 14)) (.nm 20) tTrue (eTup (aCons (eCall 2 den__law_length (aCons (eVar 0) (aCons (eVar 20) aNil))) (aCons (eVar 20) aNil))) [20]) aNil)) [])
  (sSeq (sIf (tNotD (tTru (eCall 2 (den__law_like 30) (aCons (eCall 3 den_best_path (aCons (eVar 0) (aCons (eVar 12) (aCons (eVar 13) aNil)))) (aCons (eVar 15) aNil)))))
  (sRet (eC (.bool false)))
  sNil)
  (sApp 11 (eIx (eVar 15) (eC (.int 0))) [(15, 1)]))))
  sNil)
abbrev L11 : List Nat := [0, 0, 0, 0, 1, 1, 0, 0, 0, 0, 0, 1, 0, 0, 0, 0, 0, 0, 0, 0, 0]
abbrev ordD (n : Nat) : D := .list ((ords n n).map nt)
abbrev intD (l : List Int) : D := .list (l.map PyData.int)
theorem rrP_same {k : Nat} (PS : List Int) (v2 v4 v5 v6 v7 v8 v9 v10 v14 v15 v16 v17 v18 v19 v20 : E) :
    rrP ([some (tb n W), some (.int n), v2, some (ordD n), v4, v5, v6, v7, v8, v9, v10, some (intD PS), some (nat k), some (nat k), v14, v15, v16, v17, v18, v19, v20], L11)
    = .next ([some (tb n W), some (.int n), v2, some (ordD n), v4, v5, v6, v7, v8, v9, v10, some (intD PS), some (nat k), some (nat k), v14, v15, v16, v17, v18, v19, v20], L11) := by
  unfold rrP
  rw [sIf_ff (by
    show dNe (nat k) (nat k) = _
    rw [dNe_nat, decide_eq_false (by simp)])]
  rfl
theorem rrP_ok (hn : n ≤ 5) {s t : Nat} (hs : s < n) (ht : t < n) (hst : s ≠ t) (PS : List Int) (hz : PS.length ≤ 1000) (v2 v4 v5 v6 v7 v8 v9 v10 v14 v15 v16 v17 v18 v19 v20 : E) :
    ∃ r y14 y15, IsRow n n r ∧ (∀ o, IsRow n n o → o.getD 0 0 = s → o.getD (n - 1) 0 = t → plen W r ≤ plen W o) ∧
    rrP ([some (tb n W), some (.int n), v2, some (ordD n), v4, v5, v6, v7, v8, v9, v10, some (intD PS), some (nat s), some (nat t), v14, v15, v16, v17, v18, v19, v20], L11)
    = .next ([some (tb n W), some (.int n), v2, some (ordD n), v4, v5, v6, v7, v8, v9, v10, some (intD (PS ++ [plen W r])), some (nat s), some (nat t), y14, y15, v16, v17, v18, v19, v20], L11) := by
  obtain ⟨r, r1, r2, r3, r4, bp⟩ := best_path_ok (W := W) hs ht hst hn
  have hmem : ∀ o, o ∈ (ords n n).filter (fun o => decide (o.getD 0 0 = s) && decide (o.getD (n - 1) 0 = t)) ↔ IsRow n n o ∧ o.getD 0 0 = s ∧ o.getD (n - 1) 0 = t := by
    intro o
    rw [List.mem_filter, mem_ords, Bool.and_eq_true, decide_eq_true_eq, decide_eq_true_eq]
  have hc1 : eLc (iSeq (eVar 3)) (.nm 20) (tAndD (tCmp dEq (eIx (eVar 20) (eC (.int 0))) (eVar 12)) (tCmp dEq (eIx (eVar 20) (eOp dSub (eVar 1) (eC (.int 1)))) (eVar 13))) (eVar 20) [20] [some (tb n W), some (.int n), v2, some (ordD n), v4, v5, v6, v7, v8, v9, v10, some (intD PS), some (nat s), some (nat t), v14, v15, v16, v17, v18, v19, v20] = some (.list (((ords n n).filter (fun o => decide (o.getD 0 0 = s) && decide (o.getD (n - 1) 0 = t))).map nt)) := by
    refine eLc_if nt nt (fun o => decide (o.getD 0 0 = s) && decide (o.getD (n - 1) 0 = t)) (l := ords n n) rfl (by have := ords_len n (by omega); omega) ?_
    intro o ho
    have ho := mem_ords.mp ho
    have hl := ho.len
    have i0 : dIx (nt o) (.int 0) = some (nat (o.getD 0 0)) := nt_ix (i := 0) (by omega)
    have i1 : dIx (nt o) (.int ((n : Int) - 1)) = some (nat (o.getD (n - 1) 0)) := by
      have := nt_ix (o := o) (i := n - 1) (by omega)
      rw [show ((n - 1 : Nat) : Int) = (n : Int) - 1 by omega] at this
      exact this
    refine ⟨[(20, nt o)], rfl, ?_, fun _ => rfl⟩
    have t1 : tCmp dEq (eIx (eVar 20) (eC (.int 0))) (eVar 12) (setsD (wipeD [some (tb n W), some (.int n), v2, some (ordD n), v4, v5, v6, v7, v8, v9, v10, some (intD PS), some (nat s), some (nat t), v14, v15, v16, v17, v18, v19, v20] [20]) [(20, nt o)]) = some (decide (o.getD 0 0 = s)) := by
      show o2 (dIx (nt o) (.int 0)) (some (nat s)) dEq = _
      rw [i0, o2_ss, dEq_nat]
    have t2 : tCmp dEq (eIx (eVar 20) (eOp dSub (eVar 1) (eC (.int 1)))) (eVar 13) (setsD (wipeD [some (tb n W), some (.int n), v2, some (ordD n), v4, v5, v6, v7, v8, v9, v10, some (intD PS), some (nat s), some (nat t), v14, v15, v16, v17, v18, v19, v20] [20]) [(20, nt o)]) = some (decide (o.getD (n - 1) 0 = t)) := by
      show o2 (dIx (nt o) (.int ((n : Int) - 1))) (some (nat t)) dEq = _
      rw [i1, o2_ss, dEq_nat]
    cases q : decide (o.getD 0 0 = s) with
    | true => rw [q] at t1; rw [tAnd_t t1, t2]; rfl
    | false => rw [q] at t1; rw [tAnd_f t1]; rfl
  obtain ⟨x, xs, eR⟩ : ∃ x xs, (ords n n).filter (fun o => decide (o.getD 0 0 = s) && decide (o.getD (n - 1) 0 = t)) = x :: xs := by
    cases e : (ords n n).filter (fun o => decide (o.getD 0 0 = s) && decide (o.getD (n - 1) 0 = t)) with
    | nil =>
      exfalso
      have := (hmem r).mpr ⟨r1, r2, r3⟩
      rw [e] at this
      cases this
    | cons x xs => exact ⟨x, xs, rfl⟩
  rw [eR] at hc1 hmem
  have rlen : (x :: xs).length ≤ 720 := by
    rw [← eR]
    have := List.length_filter_le (fun o : List Nat => decide (o.getD 0 0 = s) && decide (o.getD (n - 1) 0 = t)) (ords n n)
    have := ords_len n (by omega)
    omega
  have same : fmin (ltl (plen W)) x xs = r := by
    have hm := fmin_mem (ltl (plen W)) xs x
    have hle := fmin_le (lt := ltl (plen W)) (fun {a b d} => ltl_tr _) (fun {a b d} hh => ltl_co _ d hh) (ltl_ir _) xs x
    obtain ⟨a1, a2, a3⟩ := (hmem _).mp hm
    exact ltl_tri (plen W) (r4 _ a1 a2 a3) (hle r ((hmem r).mpr ⟨r1, r2, r3⟩))
  have mn : dMin1 (.list ((x :: xs).map (co (plen W)))) = some (co (plen W) r) := by
    rw [min_list (lt := ltl (plen W)) (allCmp_co _ _) (co_flat _) (dataLt_co _), same]
  refine ⟨r, some (.list ((x :: xs).map nt)), some (co (plen W) r), r1, fun o o1 o2 o3 => ?_, ?_⟩
  · have := r4 o o1 o2 o3
    rcases Int.lt_or_le (plen W o) (plen W r) with h | h
    · rw [(ltl_iff _ _ _).mpr (.inl h)] at this; cases this
    · exact h
  unfold rrP
  rw [sIf_tt (by
    show dNe (nat s) (nat t) = _
    rw [dNe_nat, decide_eq_true hst])]
  rw [sSeq_next (s' := ([some (tb n W), some (.int n), v2, some (ordD n), v4, v5, v6, v7, v8, v9, v10, some (intD PS), some (nat s), some (nat t), some (.list ((x :: xs).map nt)), v15, v16, v17, v18, v19, v20], L11)) (by
    rw [sSet_deep hc1 (flat_list _)]
    rfl)]
  have hc2 : eLc (iSeq (eVar 14)) (.nm 20) tTrue (eTup (aCons (eCall 2 den__law_length (aCons (eVar 0) (aCons (eVar 20) aNil))) (aCons (eVar 20) aNil))) [20] [some (tb n W), some (.int n), v2, some (ordD n), v4, v5, v6, v7, v8, v9, v10, some (intD PS), some (nat s), some (nat t), some (.list ((x :: xs).map nt)), v15, v16, v17, v18, v19, v20] = some (.list ((x :: xs).map (co (plen W)))) := by
    refine eLc_of nt (co (plen W)) (l := x :: xs) rfl (by omega) ?_
    intro o ho
    obtain ⟨a1, _, _⟩ := (hmem o).mp ho
    have hl := a1.len
    refine ⟨[(20, nt o)], rfl, ?_⟩
    refine two _ _ _ _ _ ?_ rfl
    have ll := law_length_ok (n := n) (W := W) (r := o) (by omega) (by omega) (by omega) a1.lt
    simp only [setsD, wipeD, List.foldl_cons, List.foldl_nil, List.set_cons_zero, List.set_cons_succ, eCall_2, eVar_0, eVar_s, o1_s, length_eq, ll]
  rw [sSeq_next (s' := ([some (tb n W), some (.int n), v2, some (ordD n), v4, v5, v6, v7, v8, v9, v10, some (intD PS), some (nat s), some (nat t), some (.list ((x :: xs).map nt)), some (co (plen W) r), v16, v17, v18, v19, v20], L11)) (by
    rw [sSet_flat (d := co (plen W) r) (by rw [eCB_a, aCons_a, hc2, aNil_a, o2_ss, o1_s, d1_1, mn]) (co_flat _ _)]
    rfl)]
  have rl := r1.len
  rw [sSeq_next (pass (n := 30) (d := co (plen W) r) (by simp only [eCall_3, eVar_0, eVar_s, o1_s, path_eq, bp]) rfl (pl_co _ (by omega)) (by rw [like_eq]; exact like_ok 30 _ (pl_co _ (by omega))))]
  rw [sApp_flat (d := .int (plen W r)) (ds := PS.map PyData.int) rfl rfl rfl (by rw [List.length_map]; omega) rfl]
  show _ = Out.next ([some (tb n W), some (.int n), v2, some (ordD n), v4, v5, v6, v7, v8, v9, v10, some (.list ((PS ++ [plen W r]).map PyData.int)), some (nat s), some (nat t), some (.list ((x :: xs).map nt)), some (co (plen W) r), v16, v17, v18, v19, v20], L11)
  rw [List.map_append]
  rfl
structure PSok (n : Nat) (W : Nat → Nat → Int) (k j : Nat) (PS : List Int) : Prop where
  len : PS.length ≤ k * n + j
  is : ∀ x ∈ PS, ∃ o, IsRow n n o ∧ plen W o = x
  all : ∀ s t, s < n → t < n → (s < k ∨ (s = k ∧ t < j)) → s ≠ t → ∃ x ∈ PS, ∀ o, IsRow n n o → o.getD 0 0 = s → o.getD (n - 1) 0 = t → x ≤ plen W o
theorem rrP_loop (hn : n ≤ 5) {k : Nat} (hk : k < n) {PS : List Int} (hp : PSok n W k 0 PS) (v2 v4 v5 v6 v7 v8 v9 v10 v13 v14 v15 v16 v17 v18 v19 v20 : E) :
    ∃ PS' y13 y14 y15, PSok n W (k + 1) 0 PS' ∧ sFor (iRange1 (eVar 1)) [] (.nm 13) rrP ([some (tb n W), some (.int n), v2, some (ordD n), v4, v5, v6, v7, v8, v9, v10, some (intD PS), some (nat k), v13, v14, v15, v16, v17, v18, v19, v20], L11)
    = .next ([some (tb n W), some (.int n), v2, some (ordD n), v4, v5, v6, v7, v8, v9, v10, some (intD PS'), some (nat k), y13, y14, y15, v16, v17, v18, v19, v20], L11) := by
  have kn : k * n ≤ 25 := Nat.mul_le_mul (show k ≤ 5 by omega) hn
  obtain ⟨s', e, PS', y13, y14, y15, hp', rfl⟩ := for_rng (i := 13) (n := n) (lo := 0) (body := rrP)
    (fun j s => ∃ PS x13 x14 x15, PSok n W k j PS ∧ s = ([some (tb n W), some (.int n), v2, some (ordD n), v4, v5, v6, v7, v8, v9, v10, some (intD PS), some (nat k), x13, x14, x15, v16, v17, v18, v19, v20], L11)) ([some (tb n W), some (.int n), v2, some (ordD n), v4, v5, v6, v7, v8, v9, v10, some (intD PS), some (nat k), v13, v14, v15, v16, v17, v18, v19, v20], L11) ⟨PS, v13, v14, v15, hp, rfl⟩ (by
      rintro j _ hj ⟨PS, x13, x14, x15, hp, rfl⟩
      rw [Int.zero_add]
      simp only [List.set_cons_zero, List.set_cons_succ]
      by_cases e : k = j
      · subst e
        refine ⟨_, rrP_same PS _ _ _ _ _ _ _ _ _ _ _ _ _ _ _, PS, some (nat k), x14, x15, ⟨by have := hp.len; omega, hp.is, fun s t h1 h2 h3 h4 => hp.all s t h1 h2 (by omega) h4⟩, rfl⟩
      · obtain ⟨r, y14, y15, r1, r2, er⟩ := rrP_ok (W := W) hn hk hj e PS (by have := hp.len; omega) v2 v4 v5 v6 v7 v8 v9 v10 x14 x15 v16 v17 v18 v19 v20
        refine ⟨_, er, PS ++ [plen W r], some (nat j), y14, y15, ⟨by rw [List.length_append]; have := hp.len; simp; omega, fun x hx => ?_, fun s t h1 h2 h3 h4 => ?_⟩, rfl⟩
        · rcases List.mem_append.mp hx with h | h
          · exact hp.is x h
          · simp at h; exact ⟨r, r1, h.symm⟩
        · by_cases q : s = k ∧ t = j
          · obtain ⟨rfl, rfl⟩ := q
            exact ⟨plen W r, List.mem_append_right _ (.head _), r2⟩
          · obtain ⟨x, hx, hh⟩ := hp.all s t h1 h2 (by omega) h4
            exact ⟨x, List.mem_append_left _ hx, hh⟩)
  refine ⟨PS', y13, y14, y15, ⟨by have := hp'.len; rw [Nat.succ_mul]; omega, hp'.is, fun s t h1 h2 h3 h4 => hp'.all s t h1 h2 (by omega) h4⟩, ?_⟩
  rw [sFor_at (range1_ok (n := n) rfl (by omega))]
  exact e
theorem rrQ_loop (hn : n ≤ 5) (v2 v4 v5 v6 v7 v8 v9 v10 v12 v13 v14 v15 v16 v17 v18 v19 v20 : E) :
    ∃ PS y12 y13 y14 y15, PSok n W n 0 PS ∧ sFor (iRange1 (eVar 1)) [] (.nm 12) (sFor (iRange1 (eVar 1)) [] (.nm 13) rrP) ([some (tb n W), some (.int n), v2, some (ordD n), v4, v5, v6, v7, v8, v9, v10, some (.list []), v12, v13, v14, v15, v16, v17, v18, v19, v20], L11)
    = .next ([some (tb n W), some (.int n), v2, some (ordD n), v4, v5, v6, v7, v8, v9, v10, some (intD PS), y12, y13, y14, y15, v16, v17, v18, v19, v20], L11) := by
  obtain ⟨s', e, PS', y12, y13, y14, y15, hp', rfl⟩ := for_rng (i := 12) (n := n) (lo := 0) (body := (sFor (iRange1 (eVar 1)) [] (.nm 13) rrP))
    (fun k s => ∃ PS x12 x13 x14 x15, PSok n W k 0 PS ∧ s = ([some (tb n W), some (.int n), v2, some (ordD n), v4, v5, v6, v7, v8, v9, v10, some (intD PS), x12, x13, x14, x15, v16, v17, v18, v19, v20], L11)) ([some (tb n W), some (.int n), v2, some (ordD n), v4, v5, v6, v7, v8, v9, v10, some (.list []), v12, v13, v14, v15, v16, v17, v18, v19, v20], L11) ⟨[], v12, v13, v14, v15, ⟨by simp, by simp, fun s t _ _ h _ => by omega⟩, rfl⟩ (by
      rintro k _ hk ⟨PS, x12, x13, x14, x15, hp, rfl⟩
      rw [Int.zero_add]
      simp only [List.set_cons_zero, List.set_cons_succ]
      obtain ⟨PS', y13, y14, y15, hp', er⟩ := rrP_loop hn hk hp v2 v4 v5 v6 v7 v8 v9 v10 x13 x14 x15 v16 v17 v18 v19 v20
      exact ⟨_, er, PS', some (nat k), y13, y14, y15, hp', rfl⟩)
  refine ⟨PS', y12, y13, y14, y15, hp', ?_⟩
  rw [sFor_at (range1_ok (n := n) rfl (by omega))]
  exact e
/-- the least of them -/
theorem paths_min (h2 : 2 ≤ n) {PS : List Int} (hp : PSok n W n 0 PS) : ∃ r, IsRow n n r ∧ (∀ o, IsRow n n o → plen W r ≤ plen W o) ∧ dMin1 (intD PS) = some (.int (plen W r)) := by
  have cov : ∀ o, IsRow n n o → ∃ x ∈ PS, x ≤ plen W o := by
    intro o ho
    have a := IsRow.at ho (show 0 < n by omega)
    have b := IsRow.at ho (show n - 1 < n by omega)
    obtain ⟨x, hx, h⟩ := hp.all _ _ a b (.inl a) (fun e => by have := row_at_inj ho (show 0 < n by omega) (show n - 1 < n by omega) e; omega)
    exact ⟨x, hx, h o ho rfl rfl⟩
  cases PS with
  | nil =>
    obtain ⟨x, hx, _⟩ := cov _ (range_row n)
    cases hx
  | cons x xs =>
    have mn := min_list (h := PyData.int) (x := x) (xs := xs) (lt := fun a b => decide (a < b)) (allCmp_int _) (fun _ => rfl) (fun a b => PySem.W.dataLt_int a b)
    have hm := fmin_mem (fun a b : Int => decide (a < b)) xs x
    have hle := fmin_le (lt := fun a b : Int => decide (a < b)) (fun {a b d} h h' => by
      have := of_decide_eq_true h; have := of_decide_eq_true h'; exact decide_eq_true (by omega)) (fun {a b d} h => by
      have := of_decide_eq_true h
      by_cases q : a < d
      · exact .inl (decide_eq_true q)
      · exact .inr (decide_eq_true (by omega))) (fun a => decide_eq_false (by omega)) xs x
    obtain ⟨r, r1, r2⟩ := hp.is _ hm
    refine ⟨r, r1, fun o ho => ?_, by rw [r2]; exact mn⟩
    obtain ⟨y, hy, h⟩ := cov o ho
    have := of_decide_eq_false (hle y hy)
    rw [r2]
    omega
/-! the last loop -/
def rrL : FS := (sSeq (sSet 18 0 (eCall 2 den_layout_bound (aCons (eVar 0) (aCons (eVar 16) aNil))) ([(0, 0)] ++ ([(16, 0)] ++ [])))
  (sIf (tOrD (tNotD (tTru (eCall 1 den__law_is_int (aCons (eVar 18) aNil)))) (tOrD (tCmp dGt (eVar 18) (eIx (eVar 17) (eC (.int 0)))) (tNotD (tTru (eCall 2 (den__law_like 30) (aCons (eCall 3 den_swapped_layout (aCons (eVar 0) (aCons (eVar 16) (aCons (eIx (eVar 17) (eC (.int 1))) aNil)))) (aCons (eIx (eVar 17) (eC (.int 1))) aNil)))))))
  (sRet (eC (.bool false)))
  sNil))
theorem rrL_ok (h2 : 2 ≤ n) (hn : n ≤ 5) (hW : Sml W) (T : Nat → Nat → Int) (v1 v2 v3 v4 v5 v6 v7 v8 v9 v10 v11 v12 v13 v14 v15 v18 v19 v20 : E) (L : List Nat) (hL : L = L11) :
    ∃ y18, rrL ([some (tb n W), v1, v2, v3, v4, v5, v6, v7, v8, v9, v10, v11, v12, v13, v14, v15, some (tb n T), some (co (lc n W T) (bestO (lc n W T) n)), v18, v19, v20], L)
    = .next ([some (tb n W), v1, v2, v3, v4, v5, v6, v7, v8, v9, v10, v11, v12, v13, v14, v15, some (tb n T), some (co (lc n W T) (bestO (lc n W T) n)), y18, v19, v20], L) := by
  subst hL
  have hb := bd_le (W := W) (T := T) (bestO_row (lc n W T) n)
  have hr := bestO_row (lc n W T) n
  have sw := swapped_ok (T := T) (by omega) h2 hW hr
  rw [climb_best h2] at sw
  have lb := layout_bound_ok (n := n) (W := W) (T := T) (by omega) hW
  generalize lc n W T = c at hb hr sw ⊢
  generalize bestO c n = o at hb hr sw ⊢
  refine ⟨some (.int (bd n W T)), ?_⟩
  unfold rrL
  rw [sSeq_next (sSet_flat (d := .int (bd n W T)) (by simp only [eCall_2, eVar_0, eVar_s, o1_s, layout_bound_eq, lb]) rfl)]
  simp only [List.set_cons_zero, List.set_cons_succ]
  have i0 : dIx (co c o) (.int 0) = some (.int (c o)) := rfl
  have i1 : dIx (co c o) (.int 1) = some (nt o) := rfl
  have ol := hr.len
  have lk := like_ok 30 (nt o) (pl_nt 28 (by omega))
  rw [sIf_ff (by
    rw [tOr_f (by simp only [tNotD_a, tTru_a, eCall_1, eVar_s, eVar_0, o1_s, is_int_eq, is_int_ok, dTru_b]; rfl)]
    rw [tOr_f (by
      simp only [tCmp_a, eIx_a, eC_a, eVar_0, eVar_s, o2_ss, i0, dGt_i]
      exact congrArg some (decide_eq_false (by omega)))]
    simp only [tNotD_a, tTru_a, eCall_2, eCall_3, eIx_a, eC_a, eVar_0, eVar_s, o1_s, o2_ss, i1, swapped_layout_eq, sw, like_eq, lk, dTru_b]
    rfl)]
  rfl
def tailR : FS := (sSeq (sSet 11 1 (eLst aNil) [])
  (sSeq (sFor (iRange1 (eVar 1)) [] (.nm 12)
  (sFor (iRange1 (eVar 1)) [] (.nm 13) rrP))
  (sSeq (sIf (tOrD (tCmp dNe (eIx (eVar 10) (eC (.int 0))) (eCB (d1 dMin1) (aCons (eVar 11) aNil))) (tNotD (tTru (eCall 2 (den__law_like 30) (aCons (eCall 2 den_best_layout (aCons (eVar 0) (aCons (eCB (d1 dTuple) (aCons (eVar 5) aNil)) aNil))) (aCons (eVar 10) aNil))))))
  (sRet (eC (.bool false)))
  sNil)
  (sSeq (sFor (iSeq (eTup (aCons (eTup (aCons (eCB (d1 dTuple) (aCons (eVar 4) aNil)) (aCons (eVar 9) aNil))) (aCons (eTup (aCons (eCB (d1 dTuple) (aCons (eVar 5) aNil)) (aCons (eVar 10) aNil))) aNil)))) ((([(4, 1)] ++ []) ++ ([(9, 0)] ++ [])) ++ ((([(5, 1)] ++ []) ++ ([(10, 0)] ++ [])) ++ [])) (.tp [(.nm 16), (.nm 17)]) rrL)
  (sRet (eC (.bool true)))))))
theorem tailR_ok (h2 : 2 ≤ n) (hn : n ≤ 5) (hW : Sml W) (v2 v6 v7 v8 : E) :
    tailR ([some (tb n W), some (.int n), v2, some (ordD n), some (rt_ n n (ringT n)), some (rt_ n n lineT), v6, v7, v8, some (co (lc n W (ringT n)) (bestO (lc n W (ringT n)) n)), some (co (lc n W lineT) (bestO (lc n W lineT) n)), none, none, none, none, none, none, none, none, none, none], [0, 0, 0, 0, 1, 1, 0, 0, 0, 0, 0, 0, 0, 0, 0, 0, 0, 0, 0, 0, 0]) = .ret (.bool true) := by
  unfold tailR
  rw [sSeq_next (s' := ([some (tb n W), some (.int n), v2, some (ordD n), some (rt_ n n (ringT n)), some (rt_ n n lineT), v6, v7, v8, some (co (lc n W (ringT n)) (bestO (lc n W (ringT n)) n)), some (co (lc n W lineT) (bestO (lc n W lineT) n)), some (.list []), none, none, none, none, none, none, none, none, none], L11)) (by rfl)]
  obtain ⟨PS, y12, y13, y14, y15, hp, er⟩ := rrQ_loop (W := W) hn v2 (some (rt_ n n (ringT n))) (some (rt_ n n lineT)) v6 v7 v8 (some (co (lc n W (ringT n)) (bestO (lc n W (ringT n)) n))) (some (co (lc n W lineT) (bestO (lc n W lineT) n))) none none none none none none none none none
  rw [sSeq_next er]
  obtain ⟨r, r1, r2, mn⟩ := paths_min h2 hp
  have ll := line_least (W := W) (by omega) r1 r2
  have bl := best_layout_ok (n := n) (W := W) (T := lineT) (by omega) hW
  have i0 : dIx (co (lc n W lineT) (bestO (lc n W lineT) n)) (.int 0) = some (.int (plen W r)) := by rw [← ll]; rfl
  have rl := (bestO_row (lc n W lineT) n).len
  have lp := pl_co (lc n W lineT) (o := bestO (lc n W lineT) n) (by omega)
  rw [sSeq_next (s' := ([some (tb n W), some (.int n), v2, some (ordD n), some (rt_ n n (ringT n)), some (rt_ n n lineT), v6, v7, v8, some (co (lc n W (ringT n)) (bestO (lc n W (ringT n)) n)), some (co (lc n W lineT) (bestO (lc n W lineT) n)), some (intD PS), y12, y13, y14, y15, none, none, none, none, none], L11)) (by
    rw [sIf_ff (by
      have tl : ∀ ρ : PEnv, eVar 5 ρ = some (rt_ n n lineT) → (eCB (d1 dTuple) (aCons (eVar 5) aNil)) ρ = some (tb n lineT) := by
        intro ρ h
        rw [eCB_a, aCons_a, h, aNil_a]
        rfl
      rw [tOr_f (by
        simp only [tCmp_a, eIx_a, eCB_a, aCons_a, aNil_a, eC_a, eVar_0, eVar_s, o1_s, o2_ss, d1_1, i0, mn, dNe_i]
        simp)]
      have cl : eCall 2 den_best_layout (aCons (eVar 0) (aCons (eCB (d1 dTuple) (aCons (eVar 5) aNil)) aNil)) [some (tb n W), some (.int n), v2, some (ordD n), some (rt_ n n (ringT n)), some (rt_ n n lineT), v6, v7, v8, some (co (lc n W (ringT n)) (bestO (lc n W (ringT n)) n)), some (co (lc n W lineT) (bestO (lc n W lineT) n)), some (intD PS), y12, y13, y14, y15, none, none, none, none, none] = some (co (lc n W lineT) (bestO (lc n W lineT) n)) := by
        rw [eCall_2, tl _ rfl, eVar_0, o1_s, o1_s, best_layout_eq, bl]
      exact like_not cl rfl lp)]
    rfl)]
  have hi : iSeq (eTup (aCons (eTup (aCons (eCB (d1 dTuple) (aCons (eVar 4) aNil)) (aCons (eVar 9) aNil))) (aCons (eTup (aCons (eCB (d1 dTuple) (aCons (eVar 5) aNil)) (aCons (eVar 10) aNil))) aNil))) [some (tb n W), some (.int n), v2, some (ordD n), some (rt_ n n (ringT n)), some (rt_ n n lineT), v6, v7, v8, some (co (lc n W (ringT n)) (bestO (lc n W (ringT n)) n)), some (co (lc n W lineT) (bestO (lc n W lineT) n)), some (intD PS), y12, y13, y14, y15, none, none, none, none, none] = some ([ringT n, lineT].map fun T => .tuple [tb n T, co (lc n W T) (bestO (lc n W T) n)]) := rfl
  obtain ⟨s', e, x16, x17, x18, rfl⟩ := for_inv (t := .tp [(.nm 16), (.nm 17)]) (body := rrL)
    (fun _ s => ∃ x16 x17 x18, s = ([some (tb n W), some (.int n), v2, some (ordD n), some (rt_ n n (ringT n)), some (rt_ n n lineT), v6, v7, v8, some (co (lc n W (ringT n)) (bestO (lc n W (ringT n)) n)), some (co (lc n W lineT) (bestO (lc n W lineT) n)), some (intD PS), y12, y13, y14, y15, x16, x17, x18, none, none], L11)) ([ringT n, lineT].map fun T => .tuple [tb n T, co (lc n W T) (bestO (lc n W T) n)]) 0 ([some (tb n W), some (.int n), v2, some (ordD n), some (rt_ n n (ringT n)), some (rt_ n n lineT), v6, v7, v8, some (co (lc n W (ringT n)) (bestO (lc n W (ringT n)) n)), some (co (lc n W lineT) (bestO (lc n W lineT) n)), some (intD PS), y12, y13, y14, y15, none, none, none, none, none], L11) ⟨none, none, none, rfl⟩ (by
      rintro j d _ hd ⟨x16, x17, x18, rfl⟩
      rw [List.getElem?_map] at hd
      obtain ⟨T, hT, rfl⟩ := Option.map_eq_some_iff.mp hd
      obtain ⟨y18, er⟩ := rrL_ok h2 hn hW T (some (.int n)) v2 (some (ordD n)) (some (rt_ n n (ringT n))) (some (rt_ n n lineT)) v6 v7 v8 (some (co (lc n W (ringT n)) (bestO (lc n W (ringT n)) n))) (some (co (lc n W lineT) (bestO (lc n W lineT) n))) (some (intD PS)) y12 y13 y14 y15 x18 none none _ rfl
      exact ⟨[(16, tb n T), (17, co (lc n W T) (bestO (lc n W T) n))], _, rfl, er, some (tb n T), some (co (lc n W T) (bestO (lc n W T) n)), y18, rfl⟩)
  rw [sSeq_next (by
    rw [sFor_at hi]
    exact e)]
  exact sRet_ok rfl
theorem round_right_ok (h2 : 2 ≤ n) (hn : n ≤ 5) (hW : Sml W) : den__law_round_right [tb n W] = some (.bool true) := by
  refine dfun_ret [some (tb n W), none, none, none, none, none, none, none, none, none, none, none, none, none, none, none, none, none, none, none, none] [0, 0, 0, 0, 0, 0, 0, 0, 0, 0, 0, 0, 0, 0, 0, 0, 0, 0, 0, 0, 0] rfl rfl rfl ?_
  have lo := law_orders_ok (n := n) (by omega)
  rw [sSeq_next (s' := ([some (tb n W), some (.int n), some .none, some (ordD n), none, none, none, none, none, none, none, none, none, none, none, none, none, none, none, none, none], [0, 0, 0, 0, 0, 0, 0, 0, 0, 0, 0, 0, 0, 0, 0, 0, 0, 0, 0, 0, 0])) (by
    have et : eTup (aCons (eCB (d1 dLen) (aCons (eVar 0) aNil)) (aCons (eC .none) (aCons (eCall 1 den__law_orders (aCons (eCB (d1 dLen) (aCons (eVar 0) aNil)) aNil)) aNil))) [some (tb n W), none, none, none, none, none, none, none, none, none, none, none, none, none, none, none, none, none, none, none, none] = some (.tuple [.int n, .none, ordD n]) := by
      unfold eTup
      simp only [eCall_1, eCB_a, aCons_a, aNil_a, eC_a, eVar_0, o1_s, o2_ss, d1_1, tb_len, orders_eq, lo]
      rfl
    rw [sTup_deep (l := [(1, .int n), (2, .none), (3, ordD n)]) et rfl (by simp [flat, flats])]
    rfl)]
  rw [sSeq_next (s' := ([some (tb n W), some (.int n), some .none, some (ordD n), some (rt_ n 0 (ringT n)), some (rt_ n 0 lineT), none, none, none, none, none, none, none, none, none, none, none, none, none, none, none], [0, 0, 0, 0, 1, 1, 0, 0, 0, 0, 0, 0, 0, 0, 0, 0, 0, 0, 0, 0, 0])) (by rfl)]
  obtain ⟨s', e, x6, rfl⟩ := for_rng (i := 6) (n := n) (lo := 0) (body := rrU)
    (fun k s => ∃ x6, s = ([some (tb n W), some (.int n), some .none, some (ordD n), some (rt_ n k (ringT n)), some (rt_ n k lineT), x6, none, none, none, none, none, none, none, none, none, none, none, none, none, none], [0, 0, 0, 0, 1, 1, 0, 0, 0, 0, 0, 0, 0, 0, 0, 0, 0, 0, 0, 0, 0])) ([some (tb n W), some (.int n), some .none, some (ordD n), some (rt_ n 0 (ringT n)), some (rt_ n 0 lineT), none, none, none, none, none, none, none, none, none, none, none, none, none, none, none], [0, 0, 0, 0, 1, 1, 0, 0, 0, 0, 0, 0, 0, 0, 0, 0, 0, 0, 0, 0, 0]) ⟨none, rfl⟩ (by
      rintro k _ hk ⟨x6, rfl⟩
      rw [Int.zero_add]
      exact ⟨_, rrU_ok hn (by omega) hk _ _ _ _ _ _ _ _ _ _ _ _ _ _ _ _ _, some (nat k), rfl⟩)
  unfold rrU at e
  rw [sSeq_next (by
    rw [sFor_at (range1_ok (n := n) rfl (by omega))]
    exact e)]
  obtain ⟨s', e, x7, x8, rfl⟩ := for_inv (t := .nm 7) (body := rrO)
    (fun j s => ∃ x7 x8, s = ([some (tb n W), some (.int n), some (oco (tour W) (ofold (ltl (tour W)) none (((ords n n).take j).filter fun o => decide (o.getD 0 0 = 0)))), some (ordD n), some (rt_ n n (ringT n)), some (rt_ n n lineT), x6, x7, x8, none, none, none, none, none, none, none, none, none, none, none, none], [0, 0, 0, 0, 1, 1, 0, 0, 0, 0, 0, 0, 0, 0, 0, 0, 0, 0, 0, 0, 0])) ((ords n n).map nt) 0 ([some (tb n W), some (.int n), some .none, some (ordD n), some (rt_ n n (ringT n)), some (rt_ n n lineT), x6, none, none, none, none, none, none, none, none, none, none, none, none, none, none], [0, 0, 0, 0, 1, 1, 0, 0, 0, 0, 0, 0, 0, 0, 0, 0, 0, 0, 0, 0, 0]) ⟨none, none, by rw [List.take_zero]; rfl⟩ (by
      rintro j d _ hd ⟨x7, x8, rfl⟩
      rw [Nat.zero_add, List.getElem?_map] at *
      obtain ⟨o, ho, rfl⟩ := Option.map_eq_some_iff.mp hd
      have hr := mem_ords.mp (List.mem_of_getElem? ho)
      have et : (ords n n).take (j + 1) = (ords n n).take j ++ [o] := by
        rw [List.take_add_one, ho]; rfl
      obtain ⟨y8, er⟩ := rrO_ok (W := W) hn (by omega) hr (ofold (ltl (tour W)) none (((ords n n).take j).filter fun o => decide (o.getD 0 0 = 0))) (some (ordD n)) (some (rt_ n n (ringT n))) (some (rt_ n n lineT)) x6 x8 none none none none none none none none none none none none
      refine ⟨[(7, nt o)], _, rfl, er, some (nt o), y8, ?_⟩
      rw [et, rrO_fold])
  obtain ⟨r, r1, r2, r3, br⟩ := best_round_ok (n := n) (W := W) (by omega) hn
  have hmem : ∀ o, o ∈ (ords n n).filter (fun o => decide (o.getD 0 0 = 0)) ↔ IsRow n n o ∧ o.getD 0 0 = 0 := by
    intro o
    rw [List.mem_filter, mem_ords, decide_eq_true_eq]
  have same : ofold (ltl (tour W)) none ((ords n n).filter fun o => decide (o.getD 0 0 = 0)) = some r := by
    obtain ⟨q, q1, q2, q3⟩ := ofold_ltl (c := tour W) (List.ne_nil_of_mem ((hmem r).mpr ⟨r1, r2⟩))
    obtain ⟨a1, a2⟩ := (hmem q).mp q2
    rw [q1, ltl_tri (tour W) (r3 q a1 a2) (q3 r ((hmem r).mpr ⟨r1, r2⟩))]
  rw [Nat.zero_add, List.length_map, List.take_length, same] at e
  unfold rrO at e
  rw [sSeq_next (by
    rw [sFor_at (ds := (ords n n).map nt) rfl]
    exact e)]
  have rl := r1.len
  have pr := pl_co (tour W) (o := r) (by omega)
  rw [sSeq_next (pass (n := 30) (d := co (tour W) r) (by simp only [eCall_1, eVar_0, o1_s, round_eq, br]) rfl pr (by rw [like_eq]; exact like_ok 30 _ pr))]
  have f1 := law_first_ok (n := n) (W := W) (T := ringT n) (by omega) hW
  have f2 := law_first_ok (n := n) (W := W) (T := lineT) (by omega) hW
  have t4 : ∀ ρ : PEnv, eVar 4 ρ = some (rt_ n n (ringT n)) → (eCB (d1 dTuple) (aCons (eVar 4) aNil)) ρ = some (tb n (ringT n)) := by
    intro ρ h
    rw [eCB_a, aCons_a, h, aNil_a]
    rfl
  have t5 : ∀ ρ : PEnv, eVar 5 ρ = some (rt_ n n lineT) → (eCB (d1 dTuple) (aCons (eVar 5) aNil)) ρ = some (tb n lineT) := by
    intro ρ h
    rw [eCB_a, aCons_a, h, aNil_a]
    rfl
  rw [sSeq_next (sPar_flat (d := co (lc n W (ringT n)) (bestO (lc n W (ringT n)) n)) (e := co (lc n W lineT) (bestO (lc n W lineT) n)) (by
    rw [eCall_2, t4 _ rfl, eVar_0, o1_s, o1_s, first_eq, f1]) (by
    rw [eCall_2, t5 _ rfl, eVar_0, o1_s, o1_s, first_eq, f2]) (co_flat _ _) (co_flat _ _))]
  simp only [List.set_cons_zero, List.set_cons_succ]
  have rle := ring_least (W := W) h2 r1 r2 (fun o ho h0 => by
    have := r3 o ho h0
    rcases Int.lt_or_le (tour W o) (tour W r) with h | h
    · rw [(ltl_iff _ _ _).mpr (.inl h)] at this; cases this
    · exact h)
  have bl := best_layout_ok (n := n) (W := W) (T := ringT n) (by omega) hW
  have i0 : dIx (co (lc n W (ringT n)) (bestO (lc n W (ringT n)) n)) (.int 0) = some (.int (tour W r)) := by rw [← rle]; rfl
  have j0 : dIx (co (tour W) r) (.int 0) = some (.int (tour W r)) := rfl
  have ql := (bestO_row (lc n W (ringT n)) n).len
  have lp := pl_co (lc n W (ringT n)) (o := bestO (lc n W (ringT n)) n) (by omega)
  rw [sSeq_next (s' := ([some (tb n W), some (.int n), some (co (tour W) r), some (ordD n), some (rt_ n n (ringT n)), some (rt_ n n lineT), x6, x7, x8, some (co (lc n W (ringT n)) (bestO (lc n W (ringT n)) n)), some (co (lc n W lineT) (bestO (lc n W lineT) n)), none, none, none, none, none, none, none, none, none, none], [0, 0, 0, 0, 1, 1, 0, 0, 0, 0, 0, 0, 0, 0, 0, 0, 0, 0, 0, 0, 0])) (by
    rw [sIf_ff (by
      rw [tOr_f (by
        simp only [oco, tCmp_a, eIx_a, eC_a, eVar_0, eVar_s, o2_ss, i0, j0, dNe_i]
        simp)]
      have cl : eCall 2 den_best_layout (aCons (eVar 0) (aCons (eCB (d1 dTuple) (aCons (eVar 4) aNil)) aNil)) [some (tb n W), some (.int n), some (oco (tour W) (some r)), some (ordD n), some (rt_ n n (ringT n)), some (rt_ n n lineT), x6, x7, x8, some (co (lc n W (ringT n)) (bestO (lc n W (ringT n)) n)), some (co (lc n W lineT) (bestO (lc n W lineT) n)), none, none, none, none, none, none, none, none, none, none] = some (co (lc n W (ringT n)) (bestO (lc n W (ringT n)) n)) := by
        rw [eCall_2, t4 _ rfl, eVar_0, o1_s, o1_s, best_layout_eq, bl]
      exact like_not cl rfl lp)]
    rfl)]
  exact tailR_ok h2 hn hW _ _ _ _
end
theorem pick3 {a b c i : Int} (h0 : 0 ≤ i) (h3 : i < 3) (ha : 0 ≤ a ∧ a ≤ 40) (hb : 0 ≤ b ∧ b ≤ 40) (hc : 0 ≤ c ∧ c ≤ 40) : ∃ m, dIx (.list [.int a, .int b, .int c]) (.int i) = some (.int m) ∧ 0 ≤ m ∧ m ≤ 40 := by
  have : i = 0 ∨ i = 1 ∨ i = 2 := by omega
  rcases this with rfl | rfl | rfl
  · exact ⟨a, rfl, ha⟩
  · exact ⟨b, rfl, hb⟩
  · exact ⟨c, rfl, hc⟩
theorem rt_whole (c : Int) : rt (Rat.divInt (2 * c) 2) = .tuple [.int c, .int 1] := by
  have g : Int.gcd (2 * c) 2 = 2 := by simp
  have hnum : (Rat.divInt (2 * c) 2).num = c := by
    rw [Rat.num_divInt, Int.gcd_comm, g, Int.sign_eq_one_of_pos (by decide), Int.one_mul]
    omega
  have hden : (Rat.divInt (2 * c) 2).den = 1 := by
    rw [Rat.den_divInt, if_neg (by decide), Int.gcd_comm, g]
    rfl
  unfold rt
  rw [hnum, hden]
  rfl
def tail2 : FS := (sSeq (sSet 4 0 (eCB (d1 dTuple) (aCons (eLc (iRange1 (eVar 2)) (.nm 8) tTrue (eCB (d1 dTuple) (aCons (eLc (iRange1 (eVar 2)) (.nm 9) tTrue (eCB (d1 dAbs) (aCons (eOp dSub (eVar 8) (eVar 9)) aNil)) [9]) aNil)) [8]) aNil)) (([] ++ (([] ++ []) ++ [])) ++ []))
  (sSeq (sSet 5 0 (eCall 4 den__law_table (aCons (eSl (eVar 1) (oSome (eC (.int 32))) oNone) (aCons (eVar 2) (aCons (eIx (eLst (aCons (eC (.int 1)) (aCons (eC (.int 3)) (aCons (eC (.int 9)) aNil)))) (eOp dMod (eCB (d1 dInt) (aCons (eIx (eVar 1) (eC (.int 31))) aNil)) (eC (.int 3)))) (aCons (eB (tCmp dEq (eOp dMod (eOp dFdiv (eIx (eVar 1) (eC (.int 3))) (eC (.int 2))) (eC (.int 2))) (eC (.int 0)))) aNil))))) ([(1, 1)] ++ ([(2, 0)] ++ (([] ++ ([] ++ ([] ++ []))) ++ ([] ++ [])))))
  (sSeq (sSet 6 0 (eCall 2 den__law_first (aCons (eVar 4) (aCons (eVar 5) aNil))) ([(4, 0)] ++ ([(5, 0)] ++ [])))
  (sSeq (sIf (tOrD (tNotD (tTru (eCall 2 (den__law_like 30) (aCons (eCall 2 den_best_layout (aCons (eVar 4) (aCons (eVar 5) aNil))) (aCons (eVar 6) aNil))))) (tNotD (tTru (eCall 2 (den__law_like 30) (aCons (eCall 2 den_line_layout (aCons (eOp dMulT (eTup (aCons (eC (.int 1)) aNil)) (eVar 2)) (aCons (eVar 5) aNil))) (aCons (eTup (aCons (eTup (aCons (eIx (eVar 6) (eC (.int 0))) (aCons (eC (.int 1)) aNil))) (aCons (eIx (eVar 6) (eC (.int 1))) aNil))) aNil))))))
  (sRet (eC (.bool false)))
  sNil)
  (sSeq (sSet 7 0 (eCall 2 den_layout_bound (aCons (eVar 4) (aCons (eVar 5) aNil))) ([(4, 0)] ++ ([(5, 0)] ++ [])))
  (sRet (eAndD (eCall 1 den__law_is_int (aCons (eVar 7) aNil)) (eB (tCmp dLe (eVar 7) (eIx (eVar 6) (eC (.int 0))))))))))))
theorem far_sml : ∀ {n : Nat}, n ≤ 5 → tb n farT = tb n fun u v => farT (u % 8) (v % 8) := by
  intro n hn
  unfold tb trow
  congr 1
  refine List.map_congr_left fun u hu => ?_
  congr 1
  refine List.map_congr_left fun v hv => ?_
  have hu := List.mem_range.mp hu
  have hv := List.mem_range.mp hv
  show PyData.int (farT u v) = PyData.int (farT (u % 8) (v % 8))
  rw [Nat.mod_eq_of_lt (show u < 8 by omega), Nat.mod_eq_of_lt (show v < 8 by omega)]
def farW (u v : Nat) : Int := farT (u % 8) (v % 8)
theorem farW_sml : Sml farW := by
  intro u v
  have a := Nat.mod_lt u (show 0 < 8 by decide)
  have b := Nat.mod_lt v (show 0 < 8 by decide)
  unfold farW farT absI
  generalize u % 8 = x at a
  generalize v % 8 = y at b
  split <;> omega
theorem lc_far {n : Nat} (hn : n ≤ 5) (T : Nat → Nat → Int) : lc n farW T = lc n farT T := by
  funext o
  unfold lc
  refine rsum_congr fun p hp => rsum_congr fun q hq => ?_
  unfold farW
  rw [Nat.mod_eq_of_lt (show p < 8 by omega), Nat.mod_eq_of_lt (show q < 8 by omega)]
theorem tail2_ok {r : Nat → Int} {n : Nat} (h2 : 2 ≤ n) (hn : n ≤ 5) (v0 v3 : E) (L : List Nat) (hL : L = [0, 0, 0, 0, 0, 0, 0, 0, 0, 0]) : tail2 ([v0, some (rw_ 80 r), some (.int n), v3, none, none, none, none, none, none], L) = .ret (.bool true) := by
  subst hL
  have ix : ∀ k : Nat, k < 80 → dIx (rw_ 80 r) (.int k) = some (.int (r k)) := fun k hk => rw_ix hk
  have i31 : dIx (rw_ 80 r) (.int 31) = some (.int (r 31)) := ix 31 (by decide)
  have i3 : dIx (rw_ 80 r) (.int 3) = some (.int (r 3)) := ix 3 (by decide)
  have el : ∀ (a b c : Int) (ρ : PEnv), eLst (aCons (eC (.int a)) (aCons (eC (.int b)) (aCons (eC (.int c)) aNil))) ρ = some (.list [.int a, .int b, .int c]) := fun a b c ρ => rfl
  have d2 : fdivOk 2 = true := by decide
  unfold tail2
  have eabs : ∀ x : Int, dAbs (.int x) = some (.int (absI x)) := fun x => rfl
  have e4 : (eCB (d1 dTuple) (aCons (eLc (iRange1 (eVar 2)) (.nm 8) tTrue (eCB (d1 dTuple) (aCons (eLc (iRange1 (eVar 2)) (.nm 9) tTrue (eCB (d1 dAbs) (aCons (eOp dSub (eVar 8) (eVar 9)) aNil)) [9]) aNil)) [8]) aNil)) [v0, some (rw_ 80 r), some (.int n), v3, none, none, none, none, none, none] = some (tb n farT) := by
    have hc := eLc_of (t := .nm 8) (fe := (eCB (d1 dTuple) (aCons (eLc (iRange1 (eVar 2)) (.nm 9) tTrue (eCB (d1 dAbs) (aCons (eOp dSub (eVar 8) (eVar 9)) aNil)) [9]) aNil))) (vs := [8]) (ρ := [v0, some (rw_ 80 r), some (.int n), v3, none, none, none, none, none, none]) nat (fun u => trow n (farT u)) (l := List.range n) (range1_nat (n := n) (show (eVar 2) _ = some (.int n) from rfl) (by omega)) (by rw [List.length_range]; omega) (by
      intro u hu
      refine ⟨[(8, nat u)], rfl, ?_⟩
      have hc := eLc_of (t := .nm 9) (fe := (eCB (d1 dAbs) (aCons (eOp dSub (eVar 8) (eVar 9)) aNil))) (vs := [9]) (ρ := [v0, some (rw_ 80 r), some (.int n), v3, none, none, none, none, some (nat u), none]) nat (fun v => .int (farT u v)) (l := List.range n) (range1_nat (n := n) (show (eVar 2) _ = some (.int n) from rfl) (by omega)) (by rw [List.length_range]; omega) (by
        intro v hv
        refine ⟨[(9, nat v)], rfl, ?_⟩
        simp only [setsD, wipeD, List.foldl_cons, List.foldl_nil, List.set_cons_zero, List.set_cons_succ, eCB_a, aCons_a, aNil_a, eOp_a, eVar_0, eVar_s, o2_ss, o1_s, d1_1, nat, dSub_i, eabs]
        rfl)
      show (eCB (d1 dTuple) (aCons (eLc (iRange1 (eVar 2)) (.nm 9) tTrue (eCB (d1 dAbs) (aCons (eOp dSub (eVar 8) (eVar 9)) aNil)) [9]) aNil)) [v0, some (rw_ 80 r), some (.int n), v3, none, none, none, none, some (nat u), none] = _
      rw [eCB_a, aCons_a, hc, aNil_a, o2_ss, o1_s, d1_1]
      rfl)
    rw [eCB_a, aCons_a, hc, aNil_a, o2_ss, o1_s, d1_1]
    rfl
  rw [sSeq_next (sSet_flat e4 (tb_flat _ _))]
  simp only [List.set_cons_zero, List.set_cons_succ]
  obtain ⟨m2, hm2, hm2a, hm2b⟩ := pick3 (a := 1) (b := 3) (c := 9) (i := r 31 % 3) (by omega) (by omega) (by decide) (by decide) (by decide)
  have c32 : dSlice (some 32) none (rw_ 80 r) = some (rw_ 48 fun k => r (k + 32)) := rw_drop 80 32 r (by decide)
  have nn : n * n ≤ 5 * 5 := Nat.mul_le_mul hn hn
  have t2 := law_table_ok (n := n) (m := 48) (r := fun k => r (k + 32)) (decide (r 3 / 2 % 2 = 0)) (by omega) (by omega) hm2a hm2b
  have hT := tW_sml (n := n) (r := fun k => r (k + 32)) (decide (r 3 / 2 % 2 = 0)) hm2a hm2b
  rw [sSeq_next (sSet_flat (d := tb n (tW n (fun k => r (k + 32)) m2 (decide (r 3 / 2 % 2 = 0)))) (by
    have sl : ∀ x4 : E, eSl (eVar 1) (oSome (eC (.int 32))) oNone [v0, some (rw_ 80 r), some (.int n), v3, x4, none, none, none, none, none] = some (rw_ 48 fun k => r (k + 32)) := fun _ => c32
    simp only [eCall_4, sl, el, eCB_a, aCons_a, aNil_a, d1_1, dInt_i, eB_a, tCmp_a, eOp_a, eIx_a, eC_a, eVar_0, eVar_s, o2_ss, o1_s, i31, i3, dFdiv_i d2, dMod_i (show (0 : Int) < 3 by decide), dMod_i (show (0 : Int) < 2 by decide), hm2, dEq_i, table_eq, t2]) (tb_flat _ _))]
  simp only [List.set_cons_zero, List.set_cons_succ]
  generalize tW n (fun k => r (k + 32)) m2 (decide (r 3 / 2 % 2 = 0)) = T at hT t2 ⊢
  have e7 : (tb n farT : D) = tb n farW := far_sml hn
  rw [e7]
  have f1 := law_first_ok (n := n) (W := farW) (T := T) (by omega) farW_sml
  have bl := best_layout_ok (n := n) (W := farW) (T := T) (by omega) farW_sml
  have lb := layout_bound_ok (n := n) (W := farW) (T := T) (by omega) farW_sml
  have hb := bd_le (W := farW) (T := T) (bestO_row (lc n farW T) n)
  have hr := bestO_row (lc n farW T) n
  have ln := line_ok (m := n) (T := T) (F := fun _ => 1) (by omega) hT
  rw [far_best, ← lc_far hn T] at ln
  have dd := dtc_far (T := T) hr
  rw [← lc_far hn T] at dd
  rw [dd, rt_whole] at ln
  generalize lc n farW T = c at f1 bl hb hr ln
  generalize bestO c n = o at f1 bl hb hr ln
  have ol := hr.len
  have i0 : dIx (co c o) (.int 0) = some (.int (c o)) := rfl
  have i1 : dIx (co c o) (.int 1) = some (nt o) := rfl
  rw [sSeq_next (sSet_flat (d := co c o) (by simp only [eCall_2, eVar_0, eVar_s, o1_s, first_eq, f1]) (co_flat _ _))]
  simp only [List.set_cons_zero, List.set_cons_succ]
  have ones : (eOp dMulT (eTup (aCons (eC (.int 1)) aNil)) (eVar 2)) [v0, some (rw_ 80 r), some (.int n), v3, some (tb n farW), some (tb n T), some (co c o), none, none, none] = some (trow n fun _ => 1) := by
    show dMulT (.tuple [.int 1]) (.int n) = _
    show (if [PyData.int 1] ≠ [] ∧ [PyData.int 1].length ≤ 1000 ∧ -1000000 ≤ (n : Int) ∧ (n : Int) ≤ 1000 then some (PyData.tuple (List.replicate ((n : Int)).toNat [PyData.int 1]).flatten) else none) = _
    rw [if_pos ⟨by simp, by simp, by omega, by omega⟩, Int.toNat_natCast, List.flatten_replicate_singleton]
    unfold trow
    rw [List.map_const', List.length_range]
  have pz : pl 30 (.tuple [.tuple [.int (c o), .int 1], nt o]) = true := pl_two 29 (pl_two 28 rfl rfl) (pl_nt 27 (by omega))
  rw [sSeq_next (s' := ([v0, some (rw_ 80 r), some (.int n), v3, some (tb n farW), some (tb n T), some (co c o), none, none, none], [0, 0, 0, 0, 0, 0, 0, 0, 0, 0])) (by
    rw [sIf_ff (by
      rw [tOr_f (like_not (d := co c o) (by simp only [eCall_2, eVar_0, eVar_s, o1_s, best_layout_eq, bl]) rfl (pl_co _ (by omega)))]
      refine like_not (d := .tuple [.tuple [.int (c o), .int 1], nt o]) ?_ ?_ pz
      · rw [eCall_2, ones, eVar_s, eVar_s, eVar_s, eVar_s, eVar_s, eVar_0, o1_s, o1_s, line_layout_eq, ln]
      · refine two _ _ _ _ _ (two _ _ _ _ _ ?_ rfl) ?_
        · simp only [eIx_a, eC_a, eVar_0, eVar_s, o2_ss, i0]
        · simp only [eIx_a, eC_a, eVar_0, eVar_s, o2_ss, i1])]
    rfl)]
  rw [sSeq_next (sSet_flat (d := .int (bd n farW T)) (by simp only [eCall_2, eVar_0, eVar_s, o1_s, layout_bound_eq, lb]) rfl)]
  simp only [List.set_cons_zero, List.set_cons_succ]
  refine sRet_ok ?_
  have q1 : eCall 1 den__law_is_int (aCons (eVar 7) aNil) [v0, some (rw_ 80 r), some (.int n), v3, some (tb n farW), some (tb n T), some (co c o), some (.int (bd n farW T)), none, none] = some (.bool true) := by
    simp only [eCall_1, eVar_0, eVar_s, o1_s, is_int_eq, is_int_ok]
  unfold eAndD
  simp only [q1, dTru_b, eB_a, tCmp_a, eIx_a, eC_a, eVar_0, eVar_s, o2_ss, i0, dLe_i, o1_s]
  rw [decide_eq_true hb]
theorem main (ns : List Int) (hl : ns.length ≤ 63) : den_law [scr ns] = some (.bool true) := by
  obtain ⟨r, hr0, hr⟩ := row_fn ns 80 (by decide)
  have hrow : Lib.den__law_row [scr ns, .int (80 : Nat)] = some (rw_ 80 r) := hr
  refine dfun_ret [some (scr ns), none, none, none, none, none, none, none, none, none] [0, 0, 0, 0, 0, 0, 0, 0, 0, 0] rfl rfl rfl ?_
  rw [sSeq_next (s' := ([some (scr ns), some (rw_ 80 r), none, none, none, none, none, none, none, none], [0, 0, 0, 0, 0, 0, 0, 0, 0, 0])) (by
    rw [sSet_deep (d := rw_ 80 r) (by simp only [eCall_2, eVar_0, eC_a, o1_s, row_eq]; exact hrow) (flat_list _)]
    rfl)]
  have ix : ∀ k : Nat, k < 80 → dIx (rw_ 80 r) (.int k) = some (.int (r k)) := fun k hk => rw_ix hk
  have i0 : dIx (rw_ 80 r) (.int 0) = some (.int (r 0)) := ix 0 (by decide)
  have i1 : dIx (rw_ 80 r) (.int 1) = some (.int (r 1)) := ix 1 (by decide)
  have i2 : dIx (rw_ 80 r) (.int 2) = some (.int (r 2)) := ix 2 (by decide)
  have i3 : dIx (rw_ 80 r) (.int 3) = some (.int (r 3)) := ix 3 (by decide)
  have i30 : dIx (rw_ 80 r) (.int 30) = some (.int (r 30)) := ix 30 (by decide)
  have el : ∀ (a b c : Int) (ρ : PEnv), eLst (aCons (eC (.int a)) (aCons (eC (.int b)) (aCons (eC (.int c)) aNil))) ρ = some (.list [.int a, .int b, .int c]) := fun a b c ρ => rfl
  rw [sSeq_next (sSet_flat (d := .int (3 + r 0 % 2)) (by
    simp only [eOp_a, eCB_a, aCons_a, aNil_a, eIx_a, eC_a, eVar_0, eVar_s, o2_ss, o1_s, d1_1, i0, dInt_i, dMod_i (show (0 : Int) < 2 by decide), dAdd_i]) rfl)]
  simp only [List.set_cons_zero, List.set_cons_succ]
  have a0 := Int.emod_nonneg (r 0) (show (2 : Int) ≠ 0 by decide)
  have a1 := Int.emod_lt_of_pos (r 0) (show (0 : Int) < 2 by decide)
  obtain ⟨n, h2, hn, e3⟩ : ∃ n : Nat, 2 ≤ n ∧ n ≤ 5 ∧ (sIf (tCmp dEq (eOp dMod (eIx (eVar 1) (eC (.int 1))) (eC (.int 12))) (eC (.int 7)))
  (sSet 2 0 (eC (.int 5)) [])
  sNil) ([some (scr ns), some (rw_ 80 r), some (.int (3 + r 0 % 2)), none, none, none, none, none, none, none], [0, 0, 0, 0, 0, 0, 0, 0, 0, 0]) = .next ([some (scr ns), some (rw_ 80 r), some (.int n), none, none, none, none, none, none, none], [0, 0, 0, 0, 0, 0, 0, 0, 0, 0]) := by
    have ht : tCmp dEq (eOp dMod (eIx (eVar 1) (eC (.int 1))) (eC (.int 12))) (eC (.int 7)) [some (scr ns), some (rw_ 80 r), some (.int (3 + r 0 % 2)), none, none, none, none, none, none, none] = some (decide (r 1 % 12 = 7)) := by
      simp only [tCmp_a, eOp_a, eIx_a, eC_a, eVar_0, eVar_s, o2_ss, i1, dMod_i (show (0 : Int) < 12 by decide), dEq_i]
    by_cases hc : r 1 % 12 = 7
    · rw [decide_eq_true hc] at ht
      refine ⟨5, by omega, by omega, ?_⟩
      rw [sIf_tt ht, sSet_flat (d := .int 5) rfl rfl]
      rfl
    · rw [decide_eq_false hc] at ht
      refine ⟨(3 + r 0 % 2).toNat, by omega, by omega, ?_⟩
      rw [sIf_ff ht, show (((3 + r 0 % 2).toNat : Nat) : Int) = 3 + r 0 % 2 by omega]
      rfl
  rw [sSeq_next e3]
  obtain ⟨most, hm, hm0, hm40⟩ := pick3 (a := 2) (b := 9) (c := 30) (i := r 2 % 3) (by omega) (by omega) (by decide) (by decide) (by decide)
  have nn : n * n ≤ 5 * 5 := Nat.mul_le_mul hn hn
  have c4 : dSlice (some 4) none (rw_ 80 r) = some (rw_ 76 fun k => r (k + 4)) := rw_drop 80 4 r (by decide)
  have hW := tW_sml (n := n) (r := fun k => r (k + 4)) (decide (r 3 % 2 = 0)) hm0 hm40
  have t1 := law_table_ok (n := n) (m := 76) (r := fun k => r (k + 4)) (decide (r 3 % 2 = 0)) (by omega) (by omega) hm0 hm40
  rw [sSeq_next (sSet_flat (d := tb n (tW n (fun k => r (k + 4)) most (decide (r 3 % 2 = 0)))) (by
    have sl : eSl (eVar 1) (oSome (eC (.int 4))) oNone [some (scr ns), some (rw_ 80 r), some (.int n), none, none, none, none, none, none, none] = some (rw_ 76 fun k => r (k + 4)) := c4
    simp only [eCall_4, sl, el, eCB_a, aCons_a, aNil_a, d1_1, dInt_i, eB_a, tCmp_a, eOp_a, eIx_a, eC_a, eVar_0, eVar_s, o2_ss, o1_s, i2, i3, dMod_i (show (0 : Int) < 3 by decide), dMod_i (show (0 : Int) < 2 by decide), hm, dEq_i, table_eq, t1]) (tb_flat _ _))]
  simp only [List.set_cons_zero, List.set_cons_succ]
  generalize tW n (fun k => r (k + 4)) most (decide (r 3 % 2 = 0)) = W at hW t1 ⊢
  have rr := round_right_ok h2 hn hW
  rw [sSeq_next (s' := ([some (scr ns), some (rw_ 80 r), some (.int n), some (tb n W), none, none, none, none, none, none], [0, 0, 0, 0, 0, 0, 0, 0, 0, 0])) (by
    rw [sIf_ff (by simp only [tNotD_a, tTru_a, eCall_1, eVar_0, eVar_s, o1_s, rr, dTru_b]; rfl)]
    rfl)]
  have b0 := Int.emod_nonneg (r 30) (show (3 : Int) ≠ 0 by decide)
  have b1 := Int.emod_lt_of_pos (r 30) (show (0 : Int) < 3 by decide)
  have c30 : (2 : Int) + r 30 % 3 = (((2 + r 30 % 3).toNat : Nat) : Int) := by omega
  rw [sSeq_next (sSet_flat (d := .int (((2 + r 30 % 3).toNat : Nat) : Int)) (by
    simp only [eOp_a, eCB_a, aCons_a, aNil_a, eIx_a, eC_a, eVar_0, eVar_s, o2_ss, o1_s, d1_1, i30, dInt_i, dMod_i (show (0 : Int) < 3 by decide), dAdd_i]
    rw [← c30]) rfl)]
  simp only [List.set_cons_zero, List.set_cons_succ]
  exact tail2_ok (by omega) (by omega) _ _ _ rfl
end Law
end

section
set_option Elab.async false
set_option linter.all false
set_option maxRecDepth 100000
set_option maxHeartbeats 4000000
namespace Law
open PySem PySem.Spec PyProof.Rows L2 DS
theorem all_mk {w : World} {K : PySem.W.Frag} {h : Heap} {mg : Str → Option Value} {fa : Addr} (X : K.In h) (G : h.Ns mainGlobals mg) (hfa : mg "law" = some (.ref fa))
  {f0 : Addr} {od0 an0 : Option Addr} {sl0 : Array (Option Value)} {oc0 kV0 dc0 pm0 cd0 ct0 : Value}
  {f1 : Addr} {od1 an1 : Option Addr} {sl1 : Array (Option Value)} {oc1 kV1 dc1 pm1 cd1 ct1 : Value}
  {f2 : Addr} {od2 an2 : Option Addr} {sl2 : Array (Option Value)} {oc2 kV2 dc2 pm2 cd2 ct2 : Value}
  {f3 : Addr} {od3 an3 : Option Addr} {sl3 : Array (Option Value)} {oc3 kV3 dc3 pm3 cd3 ct3 : Value}
  {f4 : Addr} {od4 an4 : Option Addr} {sl4 : Array (Option Value)} {oc4 kV4 dc4 pm4 cd4 ct4 : Value}
  {f5 : Addr} {od5 an5 : Option Addr} {sl5 : Array (Option Value)} {oc5 kV5 dc5 pm5 cd5 ct5 : Value}
  {f6 : Addr} {od6 an6 : Option Addr} {sl6 : Array (Option Value)} {oc6 kV6 dc6 pm6 cd6 ct6 : Value}
  {f7 : Addr} {od7 an7 : Option Addr} {sl7 : Array (Option Value)} {oc7 kV7 dc7 pm7 cd7 ct7 : Value}
  {f8 : Addr} {od8 an8 : Option Addr} {sl8 : Array (Option Value)} {oc8 kV8 dc8 pm8 cd8 ct8 : Value}
  {f9 : Addr} {od9 an9 : Option Addr} {sl9 : Array (Option Value)} {oc9 kV9 dc9 pm9 cd9 ct9 : Value}
  {f10 : Addr} {od10 an10 : Option Addr} {sl10 : Array (Option Value)} {oc10 kV10 dc10 pm10 cd10 ct10 : Value}
  {f11 : Addr} {od11 an11 : Option Addr} {sl11 : Array (Option Value)} {oc11 kV11 dc11 pm11 cd11 ct11 : Value}
  {f12 : Addr} {od12 an12 : Option Addr} {sl12 : Array (Option Value)} {oc12 kV12 dc12 pm12 cd12 ct12 : Value}
  {f13 : Addr} {od13 an13 : Option Addr} {sl13 : Array (Option Value)} {oc13 kV13 dc13 pm13 cd13 ct13 : Value}
  {f14 : Addr} {od14 an14 : Option Addr} {sl14 : Array (Option Value)} {oc14 kV14 dc14 pm14 cd14 ct14 : Value}
  {f15 : Addr} {od15 an15 : Option Addr} {sl15 : Array (Option Value)} {oc15 kV15 dc15 pm15 cd15 ct15 : Value}
  {f16 : Addr} {od16 an16 : Option Addr} {sl16 : Array (Option Value)} {oc16 kV16 dc16 pm16 cd16 ct16 : Value}
  {f17 : Addr} {od17 an17 : Option Addr} {sl17 : Array (Option Value)} {oc17 kV17 dc17 pm17 cd17 ct17 : Value}
  {f18 : Addr} {od18 an18 : Option Addr} {sl18 : Array (Option Value)} {oc18 kV18 dc18 pm18 cd18 ct18 : Value}
  {f19 : Addr} {od19 an19 : Option Addr} {sl19 : Array (Option Value)} {oc19 kV19 dc19 pm19 cd19 ct19 : Value}
  {f20 : Addr} {od20 an20 : Option Addr} {sl20 : Array (Option Value)} {oc20 kV20 dc20 pm20 cd20 ct20 : Value}
  {f21 : Addr} {od21 an21 : Option Addr} {sl21 : Array (Option Value)} {oc21 kV21 dc21 pm21 cd21 ct21 : Value}
  {f22 : Addr} {od22 an22 : Option Addr} {sl22 : Array (Option Value)} {oc22 kV22 dc22 pm22 cd22 ct22 : Value}
  {f23 : Addr} {od23 an23 : Option Addr} {sl23 : Array (Option Value)} {oc23 kV23 dc23 pm23 cd23 ct23 : Value}
  {f24 : Addr} {od24 an24 : Option Addr} {sl24 : Array (Option Value)} {oc24 kV24 dc24 pm24 cd24 ct24 : Value}
  (a0 : PySem.W.nsIn K mainGlobals "divisor" = some (some (.ref f0))) (l0 : K.lookup f0 = some ⟨oc0, od0, .func (PySem.W.fnOf "divisor" "divisor" (defArgs (topS 1)) (defBody (topS 1)) (defScope (topS 1)) .none kV0 dc0 pm0 an0 cd0 ct0), sl0⟩) (c0 : PySem.W.codeIn K cd0 "divisor" = true) (k0 : PySem.W.keepIn K (.ref f0) = true)
  (a1 : PySem.W.nsIn K mainGlobals "lowest" = some (some (.ref f1))) (l1 : K.lookup f1 = some ⟨oc1, od1, .func (PySem.W.fnOf "lowest" "lowest" (defArgs (topS 2)) (defBody (topS 2)) (defScope (topS 2)) .none kV1 dc1 pm1 an1 cd1 ct1), sl1⟩) (c1 : PySem.W.codeIn K cd1 "lowest" = true) (k1 : PySem.W.keepIn K (.ref f1) = true)
  (a2 : PySem.W.nsIn K mainGlobals "all_orders" = some (some (.ref f2))) (l2 : K.lookup f2 = some ⟨oc2, od2, .func (PySem.W.fnOf "all_orders" "all_orders" (defArgs (topS 3)) (defBody (topS 3)) (defScope (topS 3)) .none kV2 dc2 pm2 an2 cd2 ct2), sl2⟩) (c2 : PySem.W.codeIn K cd2 "all_orders" = true) (k2 : PySem.W.keepIn K (.ref f2) = true)
  (a3 : PySem.W.nsIn K mainGlobals "layout_cost" = some (some (.ref f3))) (l3 : K.lookup f3 = some ⟨oc3, od3, .func (PySem.W.fnOf "layout_cost" "layout_cost" (defArgs (topS 5)) (defBody (topS 5)) (defScope (topS 5)) .none kV3 dc3 pm3 an3 cd3 ct3), sl3⟩) (c3 : PySem.W.codeIn K cd3 "layout_cost" = true) (k3 : PySem.W.keepIn K (.ref f3) = true)
  (a4 : PySem.W.nsIn K mainGlobals "best_layout" = some (some (.ref f4))) (l4 : K.lookup f4 = some ⟨oc4, od4, .func (PySem.W.fnOf "best_layout" "best_layout" (defArgs (topS 6)) (defBody (topS 6)) (defScope (topS 6)) .none kV4 dc4 pm4 an4 cd4 ct4), sl4⟩) (c4 : PySem.W.codeIn K cd4 "best_layout" = true) (k4 : PySem.W.keepIn K (.ref f4) = true)
  (a5 : PySem.W.nsIn K mainGlobals "exchanged" = some (some (.ref f5))) (l5 : K.lookup f5 = some ⟨oc5, od5, .func (PySem.W.fnOf "exchanged" "exchanged" (defArgs (topS 7)) (defBody (topS 7)) (defScope (topS 7)) .none kV5 dc5 pm5 an5 cd5 ct5), sl5⟩) (c5 : PySem.W.codeIn K cd5 "exchanged" = true) (k5 : PySem.W.keepIn K (.ref f5) = true)
  (a6 : PySem.W.nsIn K mainGlobals "swapped_layout" = some (some (.ref f6))) (l6 : K.lookup f6 = some ⟨oc6, od6, .func (PySem.W.fnOf "swapped_layout" "swapped_layout" (defArgs (topS 8)) (defBody (topS 8)) (defScope (topS 8)) .none kV6 dc6 pm6 an6 cd6 ct6), sl6⟩) (c6 : PySem.W.codeIn K cd6 "swapped_layout" = true) (k6 : PySem.W.keepIn K (.ref f6) = true)
  (a7 : PySem.W.nsIn K mainGlobals "layout_bound" = some (some (.ref f7))) (l7 : K.lookup f7 = some ⟨oc7, od7, .func (PySem.W.fnOf "layout_bound" "layout_bound" (defArgs (topS 9)) (defBody (topS 9)) (defScope (topS 9)) .none kV7 dc7 pm7 an7 cd7 ct7), sl7⟩) (c7 : PySem.W.codeIn K cd7 "layout_bound" = true) (k7 : PySem.W.keepIn K (.ref f7) = true)
  (a8 : PySem.W.nsIn K mainGlobals "doubled_middles" = some (some (.ref f8))) (l8 : K.lookup f8 = some ⟨oc8, od8, .func (PySem.W.fnOf "doubled_middles" "doubled_middles" (defArgs (topS 10)) (defBody (topS 10)) (defScope (topS 10)) .none kV8 dc8 pm8 an8 cd8 ct8), sl8⟩) (c8 : PySem.W.codeIn K cd8 "doubled_middles" = true) (k8 : PySem.W.keepIn K (.ref f8) = true)
  (a9 : PySem.W.nsIn K mainGlobals "doubled_traffic" = some (some (.ref f9))) (l9 : K.lookup f9 = some ⟨oc9, od9, .func (PySem.W.fnOf "doubled_traffic" "doubled_traffic" (defArgs (topS 11)) (defBody (topS 11)) (defScope (topS 11)) .none kV9 dc9 pm9 an9 cd9 ct9), sl9⟩) (c9 : PySem.W.codeIn K cd9 "doubled_traffic" = true) (k9 : PySem.W.keepIn K (.ref f9) = true)
  (a10 : PySem.W.nsIn K mainGlobals "line_layout" = some (some (.ref f10))) (l10 : K.lookup f10 = some ⟨oc10, od10, .func (PySem.W.fnOf "line_layout" "line_layout" (defArgs (topS 12)) (defBody (topS 12)) (defScope (topS 12)) .none kV10 dc10 pm10 an10 cd10 ct10), sl10⟩) (c10 : PySem.W.codeIn K cd10 "line_layout" = true) (k10 : PySem.W.keepIn K (.ref f10) = true)
  (a11 : PySem.W.nsIn K mainGlobals "ways_from" = some (some (.ref f11))) (l11 : K.lookup f11 = some ⟨oc11, od11, .func (PySem.W.fnOf "ways_from" "ways_from" (defArgs (topS 14)) (defBody (topS 14)) (defScope (topS 14)) .none kV11 dc11 pm11 an11 cd11 ct11), sl11⟩) (c11 : PySem.W.codeIn K cd11 "ways_from" = true) (k11 : PySem.W.keepIn K (.ref f11) = true)
  (a12 : PySem.W.nsIn K mainGlobals "best_round" = some (some (.ref f12))) (l12 : K.lookup f12 = some ⟨oc12, od12, .func (PySem.W.fnOf "best_round" "best_round" (defArgs (topS 15)) (defBody (topS 15)) (defScope (topS 15)) .none kV12 dc12 pm12 an12 cd12 ct12), sl12⟩) (c12 : PySem.W.codeIn K cd12 "best_round" = true) (k12 : PySem.W.keepIn K (.ref f12) = true)
  (a13 : PySem.W.nsIn K mainGlobals "best_path" = some (some (.ref f13))) (l13 : K.lookup f13 = some ⟨oc13, od13, .func (PySem.W.fnOf "best_path" "best_path" (defArgs (topS 16)) (defBody (topS 16)) (defScope (topS 16)) .none kV13 dc13 pm13 an13 cd13 ct13), sl13⟩) (c13 : PySem.W.codeIn K cd13 "best_path" = true) (k13 : PySem.W.keepIn K (.ref f13) = true)
  (a14 : PySem.W.nsIn K mainGlobals "_law_mixed" = some (some (.ref f14))) (l14 : K.lookup f14 = some ⟨oc14, od14, .func (PySem.W.fnOf "_law_mixed" "_law_mixed" (defArgs (topS 18)) (defBody (topS 18)) (defScope (topS 18)) .none kV14 dc14 pm14 an14 cd14 ct14), sl14⟩) (c14 : PySem.W.codeIn K cd14 "_law_mixed" = true) (k14 : PySem.W.keepIn K (.ref f14) = true)
  (a15 : PySem.W.nsIn K mainGlobals "_law_row" = some (some (.ref f15))) (l15 : K.lookup f15 = some ⟨oc15, od15, .func (PySem.W.fnOf "_law_row" "_law_row" (defArgs (topS 19)) (defBody (topS 19)) (defScope (topS 19)) .none kV15 dc15 pm15 an15 cd15 ct15), sl15⟩) (c15 : PySem.W.codeIn K cd15 "_law_row" = true) (k15 : PySem.W.keepIn K (.ref f15) = true)
  (a16 : PySem.W.nsIn K mainGlobals "_law_is_int" = some (some (.ref f16))) (l16 : K.lookup f16 = some ⟨oc16, od16, .func (PySem.W.fnOf "_law_is_int" "_law_is_int" (defArgs (topS 20)) (defBody (topS 20)) (defScope (topS 20)) .none kV16 dc16 pm16 an16 cd16 ct16), sl16⟩) (c16 : PySem.W.codeIn K cd16 "_law_is_int" = true) (k16 : PySem.W.keepIn K (.ref f16) = true)
  (a17 : PySem.W.nsIn K mainGlobals "_law_like" = some (some (.ref f17))) (l17 : K.lookup f17 = some ⟨oc17, od17, .func (PySem.W.fnOf "_law_like" "_law_like" (defArgs (topS 21)) (defBody (topS 21)) (defScope (topS 21)) .none kV17 dc17 pm17 an17 cd17 ct17), sl17⟩) (c17 : PySem.W.codeIn K cd17 "_law_like" = true) (k17 : PySem.W.keepIn K (.ref f17) = true)
  (a18 : PySem.W.nsIn K mainGlobals "_law_orders" = some (some (.ref f18))) (l18 : K.lookup f18 = some ⟨oc18, od18, .func (PySem.W.fnOf "_law_orders" "_law_orders" (defArgs (topS 22)) (defBody (topS 22)) (defScope (topS 22)) .none kV18 dc18 pm18 an18 cd18 ct18), sl18⟩) (c18 : PySem.W.codeIn K cd18 "_law_orders" = true) (k18 : PySem.W.keepIn K (.ref f18) = true)
  (a19 : PySem.W.nsIn K mainGlobals "_law_table" = some (some (.ref f19))) (l19 : K.lookup f19 = some ⟨oc19, od19, .func (PySem.W.fnOf "_law_table" "_law_table" (defArgs (topS 23)) (defBody (topS 23)) (defScope (topS 23)) .none kV19 dc19 pm19 an19 cd19 ct19), sl19⟩) (c19 : PySem.W.codeIn K cd19 "_law_table" = true) (k19 : PySem.W.keepIn K (.ref f19) = true)
  (a20 : PySem.W.nsIn K mainGlobals "_law_cost" = some (some (.ref f20))) (l20 : K.lookup f20 = some ⟨oc20, od20, .func (PySem.W.fnOf "_law_cost" "_law_cost" (defArgs (topS 24)) (defBody (topS 24)) (defScope (topS 24)) .none kV20 dc20 pm20 an20 cd20 ct20), sl20⟩) (c20 : PySem.W.codeIn K cd20 "_law_cost" = true) (k20 : PySem.W.keepIn K (.ref f20) = true)
  (a21 : PySem.W.nsIn K mainGlobals "_law_first" = some (some (.ref f21))) (l21 : K.lookup f21 = some ⟨oc21, od21, .func (PySem.W.fnOf "_law_first" "_law_first" (defArgs (topS 25)) (defBody (topS 25)) (defScope (topS 25)) .none kV21 dc21 pm21 an21 cd21 ct21), sl21⟩) (c21 : PySem.W.codeIn K cd21 "_law_first" = true) (k21 : PySem.W.keepIn K (.ref f21) = true)
  (a22 : PySem.W.nsIn K mainGlobals "_law_length" = some (some (.ref f22))) (l22 : K.lookup f22 = some ⟨oc22, od22, .func (PySem.W.fnOf "_law_length" "_law_length" (defArgs (topS 26)) (defBody (topS 26)) (defScope (topS 26)) .none kV22 dc22 pm22 an22 cd22 ct22), sl22⟩) (c22 : PySem.W.codeIn K cd22 "_law_length" = true) (k22 : PySem.W.keepIn K (.ref f22) = true)
  (a23 : PySem.W.nsIn K mainGlobals "_law_round_right" = some (some (.ref f23))) (l23 : K.lookup f23 = some ⟨oc23, od23, .func (PySem.W.fnOf "_law_round_right" "_law_round_right" (defArgs (topS 27)) (defBody (topS 27)) (defScope (topS 27)) .none kV23 dc23 pm23 an23 cd23 ct23), sl23⟩) (c23 : PySem.W.codeIn K cd23 "_law_round_right" = true) (k23 : PySem.W.keepIn K (.ref f23) = true)
  (a24 : PySem.W.nsIn K mainGlobals "law" = some (some (.ref f24))) (l24 : K.lookup f24 = some ⟨oc24, od24, .func (PySem.W.fnOf "law" "law" (defArgs (topS 28)) (defBody (topS 28)) (defScope (topS 28)) .none kV24 dc24 pm24 an24 cd24 ct24), sl24⟩) (c24 : PySem.W.codeIn K cd24 "law" = true) (k24 : PySem.W.keepIn K (.ref f24) = true)
  (z_abs : PySem.W.nsIn K mainGlobals "abs" = some none)
  (z_all : PySem.W.nsIn K mainGlobals "all" = some none)
  (z_bool : PySem.W.nsIn K mainGlobals "bool" = some none)
  (z_enumerate : PySem.W.nsIn K mainGlobals "enumerate" = some none)
  (z_int : PySem.W.nsIn K mainGlobals "int" = some none)
  (z_isinstance : PySem.W.nsIn K mainGlobals "isinstance" = some none)
  (z_len : PySem.W.nsIn K mainGlobals "len" = some none)
  (z_list : PySem.W.nsIn K mainGlobals "list" = some none)
  (z_max : PySem.W.nsIn K mainGlobals "max" = some none)
  (z_min : PySem.W.nsIn K mainGlobals "min" = some none)
  (z_range : PySem.W.nsIn K mainGlobals "range" = some none)
  (z_sorted : PySem.W.nsIn K mainGlobals "sorted" = some none)
  (z_str : PySem.W.nsIn K mainGlobals "str" = some none)
  (z_sum : PySem.W.nsIn K mainGlobals "sum" = some none)
  (z_tuple : PySem.W.nsIn K mainGlobals "tuple" = some none)
  (z_zip : PySem.W.nsIn K mainGlobals "zip" = some none) :
  ∃ fd : FuncData, (∀ (s : Shared) (v : Value), BindsTo s fd ⟨[v], []⟩ [("script", v)]) ∧ ∀ base : Heap, K.In base → base.Ns mainGlobals mg → FnOk PySem.Challenge.rw_planskept_k35_whole_round_layouts.prog w K mg base CX0 34 fa fd ["script"] (spD K 1 den_law) := by
  have e : f24 = fa := by
    have e := hfa.symm.trans (PySem.W.mg_of X G a24)
    cases e
    rfl
  subst e
  have T : Tp K mg (fun i => match i with | 0 => f0 | 1 => f1 | 2 => f2 | 3 => f3 | 4 => f4 | 5 => f5 | 6 => f6 | 7 => f7 | 8 => f8 | 9 => f9 | 10 => f10 | 11 => f11 | 12 => f12 | 13 => f13 | 14 => f14 | 15 => f15 | 16 => f16 | 17 => f17 | 18 => f18 | 19 => f19 | 20 => f20 | 21 => f21 | 22 => f22 | 23 => f23 | _ => f24) (fun i => match i with | 0 => PySem.W.fnOf "divisor" "divisor" (defArgs (topS 1)) (defBody (topS 1)) (defScope (topS 1)) .none kV0 dc0 pm0 an0 cd0 ct0 | 1 => PySem.W.fnOf "lowest" "lowest" (defArgs (topS 2)) (defBody (topS 2)) (defScope (topS 2)) .none kV1 dc1 pm1 an1 cd1 ct1 | 2 => PySem.W.fnOf "all_orders" "all_orders" (defArgs (topS 3)) (defBody (topS 3)) (defScope (topS 3)) .none kV2 dc2 pm2 an2 cd2 ct2 | 3 => PySem.W.fnOf "layout_cost" "layout_cost" (defArgs (topS 5)) (defBody (topS 5)) (defScope (topS 5)) .none kV3 dc3 pm3 an3 cd3 ct3 | 4 => PySem.W.fnOf "best_layout" "best_layout" (defArgs (topS 6)) (defBody (topS 6)) (defScope (topS 6)) .none kV4 dc4 pm4 an4 cd4 ct4 | 5 => PySem.W.fnOf "exchanged" "exchanged" (defArgs (topS 7)) (defBody (topS 7)) (defScope (topS 7)) .none kV5 dc5 pm5 an5 cd5 ct5 | 6 => PySem.W.fnOf "swapped_layout" "swapped_layout" (defArgs (topS 8)) (defBody (topS 8)) (defScope (topS 8)) .none kV6 dc6 pm6 an6 cd6 ct6 | 7 => PySem.W.fnOf "layout_bound" "layout_bound" (defArgs (topS 9)) (defBody (topS 9)) (defScope (topS 9)) .none kV7 dc7 pm7 an7 cd7 ct7 | 8 => PySem.W.fnOf "doubled_middles" "doubled_middles" (defArgs (topS 10)) (defBody (topS 10)) (defScope (topS 10)) .none kV8 dc8 pm8 an8 cd8 ct8 | 9 => PySem.W.fnOf "doubled_traffic" "doubled_traffic" (defArgs (topS 11)) (defBody (topS 11)) (defScope (topS 11)) .none kV9 dc9 pm9 an9 cd9 ct9 | 10 => PySem.W.fnOf "line_layout" "line_layout" (defArgs (topS 12)) (defBody (topS 12)) (defScope (topS 12)) .none kV10 dc10 pm10 an10 cd10 ct10 | 11 => PySem.W.fnOf "ways_from" "ways_from" (defArgs (topS 14)) (defBody (topS 14)) (defScope (topS 14)) .none kV11 dc11 pm11 an11 cd11 ct11 | 12 => PySem.W.fnOf "best_round" "best_round" (defArgs (topS 15)) (defBody (topS 15)) (defScope (topS 15)) .none kV12 dc12 pm12 an12 cd12 ct12 | 13 => PySem.W.fnOf "best_path" "best_path" (defArgs (topS 16)) (defBody (topS 16)) (defScope (topS 16)) .none kV13 dc13 pm13 an13 cd13 ct13 | 14 => PySem.W.fnOf "_law_mixed" "_law_mixed" (defArgs (topS 18)) (defBody (topS 18)) (defScope (topS 18)) .none kV14 dc14 pm14 an14 cd14 ct14 | 15 => PySem.W.fnOf "_law_row" "_law_row" (defArgs (topS 19)) (defBody (topS 19)) (defScope (topS 19)) .none kV15 dc15 pm15 an15 cd15 ct15 | 16 => PySem.W.fnOf "_law_is_int" "_law_is_int" (defArgs (topS 20)) (defBody (topS 20)) (defScope (topS 20)) .none kV16 dc16 pm16 an16 cd16 ct16 | 17 => PySem.W.fnOf "_law_like" "_law_like" (defArgs (topS 21)) (defBody (topS 21)) (defScope (topS 21)) .none kV17 dc17 pm17 an17 cd17 ct17 | 18 => PySem.W.fnOf "_law_orders" "_law_orders" (defArgs (topS 22)) (defBody (topS 22)) (defScope (topS 22)) .none kV18 dc18 pm18 an18 cd18 ct18 | 19 => PySem.W.fnOf "_law_table" "_law_table" (defArgs (topS 23)) (defBody (topS 23)) (defScope (topS 23)) .none kV19 dc19 pm19 an19 cd19 ct19 | 20 => PySem.W.fnOf "_law_cost" "_law_cost" (defArgs (topS 24)) (defBody (topS 24)) (defScope (topS 24)) .none kV20 dc20 pm20 an20 cd20 ct20 | 21 => PySem.W.fnOf "_law_first" "_law_first" (defArgs (topS 25)) (defBody (topS 25)) (defScope (topS 25)) .none kV21 dc21 pm21 an21 cd21 ct21 | 22 => PySem.W.fnOf "_law_length" "_law_length" (defArgs (topS 26)) (defBody (topS 26)) (defScope (topS 26)) .none kV22 dc22 pm22 an22 cd22 ct22 | 23 => PySem.W.fnOf "_law_round_right" "_law_round_right" (defArgs (topS 27)) (defBody (topS 27)) (defScope (topS 27)) .none kV23 dc23 pm23 an23 cd23 ct23 | _ => PySem.W.fnOf "law" "law" (defArgs (topS 28)) (defBody (topS 28)) (defScope (topS 28)) .none kV24 dc24 pm24 an24 cd24 ct24) := {
    F_divisor := fun_mk (st := (topS 1)) l0 c0 k0,
    b_divisor := (fun_mk (st := (topS 1)) l0 c0 k0).binds (ps := ["first", "second"]) fun _ _ _ _ _ _ us hl => match us, hl with | [_, _], _ => rfl,
    g_divisor := PySem.W.mg_of X G a0,
    F_lowest := fun_mk (st := (topS 2)) l1 c1 k1,
    b_lowest := (fun_mk (st := (topS 2)) l1 c1 k1).binds (ps := ["a", "b"]) fun _ _ _ _ _ _ us hl => match us, hl with | [_, _], _ => rfl,
    g_lowest := PySem.W.mg_of X G a1,
    F_all_orders := fun_mk (st := (topS 3)) l2 c2 k2,
    b_all_orders := (fun_mk (st := (topS 3)) l2 c2 k2).binds (ps := ["n"]) fun _ _ _ _ _ _ us hl => match us, hl with | [_], _ => rfl,
    g_all_orders := PySem.W.mg_of X G a2,
    F_layout_cost := fun_mk (st := (topS 5)) l3 c3 k3,
    b_layout_cost := (fun_mk (st := (topS 5)) l3 c3 k3).binds (ps := ["ways", "traffic", "order"]) fun _ _ _ _ _ _ us hl => match us, hl with | [_, _, _], _ => rfl,
    g_layout_cost := PySem.W.mg_of X G a3,
    F_best_layout := fun_mk (st := (topS 6)) l4 c4 k4,
    b_best_layout := (fun_mk (st := (topS 6)) l4 c4 k4).binds (ps := ["ways", "traffic"]) fun _ _ _ _ _ _ us hl => match us, hl with | [_, _], _ => rfl,
    g_best_layout := PySem.W.mg_of X G a4,
    F_exchanged := fun_mk (st := (topS 7)) l5 c5 k5,
    b_exchanged := (fun_mk (st := (topS 7)) l5 c5 k5).binds (ps := ["order", "first", "second"]) fun _ _ _ _ _ _ us hl => match us, hl with | [_, _, _], _ => rfl,
    g_exchanged := PySem.W.mg_of X G a5,
    F_swapped_layout := fun_mk (st := (topS 8)) l6 c6 k6,
    b_swapped_layout := (fun_mk (st := (topS 8)) l6 c6 k6).binds (ps := ["ways", "traffic", "order"]) fun _ _ _ _ _ _ us hl => match us, hl with | [_, _, _], _ => rfl,
    g_swapped_layout := PySem.W.mg_of X G a6,
    F_layout_bound := fun_mk (st := (topS 9)) l7 c7 k7,
    b_layout_bound := (fun_mk (st := (topS 9)) l7 c7 k7).binds (ps := ["ways", "traffic"]) fun _ _ _ _ _ _ us hl => match us, hl with | [_, _], _ => rfl,
    g_layout_bound := PySem.W.mg_of X G a7,
    F_doubled_middles := fun_mk (st := (topS 10)) l8 c8 k8,
    b_doubled_middles := (fun_mk (st := (topS 10)) l8 c8 k8).binds (ps := ["lengths", "order"]) fun _ _ _ _ _ _ us hl => match us, hl with | [_, _], _ => rfl,
    g_doubled_middles := PySem.W.mg_of X G a8,
    F_doubled_traffic := fun_mk (st := (topS 11)) l9 c9 k9,
    b_doubled_traffic := (fun_mk (st := (topS 11)) l9 c9 k9).binds (ps := ["lengths", "traffic", "order"]) fun _ _ _ _ _ _ us hl => match us, hl with | [_, _, _], _ => rfl,
    g_doubled_traffic := PySem.W.mg_of X G a9,
    F_line_layout := fun_mk (st := (topS 12)) l10 c10 k10,
    b_line_layout := (fun_mk (st := (topS 12)) l10 c10 k10).binds (ps := ["lengths", "traffic"]) fun _ _ _ _ _ _ us hl => match us, hl with | [_, _], _ => rfl,
    g_line_layout := PySem.W.mg_of X G a10,
    F_ways_from := fun_mk (st := (topS 14)) l11 c11 k11,
    b_ways_from := (fun_mk (st := (topS 14)) l11 c11 k11).binds (ps := ["ways", "start", "goal"]) fun _ _ _ _ _ _ us hl => match us, hl with | [_, _, _], _ => rfl,
    g_ways_from := PySem.W.mg_of X G a11,
    F_best_round := fun_mk (st := (topS 15)) l12 c12 k12,
    b_best_round := (fun_mk (st := (topS 15)) l12 c12 k12).binds (ps := ["ways"]) fun _ _ _ _ _ _ us hl => match us, hl with | [_], _ => rfl,
    g_best_round := PySem.W.mg_of X G a12,
    F_best_path := fun_mk (st := (topS 16)) l13 c13 k13,
    b_best_path := (fun_mk (st := (topS 16)) l13 c13 k13).binds (ps := ["ways", "start", "goal"]) fun _ _ _ _ _ _ us hl => match us, hl with | [_, _, _], _ => rfl,
    g_best_path := PySem.W.mg_of X G a13,
    F__law_mixed := fun_mk (st := (topS 18)) l14 c14 k14,
    b__law_mixed := (fun_mk (st := (topS 18)) l14 c14 k14).binds (ps := ["script", "k"]) fun _ _ _ _ _ _ us hl => match us, hl with | [_, _], _ => rfl,
    g__law_mixed := PySem.W.mg_of X G a14,
    F__law_row := fun_mk (st := (topS 19)) l15 c15 k15,
    b__law_row := (fun_mk (st := (topS 19)) l15 c15 k15).binds (ps := ["script", "many"]) fun _ _ _ _ _ _ us hl => match us, hl with | [_, _], _ => rfl,
    g__law_row := PySem.W.mg_of X G a15,
    F__law_is_int := fun_mk (st := (topS 20)) l16 c16 k16,
    b__law_is_int := (fun_mk (st := (topS 20)) l16 c16 k16).binds (ps := ["value"]) fun _ _ _ _ _ _ us hl => match us, hl with | [_], _ => rfl,
    g__law_is_int := PySem.W.mg_of X G a16,
    F__law_like := fun_mk (st := (topS 21)) l17 c17 k17,
    b__law_like := (fun_mk (st := (topS 21)) l17 c17 k17).binds (ps := ["value", "due"]) fun _ _ _ _ _ _ us hl => match us, hl with | [_, _], _ => rfl,
    g__law_like := PySem.W.mg_of X G a17,
    F__law_orders := fun_mk (st := (topS 22)) l18 c18 k18,
    b__law_orders := (fun_mk (st := (topS 22)) l18 c18 k18).binds (ps := ["count"]) fun _ _ _ _ _ _ us hl => match us, hl with | [_], _ => rfl,
    g__law_orders := PySem.W.mg_of X G a18,
    F__law_table := fun_mk (st := (topS 23)) l19 c19 k19,
    b__law_table := (fun_mk (st := (topS 23)) l19 c19 k19).binds (ps := ["row", "n", "most", "even"]) fun _ _ _ _ _ _ us hl => match us, hl with | [_, _, _, _], _ => rfl,
    g__law_table := PySem.W.mg_of X G a19,
    F__law_cost := fun_mk (st := (topS 24)) l20 c20 k20,
    b__law_cost := (fun_mk (st := (topS 24)) l20 c20 k20).binds (ps := ["ways", "traffic", "order"]) fun _ _ _ _ _ _ us hl => match us, hl with | [_, _, _], _ => rfl,
    g__law_cost := PySem.W.mg_of X G a20,
    F__law_first := fun_mk (st := (topS 25)) l21 c21 k21,
    b__law_first := (fun_mk (st := (topS 25)) l21 c21 k21).binds (ps := ["ways", "traffic"]) fun _ _ _ _ _ _ us hl => match us, hl with | [_, _], _ => rfl,
    g__law_first := PySem.W.mg_of X G a21,
    F__law_length := fun_mk (st := (topS 26)) l22 c22 k22,
    b__law_length := (fun_mk (st := (topS 26)) l22 c22 k22).binds (ps := ["ways", "order"]) fun _ _ _ _ _ _ us hl => match us, hl with | [_, _], _ => rfl,
    g__law_length := PySem.W.mg_of X G a22,
    F__law_round_right := fun_mk (st := (topS 27)) l23 c23 k23,
    b__law_round_right := (fun_mk (st := (topS 27)) l23 c23 k23).binds (ps := ["ways"]) fun _ _ _ _ _ _ us hl => match us, hl with | [_], _ => rfl,
    g__law_round_right := PySem.W.mg_of X G a23,
    F_law := fun_mk (st := (topS 28)) l24 c24 k24,
    b_law := (fun_mk (st := (topS 28)) l24 c24 k24).binds (ps := ["script"]) fun _ _ _ _ _ _ us hl => match us, hl with | [_], _ => rfl,
    g_law := PySem.W.mg_of X G a24,
    z_abs := PySem.W.mg_none_of X G z_abs,
    z_all := PySem.W.mg_none_of X G z_all,
    z_bool := PySem.W.mg_none_of X G z_bool,
    z_enumerate := PySem.W.mg_none_of X G z_enumerate,
    z_int := PySem.W.mg_none_of X G z_int,
    z_isinstance := PySem.W.mg_none_of X G z_isinstance,
    z_len := PySem.W.mg_none_of X G z_len,
    z_list := PySem.W.mg_none_of X G z_list,
    z_max := PySem.W.mg_none_of X G z_max,
    z_min := PySem.W.mg_none_of X G z_min,
    z_range := PySem.W.mg_none_of X G z_range,
    z_sorted := PySem.W.mg_none_of X G z_sorted,
    z_str := PySem.W.mg_none_of X G z_str,
    z_sum := PySem.W.mg_none_of X G z_sum,
    z_tuple := PySem.W.mg_none_of X G z_tuple,
    z_zip := PySem.W.mg_none_of X G z_zip }
  exact ⟨_, fun s v => .of_eq rfl, fun base _ _ => ok_law T⟩
end Law
open PySem PySem.W PyProof.Rows
set_option maxHeartbeats 0 in
theorem PySem.Challenge.cw_planskept_k35_whole_round_layouts_holds : PySem.Challenge.rw_planskept_k35_whole_round_layouts.Holds := by
  w_on; o_law; k_head; (case hw => w_witness2)
  k_fill
  refine L2.walk_of (l := PySem.Challenge.rw_planskept_k35_whole_round_layouts) (n := 63) (k := 34) (x := "script") (CX := fun _ => L2.CX0) (sp := fun w => DS.spD _ 1 Law.den_law) rfl (by decide) rfl ⟨rfl, by decide, by decide⟩ (fun w h Y => PySem.W.kIn_of Y) ?F (fun w H a ns hl _ hS => DS.law_sp (Law.main ns hl) hS) (fun _ _ _ _ _ h => h)
  case F =>
    intro w mg fa h KX G hmg
    refine' Law.all_mk KX G hmg ?a0 ?l0 ?c0 ?k0 ?a1 ?l1 ?c1 ?k1 ?a2 ?l2 ?c2 ?k2 ?a3 ?l3 ?c3 ?k3 ?a4 ?l4 ?c4 ?k4 ?a5 ?l5 ?c5 ?k5 ?a6 ?l6 ?c6 ?k6 ?a7 ?l7 ?c7 ?k7 ?a8 ?l8 ?c8 ?k8 ?a9 ?l9 ?c9 ?k9 ?a10 ?l10 ?c10 ?k10 ?a11 ?l11 ?c11 ?k11 ?a12 ?l12 ?c12 ?k12 ?a13 ?l13 ?c13 ?k13 ?a14 ?l14 ?c14 ?k14 ?a15 ?l15 ?c15 ?k15 ?a16 ?l16 ?c16 ?k16 ?a17 ?l17 ?c17 ?k17 ?a18 ?l18 ?c18 ?k18 ?a19 ?l19 ?c19 ?k19 ?a20 ?l20 ?c20 ?k20 ?a21 ?l21 ?c21 ?k21 ?a22 ?l22 ?c22 ?k22 ?a23 ?l23 ?c23 ?k23 ?a24 ?l24 ?c24 ?k24 ?z_abs ?z_all ?z_bool ?z_enumerate ?z_int ?z_isinstance ?z_len ?z_list ?z_max ?z_min ?z_range ?z_sorted ?z_str ?z_sum ?z_tuple ?z_zip
    (case a0 => k_is); (case l0 => k_is); (case c0 => k_is); (case k0 => k_is); (case a1 => k_is); (case l1 => k_is); (case c1 => k_is); (case k1 => k_is); (case a2 => k_is); (case l2 => k_is); (case c2 => k_is); (case k2 => k_is); (case a3 => k_is); (case l3 => k_is); (case c3 => k_is); (case k3 => k_is); (case a4 => k_is); (case l4 => k_is); (case c4 => k_is); (case k4 => k_is); (case a5 => k_is); (case l5 => k_is); (case c5 => k_is); (case k5 => k_is); (case a6 => k_is); (case l6 => k_is); (case c6 => k_is); (case k6 => k_is); (case a7 => k_is); (case l7 => k_is); (case c7 => k_is); (case k7 => k_is); (case a8 => k_is); (case l8 => k_is); (case c8 => k_is); (case k8 => k_is); (case a9 => k_is); (case l9 => k_is); (case c9 => k_is); (case k9 => k_is); (case a10 => k_is); (case l10 => k_is); (case c10 => k_is); (case k10 => k_is); (case a11 => k_is); (case l11 => k_is); (case c11 => k_is); (case k11 => k_is); (case a12 => k_is); (case l12 => k_is); (case c12 => k_is); (case k12 => k_is); (case a13 => k_is); (case l13 => k_is); (case c13 => k_is); (case k13 => k_is); (case a14 => k_is); (case l14 => k_is); (case c14 => k_is); (case k14 => k_is); (case a15 => k_is); (case l15 => k_is); (case c15 => k_is); (case k15 => k_is); (case a16 => k_is); (case l16 => k_is); (case c16 => k_is); (case k16 => k_is); (case a17 => k_is); (case l17 => k_is); (case c17 => k_is); (case k17 => k_is); (case a18 => k_is); (case l18 => k_is); (case c18 => k_is); (case k18 => k_is); (case a19 => k_is); (case l19 => k_is); (case c19 => k_is); (case k19 => k_is); (case a20 => k_is); (case l20 => k_is); (case c20 => k_is); (case k20 => k_is); (case a21 => k_is); (case l21 => k_is); (case c21 => k_is); (case k21 => k_is); (case a22 => k_is); (case l22 => k_is); (case c22 => k_is); (case k22 => k_is); (case a23 => k_is); (case l23 => k_is); (case c23 => k_is); (case k23 => k_is); (case a24 => k_is); (case l24 => k_is); (case c24 => k_is); (case k24 => k_is); (case z_abs => k_is); (case z_all => k_is); (case z_bool => k_is); (case z_enumerate => k_is); (case z_int => k_is); (case z_isinstance => k_is); (case z_len => k_is); (case z_list => k_is); (case z_max => k_is); (case z_min => k_is); (case z_range => k_is); (case z_sorted => k_is); (case z_str => k_is); (case z_sum => k_is); (case z_tuple => k_is); (case z_zip => k_is)
end
