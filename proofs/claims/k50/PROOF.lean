import PyProof.Rows.All
import HandS.ForMost
import HandS.TupAny
import HandS.Walk
import HandS.Flow
import HandS.Nested
import HandS.Deep
import HandS.IsInst
import HandS.Wide
import HandS.WideMore
import PyProof.FitsBits
import KE.DataCmp
import KE.KTupSum
import KE.GoesNew
import HandS.Rev
import HandS.Style
import HandS.Conv
import KE.DataMinMax
import KE.SortData
import HandS.Iter
import KE.KSortTup
import HandS.SortKw
import HandS.TupMul
import HandS.Sort
import HandS.Dict
import KE.KDictDisplayH
import HandS.Strs
import KE.SortKeyHeap
import HandS.SetFor
import HandS.NoneIn
import PyProof.TupleOfSeq
import HandS.ExcValue
import HandS.More
import KE.KNestM
import HandS.EndTab
import HandS.Remove
import HandS.GenList
import PyProof.CodeObjX
import PyProof.TupleOfGen
import HandS.DictTup
import PySem.Challenge.RW_planskept_k50_whole_rents
section
set_option Elab.async false
set_option linter.all false
set_option maxRecDepth 100000
namespace DS
open PySem PySem.Spec PyProof.Rows L2
abbrev D := PyData
class Tbls where
  T : List NdefX.NTab
def notT : HO → Bool
  | .tbl _ => false
  | _ => true
class NotT (o : HO) : Prop where
  h : notT o = true
instance (xs : List V) : NotT (.lst xs) := ⟨rfl⟩
instance (xs : List V) : NotT (.tup xs) := ⟨rfl⟩
instance (kvs : List (Key × V)) : NotT (.dK kvs) := ⟨rfl⟩
instance (kvs : List (List Key × V)) : NotT (.dT kvs) := ⟨rfl⟩
instance (lo hi : Int) : NotT (.rng lo hi) := ⟨rfl⟩
instance (o : Obj) (u : HO) : NotT (.frz o u) := ⟨rfl⟩
instance (φ : Heap → Prop) : NotT (.ext φ) := ⟨rfl⟩
instance (S : Int → Bool) (n : Nat) : NotT (.set S n) := ⟨rfl⟩
structure Same [Tbls] (H H' : Hp) : Prop where
  get : ∀ b o, H b = some o → notT o = true → H' b = some o
  tab : ∀ p ∈ Tbls.T, NdefX.TabN H p.1 p.2 → NdefX.TabN H' p.1 p.2
  tbl : ∀ b ps, H b = some (.tbl ps) → ∃ ps', H' b = some (.tbl ps')
section
variable [Tbls] {H H' H1 : Hp}
theorem Same.fn (e : Same H H') (b : Addr) (o : HO) (q : H b = some o) [n : NotT o] : H' b = some o := e.get b o q n.h
instance : CoeFun (Same H H') (fun _ => ∀ (b : Addr) (o : HO) (q : H b = some o) [n : NotT o], H' b = some o) := ⟨Same.fn⟩
theorem notT_cases (o : HO) : notT o = true ∨ ∃ ps, o = .tbl ps := by
  cases o <;> first | exact .inl rfl | exact .inr ⟨_, rfl⟩
theorem Same.trk (e : Same H H') (b : Addr) (n : H b ≠ none) : H' b ≠ none := by
  cases q : H b with
  | none => exact absurd q n
  | some o =>
    rcases notT_cases o with h | ⟨ps, rfl⟩
    · rw [e.get b o q h]; simp
    · obtain ⟨ps', h⟩ := e.tbl b ps q
      rw [h]; simp
theorem Same.of (k : ∀ b o, H b = some o → H' b = some o) : Same H H' := ⟨fun b o q _ => k b o q, fun p _ t => t.ext k, fun b ps q => ⟨ps, k b _ q⟩⟩
theorem Same.refl (H : Hp) : Same H H := .of fun _ _ h => h
theorem Same.trans (a : Same H H1) (b : Same H1 H') : Same H H' := ⟨fun c o h n => b.get c o (a.get c o h n) n, fun p hp t => b.tab p hp (a.tab p hp t), fun c ps q => let ⟨ps', q'⟩ := a.tbl c ps q; b.tbl c ps' q'⟩
theorem Same.free (e : Same H H') {l : Addr} (h : H' l = Option.none) : H l = Option.none := by
  cases q : H l with
  | none => rfl
  | some o => exact absurd h (e.trk l (by rw [q]; simp))
theorem Same.seq {K : PySem.W.Frag} {a : Addr} {xs : List V} (e : Same H H') (h : SqL K H a xs) : SqL K H' a xs := by
  rcases h with (h | ⟨o, h⟩) | h
  · exact .inl (.inl (e _ _ h))
  · exact .inl (.inr ⟨o, e _ _ h⟩)
  · exact .inr h
end
def keyD : Key → D
  | .inl i => .int i
  | .inr x => .str x
mutual
inductive R (K : PySem.W.Frag) (H : Hp) : V → D → Prop
  | non : R K H .non .none
  | bl (b : Bool) : R K H (.bl b) (.bool b)
  | int (i : Int) : R K H (.int i) (.int i)
  | str (x : Str) : R K H (.str x) (.str x)
  | lst {a : Addr} {xs : List V} {ds : List D} : H a = some (.lst xs) → RA K H xs ds → R K H (.ref a) (.list ds)
  | frz {a : Addr} {xs : List V} {ds : List D} : SqL K H a xs → RA K H xs ds → R K H (.ref a) (.dict [(.none, .list ds)])
  | tup {a : Addr} {xs : List V} {ds : List D} : H a = some (.tup xs) → RA K H xs ds → R K H (.ref a) (.tuple ds)
  | rng {a : Addr} {lo hi : Int} : H a = some (.rng lo hi) → R K H (.ref a) (.dict [(.none, .tuple [.int lo, .int hi])])
  | dk {a : Addr} {kvs : List (Key × V)} {es : List (D × D)} : Rd H a (.dK kvs) → RK K H kvs es → R K H (.ref a) (.dict es)
  | dt {a : Addr} {kvs : List (List Key × V)} {es : List (D × D)} : Rd H a (.dT kvs) → RT K H kvs es → R K H (.ref a) (.dict es)
inductive RA (K : PySem.W.Frag) (H : Hp) : List V → List D → Prop
  | nil : RA K H [] []
  | cons {v : V} {d : D} {vs : List V} {ds : List D} : R K H v d → RA K H vs ds → RA K H (v :: vs) (d :: ds)
inductive RK (K : PySem.W.Frag) (H : Hp) : List (Key × V) → List (D × D) → Prop
  | nil : RK K H [] []
  | cons {k : Key} {v : V} {d : D} {vs : List (Key × V)} {ds : List (D × D)} : R K H v d → RK K H vs ds → RK K H ((k, v) :: vs) ((keyD k, d) :: ds)
inductive RT (K : PySem.W.Frag) (H : Hp) : List (List Key × V) → List (D × D) → Prop
  | nil : RT K H [] []
  | cons {k : List Key} {v : V} {d : D} {vs : List (List Key × V)} {ds : List (D × D)} : R K H v d → RT K H vs ds → RT K H ((k, v) :: vs) ((.tuple (k.map keyD), d) :: ds)
end
section
variable [Tbls] {K : PySem.W.Frag} {H H' : Hp}
theorem seqT_mono {a : Addr} {xs : List V} (e : Same H H') (h : SqT K H a xs) : SqT K H' a xs := by
  rcases h with (h | ⟨o, h⟩) | h
  · exact .inl (.inl (e _ _ h))
  · exact .inl (.inr ⟨o, e _ _ h⟩)
  · exact .inr h
theorem rd_mono {a : Addr} {u : HO} [NotT u] (e : Same H H') (h : Rd H a u) : Rd H' a u := by
  rcases h with h | ⟨o, h⟩
  · exact .inl (e _ _ h)
  · exact .inr ⟨o, e _ _ h⟩
mutual
theorem R.mono (e : Same H H') : ∀ {v : V} {d : D}, R K H v d → R K H' v d
  | _, _, .non => .non
  | _, _, .bl b => .bl b
  | _, _, .int i => .int i
  | _, _, .str x => .str x
  | _, _, .lst h a => .lst (e _ _ h) (RA.mono e a)
  | _, _, .frz h a => .frz (e.seq h) (RA.mono e a)
  | _, _, .tup h a => .tup (e _ _ h) (RA.mono e a)
  | _, _, .rng h => .rng (e _ _ h)
  | _, _, .dk h a => .dk (rd_mono e h) (RK.mono e a)
  | _, _, .dt h a => .dt (rd_mono e h) (RT.mono e a)
theorem RA.mono (e : Same H H') : ∀ {v : List V} {d : List D}, RA K H v d → RA K H' v d
  | _, _, .nil => .nil
  | _, _, .cons h t => .cons (R.mono e h) (RA.mono e t)
theorem RK.mono (e : Same H H') : ∀ {v : List (Key × V)} {d : List (D × D)}, RK K H v d → RK K H' v d
  | _, _, .nil => .nil
  | _, _, .cons h t => .cons (R.mono e h) (RK.mono e t)
theorem RT.mono (e : Same H H') : ∀ {v : List (List Key × V)} {d : List (D × D)}, RT K H v d → RT K H' v d
  | _, _, .nil => .nil
  | _, _, .cons h t => .cons (R.mono e h) (RT.mono e t)
end
theorem RA.length : ∀ {v : List V} {d : List D}, RA K H v d → v.length = d.length
  | _, _, .nil => rfl
  | _, _, .cons _ t => congrArg (· + 1) (RA.length t)
theorem RA.get : ∀ {v : List V} {d : List D} {i : Nat} {x : D}, RA K H v d → d[i]? = some x → ∃ y, v[i]? = some y ∧ R K H y x
  | _, _, _, _, .nil, h => by simp at h
  | _, _, 0, x, .cons h t, e => by simp at e; subst e; exact ⟨_, rfl, h⟩
  | _, _, i + 1, x, .cons h t, e => by
    obtain ⟨y, a, b⟩ := RA.get (i := i) (x := x) t (by simpa using e)
    exact ⟨y, by simpa using a, b⟩
theorem RA.append : ∀ {v w : List V} {d e : List D}, RA K H v d → RA K H w e → RA K H (v ++ w) (d ++ e)
  | _, _, _, _, .nil, q => q
  | _, _, _, _, .cons h t, q => .cons h (RA.append t q)
theorem RA.set {y : V} {x : D} (r : R K H y x) : ∀ {v : List V} {d : List D} (i : Nat), RA K H v d → RA K H (v.set i y) (d.set i x)
  | _, _, _, .nil => .nil
  | _, _, 0, .cons h t => .cons r t
  | _, _, i + 1, .cons h t => .cons h (RA.set r i t)
theorem RA.drop : ∀ {v : List V} {d : List D} (n : Nat), RA K H v d → RA K H (v.drop n) (d.drop n)
  | _, _, 0, h => h
  | _, _, n + 1, .nil => .nil
  | _, _, n + 1, .cons _ t => RA.drop n t
theorem RA.take : ∀ {v : List V} {d : List D} (n : Nat), RA K H v d → RA K H (v.take n) (d.take n)
  | _, _, 0, h => .nil
  | _, _, n + 1, .nil => .nil
  | _, _, n + 1, .cons h t => .cons h (RA.take n t)
theorem RA.reverse : ∀ {v : List V} {d : List D}, RA K H v d → RA K H v.reverse d.reverse
  | _, _, .nil => .nil
  | _, _, .cons h t => by
    rw [List.reverse_cons, List.reverse_cons]
    exact (RA.reverse t).append (.cons h .nil)
theorem RA.rep {v : List V} {d : List D} (h : RA K H v d) : ∀ n : Nat, RA K H (List.replicate n v).flatten (List.replicate n d).flatten
  | 0 => .nil
  | n + 1 => by
    rw [List.replicate_succ, List.replicate_succ, List.flatten_cons, List.flatten_cons]
    exact h.append (h.rep n)
theorem R.int' {v : V} {i : Int} (h : R K H v (.int i)) : v = .int i := by cases h; rfl
theorem R.bl' {v : V} {i : Bool} (h : R K H v (.bool i)) : v = .bl i := by cases h; rfl
theorem R.non' {v : V} (h : R K H v .none) : v = .non := by cases h; rfl
theorem R.str' {v : V} {i : Str} (h : R K H v (.str i)) : v = .str i := by cases h; rfl
theorem RA.ints : ∀ {ns : List Int} {v : List V}, RA K H v (ns.map PyData.int) → v = ns.map V.int
  | [], _, .nil => rfl
  | n :: r, _, .cons h t => by
    rw [h.int', RA.ints t]; rfl
theorem RA.bools : ∀ {ns : List Bool} {v : List V}, RA K H v (ns.map PyData.bool) → v = ns.map V.bl
  | [], _, .nil => rfl
  | n :: r, _, .cons h t => by
    rw [h.bl', RA.bools t]; rfl
theorem RA.ofInts : ∀ (ns : List Int), RA K H (ns.map V.int) (ns.map PyData.int)
  | [] => .nil
  | n :: r => .cons (.int n) (RA.ofInts r)
end
mutual
def flat : D → Bool
  | .none => true
  | .bool _ => true
  | .int _ => true
  | .str _ => true
  | .tuple xs => flats xs
  | .list _ => false
  | .dict _ => false
def flats : List D → Bool
  | [] => true
  | x :: xs => flat x && flats xs
end
def mutO : HO → Bool
  | .lst _ => true
  | .dK _ => true
  | .dT _ => true
  | _ => false
def hid (B : List Addr) (H : Hp) : Hp := fun a => match H a with
  | some o => if (decide (a ∈ B) && mutO o) = true then none else some o
  | none => none
section
variable {B B' : List Addr} {H H' : Hp} {a : Addr} {o : HO}
theorem hid_in (h : a ∈ B) (h' : H a = some o) (m : mutO o = true) : hid B H a = none := by
  unfold hid
  rw [h']
  simp [h, m]
theorem hid_out (h : a ∉ B) : hid B H a = H a := by
  unfold hid
  cases H a with
  | none => rfl
  | some o => simp [h]
theorem hid_of (h : H a = some o) (n : mutO o = true → a ∉ B) : hid B H a = some o := by
  unfold hid
  rw [h]
  show (if (decide (a ∈ B) && mutO o) = true then none else some o) = some o
  rw [if_neg]
  rw [Bool.and_eq_true, decide_eq_true_eq]
  exact fun ⟨z1, z2⟩ => n z2 z1
theorem hid_some (h : hid B H a = some o) : (mutO o = true → a ∉ B) ∧ H a = some o := by
  unfold hid at h
  cases q : H a with
  | none => rw [q] at h; cases h
  | some o' =>
    rw [q] at h
    have h : (if (decide (a ∈ B) && mutO o') = true then none else some o') = some o := h
    split at h
    · cases h
    · rename_i n
      cases h
      exact ⟨fun m z => n (by simp [m, z]), rfl⟩
theorem hid_nil : hid [] H = H := by
  funext a
  exact hid_out (by simp)
theorem tabN_hid {P : Addr} {nm : Nat → Nat → Str} : NdefX.TabN (hid B H) P nm ↔ NdefX.TabN H P nm := by
  constructor
  · rintro ⟨ps, h1, h2, h3⟩
    exact ⟨ps, (hid_some h1).2, h2, fun pos cv hc => let ⟨c, e1, e2⟩ := h3 pos cv hc; ⟨c, e1, (hid_some e2).2⟩⟩
  · rintro ⟨ps, h1, h2, h3⟩
    exact ⟨ps, hid_of h1 (fun z => by cases z), h2, fun pos cv hc => let ⟨c, e1, e2⟩ := h3 pos cv hc; ⟨c, e1, hid_of e2 (fun z => by cases z)⟩⟩
def plainO : HO → Bool
  | .tbl _ => false
  | .ext _ => false
  | _ => true
theorem mut_plain {o : HO} (h : mutO o = true) : plainO o = true := by
  cases o <;> first | rfl | cases h
theorem tabN_upd {P : Addr} {nm : Nat → Nat → Str} {u : HO} (h : H a = some o) (m : plainO o = true) (t : NdefX.TabN H P nm) : NdefX.TabN (upd H a u) P nm := by
  obtain ⟨ps, h1, h2, h3⟩ := t
  have ne : ∀ b x, H b = some x → plainO x = false → b ≠ a := fun b x e n z => by
    rw [z, h] at e
    cases e
    rw [m] at n
    cases n
  exact ⟨ps, by rw [upd_ne (ne _ _ h1 rfl)]; exact h1, h2, fun pos cv hc => let ⟨c, e1, e2⟩ := h3 pos cv hc; ⟨c, e1, by rw [upd_ne (ne _ _ e2 rfl)]; exact e2⟩⟩
variable [Tbls]
theorem same_hidW (e : Same H H') (h : ∀ a ∈ B', a ∈ B ∨ H a = none) : Same (hid B H) (hid B' H') := by
  refine ⟨fun b o q n => ?_, fun p hp t => tabN_hid.mpr (e.tab p hp (tabN_hid.mp t)), fun b ps q => ?_⟩
  · obtain ⟨q1, q2⟩ := hid_some q
    exact hid_of (e.get _ _ q2 n) fun m z => (h b z).elim (q1 m) fun n => by rw [n] at q2; cases q2
  · obtain ⟨ps', q'⟩ := e.tbl b ps (hid_some q).2
    exact ⟨ps', hid_of q' fun z => by cases z⟩
theorem same_hid (e : Same H H') : Same (hid B H) (hid B H') := same_hidW e fun _ h => .inl h
theorem same_unhid : Same (hid B H) H := .of fun b o q => (hid_some q).2
theorem same_upd (h : H a = none) : Same H (upd H a o) := .of fun b x e => by
  rw [upd_ne (ne_of_none e h)]; exact e
theorem ne_mut {b : Addr} {x o : HO} (e : H b = some x) (h : H a = some o) (d : mutO x = true → mutO o = true → b ≠ a) (m : mutO o = true) : b ≠ a := by
  intro z
  have : x = o := by rw [z, h] at e; exact (Option.some.inj e).symm
  subst this
  exact d m m z
theorem same_hidU {u : HO} (hB : a ∈ B) (h : H a = some o) (m : mutO o = true) : Same (hid B H) (hid B (upd H a u)) := .of fun b x e => by
  obtain ⟨q1, q2⟩ := hid_some e
  have ne : b ≠ a := ne_mut q2 h (fun mx _ z => q1 mx (z ▸ hB)) m
  exact hid_of (by rw [upd_ne ne]; exact q2) q1
theorem same_set {u : HO} (e : Same H H') (hn : H a = none) (h : H' a = some o) (m : mutO o = true) : Same H (upd H' a u) := ⟨fun b x q n => by
  rw [upd_ne (ne_of_none q hn)]
  exact e.get b x q n, fun p hp t => tabN_upd h (mut_plain m) (e.tab p hp t), fun b ps q => by
  rw [upd_ne (ne_of_none q hn)]
  exact e.tbl b ps q⟩
def Trk (B : List Addr) (H : Hp) : Prop := ∀ a ∈ B, H a ≠ none
theorem Trk.mono (t : Trk B H) (e : Same H H') : Trk B H' := fun a h => e.trk a (t a h)
theorem Trk.new (t : Trk B H) (n : H a = none) : a ∉ B := fun h => t a h n
theorem Trk.nil : Trk [] H := fun _ h => by simp at h
end
def Ok (B : List Addr) (H : Hp) : Prop := ∀ a ∈ B, ∃ o, H a = some o ∧ mutO o = true
theorem Ok.nil {H : Hp} : Ok [] H := fun _ h => by simp at h
theorem mut_notT {o : HO} (h : mutO o = true) : notT o = true := by
  cases o <;> first | rfl | cases h
theorem Ok.mono [Tbls] {B : List Addr} {H H' : Hp} (k : Ok B H) (e : Same H H') : Ok B H' := fun a h => by
  obtain ⟨o, h1, h2⟩ := k a h
  exact ⟨o, e.get _ _ h1 (mut_notT h2), h2⟩
def Tb [Tbls] (H : Hp) : Prop := ∀ p ∈ Tbls.T, NdefX.TabN H p.1 p.2
theorem Same.tb [Tbls] {H H' : Hp} (e : Same H H') (t : Tb H) : Tb H' := fun p hp => e.tab p hp (t p hp)
theorem Tb.upd [Tbls] {H : Hp} {a : Addr} {o u : HO} (t : Tb H) (h : H a = some o) (m : plainO o = true) : Tb (upd H a u) := fun p hp => tabN_upd h m (t p hp)
theorem Ok.same [Tbls] {B : List Addr} {H H' : Hp} {a : Addr} (k : Ok B H) (e : Same H H') (ha : a ∈ B) : H' a = H a := by
  obtain ⟨o, h1, h2⟩ := k a ha
  rw [h1, e.get _ _ h1 (mut_notT h2)]
theorem same_hidI [Tbls] {B' : List Addr} {H H' : Hp} (e : Same H H') (h : ∀ a ∈ B', H a = none) : Same H (hid B' H') := by
  have := same_hidW (B := []) e fun a ha => .inr (h a ha)
  rwa [hid_nil] at this
theorem Ok.hid {B C : List Addr} {H : Hp} {a : Addr} (k : Ok B H) (ha : a ∈ B) (hc : a ∈ C) : DS.hid C H a = none := by
  obtain ⟨o, h1, h2⟩ := k a ha
  exact hid_in hc h1 h2
theorem Ok.sub {B B' : List Addr} {H : Hp} (k : Ok B H) (h : ∀ a ∈ B', a ∈ B) : Ok B' H := fun a q => k a (h a q)
theorem Ok.cons {B : List Addr} {H : Hp} {a : Addr} {o : HO} (k : Ok B H) (h : H a = some o) (m : mutO o = true) : Ok (a :: B) H := fun b q => by
  rcases List.mem_cons.mp q with e | q
  · rw [e]; exact ⟨o, h, m⟩
  · exact k b q
theorem Ok.append {B B' : List Addr} {H : Hp} (k : Ok B H) (k' : Ok B' H) : Ok (B ++ B') H := fun b q => (List.mem_append.mp q).elim (k b) (k' b)
theorem Ok.trk {B : List Addr} {H : Hp} (k : Ok B H) : Trk B H := fun a h z => by
  obtain ⟨o, h1, _⟩ := k a h
  rw [z] at h1; cases h1
def NoTup (B : List Addr) (H : Hp) : Prop := ∀ a ∈ B, ∀ xs, ¬ Rd H a (.tup xs)
theorem Ok.noTup {B : List Addr} {H : Hp} (k : Ok B H) : NoTup B H := fun a h xs r => by
  obtain ⟨o, h1, h2⟩ := k a h
  rcases r with r | ⟨u, r⟩
  · rw [r] at h1; cases h1; cases h2
  · rw [r] at h1; cases h1; cases h2
mutual
theorem R.hidF {K : PySem.W.Frag} {B : List Addr} {H : Hp} (n : NoTup B H) : ∀ {v : V} {d : D}, R K H v d → flat d = true → R K (hid B H) v d
  | _, _, .non, _ => .non
  | _, _, .bl b, _ => .bl b
  | _, _, .int i, _ => .int i
  | _, _, .str x, _ => .str x
  | _, _, .lst h a, f => by simp [flat] at f
  | _, _, .frz h a, f => by simp [flat] at f
  | _, _, .rng h, f => by simp [flat] at f
  | _, _, .tup h a, f => .tup (by rw [hid_out fun z => n _ z _ (.inl h)]; exact h) (RA.hidF n a (by simpa [flat] using f))
  | _, _, .dk h a, f => by simp [flat] at f
  | _, _, .dt h a, f => by simp [flat] at f
theorem RA.hidF {K : PySem.W.Frag} {B : List Addr} {H : Hp} (n : NoTup B H) : ∀ {v : List V} {d : List D}, RA K H v d → flats d = true → RA K (hid B H) v d
  | _, _, .nil, _ => .nil
  | _, _, .cons h t, f => by
    unfold flats at f
    rw [Bool.and_eq_true] at f
    exact .cons (R.hidF n h f.1) (RA.hidF n t f.2)
end
end DS
end
section
set_option Elab.async false
set_option linter.all false
set_option maxRecDepth 100000
namespace DS
open PySem PySem.Spec PyProof.Rows L2
variable [Tbls]
def isTop : D → Bool
  | .list _ => true
  | .dict ((.none, _) :: _) => false
  | .dict _ => true
  | _ => false
section
variable (K : PySem.W.Frag) (B : List Addr) (H : Hp)
inductive RL : Nat → V → D → Prop
  | z {m : Nat} {v : V} {d : D} : R K (hid B H) v d → RL m v d
  | l {m : Nat} {a : Addr} {xs : List V} {ds : List D} : H a = some (.lst xs) → xs.length = ds.length → (∀ (i : Nat) (x : V) (d : D), xs[i]? = some x → ds[i]? = some d → RL m x d) → RL (m + 1) (.ref a) (.list ds)
  | dk {m : Nat} {a : Addr} {kvs : List (Key × V)} {es : List (D × D)} : H a = some (.dK kvs) → RK K (hid B H) kvs es → RL (m + 1) (.ref a) (.dict es)
  | dt {m : Nat} {a : Addr} {kvs : List (List Key × V)} {es : List (D × D)} : H a = some (.dT kvs) → RT K (hid B H) kvs es → RL (m + 1) (.ref a) (.dict es)
mutual
inductive RO : Nat → List Addr → V → D → Prop
  | z {l : Nat} {v : V} {d : D} : (l = 0 ∨ isTop d = false) → R K (hid B H) v d → RO l [] v d
  | l {l : Nat} {a : Addr} {os : List (List Addr)} {xs : List V} {ds : List D} : H a = some (.lst xs) → ROA l os xs ds → RO (l + 1) (a :: os.flatten) (.ref a) (.list ds)
  | dk {l : Nat} {a : Addr} {kvs : List (Key × V)} {es : List (D × D)} : isTop (.dict es) = true → H a = some (.dK kvs) → RK K (hid B H) kvs es → RO (l + 1) [a] (.ref a) (.dict es)
  | dt {l : Nat} {a : Addr} {kvs : List (List Key × V)} {es : List (D × D)} : isTop (.dict es) = true → H a = some (.dT kvs) → RT K (hid B H) kvs es → RO (l + 1) [a] (.ref a) (.dict es)
inductive ROA : Nat → List (List Addr) → List V → List D → Prop
  | nil {l : Nat} : ROA l [] [] []
  | cons {l : Nat} {o : List Addr} {os : List (List Addr)} {v : V} {d : D} {vs : List V} {ds : List D} : RO l o v d → ROA l os vs ds → ROA l (o :: os) (v :: vs) (d :: ds)
end
end
section
variable {K : PySem.W.Frag} {B B' : List Addr} {H H' : Hp}
theorem RL.r {v : V} {d : D} (h : RL K B H 0 v d) : R K (hid B H) v d := by
  cases h; assumption
theorem RL.up {m n : Nat} {v : V} {d : D} (h : RL K B H m v d) : m ≤ n → RL K B H n v d := by
  induction h generalizing n with
  | z r => intro _; exact .z r
  | l h1 h2 _ ih =>
    intro hn
    obtain ⟨k, rfl⟩ : ∃ k, n = k + 1 := ⟨n - 1, by omega⟩
    exact .l h1 h2 fun i x d e1 e2 => ih i x d e1 e2 (by omega)
  | dk h1 h2 =>
    intro hn
    obtain ⟨k, rfl⟩ : ∃ k, n = k + 1 := ⟨n - 1, by omega⟩
    exact .dk h1 h2
  | dt h1 h2 =>
    intro hn
    obtain ⟨k, rfl⟩ : ∃ k, n = k + 1 := ⟨n - 1, by omega⟩
    exact .dt h1 h2
theorem RL.mono (e : Same H H') (eh : Same (hid B H) (hid B' H')) {m : Nat} {v : V} {d : D} (h : RL K B H m v d) : RL K B' H' m v d := by
  induction h with
  | z r => exact .z (r.mono eh)
  | l h1 h2 _ ih => exact .l (e _ _ h1) h2 ih
  | dk h1 h2 => exact .dk (e _ _ h1) (h2.mono eh)
  | dt h1 h2 => exact .dt (e _ _ h1) (h2.mono eh)
theorem RA.of_get : ∀ {xs : List V} {ds : List D}, xs.length = ds.length → (∀ (i : Nat) (x : V) (d : D), xs[i]? = some x → ds[i]? = some d → R K H x d) → RA K H xs ds
  | [], [], _, _ => .nil
  | [], _ :: _, h, _ => by simp at h
  | _ :: _, [], h, _ => by simp at h
  | x :: xs, d :: ds, h, g => .cons (g 0 x d rfl rfl) (RA.of_get (by simpa using h) fun i y e h1 h2 => g (i + 1) y e (by simpa using h1) (by simpa using h2))
theorem RL.open {m : Nat} {v : V} {d : D} (h : RL K B H m v d) : R K H v d := by
  induction h with
  | z r => exact r.mono same_unhid
  | l h1 h2 _ ih => exact .lst h1 (RA.of_get h2 ih)
  | dk h1 h2 => exact .dk (.inl h1) (h2.mono same_unhid)
  | dt h1 h2 => exact .dt (.inl h1) (h2.mono same_unhid)
theorem RL.list {m : Nat} {v : V} {ds : List D} (h : RL K B H (m + 1) v (.list ds)) : ∃ a xs, v = .ref a ∧ H a = some (.lst xs) ∧ xs.length = ds.length ∧ ∀ (i : Nat) (x : V) (d : D), xs[i]? = some x → ds[i]? = some d → RL K B H m x d := by
  cases h with
  | z r =>
    cases r with
    | lst h1 h2 =>
      refine ⟨_, _, rfl, (hid_some h1).2, h2.length, fun i x d e1 e2 => .z ?_⟩
      obtain ⟨y, e3, r⟩ := h2.get e2
      rw [e1] at e3; cases e3; exact r
  | l h1 h2 h3 => exact ⟨_, _, rfl, h1, h2, h3⟩
theorem RL.list1 {v : V} {ds : List D} (h : RL K B H 1 v (.list ds)) : ∃ a xs, v = .ref a ∧ H a = some (.lst xs) ∧ RA K (hid B H) xs ds := by
  obtain ⟨a, xs, e, h1, h2, h3⟩ := h.list
  exact ⟨a, xs, e, h1, RA.of_get h2 fun i x d e1 e2 => (h3 i x d e1 e2).r⟩
theorem RL.tup {m : Nat} {v : V} {ds : List D} (h : RL K B H m v (.tuple ds)) : ∃ a xs, v = .ref a ∧ SqT K H a xs ∧ hid B H a = some (.tup xs) ∧ RA K (hid B H) xs ds := by
  cases h with
  | z r =>
    cases r with
    | tup h1 h2 => exact ⟨_, _, rfl, .inl (.inl (hid_some h1).2), h1, h2⟩
theorem RL.int {m : Nat} {v : V} {i : Int} (h : RL K B H m v (.int i)) : v = .int i := by
  cases h with
  | z r => exact r.int'
theorem RL.bl {m : Nat} {v : V} {i : Bool} (h : RL K B H m v (.bool i)) : v = .bl i := by
  cases h with
  | z r => exact r.bl'
theorem RL.non {m : Nat} {v : V} (h : RL K B H m v .none) : v = .non := by
  cases h with
  | z r => exact r.non'
theorem RL.str {m : Nat} {v : V} {i : Str} (h : RL K B H m v (.str i)) : v = .str i := by
  cases h with
  | z r => exact r.str'
theorem RO.toR_aux {l : Nat} {o : List Addr} {v : V} {d : D} (h : RO K B H l o v d) : (∀ a ∈ B', a ∈ B ∧ a ∉ o) → R K (hid B' H) v d := by
  refine RO.rec (K := K) (B := B) (H := H) (motive_1 := fun l o v d _ => (∀ a ∈ B', a ∈ B ∧ a ∉ o) → R K (hid B' H) v d)
    (motive_2 := fun l os vs ds _ => (∀ a ∈ B', a ∈ B ∧ a ∉ os.flatten) → RA K (hid B' H) vs ds) ?_ ?_ ?_ ?_ ?_ ?_ h
  · intro l v d _ r hb
    exact r.mono (same_hidW (Same.refl H) fun a h => .inl (hb a h).1)
  · intro l a os xs ds h1 _ ih hb
    refine .lst (a := a) (xs := xs) ?_ (ih fun b q => ⟨(hb b q).1, fun z => (hb b q).2 (List.mem_cons_of_mem _ z)⟩)
    rw [hid_out fun z => (hb _ z).2 List.mem_cons_self]; exact h1
  · intro l a kvs es _ h1 h2 hb
    refine .dk (a := a) (kvs := kvs) ?_ (h2.mono (same_hidW (Same.refl H) fun a h => .inl (hb a h).1))
    rw [Rd, hid_out fun z => (hb _ z).2 List.mem_cons_self]; exact .inl h1
  · intro l a kvs es _ h1 h2 hb
    refine .dt (a := a) (kvs := kvs) ?_ (h2.mono (same_hidW (Same.refl H) fun a h => .inl (hb a h).1))
    rw [Rd, hid_out fun z => (hb _ z).2 List.mem_cons_self]; exact .inl h1
  · intro l _
    exact .nil
  · intro l o os v d vs ds _ _ ih1 ih2 hb
    exact .cons (ih1 fun a q => ⟨(hb a q).1, fun z => (hb a q).2 (by rw [List.flatten_cons]; exact List.mem_append_left _ z)⟩) (ih2 fun a q => ⟨(hb a q).1, fun z => (hb a q).2 (by rw [List.flatten_cons]; exact List.mem_append_right _ z)⟩)
theorem RO.toRL_aux {l : Nat} {o : List Addr} {v : V} {d : D} (h : RO K B H l o v d) : RL K B H l v d := by
  refine RO.rec (K := K) (B := B) (H := H) (motive_1 := fun l o v d _ => RL K B H l v d)
    (motive_2 := fun l os vs ds _ => vs.length = ds.length ∧ ∀ (i : Nat) (x : V) (d : D), vs[i]? = some x → ds[i]? = some d → RL K B H l x d) ?_ ?_ ?_ ?_ ?_ ?_ h
  · intro l v d _ r
    exact .z r
  · intro l a os xs ds h1 _ ih
    exact .l h1 ih.1 ih.2
  · intro l a kvs es _ h1 h2
    exact .dk h1 h2
  · intro l a kvs es _ h1 h2
    exact .dt h1 h2
  · intro l
    exact ⟨rfl, fun i x d e1 _ => by simp at e1⟩
  · intro l o os v d vs ds _ _ ih1 ih2
    refine ⟨by simp [ih2.1], fun i x d e1 e2 => ?_⟩
    cases i with
    | zero => simp at e1 e2; subst e1; subst e2; exact ih1
    | succ i => exact ih2.2 i x d (by simpa using e1) (by simpa using e2)
theorem RO.mono_aux {l : Nat} {o : List Addr} {v : V} {d : D} (h : RO K B H l o v d) (eh : Same (hid B H) (hid B' H')) : (∀ a ∈ o, H' a = H a) → RO K B' H' l o v d := by
  refine RO.rec (K := K) (B := B) (H := H) (motive_1 := fun l o v d _ => (∀ a ∈ o, H' a = H a) → RO K B' H' l o v d)
    (motive_2 := fun l os vs ds _ => (∀ a ∈ os.flatten, H' a = H a) → ROA K B' H' l os vs ds) ?_ ?_ ?_ ?_ ?_ ?_ h
  · intro l v d hl r _
    exact .z hl (r.mono eh)
  · intro l a os xs ds h1 _ ih hb
    exact .l ((hb a List.mem_cons_self).trans h1) (ih fun b q => hb b (List.mem_cons_of_mem _ q))
  · intro l a kvs es ht h1 h2 hb
    exact .dk ht ((hb a List.mem_cons_self).trans h1) (h2.mono eh)
  · intro l a kvs es ht h1 h2 hb
    exact .dt ht ((hb a List.mem_cons_self).trans h1) (h2.mono eh)
  · intro l _
    exact .nil
  · intro l o os v d vs ds _ _ ih1 ih2 hb
    exact .cons (ih1 fun a q => hb a (by rw [List.flatten_cons]; exact List.mem_append_left _ q)) (ih2 fun a q => hb a (by rw [List.flatten_cons]; exact List.mem_append_right _ q))
theorem RO.mut_aux {l : Nat} {o : List Addr} {v : V} {d : D} (h : RO K B H l o v d) : Ok o H := by
  refine RO.rec (K := K) (B := B) (H := H) (motive_1 := fun l o v d _ => Ok o H)
    (motive_2 := fun l os vs ds _ => Ok os.flatten H) ?_ ?_ ?_ ?_ ?_ ?_ h
  · intro l v d hl r
    exact Ok.nil
  · intro l a os xs ds h1 _ ih
    exact ih.cons h1 rfl
  · intro l a kvs es ht h1 h2
    exact Ok.nil.cons h1 rfl
  · intro l a kvs es ht h1 h2
    exact Ok.nil.cons h1 rfl
  · intro l
    exact Ok.nil
  · intro l o os v d vs ds _ _ ih1 ih2
    rw [List.flatten_cons]; exact ih1.append ih2
theorem ROA.of_RA : ∀ {vs : List V} {ds : List D}, RA K (hid B H) vs ds → ROA K B H 0 (vs.map fun _ => []) vs ds
  | _, _, .nil => .nil
  | _, _, .cons h t => .cons (.z (.inl rfl) h) (ROA.of_RA t)
theorem flat_map_nil {α β : Type} : ∀ (l : List α), (l.map fun _ => ([] : List β)).flatten = []
  | [] => rfl
  | _ :: r => by rw [List.map_cons, List.flatten_cons, flat_map_nil r]; rfl
theorem RO.l1 {a : Addr} {xs : List V} {ds : List D} (h1 : H a = some (.lst xs)) (h2 : RA K (hid B H) xs ds) : RO K B H 1 [a] (.ref a) (.list ds) := by
  have := RO.l (l := 0) h1 (ROA.of_RA h2)
  rw [flat_map_nil] at this
  exact this
end
inductive Mo where
    | br (m : Nat)
    | fr | fr2
def Mo.one : Mo → Bool
  | .fr2 => false
  | _ => true
def Post (K : PySem.W.Frag) (B : List Addr) (H0 H' : Hp) : Mo → V → D → Prop
  | .br m, v, d => RL K B H' m v d
  | .fr, v, d => ∃ o : List Addr, (∀ a ∈ o, H0 a = none) ∧ o.Nodup ∧ RO K (o ++ B) H' 1 o v d
  | .fr2, v, d => ∃ o : List Addr, (∀ a ∈ o, H0 a = none) ∧ o.Nodup ∧ RO K (o ++ B) H' 2 o v d
section
variable {K : PySem.W.Frag} {B B' : List Addr} {H H0 H' : Hp}
theorem Post.of_flat {κ : Mo} {v : V} {d : D} (h : R K (hid B H') v d) (f : isTop d = false) : Post K B H0 H' κ v d := by
  cases κ with
  | br m => exact .z h
  | fr => exact ⟨[], by simp, List.nodup_nil, .z (.inr f) h⟩
  | fr2 => exact ⟨[], by simp, List.nodup_nil, .z (.inr f) h⟩
theorem Post.weak {m : Nat} {v : V} {d : D} (t : Trk B H0) (h : Post K B H0 H' .fr v d) : Post K B H0 H' (.br m) v d := by
  obtain ⟨o, h1, h2, h3⟩ := h
  exact .z (h3.toR_aux fun a q => ⟨List.mem_append_right _ q, fun z => t a q (h1 a z)⟩)
theorem Post.new {κ : Mo} {p : Addr} {xs : List V} {ds : List D} (t : Trk B H0) (hn : H0 p = none) (h : H' p = some (.lst xs)) (r : RA K (hid (p :: B) H') xs ds) (hκ : κ.one = true) : Post K B H0 H' κ (.ref p) (.list ds) := by
  have f : Post K B H0 H' .fr (.ref p) (.list ds) := ⟨[p], by simpa using hn, by simp, RO.l1 h r⟩
  cases κ with
  | br m => exact f.weak t
  | fr => exact f
  | fr2 => cases hκ
end
end DS
end
section
set_option Elab.async false
set_option linter.all false
set_option maxRecDepth 100000
namespace DS
open PySem PySem.Spec PyProof.Rows L2
variable [Tbls]
abbrev St := List (Option V)
abbrev PEnv := List (Option D)
abbrev FE := PEnv → Option D
abbrev FA := PEnv → Option (List D)
abbrev FT := PEnv → Option Bool
abbrev Esc := List (Nat × Nat)
def EscOk (es : Esc) (L : Nat → Nat) : Prop := ∀ p ∈ es, L p.1 ≤ p.2
theorem EscOk.zero {es : Esc} : EscOk es fun _ => 0 := fun _ _ => Nat.zero_le _
theorem EscOk.left {es es' : Esc} {L : Nat → Nat} (h : EscOk (es ++ es') L) : EscOk es L := fun p q => h p (List.mem_append_left _ q)
theorem EscOk.right {es es' : Esc} {L : Nat → Nat} (h : EscOk (es ++ es') L) : EscOk es' L := fun p q => h p (List.mem_append_right _ q)
theorem EscOk.nil {L : Nat → Nat} : EscOk [] L := fun _ q => by simp at q
structure Good (K : PySem.W.Frag) (B : List Addr) (L : Nat → Nat) (σ : St) (H : Hp) (ρ : PEnv) : Prop where
  ok : Ok B H
  len : σ.length = ρ.length
  slot : ∀ (i : Nat) (d : D), ρ[i]? = some (some d) → ∃ v, σ[i]? = some (some v) ∧ RL K B H (L i) v d
  tabs : Tb H
section
variable {K : PySem.W.Frag} {B : List Addr} {L : Nat → Nat} {σ : St} {H H' : Hp} {ρ : PEnv}
theorem Good.mono (g : Good K B L σ H ρ) (e : Same H H') : Good K B L σ H' ρ :=
  ⟨g.ok.mono e, g.len, fun i d h => let ⟨v, h1, h2⟩ := g.slot i d h; ⟨v, h1, h2.mono e (same_hid e)⟩, e.tb g.tabs⟩
theorem Good.zero (g : Good K B L σ H ρ) : Good K [] (fun _ => 0) σ H ρ :=
  ⟨Ok.nil, g.len, fun i d h => let ⟨v, h1, h2⟩ := g.slot i d h; ⟨v, h1, .z (by rw [hid_nil]; exact h2.open)⟩, g.tabs⟩
end
def tD (K : PySem.W.Frag) (κ : Mo) (f : FE) (es : Esc) : TE := fun σ H Q => ∃ B L ρ d, Good K B L σ H ρ ∧ EscOk es L ∧ f ρ = some d ∧ ∀ v H', Same H H' → Post K B H H' κ v d → Q v H'
def tDA (K : PySem.W.Frag) (m : Nat) (f : FA) (es : Esc) : TA := fun σ H Q => ∃ B L ρ ds, Good K B L σ H ρ ∧ EscOk es L ∧ f ρ = some ds ∧ ∀ vs H', Same H H' → vs.length = ds.length → (∀ (i : Nat) (x : V) (d : D), vs[i]? = some x → ds[i]? = some d → RL K B H' m x d) → Q vs H'
def tT (K : PySem.W.Frag) (f : FT) : TT := fun σ H Q => ∃ B L ρ b, Good K B L σ H ρ ∧ f ρ = some b ∧ ∀ H', Same H H' → Q b H'
theorem _root_.L2.PE.imp {X : Cx} {e : Expr} {t t' : TE} (h : PE X e t) (w : ∀ σ H Q, t' σ H Q → t σ H Q) : PE X e t' := ⟨fun pins s σ H Q I q => h.run pins s σ H Q I (w σ H Q q)⟩
theorem _root_.L2.PT.imp {X : Cx} {e : Expr} {t t' : TT} (h : PT X e t) (w : ∀ σ H Q, t' σ H Q → t σ H Q) : PT X e t' := ⟨fun pins s σ H Q I q => h.run pins s σ H Q I (w σ H Q q)⟩
theorem _root_.L2.PA.imp {X : Cx} {e : List Expr} {t t' : TA} (h : PA X e t) (w : ∀ σ H Q, t' σ H Q → t σ H Q) : PA X e t' := ⟨fun pos pins s σ H Q I q => h.run pos pins s σ H Q I (w σ H Q q)⟩
theorem _root_.L2.PW.imp {X : Cx} {e : Expr} {t t' : TT} (h : PW X e t) (w : ∀ σ H Q, t' σ H Q → t σ H Q) : PW X e t' := ⟨fun wh pins s σ H Q I q => h.run wh pins s σ H Q I (w σ H Q q)⟩
theorem _root_.L2.PI.imp {X : Cx} {tg it : Expr} {t t' : TI} (h : PI X tg it t) (w : ∀ σ H Q, t' σ H Q → t σ H Q) : PI X tg it t' := ⟨fun pins s σ H Q I q => h.run pins s σ H Q I (w σ H Q q)⟩
theorem _root_.L2.PS.imp {X : Cx} {e : Stmt} {t t' : TS} (h : PS X e t) (w : ∀ D σ H, t' D σ H → t D σ H) : PS X e t' := ⟨fun pins s σ H D I q => h.run pins s σ H D I (w D σ H q)⟩
theorem _root_.L2.PSs.imp {X : Cx} {e : List Stmt} {t t' : TS} (h : PSs X e t) (w : ∀ D σ H, t' D σ H → t D σ H) : PSs X e t' := ⟨fun pins s σ H D I q => h.run pins s σ H D I (w D σ H q)⟩
def o2 {α β γ : Type} (x : Option α) (y : Option β) (g : α → β → Option γ) : Option γ := match x with
  | none => none
  | some a => match y with
    | none => none
    | some b => g a b
def o1 {α γ : Type} (x : Option α) (g : α → Option γ) : Option γ := match x with
  | none => none
  | some a => g a
theorem o2_some {α β γ : Type} {x : Option α} {y : Option β} {g : α → β → Option γ} {c : γ} (h : o2 x y g = some c) : ∃ a b, x = some a ∧ y = some b ∧ g a b = some c := by
  unfold o2 at h
  split at h
  · cases h
  · split at h
    · cases h
    · exact ⟨_, _, rfl, rfl, h⟩
theorem o1_some {α γ : Type} {x : Option α} {g : α → Option γ} {c : γ} (h : o1 x g = some c) : ∃ a, x = some a ∧ g a = some c := by
  unfold o1 at h
  split at h
  · cases h
  · exact ⟨_, rfl, h⟩
def eVar (i : Nat) : FE := fun ρ => match ρ[i]? with
  | some (some d) => some d
  | _ => none
def eC (d : D) : FE := fun _ => some d
theorem eVar_some {i : Nat} {ρ : PEnv} {d : D} (h : eVar i ρ = some d) : ρ[i]? = some (some d) := by
  unfold eVar at h
  split at h
  · rename_i e; rw [e, Option.some.inj h]
  · cases h
section
variable {X : Cx} {K : PySem.W.Frag} {κ : Mo} {pos : Pos}
theorem qe_of {e : Expr} {i m : Nat} (h : PE X e (tVar i)) : PE X e (tD K (.br m) (eVar i) [(i, m)]) := h.imp fun σ H Q ⟨B, L, ρ, d, g, es, hf, q⟩ => by
  obtain ⟨v, h1, h2⟩ := g.slot i d (eVar_some hf)
  exact ⟨v, h1, q v H (Same.refl H) (h2.up (es (i, m) (by simp)))⟩
theorem qv (i : Nat) {m : Nat} {x : Str} {pos : Pos} (hN : X.N[i]? = some x := by rfl) (hv : Vis X.env.scope x := by first | exact Or.inl rfl | exact Or.inr (Or.inl rfl) | exact Or.inr (Or.inr rfl)) (hd : (x == ("__debug__" : Str)) = false := by decide)
    (hcd : (x == ("__classdict__" : Str)) = false := by decide) : PE X (.Name x pos) (tD K (.br m) (eVar i) [(i, m)]) := qe_of (pe_var hN hv hd hcd)
theorem qc {e : Expr} {v : V} {d : D} (h : PE X e (tC v)) (r : ∀ H, R K H v d) (f : isTop d = false) : PE X e (tD K κ (eC d) []) := h.imp fun σ H Q ⟨B, L, ρ, d', g, es, hf, q⟩ => by
  cases (show d = d' from Option.some.inj hf)
  exact q v H (Same.refl H) (Post.of_flat (r _) f)
theorem qint {i j pos} : PE X (.Constant (.int i) j pos) (tD K κ (eC (.int i)) []) := qc pe_int (fun _ => .int i) rfl
theorem qbl {i j pos} : PE X (.Constant (.bool i) j pos) (tD K κ (eC (.bool i)) []) := qc pe_bl (fun _ => .bl i) rfl
theorem qnon {j pos} : PE X (.Constant .none j pos) (tD K κ (eC .none) []) := qc pe_non (fun _ => .non) rfl
def aNil : FA := fun _ => some []
def aCons (f : FE) (r : FA) : FA := fun ρ => o2 (f ρ) (r ρ) fun d ds => some (d :: ds)
theorem qa_nil {m : Nat} : PA X [] (tDA K m aNil []) := pa_nil.imp fun σ H Q ⟨B, L, ρ, ds, g, es, hf, q⟩ => by
  cases (show [] = ds from Option.some.inj hf)
  exact q [] H (Same.refl H) rfl fun i x d h => by simp at h
theorem qa_cons {m : Nat} {e : Expr} {es : List Expr} {f : FE} {fs : FA} {c c' : Esc} (h : PE X e (tD K (.br m) f c)) (t : PA X es (tDA K m fs c')) (hs : starEach (e :: es) X.env = (false, eval e X.env) :: starEach es X.env := by rfl) :
    PA X (e :: es) (tDA K m (aCons f fs) (c ++ c')) := (pa_cons h t hs).imp fun σ H Q ⟨B, L, ρ, ds, g, es, hf, q⟩ => by
  obtain ⟨d, ds', h1, h2, h3⟩ := o2_some hf
  cases (show d :: ds' = ds from Option.some.inj h3)
  refine ⟨B, L, ρ, d, g, es.left, h1, fun v H1 s1 p1 => ⟨B, L, ρ, ds', g.mono s1, es.right, h2, fun vs H2 s2 hl p2 => ?_⟩⟩
  refine q _ H2 (s1.trans s2) (by simp [hl]) fun i x y e1 e2 => ?_
  cases i with
  | zero =>
    simp at e1 e2
    subst e1 e2
    exact RL.mono s2 (same_hid s2) p1
  | succ i => exact p2 i x y (by simpa using e1) (by simpa using e2)
def sz : Nat := 16777216
theorem sz_eq : sizeLine = sz := sizeLine_eq
def eTup (fs : FA) : FE := fun ρ => o1 (fs ρ) fun ds => if ds.length ≤ sz then some (.tuple ds) else none
def eLst (fs : FA) : FE := fun ρ => o1 (fs ρ) fun ds => if ds.length ≤ sz then some (.list ds) else none
theorem ite_some {α : Type} {c : Prop} [Decidable c] {x y : α} (h : (if c then some x else none) = some y) : c ∧ x = y := by
  split at h
  · exact ⟨by assumption, Option.some.inj h⟩
  · cases h
theorem qe_tup {x1} {es : List Expr} {fs : FA} {c : Esc} (h : PA X es (tDA K 0 fs c)) : PE X (.Tuple es x1 pos) (tD K κ (eTup fs) c) := (pe_tup h).imp fun σ H Q ⟨B, L, ρ, d, g, es, hf, q⟩ => by
  obtain ⟨ds, h1, h2⟩ := o1_some hf
  obtain ⟨hc, e⟩ := ite_some h2
  subst e
  refine ⟨B, L, ρ, ds, g, es, h1, fun vs H1 s1 hl p1 => ⟨by rw [hl, sz_eq]; exact hc, fun p np => ?_⟩⟩
  have s2 : Same H1 (upd H1 p (.tup vs)) := same_upd np
  refine q _ _ (s1.trans s2) (Post.of_flat (.tup (a := p) (xs := vs) ?_ (RA.of_get hl fun i x d e1 e2 => (p1 i x d e1 e2).r.mono (same_hid s2))) rfl)
  rw [hid_out ((g.ok.mono s1).trk.new np), upd_same]
theorem qe_lst {es : List Expr} {fs : FA} {c : Esc} (h : PA X es (tDA K 0 fs c)) (hκ : κ.one = true := by rfl) : PE X (.List es pos) (tD K κ (eLst fs) c) := (pe_lst h).imp fun σ H Q ⟨B, L, ρ, d, g, es, hf, q⟩ => by
  obtain ⟨ds, h1, h2⟩ := o1_some hf
  obtain ⟨hc, e⟩ := ite_some h2
  subst e
  refine ⟨B, L, ρ, ds, g, es, h1, fun vs H1 s1 hl p1 => ⟨by rw [hl, sz_eq]; exact hc, fun p np => ?_⟩⟩
  have s2 : Same H1 (upd H1 p (.lst vs)) := same_upd np
  refine q _ _ (s1.trans s2) (Post.new g.ok.trk (s1.free np) upd_same (RA.of_get hl fun i x d e1 e2 => (p1 i x d e1 e2).r.mono (same_hidW s2 fun a h => ?_)) hκ)
  rcases List.mem_cons.mp h with e | h
  · rw [e]; exact .inr np
  · exact .inl h
def OpD (K : PySem.W.Frag) (r : R2) (op : D → D → Option D) : Prop := ∀ (B : List Addr) (x y : V) (dx dy d : D) (H : Hp) (Q : VK), Ok B H → RL K B H 1 x dx → RL K B H 1 y dy → op dx dy = some d →
  (∀ v H', Same H H' → (∀ κ : Mo, κ.one = true → Post K B H H' κ v d) → Q v H') → r x y H Q
def eOp (op : D → D → Option D) (f g : FE) : FE := fun ρ => o2 (f ρ) (g ρ) op
theorem qe_op {o : Operator} {r : R2} {op : D → D → Option D} {a b : Expr} {fa fb : FE} {ca cb : Esc} (hr : OpR X (binaryOp o) r) (hd : OpD K r op) (ha : PE X a (tD K (.br 1) fa ca)) (hb : PE X b (tD K (.br 1) fb cb)) (hκ : κ.one = true := by rfl) :
    PE X (.BinOp a o b pos) (tD K κ (eOp op fa fb) (ca ++ cb)) := (pe_op hr ha hb).imp fun σ H Q ⟨B, L, ρ, d, g, es, hf, q⟩ => by
  obtain ⟨dx, dy, h1, h2, h3⟩ := o2_some hf
  refine ⟨B, L, ρ, dx, g, es.left, h1, fun x H1 s1 p1 => ⟨B, L, ρ, dy, g.mono s1, es.right, h2, fun y H2 s2 p2 => ?_⟩⟩
  refine hd B x y dx dy d H2 Q ((g.ok.mono s1).mono s2) (RL.mono s2 (same_hid s2) p1) p2 h3 fun v H3 s3 p3 => q v H3 ((s1.trans s2).trans s3) ?_
  have p := p3 κ hκ
  cases κ with
  | br m => exact p
  | fr =>
    obtain ⟨o, h1, h2, h3⟩ := p
    exact ⟨o, fun a z => (s1.trans s2).free (h1 a z), h2, h3⟩
  | fr2 => cases hκ
theorem OpD.ii {C : Int → Int → Prop} {gV : Int → Int → Int} {op : D → D → Option D} (h : ∀ dx dy d, op dx dy = some d → ∃ i j, dx = .int i ∧ dy = .int j ∧ C i j ∧ d = .int (gV i j)) : OpD K (rI C fun i j => .int (gV i j)) op := by
  intro B x y dx dy d H Q hB rx ry ho q
  obtain ⟨i, j, rfl, rfl, c, rfl⟩ := h _ _ _ ho
  exact ⟨i, j, rx.int, ry.int, c, q _ H (Same.refl H) fun κ _ => Post.of_flat (.int _) rfl⟩
def dSub : D → D → Option D
  | .int i, .int j => some (.int (i - j))
  | _, _ => none
def mulOk (i j : Int) : Bool := decide (j.natAbs < 18446744073709551616) || decide (i.natAbs < 18446744073709551616) || decide (i.natAbs.log2 + j.natAbs.log2 < 1000000)
def fdivOk (j : Int) : Bool := decide (0 < j) && decide (j.natAbs.log2 < 9000)
def dFdiv : D → D → Option D
  | .int i, .int j => if fdivOk j = true then some (.int (i / j)) else none
  | _, _ => none
def dMod : D → D → Option D
  | .int i, .int j => if 0 < j then some (.int (i % j)) else none
  | _, _ => none
def powOk (i j : Int) : Bool := decide (0 ≤ j) && decide (j ≤ 1000000) && decide (i.natAbs < 18446744073709551616)
def dPow : D → D → Option D
  | .int i, .int j => if powOk i j = true then some (.int (i ^ j.toNat)) else none
  | _, _ => none
end
theorem mulOk_ok {i j : Int} (h : mulOk i j = true) : IntMulOk i j := by
  unfold mulOk at h
  rw [Bool.or_eq_true, Bool.or_eq_true] at h
  rcases h with (h | h) | h
  · have h := of_decide_eq_true h
    exact .of_right (intBits_le_64 (by omega) (by omega))
  · have h := of_decide_eq_true h
    exact .of_left (intBits_le_64 (by omega) (by omega))
  · exact CMulW.ok (show i.natAbs.log2 + j.natAbs.log2 < 1000000 from of_decide_eq_true h)
theorem op_mulA {X : Cx} : OpR X (binaryOp .Mult) (rI (fun i j => mulOk i j = true) fun i j => .int (i * j)) := opI fun _ _ _ _ _ _ _ hc q => mul_int q (mulOk_ok hc)
theorem op_sub' {X : Cx} : OpR X (binaryOp .Sub) (rI (fun _ _ => True) fun i j => .int (i - j)) := opI fun _ _ _ _ _ _ _ _ q => sub_int q
theorem op_add' {X : Cx} : OpR X (binaryOp .Add) (rI (fun _ _ => True) fun i j => .int (i + j)) := opI fun _ _ _ _ _ _ _ _ q => add_int q
theorem op_fdivA {X : Cx} : OpR X (binaryOp .FloorDiv) (rI (fun _ j => fdivOk j = true) fun i j => .int (i / j)) := opI fun i j _ _ _ _ _ hc q => by
  unfold fdivOk at hc
  rw [Bool.and_eq_true] at hc
  have h1 := of_decide_eq_true hc.1
  exact floordiv_int (by omega) (by rw [Int.fdiv_eq_ediv_of_nonneg i (by omega)]; exact q) (.inl (PyProof.noPylong_of_log2 (of_decide_eq_true hc.2)))
section
variable {X : Cx} {K : PySem.W.Frag} {κ : Mo} {pos : Pos} {a b : Expr} {fa fb : FE} {ca cb : Esc}
theorem qe_sub (ha : PE X a (tD K (.br 1) fa ca)) (hb : PE X b (tD K (.br 1) fb cb)) (hκ : κ.one = true := by rfl) : PE X (.BinOp a .Sub b pos) (tD K κ (eOp dSub fa fb) (ca ++ cb)) :=
  qe_op op_sub' (OpD.ii fun dx dy d h => by
    unfold dSub at h
    split at h
    · exact ⟨_, _, rfl, rfl, trivial, (Option.some.inj h).symm⟩
    · cases h) ha hb hκ
theorem qe_fdiv (ha : PE X a (tD K (.br 1) fa ca)) (hb : PE X b (tD K (.br 1) fb cb)) (hκ : κ.one = true := by rfl) : PE X (.BinOp a .FloorDiv b pos) (tD K κ (eOp dFdiv fa fb) (ca ++ cb)) :=
  qe_op op_fdivA (OpD.ii fun dx dy d h => by
    unfold dFdiv at h
    split at h
    · obtain ⟨c, e⟩ := ite_some h
      exact ⟨_, _, rfl, rfl, c, e.symm⟩
    · cases h) ha hb hκ
theorem qe_mod (ha : PE X a (tD K (.br 1) fa ca)) (hb : PE X b (tD K (.br 1) fb cb)) (hκ : κ.one = true := by rfl) : PE X (.BinOp a .Mod b pos) (tD K κ (eOp dMod fa fb) (ca ++ cb)) :=
  qe_op op_mod (OpD.ii fun dx dy d h => by
    unfold dMod at h
    split at h
    · obtain ⟨c, e⟩ := ite_some h
      exact ⟨_, _, rfl, rfl, c, e.symm⟩
    · cases h) ha hb hκ
theorem powOk_ok {i j : Int} (h : powOk i j = true) : CPow i j := by
  unfold powOk at h
  rw [Bool.and_eq_true, Bool.and_eq_true] at h
  exact ⟨of_decide_eq_true h.1.1, of_decide_eq_true h.1.2, of_decide_eq_true h.2⟩
theorem qe_pow (ha : PE X a (tD K (.br 1) fa ca)) (hb : PE X b (tD K (.br 1) fb cb)) (hκ : κ.one = true := by rfl) : PE X (.BinOp a .Pow b pos) (tD K κ (eOp dPow fa fb) (ca ++ cb)) :=
  qe_op op_pow (OpD.ii fun dx dy d h => by
    unfold dPow at h
    split at h
    · obtain ⟨c, e⟩ := ite_some h
      exact ⟨_, _, rfl, rfl, powOk_ok c, e.symm⟩
    · cases h) ha hb hκ
def dAdd : D → D → Option D
  | .int i, .int j => some (.int (i + j))
  | .tuple x, .tuple y => if x.length + y.length ≤ sz then some (.tuple (x ++ y)) else none
  | .list x, .list y => if x.length + y.length ≤ sz then some (.list (x ++ y)) else none
  | _, _ => none
theorem qe_add (ha : PE X a (tD K (.br 1) fa ca)) (hb : PE X b (tD K (.br 1) fb cb)) (hX : X.K = K := by rfl) (hκ : κ.one = true := by rfl) : PE X (.BinOp a .Add b pos) (tD K κ (eOp dAdd fa fb) (ca ++ cb)) := by
  subst hX
  refine qe_op (op_add'.or (op_catA.or op_cat)) ?_ ha hb hκ
  intro B x y dx dy d H Q hB rx ry ho q
  unfold dAdd at ho
  split at ho
  · exact .inl ⟨_, _, rx.int, ry.int, trivial, q _ H (Same.refl H) fun κ _ => by
      cases (Option.some.inj ho)
      exact Post.of_flat (.int _) rfl⟩
  · obtain ⟨c, rfl⟩ := ite_some ho
    obtain ⟨p, xs, rfl, h1, h1', h2⟩ := rx.tup
    obtain ⟨p', ys, rfl, h3, h3', h4⟩ := ry.tup
    refine .inr (.inl ⟨p, p', xs, ys, rfl, rfl, h1, h3, by rw [h2.length, h4.length, sz_eq]; exact c, fun e => ?_, fun _ e => ?_, fun _ _ t nt => ?_⟩)
    · subst e
      cases h2
      exact q _ H (Same.refl H) fun κ _ => Post.of_flat (.tup h3' h4) rfl
    · subst e
      cases h4
      rw [List.append_nil] at q
      exact q _ H (Same.refl H) fun κ _ => Post.of_flat (.tup h1' h2) rfl
    · have s := same_upd (o := HO.tup (xs ++ ys)) nt
      refine q _ _ s fun κ _ => Post.of_flat (.tup (a := t) (xs := xs ++ ys) ?_ ((h2.append h4).mono (same_hid s))) rfl
      rw [hid_out (hB.trk.new nt), upd_same]
  · obtain ⟨c, rfl⟩ := ite_some ho
    obtain ⟨p, xs, rfl, h1, h2⟩ := rx.list1
    obtain ⟨p', ys, rfl, h3, h4⟩ := ry.list1
    refine .inr (.inr ⟨p, p', xs, ys, rfl, rfl, h1, h3, by rw [h2.length, h4.length, sz_eq]; exact c, fun t nt => ?_⟩)
    have s := same_upd (o := HO.lst (xs ++ ys)) nt
    refine q _ _ s fun κ hκ => Post.new hB.trk nt upd_same ((h2.append h4).mono (same_hidW s fun b hb => ?_)) hκ
    rcases List.mem_cons.mp hb with e | hb
    · rw [e]; exact .inr nt
    · exact .inl hb
  · cases ho
def dMul : D → D → Option D
  | .int i, .int j => if mulOk i j = true then some (.int (i * j)) else none
  | .list x, .int j => if x.length * j.toNat ≤ sz ∧ -9223372036854775808 ≤ j ∧ j < 9223372036854775808 then some (.list (List.replicate j.toNat x).flatten) else none
  | _, _ => none
theorem qe_mul (ha : PE X a (tD K (.br 1) fa ca)) (hb : PE X b (tD K (.br 1) fb cb)) (hκ : κ.one = true := by rfl) : PE X (.BinOp a .Mult b pos) (tD K κ (eOp dMul fa fb) (ca ++ cb)) := by
  refine qe_op (op_mulA.or op_rep) ?_ ha hb hκ
  intro B x y dx dy d H Q hB rx ry ho q
  unfold dMul at ho
  split at ho
  · obtain ⟨c, rfl⟩ := ite_some ho
    exact .inl ⟨_, _, rx.int, ry.int, c, q _ H (Same.refl H) fun κ _ => Post.of_flat (.int _) rfl⟩
  · rename_i x' j'
    obtain ⟨⟨c, c1, c2⟩, rfl⟩ := ite_some ho
    obtain ⟨p, xs, rfl, h1, h2⟩ := rx.list1
    refine .inr ⟨p, _, xs, rfl, ry.int, h1, by omega, by omega, by rw [h2.length, sz_eq]; exact c, fun t nt => ?_⟩
    have s := same_upd (o := HO.lst (List.replicate j'.toNat xs).flatten) nt
    refine q _ _ s fun κ hκ => Post.new hB.trk nt upd_same ((h2.rep _).mono (same_hidW s fun b hb => ?_)) hκ
    rcases List.mem_cons.mp hb with e | hb
    · rw [e]; exact .inr nt
    · exact .inl hb
  · cases ho
def dNeg : D → Option D
  | .int i => some (.int (-i))
  | _ => none
def eUn (op : D → Option D) (f : FE) : FE := fun ρ => o1 (f ρ) op
theorem qe_neg (ha : PE X a (tD K (.br 1) fa ca)) : PE X (.UnaryOp .USub a pos) (tD K κ (eUn dNeg fa) []) := (pe_un un_neg ha).imp fun σ H Q ⟨B, L, ρ, d, g, es, hf, q⟩ => by
  obtain ⟨dx, h1, h2⟩ := o1_some hf
  unfold dNeg at h2
  split at h2
  · cases (Option.some.inj h2)
    exact ⟨[], _, ρ, _, g.zero, .zero, h1, fun x H1 s1 p1 => ⟨_, RL.int p1, q _ H1 s1 (Post.of_flat (.int _) rfl)⟩⟩
  · cases h2
end
end DS
end
section
set_option Elab.async false
set_option linter.all false
set_option maxRecDepth 100000
namespace DS
open PySem PySem.Spec PyProof.Rows L2
variable [Tbls]
def OpC (K : PySem.W.Frag) (r : R2) (op : D → D → Option Bool) : Prop := ∀ (x y : V) (dx dy : D) (b : Bool) (H : Hp) (Q : VK), R K H x dx → R K H y dy → op dx dy = some b → Q (.bl b) H → r x y H Q
def tCmp (op : D → D → Option Bool) (f g : FE) : FT := fun ρ => o2 (f ρ) (g ρ) op
def eB (f : FT) : FE := fun ρ => o1 (f ρ) fun b => some (.bool b)
section
variable {X : Cx} {K : PySem.W.Frag} {κ : Mo} {pos : Pos} {a b : Expr} {fa fb : FE} {ca cb : Esc}
theorem RL.r0 {H : Hp} {m : Nat} {v : V} {d : D} (h : RL K [] H m v d) : R K H v d := h.open
theorem qe_cmp {op : CmpOp} {r : R2} {o : D → D → Option Bool} (hr : OpR X (compareOp op) r) (hd : OpC K r o) (ha : PE X a (tD K (.br 1) fa ca)) (hb : PE X b (tD K (.br 1) fb cb)) (hm : behindInMarks op b = false) :
    PE X (.Compare a [op] [b] pos) (tD K κ (eB (tCmp o fa fb)) []) := (pe_cmpR hr ha hb hm).imp fun σ H Q ⟨B, L, ρ, d, g, es, hf, q⟩ => by
  obtain ⟨k, h1, h2⟩ := o1_some hf
  cases (Option.some.inj h2)
  obtain ⟨dx, dy, h3, h4, h5⟩ := o2_some h1
  exact ⟨[], _, ρ, dx, g.zero, .zero, h3, fun x H1 s1 p1 => ⟨[], _, ρ, dy, (g.mono s1).zero, .zero, h4, fun y H2 s2 p2 =>
    hd x y dx dy k H2 Q ((RL.r0 p1).mono s2) (RL.r0 p2) h5 (q _ H2 (s1.trans s2) (Post.of_flat (.bl k) rfl))⟩⟩
theorem qt_cmp {op : CmpOp} {r : R2} {o : D → D → Option Bool} (hr : OpR X (compareOp op) r) (hd : OpC K r o) (ha : PE X a (tD K (.br 1) fa ca)) (hb : PE X b (tD K (.br 1) fb cb)) (hm : behindInMarks op b = false) :
    PT X (.Compare a [op] [b] pos) (tT K (tCmp o fa fb)) := (pt_cmpR hr ha hb hm).imp fun σ H Q ⟨B, L, ρ, k, g, hf, q⟩ => by
  obtain ⟨dx, dy, h3, h4, h5⟩ := o2_some hf
  exact ⟨[], _, ρ, dx, g.zero, .zero, h3, fun x H1 s1 p1 => ⟨[], _, ρ, dy, (g.mono s1).zero, .zero, h4, fun y H2 s2 p2 =>
    hd x y dx dy k H2 _ ((RL.r0 p1).mono s2) (RL.r0 p2) h5 ⟨k, rfl, q H2 (s1.trans s2)⟩⟩⟩
mutual
theorem R.toDp {H : Hp} : ∀ {v : V} {d : D}, R K H v d → d.canLay0 = true → Dp K H v d
  | _, _, .non, _ => .non
  | _, _, .bl b, _ => .bl b
  | _, _, .int i, _ => .int i
  | _, _, .str x, _ => .str x
  | _, _, .lst h a, f => .lst (SqL.of h) (RA.toDp a (by simpa [PyData.canLay0] using f))
  | _, _, .frz h a, f => by simp [PyData.canLay0] at f
  | _, _, .rng h, f => by simp [PyData.canLay0] at f
  | _, _, .tup h a, f => .tup (.inl (.inl h)) (RA.toDp a (by simpa [PyData.canLay0] using f))
  | _, _, .dk h a, f => by simp [PyData.canLay0] at f
  | _, _, .dt h a, f => by simp [PyData.canLay0] at f
theorem RA.toDp {H : Hp} : ∀ {v : List V} {d : List D}, RA K H v d → PyData.canLayAll0 d = true → DpAll K H v d
  | _, _, .nil, _ => .nil
  | _, _, .cons h t, f => by
    have f' := f
    simp only [PyData.canLayAll0, Bool.and_eq_true] at f'
    exact .cons (R.toDp h f'.1) (RA.toDp t f'.2)
end
def noneD : D → Bool
  | .none => true
  | _ => false
def cmpOk (x y : D) : Bool := x.canLay0 && y.canLay0 && PySem.W.alike x y && !noneD x && decide (x.depth ≤ 60)
def rDat (K : PySem.W.Frag) (g : D → D → Bool) : R2 := fun x y H Q => ∃ d e, Dp K H x d ∧ Dp K H y e ∧ cmpOk d e = true ∧ Q (.bl (g d e)) H
theorem cmpOk_facts {x y : D} (h : cmpOk x y = true) : x.canLay0 = true ∧ y.canLay0 = true ∧ PySem.W.alike x y = true ∧ x ≠ .none ∧ x.depth ≤ 60 := by
  unfold cmpOk at h
  simp only [Bool.and_eq_true, decide_eq_true_eq] at h
  refine ⟨h.1.1.1.1, h.1.1.1.2, h.1.1.2, ?_, h.2⟩
  intro e
  rw [e] at h
  simp [noneD] at h
theorem cmp_room {A : Around} {x y : D} (hu : A.units + 64 < cLine) (h : x.depth ≤ 60) : A.units + min x.depth y.depth < cLine := by
  have := Nat.min_le_left x.depth y.depth
  omega
def dLt : D → D → Option Bool
  | .int i, .int j => some (decide (i < j))
  | x, y => if cmpOk x y = true then some (PySem.W.dataLt x y) else none
theorem op_ltA {X : Cx} (hu : X.A.units + 64 < cLine) : OpR X (compareOp .Lt) (fun x y H Q => rI0 (fun i j => .bl (decide (i < j))) x y H Q ∨ rDat X.K (fun d e => PySem.W.dataLt d e) x y H Q) := op_lt.or (by
  intro pins s σ H x y v u Q I rx ry h
  obtain ⟨d, e, hd, he, ok, q⟩ := h
  obtain ⟨as, r1⟩ := Dp.reads I d x v hd rx
  obtain ⟨bs, r2⟩ := Dp.reads I e y u he ry
  have f := cmpOk_facts ok
  exact PySem.W.lt_data r1 r2 f.2.2.1 f.2.2.2.1 (cmp_room hu f.2.2.2.2) ⟨.bl _, H, I, rfl, q⟩)
theorem oc_lt {K : PySem.W.Frag} : OpC K (fun x y H Q => rI0 (fun i j => .bl (decide (i < j))) x y H Q ∨ rDat K (fun d e => PySem.W.dataLt d e) x y H Q) dLt := by
  intro x y dx dy b H Q rx ry h q
  unfold dLt at h
  split at h
  · cases (Option.some.inj h); exact .inl ⟨_, _, rx.int', ry.int', q⟩
  · obtain ⟨hc, e⟩ := ite_some h
    subst e
    have f := cmpOk_facts hc
    exact .inr ⟨dx, dy, rx.toDp f.1, ry.toDp f.2.1, hc, q⟩
def dLe : D → D → Option Bool
  | .int i, .int j => some (decide (i ≤ j))
  | x, y => if cmpOk x y = true then some (!PySem.W.dataLt y x) else none
def dGt : D → D → Option Bool
  | .int i, .int j => some (decide (j < i))
  | x, y => if cmpOk x y = true then some (PySem.W.dataLt y x) else none
theorem op_gtA {X : Cx} (hu : X.A.units + 64 < cLine) : OpR X (compareOp .Gt) (fun x y H Q => rI0 (fun i j => .bl (decide (j < i))) x y H Q ∨ rDat X.K (fun d e => PySem.W.dataLt e d) x y H Q) := op_gt.or (by
  intro pins s σ H x y v u Q I rx ry h
  obtain ⟨d, e, hd, he, ok, q⟩ := h
  obtain ⟨as, r1⟩ := Dp.reads I d x v hd rx
  obtain ⟨bs, r2⟩ := Dp.reads I e y u he ry
  have f := cmpOk_facts ok
  exact PySem.W.gt_data r1 r2 f.2.2.1 f.2.2.2.1 (cmp_room hu f.2.2.2.2) ⟨.bl _, H, I, rfl, q⟩)
theorem oc_gt {K : PySem.W.Frag} : OpC K (fun x y H Q => rI0 (fun i j => .bl (decide (j < i))) x y H Q ∨ rDat K (fun d e => PySem.W.dataLt e d) x y H Q) dGt := by
  intro x y dx dy b H Q rx ry h q
  unfold dGt at h
  split at h
  · cases (Option.some.inj h); exact .inl ⟨_, _, rx.int', ry.int', q⟩
  · obtain ⟨hc, e⟩ := ite_some h
    subst e
    have f := cmpOk_facts hc
    exact .inr ⟨dx, dy, rx.toDp f.1, ry.toDp f.2.1, hc, q⟩
def dGe : D → D → Option Bool
  | .int i, .int j => some (decide (j ≤ i))
  | x, y => if cmpOk x y = true then some (!PySem.W.dataLt x y) else none
theorem op_geA {X : Cx} (hu : X.A.units + 64 < cLine) : OpR X (compareOp .GtE) (fun x y H Q => rI0 (fun i j => .bl (decide (j ≤ i))) x y H Q ∨ rDat X.K (fun d e => !PySem.W.dataLt d e) x y H Q) := op_ge.or (by
  intro pins s σ H x y v u Q I rx ry h
  obtain ⟨d, e, hd, he, ok, q⟩ := h
  obtain ⟨as, r1⟩ := Dp.reads I d x v hd rx
  obtain ⟨bs, r2⟩ := Dp.reads I e y u he ry
  have f := cmpOk_facts ok
  exact PySem.W.ge_data r1 r2 f.2.2.1 f.2.2.2.1 (cmp_room hu f.2.2.2.2) ⟨.bl _, H, I, rfl, q⟩)
theorem oc_ge {K : PySem.W.Frag} : OpC K (fun x y H Q => rI0 (fun i j => .bl (decide (j ≤ i))) x y H Q ∨ rDat K (fun d e => !PySem.W.dataLt d e) x y H Q) dGe := by
  intro x y dx dy b H Q rx ry h q
  unfold dGe at h
  split at h
  · cases (Option.some.inj h); exact .inl ⟨_, _, rx.int', ry.int', q⟩
  · obtain ⟨hc, e⟩ := ite_some h
    subst e
    have f := cmpOk_facts hc
    exact .inr ⟨dx, dy, rx.toDp f.1, ry.toDp f.2.1, hc, q⟩
def dEq (x y : D) : Option Bool := if (SeqAt.shaped x && SeqAt.shaped y) = true then some (PyData.eqv x y) else none
def dNe (x y : D) : Option Bool := if (SeqAt.shaped x && SeqAt.shaped y) = true then some (!PyData.eqv x y) else none
theorem oc_eq : OpC K (rEqD K) dEq := by
  intro x y dx dy b H Q rx ry h q
  obtain ⟨hc, e⟩ := ite_some h
  subst e
  rw [Bool.and_eq_true] at hc
  exact ⟨dx, dy, rx.toDp (SeqAt.canLay_of_shaped hc.1), ry.toDp (SeqAt.canLay_of_shaped hc.2), hc.1, hc.2, q⟩
theorem oc_ne : OpC K (rNeD K) dNe := by
  intro x y dx dy b H Q rx ry h q
  obtain ⟨hc, e⟩ := ite_some h
  subst e
  rw [Bool.and_eq_true] at hc
  exact ⟨dx, dy, rx.toDp (SeqAt.canLay_of_shaped hc.1), ry.toDp (SeqAt.canLay_of_shaped hc.2), hc.1, hc.2, q⟩
def isNon : D → Bool
  | .none => true
  | _ => false
def eIsN (f : FE) : FE := fun ρ => o1 (f ρ) fun d => some (.bool (isNon d))
def eNotN (f : FE) : FE := fun ρ => o1 (f ρ) fun d => some (.bool (!isNon d))
theorem R.isNon {H : Hp} {v : V} {d : D} (h : R K H v d) : decide (v = V.non) = DS.isNon d := by
  cases h <;> rfl
theorem qe_isN {j pos'} (ha : PE X a (tD K (.br 1) fa ca)) : PE X (.Compare a [.Is] [.Constant .none j pos'] pos) (tD K κ (eIsN fa) []) := (pe_cmp (pc_isN ha) rfl).imp fun σ H Q ⟨B, L, ρ, d, g, es, hf, q⟩ => by
  obtain ⟨k, h1, h2⟩ := o1_some hf
  cases (Option.some.inj h2)
  exact ⟨[], _, ρ, k, g.zero, .zero, h1, fun x H1 s1 p1 => show Q _ H1 from (RL.r0 p1).isNon ▸ q _ H1 s1 (Post.of_flat (.bl _) rfl)⟩
def scal1 : D → Bool
  | .none => true
  | .bool _ => true
  | .int _ => true
  | .str _ => true
  | _ => false
def dIn : D → D → Option Bool
  | x, .list ds => if (SeqAt.shaped x && SeqAt.shaped (.list ds)) = true then some (ds.any fun z => PyData.eqv z x) else none
  | x, .tuple ds => if (scal1 x && ds.all scal1) = true then some (ds.any fun z => PyData.eqv z x) else none
  | _, _ => none
def dNotIn (x y : D) : Option Bool := o1 (dIn x y) fun b => some (!b)
theorem R.flatV {H : Hp} {v : V} {d : D} (h : R K H v d) (f : scal1 d = true) : L2.flatV v = true := by
  cases h <;> first | rfl | cases f
theorem RA.flatV {H : Hp} : ∀ {v : List V} {d : List D}, RA K H v d → d.all scal1 = true → v.all L2.flatV = true
  | _, _, .nil, _ => rfl
  | _, _, .cons h t, f => by
    rw [List.all_cons, Bool.and_eq_true] at f ⊢
    exact ⟨h.flatV f.1, RA.flatV t f.2⟩
theorem eqV_eqv {H : Hp} {v w : V} {d e : D} (h : R K H v d) (h' : R K H w e) (f : scal1 d = true) (f' : scal1 e = true) : eqV v w = PyData.eqv d e := by
  cases h <;> first | (cases f; done) | (cases h' <;> first | (cases f'; done) | rfl | simp [eqV, PyData.eqv])
theorem any_eqv {H : Hp} {w : V} {e : D} (h' : R K H w e) (f' : scal1 e = true) : ∀ {v : List V} {d : List D}, RA K H v d → d.all scal1 = true → (v.any fun y => eqV y w) = d.any fun z => PyData.eqv z e
  | _, _, .nil, _ => rfl
  | _, _, .cons h t, f => by
    rw [List.all_cons, Bool.and_eq_true] at f
    rw [List.any_cons, List.any_cons, any_eqv h' f' t f.2, eqV_eqv h h' f.1 f']
theorem oc_notIn : OpC K (fun x y H Q => rNotInD K x y H Q ∨ rIn K true x y H Q) dNotIn := by
  intro x y dx dy b H Q rx ry h q
  obtain ⟨c, h', e⟩ := o1_some h
  clear h
  cases (Option.some.inj e)
  have h := h'
  unfold dIn at h
  split at h
  · obtain ⟨hc, e⟩ := ite_some h
    subst e
    have hc := (Bool.and_eq_true _ _).mp hc
    exact .inl ⟨dx, _, rx.toDp (SeqAt.canLay_of_shaped hc.1), ry.toDp (SeqAt.canLay_of_shaped hc.2), hc.1, hc.2, q⟩
  · obtain ⟨hc, e⟩ := ite_some h
    subst e
    have hc := (Bool.and_eq_true _ _).mp hc
    cases ry with
    | tup h1 h2 =>
      refine .inr ⟨_, _, rfl, .inr (.inl (.inl h1)), rx.flatV hc.1, h2.flatV hc.2, ?_⟩
      rw [if_pos rfl]
      unfold inV
      rw [any_eqv rx hc.1 h2 hc.2]
      exact q
  · cases h
end
def dTru : D → Option Bool
  | .none => some false
  | .bool b => some b
  | .int i => some (i != 0)
  | .str y => if y.length ≤ sz then some ((y.length : Int) != 0) else none
  | .list ds => some !ds.isEmpty
  | .tuple ds => some !ds.isEmpty
  | .dict _ => none
def tTru (f : FE) : FT := fun ρ => o1 (f ρ) dTru
def tAndD (f g : FT) : FT := fun ρ => match f ρ with
  | none => none
  | some true => g ρ
  | some false => some false
def tOrD (f g : FT) : FT := fun ρ => match f ρ with
  | none => none
  | some true => some true
  | some false => g ρ
def tNotD (f : FT) : FT := fun ρ => o1 (f ρ) fun b => some !b
def eAndD (f g : FE) : FE := fun ρ => match f ρ with
  | none => none
  | some d => match dTru d with
    | none => none
    | some true => g ρ
    | some false => some d
def eIfD (c : FT) (f g : FE) : FE := fun ρ => match c ρ with
  | none => none
  | some true => f ρ
  | some false => g ρ
section
variable {X : Cx} {K : PySem.W.Frag} {κ : Mo} {pos : Pos} {a b : Expr} {fa fb : FE} {ca cb : Esc} {f g : FT} {rest : List Expr}
theorem RA.isEmpty {H : Hp} {v : List V} {d : List D} (h : RA K H v d) : (!v.isEmpty) = !d.isEmpty := by
  cases h <;> rfl
theorem tru_of {H : Hp} {v : V} {d : D} {k : Bool} (h : R K H v d) (e : dTru d = some k) : TruV K v H k := by
  cases h with
  | non => exact (Option.some.inj e).symm
  | bl b => exact (Option.some.inj e).symm
  | int i => exact (Option.some.inj e).symm
  | str x =>
    obtain ⟨h1, h2⟩ := ite_some e
    exact ⟨by rw [sz_eq]; exact h1, h2.symm⟩
  | lst h1 h2 => exact .inl ⟨_, SqL.of h1, by rw [h2.isEmpty]; exact (Option.some.inj e).symm⟩
  | tup h1 h2 => exact .inr (.inl ⟨_, .inl (.inl h1), by rw [h2.isEmpty]; exact (Option.some.inj e).symm⟩)
  | frz _ _ => cases e
  | rng _ => cases e
  | dk _ _ => cases e
  | dt _ _ => cases e
theorem qt_tru (ha : PE X a (tD K (.br 1) fa ca)) (he : ∀ whole, isTrue a X.env whole = (do let v ← whole; standAt a.pos; holding [v] (truthy v))) (hX : X.K = K := by rfl) : PT X a (tT K (tTru fa)) := (pt_truth ha he).imp fun σ H Q ⟨B, L, ρ, k, g, hf, q⟩ => by
  subst hX
  obtain ⟨d, h1, h2⟩ := o1_some hf
  exact ⟨[], _, ρ, d, g.zero, .zero, h1, fun x H1 s1 p1 => ⟨k, tru_of (RL.r0 p1) h2, q H1 s1⟩⟩
theorem qt_not (h : PT X a (tT K f)) : PT X (.UnaryOp .Not a pos) (tT K (tNotD f)) := (pt_not h).imp fun σ H Q ⟨B, L, ρ, k, g, hf, q⟩ => by
  obtain ⟨c, h1, h2⟩ := o1_some hf
  cases (Option.some.inj h2)
  exact ⟨B, L, ρ, c, g, h1, fun H1 s1 => q H1 s1⟩
theorem qw_and1 (ha : PT X a (tT K f)) : PW X (.BoolOp .And [a] pos) (tT K f) := pw_and1 ha
theorem qw_or1 (ha : PT X a (tT K f)) : PW X (.BoolOp .Or [a] pos) (tT K f) := pw_or1 ha
theorem qw_and (ha : PT X a (tT K f)) (hb : PW X (.BoolOp .And (b :: rest) pos) (tT K g)) : PW X (.BoolOp .And (a :: b :: rest) pos) (tT K (tAndD f g)) := (pw_and ha hb).imp fun σ H Q ⟨B, L, ρ, k, gd, hf, q⟩ => by
  unfold tAndD at hf
  split at hf
  · cases hf
  · exact ⟨B, L, ρ, true, gd, by assumption, fun H1 s1 => iteT <| ⟨B, L, ρ, k, gd.mono s1, hf, fun H2 s2 => q H2 (s1.trans s2)⟩⟩
  · cases (Option.some.inj hf)
    exact ⟨B, L, ρ, false, gd, by assumption, fun H1 s1 => iteF <| q H1 s1⟩
theorem qw_or (ha : PT X a (tT K f)) (hb : PW X (.BoolOp .Or (b :: rest) pos) (tT K g)) : PW X (.BoolOp .Or (a :: b :: rest) pos) (tT K (tOrD f g)) := (pw_or ha hb).imp fun σ H Q ⟨B, L, ρ, k, gd, hf, q⟩ => by
  unfold tOrD at hf
  split at hf
  · cases hf
  · cases (Option.some.inj hf)
    exact ⟨B, L, ρ, true, gd, by assumption, fun H1 s1 => iteT <| q H1 s1⟩
  · exact ⟨B, L, ρ, false, gd, by assumption, fun H1 s1 => iteF <| ⟨B, L, ρ, k, gd.mono s1, hf, fun H2 s2 => q H2 (s1.trans s2)⟩⟩
theorem qe_if {c : Expr} (hc : PT X c (tT K f)) (ha : PE X a (tD K κ fa ca)) (hb : PE X b (tD K κ fb cb)) : PE X (.IfExp c a b pos) (tD K κ (eIfD f fa fb) (ca ++ cb)) := (pe_ifExp hc ha hb).imp fun σ H Q ⟨B, L, ρ, d, g, es, hf, q⟩ => by
  have fr : ∀ {H1 H' : Hp} {v : V}, Same H H1 → Post K B H1 H' κ v d → Post K B H H' κ v d := fun {H1 H' v} s p => by
    cases κ with
    | br m => exact p
    | fr =>
      obtain ⟨o, h1, h2, h3⟩ := p
      exact ⟨o, fun a z => s.free (h1 a z), h2, h3⟩
    | fr2 =>
      obtain ⟨o, h1, h2, h3⟩ := p
      exact ⟨o, fun a z => s.free (h1 a z), h2, h3⟩
  unfold eIfD at hf
  split at hf
  · cases hf
  · exact ⟨B, L, ρ, true, g, by assumption, fun H1 s1 => iteT <| ⟨B, L, ρ, d, g.mono s1, es.left, hf, fun v H2 s2 p => q v H2 (s1.trans s2) (fr s1 p)⟩⟩
  · exact ⟨B, L, ρ, false, g, by assumption, fun H1 s1 => iteF <| ⟨B, L, ρ, d, g.mono s1, es.right, hf, fun v H2 s2 p => q v H2 (s1.trans s2) (fr s1 p)⟩⟩
theorem qe_one {op} {m : Nat} (h : PE X a (tD K (.br m) fa ca)) : PE X (.BoolOp op [a] pos) (tD K (.br m) fa ca) := pe_one h
theorem qe_and {m : Nat} (ha : PE X a (tD K (.br m) fa ca)) (hb : PE X (.BoolOp .And (b :: rest) pos) (tD K (.br m) fb cb)) (hX : X.K = K := by rfl) : PE X (.BoolOp .And (a :: b :: rest) pos) (tD K (.br m) (eAndD fa fb) (ca ++ cb)) :=
  (pe_andT ha hb).imp fun σ H Q ⟨B, L, ρ, d, g, es, hf, q⟩ => by
  subst hX
  unfold eAndD at hf
  split at hf
  · cases hf
  · rename_i d' h1
    split at hf
    · cases hf
    · rename_i h2
      exact ⟨B, L, ρ, _, g, es.left, h1, fun x H1 s1 p1 => ⟨true, tru_of (RL.open p1) h2, iteT <| ⟨B, L, ρ, d, g.mono s1, es.right, hf, fun v H2 s2 p => q v H2 (s1.trans s2) p⟩⟩⟩
    · rename_i h2
      cases (Option.some.inj hf)
      exact ⟨B, L, ρ, _, g, es.left, h1, fun x H1 s1 p1 => ⟨false, tru_of (RL.open p1) h2, iteF <| q x H1 s1 p1⟩⟩
theorem qe_not (ha : PE X a (tD K (.br 1) fa ca)) (hX : X.K = K := by rfl) : PE X (.UnaryOp .Not a pos) (tD K κ (eB (tNotD (tTru fa))) []) := (pe_notT ha).imp fun σ H Q ⟨B, L, ρ, d, g, es, hf, q⟩ => by
  subst hX
  obtain ⟨k, h1, h2⟩ := o1_some hf
  cases (Option.some.inj h2)
  obtain ⟨c, h3, h4⟩ := o1_some h1
  cases (Option.some.inj h4)
  obtain ⟨e, h5, h6⟩ := o1_some h3
  exact ⟨[], _, ρ, e, g.zero, .zero, h5, fun x H1 s1 p1 => ⟨c, tru_of (RL.r0 p1) h6, q _ H1 s1 (Post.of_flat (.bl _) rfl)⟩⟩
end
def dIx : D → D → Option D
  | .list ds, .int i => atI ds i
  | .tuple ds, .int i => atI ds i
  | .dict ((.none, .list ds) :: _), .int i => atI ds i
  | _, _ => none
def eIx (f g : FE) : FE := fun ρ => o2 (f ρ) (g ρ) dIx
section
variable {X : Cx} {K : PySem.W.Frag} {κ : Mo} {pos : Pos} {a b : Expr} {fa fb : FE} {ca cb : Esc}
theorem at_len {xs : List V} {ds : List D} {i : Int} {d : D} (hl : xs.length = ds.length) (h : atI ds i = some d) : ∃ (j : Nat) (x : V), atI xs i = some x ∧ xs[j]? = some x ∧ ds[j]? = some d := by
  unfold atI at h
  obtain ⟨j, h1, h2⟩ := Option.bind_eq_some_iff.mp h
  obtain ⟨hj, _⟩ := List.getElem?_eq_some_iff.mp h2
  have hj' : j < xs.length := by omega
  refine ⟨j, xs[j], ?_, List.getElem?_eq_getElem hj', h2⟩
  unfold atI
  rw [hl, h1]
  exact List.getElem?_eq_getElem hj'
theorem RK.key {H : Hp} {kvs : List (Key × V)} {k e : D} {r : List (D × D)} (h : RK K H kvs ((k, e) :: r)) : k ≠ .none := by
  cases h with
  | cons _ _ =>
    rename_i k _ _ _ _
    cases k <;> simp [keyD]
theorem RT.key {H : Hp} {kvs : List (List Key × V)} {k e : D} {r : List (D × D)} (h : RT K H kvs ((k, e) :: r)) : k ≠ .none := by
  cases h with
  | cons _ _ => simp
theorem RL.frz {B : List Addr} {H : Hp} {m : Nat} {v : V} {e : List D} {r : List (D × D)} (h : RL K B H m v (.dict ((.none, .list e) :: r))) : ∃ a xs ds, v = .ref a ∧ (.list e : D) = .list ds ∧ SqL K H a xs ∧ RA K (hid B H) xs ds := by
  generalize hd : PyData.dict ((PyData.none, PyData.list e) :: r) = d at h
  cases h with
  | z h =>
    cases h with
    | frz h1 h2 =>
      simp at hd
      exact ⟨_, _, _, rfl, congrArg PyData.list hd.1, (same_unhid (B := B)).seq h1, h2⟩
    | dk _ h2 =>
      cases hd
      exact absurd rfl h2.key
    | dt _ h2 =>
      cases hd
      exact absurd rfl h2.key
    | _ => cases hd
  | l => cases hd
  | dk _ h2 =>
    cases hd
    exact absurd rfl h2.key
  | dt _ h2 =>
    cases hd
    exact absurd rfl h2.key
theorem qe_ix {m : Nat} (ha : PE X a (tD K (.br (m + 1)) fa ca)) (hb : PE X b (tD K (.br 1) fb cb)) (hs : PlainIx b) (hX : X.K = K := by rfl) : PE X (.Subscript a b pos) (tD K (.br m) (eIx fa fb) ca) := (pe_ix ix_seq ha hb hs).imp fun σ H Q ⟨B, L, ρ, d, g, es, hf, q⟩ => by
  subst hX
  obtain ⟨dx, dy, h1, h2, h3⟩ := o2_some hf
  refine ⟨B, L, ρ, dx, g, es, h1, fun x H1 s1 p1 => ⟨[], _, ρ, dy, (g.mono s1).zero, .zero, h2, fun y H2 s2 p2 => ?_⟩⟩
  have p1 : RL X.K B H2 (m + 1) x dx := RL.mono s2 (same_hid s2) p1
  unfold dIx at h3
  split at h3
  · obtain ⟨p, xs, rfl, e1, e2, e3⟩ := p1.list
    obtain ⟨j, z, f1, f2, f3⟩ := at_len e2 h3
    exact .inl ⟨p, xs, _, z, rfl, RL.int p2, SqL.of e1, f1, q z H2 (s1.trans s2) (e3 j z d f2 f3)⟩
  · obtain ⟨p, xs, rfl, e1, _, e3⟩ := p1.tup
    obtain ⟨j, z, f1, f2, f3⟩ := at_len e3.length h3
    obtain ⟨z', f4, f5⟩ := e3.get f3
    rw [f2] at f4; cases f4
    exact .inr (.inl ⟨p, xs, _, z, rfl, RL.int p2, e1, f1, q z H2 (s1.trans s2) (.z f5)⟩)
  · rename_i ds r i
    obtain ⟨p, xs, ds', rfl, e0, e1, e3⟩ := p1.frz
    cases e0
    obtain ⟨j, z, f1, f2, f3⟩ := at_len e3.length h3
    obtain ⟨z', f4, f5⟩ := e3.get f3
    rw [f2] at f4; cases f4
    exact .inl ⟨_, _, _, z, rfl, RL.int p2, e1, f1, q z H2 (s1.trans s2) (.z f5)⟩
  · cases h3
end
end DS
end
section
set_option Elab.async false
set_option linter.all false
set_option maxRecDepth 100000
namespace DS
open PySem PySem.Spec PyProof.Rows L2
variable [Tbls]
abbrev Fn := List D → Option D
def spD (K : PySem.W.Frag) (n : Nat) (F : Fn) : Sp := fun vs H Q _ => ∃ B ds d, Ok B H ∧ Tb H ∧ RA K (hid B H) vs ds ∧ ds.length = n ∧ F ds = some d ∧ ∀ v H', Same H H' → R K (hid B H') v d → Q v H'
theorem spD_len {K : PySem.W.Frag} {n : Nat} {F : Fn} : ∀ vs H Q E, spD K n F vs H Q E → vs.length = n := fun vs H Q E ⟨B, ds, d, _, _, h2, h3, _⟩ => by
  rw [h2.length, h3]
def eCall (n : Nat) (F : Fn) (fs : FA) : FE := fun ρ => o1 (fs ρ) fun ds => if ds.length = n then F ds else none
section
variable {X : Cx} {K : PySem.W.Frag} {κ : Mo} {p pos : Pos} {e : Expr} {es : List Expr} {fs : FA} {c : Esc} {k n m : Nat} {f : Addr} {fd : FuncData} {ps : List Str} {F : Fn} {x : Str}
theorem qe_call (G : FnOk X.prog X.w X.K X.mg X.base CX0 k f fd ps (spD K n F)) (hr : Room k X.A) (hg : Gl X x) (hm : X.mg x = some (.ref f)) (hk : PySem.W.keepIn X.K (.ref f) = true) (hb : Binds X.K fd ps [])
    (ha : PA X (e :: es) (tDA K 0 fs c)) (hdb : (x == ("__debug__" : Str)) = false := by decide) (he : starEach (e :: es) X.env = (false, eval e X.env) :: starEach es X.env := by rfl) (hpl : (backTo pos (starEach es X.env)).any (·.1) = false := by rfl) :
    PE X (.Call (.Name x p) (e :: es) [] pos) (tD K (.br m) (eCall n F fs) c) := (pe_call (E := E0) G hr hg hm hk hb .nil pass0 ha hdb he hpl).imp fun σ H Q ⟨B, L, ρ, d, g, es, hf, q⟩ => by
  obtain ⟨ds, h1, h2⟩ := o1_some hf
  have hn : ds.length = n := by
    split at h2
    · assumption
    · cases h2
  rw [if_pos hn] at h2
  refine ⟨B, L, ρ, ds, g, es, h1, fun vs H1 s1 hl p1 => ?_⟩
  show spD K n F (vs ++ []) H1 Q E0
  rw [List.append_nil]
  exact ⟨B, ds, d, g.ok.mono s1, s1.tb g.tabs, RA.of_get hl fun i x y e1 e2 => (p1 i x y e1 e2).r, hn, h2, fun v H' s2 r => q v H' (s1.trans s2) (.z r)⟩
end
def CallF (K : PySem.W.Frag) (r : List V → Hp → VK → Prop) (op : List D → Option D) : Prop := ∀ (vs : List V) (ds : List D) (d : D) (H : Hp) (Q : VK), RA K H vs ds → op ds = some d → (∀ v, R K H v d → flat d = true → Q v H) → r vs H Q
def CallD (K : PySem.W.Frag) (r : List V → Hp → VK → Prop) (op : List D → Option D) : Prop := ∀ (B : List Addr) (vs : List V) (ds : List D) (d : D) (H : Hp) (Q : VK), Ok B H → vs.length = ds.length → (∀ (i : Nat) (x : V) (y : D), vs[i]? = some x → ds[i]? = some y → RL K B H 1 x y) → op ds = some d →
  (∀ v H', Same H H' → (∀ κ : Mo, κ.one = true → Post K B H H' κ v d) → Q v H') → r vs H Q
def eCB (op : List D → Option D) (fs : FA) : FE := fun ρ => o1 (fs ρ) op
section
variable {X : Cx} {K : PySem.W.Frag} {κ : Mo} {p pos : Pos} {e : Expr} {es : List Expr} {fs : FA} {c : Esc} {x : Str} {id T : String} {r : List V → Hp → VK → Prop} {op : List D → Option D}
theorem flat_top {d : D} (h : flat d = true) : isTop d = false := by
  cases d <;> first | rfl | cases h
theorem cbF (hd : CallF K r op) {t : TE} (ht : t = tCB r (tDA K 1 fs c)) : ∀ σ H Q, tD K κ (eCB op fs) [] σ H Q → t σ H Q := by
  subst ht
  intro σ H Q ⟨B, L, ρ, d, g, es, hf, q⟩
  obtain ⟨ds, h1, h2⟩ := o1_some hf
  exact ⟨[], _, ρ, ds, g.zero, .zero, h1, fun vs H1 s1 hl p1 => hd vs ds d H1 Q (RA.of_get hl fun i x y e1 e2 => RL.r0 (p1 i x y e1 e2)) h2 fun v rv fl => q v H1 s1 (Post.of_flat (rv.hidF (g.ok.mono s1).noTup fl) (flat_top fl))⟩
theorem cbD (hd : CallD K r op) (hκ : κ.one = true) {t : TE} (ht : t = tCB r (tDA K 1 fs c)) : ∀ σ H Q, tD K κ (eCB op fs) c σ H Q → t σ H Q := by
  subst ht
  intro σ H Q ⟨B, L, ρ, d, g, es, hf, q⟩
  obtain ⟨ds, h1, h2⟩ := o1_some hf
  refine ⟨B, L, ρ, ds, g, es, h1, fun vs H1 s1 hl p1 => hd B vs ds d H1 Q (g.ok.mono s1) hl p1 h2 fun v H' s2 p2 => q v H' (s1.trans s2) ?_⟩
  have p := p2 κ hκ
  cases κ with
  | br m => exact p
  | fr =>
    obtain ⟨o, h1, h2, h3⟩ := p
    exact ⟨o, fun a z => s1.free (h1 a z), h2, h3⟩
  | fr2 => cases hκ
theorem qe_bF (hc : CallR X (.builtin id) r) (hd : CallF K r op) (hg : Gl X x) (hm : X.mg x = none) (hv : bootBuiltins x = some (.builtin id)) (ha : PA X (e :: es) (tDA K 1 fs c)) (hn : x ≠ "__name__" := by decide) (hdb : (x == ("__debug__" : Str)) = false := by decide)
    (he : starEach (e :: es) X.env = (false, eval e X.env) :: starEach es X.env := by rfl) (hpl : (backTo pos (starEach es X.env)).any (·.1) = false := by rfl) : PE X (.Call (.Name x p) (e :: es) [] pos) (tD K κ (eCB op fs) []) :=
  (pe_callB hc hg hm hv ha hn hdb he hpl).imp (cbF hd rfl)
theorem qe_bD (hc : CallR X (.builtin id) r) (hd : CallD K r op) (hg : Gl X x) (hm : X.mg x = none) (hv : bootBuiltins x = some (.builtin id)) (ha : PA X (e :: es) (tDA K 1 fs c)) (hκ : κ.one = true := by rfl) (hn : x ≠ "__name__" := by decide) (hdb : (x == ("__debug__" : Str)) = false := by decide)
    (he : starEach (e :: es) X.env = (false, eval e X.env) :: starEach es X.env := by rfl) (hpl : (backTo pos (starEach es X.env)).any (·.1) = false := by rfl) : PE X (.Call (.Name x p) (e :: es) [] pos) (tD K κ (eCB op fs) c) :=
  (pe_callB hc hg hm hv ha hn hdb he hpl).imp (cbD hd hκ rfl)
theorem qe_tF (hc : CallR X (.type T) r) (hd : CallF K r op) (hg : Gl X x) (hm : X.mg x = none) (hv : bootBuiltins x = some (.type T)) (ha : PA X (e :: es) (tDA K 1 fs c)) (hn : x ≠ "__name__" := by decide) (hdb : (x == ("__debug__" : Str)) = false := by decide)
    (he : starEach (e :: es) X.env = (false, eval e X.env) :: starEach es X.env := by rfl) (hpl : (backTo pos (starEach es X.env)).any (·.1) = false := by rfl) : PE X (.Call (.Name x p) (e :: es) [] pos) (tD K κ (eCB op fs) []) :=
  (pe_callTy hc hg hm hv ha hn hdb he hpl).imp (cbF hd rfl)
theorem qe_tD (hc : CallR X (.type T) r) (hd : CallD K r op) (hg : Gl X x) (hm : X.mg x = none) (hv : bootBuiltins x = some (.type T)) (ha : PA X (e :: es) (tDA K 1 fs c)) (hκ : κ.one = true := by rfl) (hn : x ≠ "__name__" := by decide) (hdb : (x == ("__debug__" : Str)) = false := by decide)
    (he : starEach (e :: es) X.env = (false, eval e X.env) :: starEach es X.env := by rfl) (hpl : (backTo pos (starEach es X.env)).any (·.1) = false := by rfl) : PE X (.Call (.Name x p) (e :: es) [] pos) (tD K κ (eCB op fs) c) :=
  (pe_callTy hc hg hm hv ha hn hdb he hpl).imp (cbD hd hκ rfl)
end
def d1 (op : D → Option D) : List D → Option D
  | [x] => op x
  | _ => none
def d2 (op : D → D → Option D) : List D → Option D
  | [x, y] => op x y
  | _ => none
theorem d1_some {op : D → Option D} {ds : List D} {d : D} (h : d1 op ds = some d) : ∃ x, ds = [x] ∧ op x = some d := by
  unfold d1 at h
  split at h
  · exact ⟨_, rfl, h⟩
  · cases h
theorem d2_some {op : D → D → Option D} {ds : List D} {d : D} (h : d2 op ds = some d) : ∃ x y, ds = [x, y] ∧ op x y = some d := by
  unfold d2 at h
  split at h
  · exact ⟨_, _, rfl, h⟩
  · cases h
section
variable {K : PySem.W.Frag} {H : Hp} {B : List Addr}
theorem RA.one {vs : List V} {x : D} (h : RA K H vs [x]) : ∃ v, vs = [v] ∧ R K H v x := by
  cases h with
  | cons h t => cases t; exact ⟨_, rfl, h⟩
theorem RA.two {vs : List V} {x y : D} (h : RA K H vs [x, y]) : ∃ v w, vs = [v, w] ∧ R K H v x ∧ R K H w y := by
  cases h with
  | cons h t =>
    cases t with
    | cons h' t => cases t; exact ⟨_, _, rfl, h, h'⟩
theorem one_of {vs : List V} {x : D} (hl : vs.length = [x].length) (h : ∀ (i : Nat) (v : V) (y : D), vs[i]? = some v → [x][i]? = some y → RL K B H 1 v y) : ∃ v, vs = [v] ∧ RL K B H 1 v x := by
  match vs, hl with
  | [v], _ => exact ⟨v, rfl, h 0 v x rfl rfl⟩
def dLen : D → Option D
  | .list ds => some (.int ds.length)
  | .tuple ds => some (.int ds.length)
  | .dict ((.none, .list ds) :: _) => some (.int ds.length)
  | _ => none
theorem cf_len : CallF K (fun xs H Q => ∃ p ys, xs = [.ref p] ∧ (SqL K H p ys ∨ SqT K H p ys) ∧ Q (.int ys.length) H) (d1 dLen) := by
  intro vs ds d H Q r h q
  obtain ⟨x, rfl, h'⟩ := d1_some h
  clear h
  have h := h'
  clear h'
  obtain ⟨v, rfl, rv⟩ := r.one
  unfold dLen at h
  split at h
  · cases rv with
    | lst h1 h2 =>
      cases (Option.some.inj h)
      exact ⟨_, _, rfl, .inl (SqL.of h1), by rw [h2.length]; exact q _ (.int _) rfl⟩
  · cases rv with
    | tup h1 h2 =>
      cases (Option.some.inj h)
      exact ⟨_, _, rfl, .inr (.inl (.inl h1)), by rw [h2.length]; exact q _ (.int _) rfl⟩
  · obtain ⟨a, xs, ds, rfl, e, h1, h2⟩ := RL.frz (B := []) (m := 0) (.z (by rw [hid_nil]; exact rv))
    cases e
    cases (Option.some.inj h)
    exact ⟨_, _, rfl, .inl h1, by rw [h2.length]; exact q _ (.int _) rfl⟩
  · cases h
def dInt : D → Option D
  | .int i => some (.int i)
  | .bool b => some (.int (if b then 1 else 0))
  | _ => none
theorem cf_int : CallF K (fun xs H Q => (∃ i, xs = [.int i] ∧ Q (.int i) H) ∨ ∃ k, xs = [.bl k] ∧ Q (.int (if k then 1 else 0)) H) (d1 dInt) := by
  intro vs ds d H Q r h q
  obtain ⟨x, rfl, h'⟩ := d1_some h
  clear h
  have h := h'
  clear h'
  obtain ⟨v, rfl, rv⟩ := r.one
  unfold dInt at h
  split at h
  · cases (Option.some.inj h)
    exact .inl ⟨_, by rw [rv.int'], q _ (.int _) rfl⟩
  · cases (Option.some.inj h)
    exact .inr ⟨_, by rw [rv.bl'], q _ (.int _) rfl⟩
  · cases h
def dAbs : D → Option D
  | .int i => some (.int (if i < 0 then -i else i))
  | _ => none
theorem cf_abs : CallF K (fun xs H Q => ∃ i, xs = [.int i] ∧ Q (.int (if i < 0 then -i else i)) H) (d1 dAbs) := by
  intro vs ds d H Q r h q
  obtain ⟨x, rfl, h'⟩ := d1_some h
  clear h
  have h := h'
  clear h'
  obtain ⟨v, rfl, rv⟩ := r.one
  unfold dAbs at h
  split at h
  · cases (Option.some.inj h)
    exact ⟨_, by rw [rv.int'], q _ (.int _) rfl⟩
  · cases h
def dMax2 : D → D → Option D
  | .int i, .int j => some (.int (if j > i then j else i))
  | _, _ => none
def dMin2 : D → D → Option D
  | .int i, .int j => some (.int (if j < i then j else i))
  | _, _ => none
theorem cf_min2 : CallF K (fun xs H Q => ∃ i j, xs = [.int i, .int j] ∧ Q (.int (if j < i then j else i)) H) (d2 dMin2) := by
  intro vs ds d H Q r h q
  obtain ⟨x, y, rfl, h'⟩ := d2_some h
  clear h
  have h := h'
  clear h'
  obtain ⟨v, w, rfl, rv, rw'⟩ := r.two
  unfold dMin2 at h
  split at h
  · cases (Option.some.inj h)
    exact ⟨_, _, by rw [rv.int', rw'.int'], q _ (.int _) rfl⟩
  · cases h
def intsD : List D → Option (List Int)
  | [] => some []
  | .int i :: r => o1 (intsD r) fun is => some (i :: is)
  | _ => none
theorem intsD_some : ∀ {ds : List D} {is : List Int}, intsD ds = some is → ds = is.map PyData.int
  | [], is, h => by cases (Option.some.inj h); rfl
  | .int i :: r, is, h => by
    obtain ⟨js, h1, h2⟩ := o1_some (show o1 (intsD r) (fun is => some (i :: is)) = some is from h)
    cases (Option.some.inj h2)
    rw [intsD_some h1]; rfl
  | .none :: _, _, h => by cases h
  | .bool _ :: _, _, h => by cases h
  | .str _ :: _, _, h => by cases h
  | .list _ :: _, _, h => by cases h
  | .tuple _ :: _, _, h => by cases h
  | .dict _ :: _, _, h => by cases h
def bools : List D → Option (List Bool)
  | [] => some []
  | .bool i :: r => o1 (bools r) fun is => some (i :: is)
  | _ => none
theorem bools_some : ∀ {ds : List D} {is : List Bool}, bools ds = some is → ds = is.map PyData.bool
  | [], is, h => by cases (Option.some.inj h); rfl
  | .bool i :: r, is, h => by
    obtain ⟨js, h1, h2⟩ := o1_some (show o1 (bools r) (fun is => some (i :: is)) = some is from h)
    cases (Option.some.inj h2)
    rw [bools_some h1]; rfl
  | .none :: _, _, h => by cases h
  | .int _ :: _, _, h => by cases h
  | .str _ :: _, _, h => by cases h
  | .list _ :: _, _, h => by cases h
  | .tuple _ :: _, _, h => by cases h
  | .dict _ :: _, _, h => by cases h
def dSum : D → Option D
  | .list ds => o1 (intsD ds) fun is => some (.int is.sum)
  | .tuple ds => o1 (intsD ds) fun is => some (.int is.sum)
  | _ => none
def rSumA (K : PySem.W.Frag) : List V → Hp → VK → Prop := fun vs H Q => ∃ (a : Addr) (ns : List Int), vs = [V.ref a] ∧ (SqL K H a (ns.map V.int) ∨ SqT K H a (ns.map V.int)) ∧ Q (.int ns.sum) H
theorem sum_rawT {prog : Program} {w : World} {A : Around} {E : Value → Shared → Prop} {s : Shared} {l : Addr} {its : List Value} {ns : List Int} {Q : Value → Shared → Prop} (hh : A.handled = none) (hl : s.heap.IsTuple l its.toArray) (hi : IntsAre its ns)
    (h : ∀ h' tk t', (∀ b o, s.heap.get? b = some o → h'.get? b = some o) → Q (.int ns.sum t') { s with heap := h', toks := tk }) : wpAny (model prog w) A (call (.builtin "sum") [.ref l]) Q E s := by
  obtain ⟨xs, e⟩ := hi.allInts.items
  have hn : numsOf (intItems xs).toList = ns := by rw [← e]; exact hi.numsOf
  rw [nums_intItems] at hn
  rw [e] at hl
  refine PySem.W.ktm_sumG hh hl fun h' tk t' hk => ?_
  have := h h' tk t' hk
  rw [preSum_eq, List.take_of_length_le (by simp), hn]; exact this
theorem cr_sumA {X : Cx} (hc : X.calm = true) : CallR X (.builtin "sum") (rSumA X.K) := by
  intro pins s σ H vs us Q I r h
  obtain ⟨a, ns, rfl, hs, q⟩ := h
  rw [Vals.ref1 r]
  rcases hs with hs | hs
  · obtain ⟨its, rv, hl, _⟩ := I.list hs
    exact sum_raw (I.ok.hd hc) hl.isList rv.ints fun h' tk t' hk => ⟨.int _, H, I.kept hk, ⟨_, rfl⟩, q⟩
  · obtain ⟨its, rv, hl, _⟩ := I.tuple hs
    exact sum_rawT (I.ok.hd hc) hl rv.ints fun h' tk t' hk => ⟨.int _, H, I.kept hk, ⟨_, rfl⟩, q⟩
theorem cf_sum : CallF K (rSumA K) (d1 dSum) := by
  intro vs ds d H Q r h q
  obtain ⟨x, rfl, h'⟩ := d1_some h
  clear h
  have h := h'
  clear h'
  obtain ⟨v, rfl, rv⟩ := r.one
  unfold dSum at h
  split at h
  · obtain ⟨is, h1, h2⟩ := o1_some h
    cases (Option.some.inj h2)
    cases rv with
    | lst e1 e2 =>
      rw [intsD_some h1] at e2
      have e3 := e2.ints
      subst e3
      exact ⟨_, _, rfl, .inl (SqL.of e1), q _ (.int _) rfl⟩
  · obtain ⟨is, h1, h2⟩ := o1_some h
    cases (Option.some.inj h2)
    cases rv with
    | tup e1 e2 =>
      rw [intsD_some h1] at e2
      have e3 := e2.ints
      subst e3
      exact ⟨_, _, rfl, .inr (.inl (.inl e1)), q _ (.int _) rfl⟩
  · cases h
def dAll : D → Option D
  | .list ds => o1 (bools ds) fun is => some (.bool (is.all id))
  | _ => none
def dAny : D → Option D
  | .list ds => o1 (bools ds) fun is => some (.bool (is.any id))
  | _ => none
theorem cf_all : CallF K (rAll K) (d1 dAll) := by
  intro vs ds d H Q r h q
  obtain ⟨x, rfl, h'⟩ := d1_some h
  clear h
  have h := h'
  clear h'
  obtain ⟨v, rfl, rv⟩ := r.one
  unfold dAll at h
  split at h
  · obtain ⟨is, h1, h2⟩ := o1_some h
    cases (Option.some.inj h2)
    cases rv with
    | lst e1 e2 =>
      rw [bools_some h1] at e2
      have e3 := e2.bools
      subst e3
      exact ⟨_, _, rfl, SqL.of e1, q _ (.bl _) rfl⟩
  · cases h
theorem cf_any : CallF K (rAny K) (d1 dAny) := by
  intro vs ds d H Q r h q
  obtain ⟨x, rfl, h'⟩ := d1_some h
  clear h
  have h := h'
  clear h'
  obtain ⟨v, rfl, rv⟩ := r.one
  unfold dAny at h
  split at h
  · obtain ⟨is, h1, h2⟩ := o1_some h
    cases (Option.some.inj h2)
    cases rv with
    | lst e1 e2 =>
      rw [bools_some h1] at e2
      have e3 := e2.bools
      subst e3
      exact ⟨_, _, rfl, SqL.of e1, q _ (.bl _) rfl⟩
  · cases h
def dTuple : D → Option D
  | .list ds => some (.tuple ds)
  | .tuple ds => some (.tuple ds)
  | _ => none
theorem cd_tuple : CallD K (fun xs H Q => ∃ p ys, xs = [.ref p] ∧ ((SqL K H p ys ∧ ∀ l, H l = none → Q (.ref l) (upd H l (.tup ys))) ∨ (SqT K H p ys ∧ Q (.ref p) H))) (d1 dTuple) := by
  intro B vs ds d H Q ok hl r h q
  obtain ⟨x, rfl, h'⟩ := d1_some h
  clear h
  have h := h'
  clear h'
  obtain ⟨v, rfl, rv⟩ := one_of hl r
  unfold dTuple at h
  split at h
  · cases (Option.some.inj h)
    obtain ⟨p, ys, rfl, h1, h2⟩ := rv.list1
    refine ⟨p, ys, rfl, .inl ⟨SqL.of h1, fun l hn => ?_⟩⟩
    have s := same_upd (o := HO.tup ys) hn
    refine q _ _ s fun κ _ => Post.of_flat (.tup (a := l) (xs := ys) ?_ (h2.mono (same_hid s))) rfl
    rw [hid_out (ok.trk.new hn), upd_same]
  · cases (Option.some.inj h)
    obtain ⟨p, ys, rfl, h1, h1', h2⟩ := rv.tup
    exact ⟨p, ys, rfl, .inr ⟨h1, q _ _ (Same.refl H) fun κ _ => Post.of_flat (.tup h1' h2) rfl⟩⟩
  · cases h
def dList : D → Option D
  | .list ds => some (.list ds)
  | .tuple ds => some (.list ds)
  | _ => none
theorem same_hidC {p : Addr} {o : HO} (hn : H p = none) : Same (hid B H) (hid (p :: B) (upd H p o)) := same_hidW (same_upd hn) fun b hb => by
  rcases List.mem_cons.mp hb with e | hb
  · rw [e]; exact .inr hn
  · exact .inl hb
theorem cd_list : CallD K (fun xs H Q => ∃ p ys, xs = [.ref p] ∧ (SqL K H p ys ∨ SqT K H p ys) ∧ ∀ l, H l = none → Q (.ref l) (upd H l (.lst ys))) (d1 dList) := by
  intro B vs ds d H Q ok hl r h q
  obtain ⟨x, rfl, h'⟩ := d1_some h
  clear h
  have h := h'
  clear h'
  obtain ⟨v, rfl, rv⟩ := one_of hl r
  unfold dList at h
  split at h
  · cases (Option.some.inj h)
    obtain ⟨p, ys, rfl, h1, h2⟩ := rv.list1
    exact ⟨p, ys, rfl, .inl (SqL.of h1), fun l hn => q _ _ (same_upd hn) fun κ hκ => Post.new ok.trk hn upd_same (h2.mono (same_hidC hn)) hκ⟩
  · cases (Option.some.inj h)
    obtain ⟨p, ys, rfl, h1, h1', h2⟩ := rv.tup
    exact ⟨p, ys, rfl, .inr h1, fun l hn => q _ _ (same_upd hn) fun κ hκ => Post.new ok.trk hn upd_same (h2.mono (same_hidC hn)) hκ⟩
  · cases h
end
def isTy : D → String → Option Bool
  | .none, n => kitB "NoneType" n
  | .bool _, n => kitB "bool" n
  | .int _, n => kitB "int" n
  | .str _, n => kitB "str" n
  | .list _, n => kitB "list" n
  | .tuple _, n => kitB "tuple" n
  | .dict _, _ => none
def eIsi (n : String) (f : FE) : FE := fun ρ => o1 (f ρ) fun d => o1 (isTy d n) fun b => some (.bool b)
section
variable {X : Cx} {K : PySem.W.Frag} {κ : Mo} {p pos p2 : Pos} {a : Expr} {fa : FE} {c : Esc} {n : String} {y : Str}
theorem seqT_ty {H : Hp} {q : Addr} {xs : List V} (h : SqT K H q xs) : TyX K H (.ref q) (.type "tuple") := by
  rcases h with (h | ⟨o, h⟩) | ⟨o, its, n, h1, h2, _⟩
  · exact .base (.tup h)
  · exact .fTuple h
  · exact .kTuple h1 h2
theorem isTy_ok {H : Hp} {v : V} {d : D} {b : Bool} (r : R K H v d) (h : isTy d n = some b) : ∃ t, TyX K H v t ∧ PySem.W.kitOne K t (.type n) = some b := by
  cases r with
  | non => exact ⟨_, .base .non, kit_ty h⟩
  | bl x => exact ⟨_, .base (.bl x), kit_ty h⟩
  | int x => exact ⟨_, .base (.int x), kit_ty h⟩
  | str x => exact ⟨_, .base (.str x), kit_ty h⟩
  | lst h1 _ => exact ⟨_, .base (.lst h1), kit_ty h⟩
  | tup h1 _ => exact ⟨_, seqT_ty (.inl (.inl h1)), kit_ty h⟩
  | frz _ _ => cases h
  | rng _ => cases h
  | dk _ _ => cases h
  | dt _ _ => cases h
theorem qe_isi (hg : Gl X "isinstance") (hm : X.mg "isinstance" = none) (ha : PE X a (tD K (.br 1) fa c)) (hg2 : Gl X y) (hm2 : X.mg y = none) (hv2 : bootBuiltins y = some (.type n)) (hX : X.K = K := by rfl) (hn : y ≠ "__name__" := by decide) (hd : (y == ("__debug__" : Str)) = false := by decide)
    (he : starEach [a, .Name y p2] X.env = (false, eval a X.env) :: starEach [.Name y p2] X.env := by rfl) (he2 : starEach [.Name y p2] X.env = (false, eval (.Name y p2) X.env) :: starEach [] X.env := by rfl) (hpl : (backTo pos (starEach [.Name y p2] X.env)).any (·.1) = false := by rfl) :
    PE X (.Call (.Name "isinstance" p) [a, .Name y p2] [] pos) (tD K κ (eIsi n fa) []) := by
  subst hX
  refine (pe_callB call_isi hg hm (by decide +kernel) (pa_cons ha (pa_cons (pe_bltn (v := .ty n) hg2 hm2 hv2 rfl hn hd) pa_nil he2) he) (by decide) (by decide) he hpl).imp fun σ H Q ⟨B, L, ρ, d, g, es, hf, q⟩ => ?_
  obtain ⟨dx, h1, h2⟩ := o1_some hf
  obtain ⟨b, h3, h4⟩ := o1_some h2
  cases (Option.some.inj h4)
  refine ⟨[], _, ρ, dx, g.zero, .zero, h1, fun x H1 s1 p1 => ?_⟩
  obtain ⟨t, h5, h6⟩ := isTy_ok (RL.r0 p1) h3
  exact ⟨x, .ty n, t, .type n, b, rfl, .ty n, h5, h6, q _ H1 s1 (Post.of_flat (.bl b) rfl)⟩
end
def cutD (ds : List D) (lo hi : Option Int) : List D := (ds.drop (HT.sIx ds.length 0 lo)).take (HT.sIx ds.length ds.length hi - HT.sIx ds.length 0 lo)
abbrev FO := PEnv → Option (Option Int)
def oNone : FO := fun _ => some none
def oSome (f : FE) : FO := fun ρ => o1 (f ρ) fun d => match d with
  | .int i => some (some i)
  | _ => none
def dSlice (lo hi : Option Int) : D → Option D
  | .list ds => some (.list (cutD ds lo hi))
  | .tuple ds => some (.tuple (cutD ds lo hi))
  | _ => none
def eSl (f : FE) (lo hi : FO) : FE := fun ρ => match f ρ, lo ρ, hi ρ with
  | some d, some l, some h => dSlice l h d
  | _, _, _ => none
def tO (K : PySem.W.Frag) (f : FO) : TO := fun σ H Q => ∃ B L ρ o, Good K B L σ H ρ ∧ f ρ = some o ∧ ∀ H', Same H H' → Q o H'
section
variable {X : Cx} {K : PySem.W.Frag} {κ : Mo} {pos p2 : Pos} {a e : Expr} {lo hi : Option Expr} {fa : FE} {fl fh : FO} {c : Esc}
theorem _root_.L2.PO.imp {e : Option Expr} {t t' : TO} (h : PO X e t) (w : ∀ σ H Q, t' σ H Q → t σ H Q) : PO X e t' := ⟨fun pins s σ H Q I q => h.run pins s σ H Q I (w σ H Q q)⟩
theorem qo_none : PO X none (tO K oNone) := po_none.imp fun σ H Q ⟨B, L, ρ, o, g, h, q⟩ => by
  cases (Option.some.inj h)
  exact q H (Same.refl H)
theorem qo_some (h : PE X e (tD K (.br 1) fa c)) : PO X (some e) (tO K (oSome fa)) := (po_some h).imp fun σ H Q ⟨B, L, ρ, o, g, h, q⟩ => by
  obtain ⟨d, h1, h2⟩ := o1_some h
  refine ⟨[], _, ρ, d, g.zero, .zero, h1, fun v H1 s1 p1 => ?_⟩
  split at h2
  · cases (Option.some.inj h2)
    exact ⟨_, RL.int p1, q H1 s1⟩
  · cases h2
theorem cutV_R {H : Hp} {xs : List V} {ds : List D} (h : RA K H xs ds) (lo hi : Option Int) : RA K H (cutV xs lo hi) (cutD ds lo hi) := by
  unfold cutV cutD
  rw [h.length]
  exact (h.drop _).take _
theorem qe_sl (ha : PE X a (tD K (.br 1) fa c)) (hl : PO X lo (tO K fl)) (hh : PO X hi (tO K fh)) (hX : X.K = K := by rfl) (hκ : κ.one = true := by rfl) : PE X (.Subscript a (.Slice lo hi none p2) pos) (tD K κ (eSl fa fl fh) c) := by
  subst hX
  refine (pe_slice (sl_list.or sl_tupA) ha hl hh).imp fun σ H Q ⟨B, L, ρ, d, g, es, hf, q⟩ => ?_
  unfold eSl at hf
  split at hf
  · rename_i dx l h e1 e2 e3
    refine ⟨B, L, ρ, dx, g, es, e1, fun x H1 s1 p1 => ⟨B, L, ρ, l, g.mono s1, e2, fun H2 s2 => ⟨B, L, ρ, h, (g.mono s1).mono s2, e3, fun H3 s3 => ?_⟩⟩⟩
    have s13 := s2.trans s3
    have ok := ((g.ok.mono s1).mono s13)
    have p1 : RL X.K B H3 1 x dx := RL.mono s13 (same_hid s13) p1
    unfold dSlice at hf
    split at hf
    · cases (Option.some.inj hf)
      obtain ⟨p, ys, rfl, h1, h2⟩ := p1.list1
      refine .inl ⟨p, ys, rfl, SqL.of h1, fun t nt => q _ _ ((s1.trans s13).trans (same_upd nt)) ?_⟩
      have := Post.new (κ := κ) (H' := upd H3 t (.lst (cutV ys l h))) g.ok.trk ((s1.trans s13).free nt) upd_same ((cutV_R h2 l h).mono (same_hidC nt)) hκ
      exact this
    · cases (Option.some.inj hf)
      obtain ⟨p, ys, rfl, h1, h1', h2⟩ := p1.tup
      refine .inr ⟨p, ys, rfl, h1, fun hw => ?_, fun _ t nt => ?_⟩
      · have e : ∀ {ds : List D}, ds.length = ys.length → cutD ds l h = ds := fun {ds} e => by
          unfold cutD
          rw [e, hw.1, hw.2, List.drop_zero, Nat.sub_zero, ← e, List.take_length]
        rw [e h2.length.symm] at q
        exact q _ _ (s1.trans s13) (Post.of_flat (.tup h1' h2) rfl)
      · have s := same_upd (o := HO.tup (cutV ys l h)) nt
        refine q _ _ ((s1.trans s13).trans s) (Post.of_flat (.tup (a := t) (xs := cutV ys l h) ?_ ((cutV_R h2 l h).mono (same_hid s))) rfl)
        rw [hid_out (ok.trk.new nt), upd_same]
    · cases hf
  · cases hf
end
end DS
end
section
set_option Elab.async false
set_option linter.all false
set_option maxRecDepth 100000
namespace DS
open PySem PySem.Spec PyProof.Rows L2
variable [Tbls]
inductive Tg where
  | nm (i : Nat)
  | tp (ts : List Tg)
mutual
def Tg.go : Tg → D → Option (List (Nat × D))
  | .nm i, d => some [(i, d)]
  | .tp ts, .tuple ds => Tg.gos ts ds
  | .tp _, _ => none
def Tg.gos : List Tg → List D → Option (List (Nat × D))
  | [], [] => some []
  | t :: ts, d :: ds => match Tg.go t d, Tg.gos ts ds with
    | some l, some m => some (l ++ m)
    | _, _ => none
  | _, _ => none
end
mutual
def Tg.ix : Tg → List Nat
  | .nm i => [i]
  | .tp ts => Tg.ixs ts
def Tg.ixs : List Tg → List Nat
  | [] => []
  | t :: ts => Tg.ix t ++ Tg.ixs ts
end
mutual
theorem Tg.go_ix : ∀ {t : Tg} {d : D} {l : List (Nat × D)}, t.go d = some l → l.map (·.1) = t.ix
  | .nm i, d, l, h => by
    unfold Tg.go at h
    cases (Option.some.inj h); rfl
  | .tp ts, .tuple ds, l, h => by
    unfold Tg.go at h
    unfold Tg.ix
    exact Tg.gos_ix h
  | .tp ts, .none, l, h => by unfold Tg.go at h; cases h
  | .tp ts, .bool _, l, h => by unfold Tg.go at h; cases h
  | .tp ts, .int _, l, h => by unfold Tg.go at h; cases h
  | .tp ts, .str _, l, h => by unfold Tg.go at h; cases h
  | .tp ts, .list _, l, h => by unfold Tg.go at h; cases h
  | .tp ts, .dict _, l, h => by unfold Tg.go at h; cases h
theorem Tg.gos_ix : ∀ {t : List Tg} {d : List D} {l : List (Nat × D)}, Tg.gos t d = some l → l.map (·.1) = Tg.ixs t
  | [], [], l, h => by
    unfold Tg.gos at h
    cases (Option.some.inj h); rfl
  | t :: ts, d :: ds, l, h => by
    unfold Tg.gos at h
    split at h
    · rename_i l1 l2 h1 h2
      cases (Option.some.inj h)
      unfold Tg.ixs
      rw [List.map_append, Tg.go_ix h1, Tg.gos_ix h2]
    · cases h
  | [], _ :: _, l, h => by unfold Tg.gos at h; cases h
  | _ :: _, [], l, h => by unfold Tg.gos at h; cases h
end
def setsV (σ : St) (l : List (Nat × V)) : St := l.foldl (fun s p => s.set p.1 (some p.2)) σ
def setsD (ρ : PEnv) (l : List (Nat × D)) : PEnv := l.foldl (fun s p => s.set p.1 (some p.2)) ρ
inductive RS (K : PySem.W.Frag) (H : Hp) : List (Nat × V) → List (Nat × D) → Prop
  | nil : RS K H [] []
  | cons {i : Nat} {v : V} {d : D} {l : List (Nat × V)} {m : List (Nat × D)} : R K H v d → RS K H l m → RS K H ((i, v) :: l) ((i, d) :: m)
theorem RS.append {K : PySem.W.Frag} {H : Hp} : ∀ {l l' : List (Nat × V)} {m m' : List (Nat × D)}, RS K H l m → RS K H l' m' → RS K H (l ++ l') (m ++ m')
  | _, _, _, _, .nil, q => q
  | _, _, _, _, .cons h t, q => .cons h (RS.append t q)
theorem RS.ix {K : PySem.W.Frag} {H : Hp} : ∀ {l : List (Nat × V)} {m : List (Nat × D)}, RS K H l m → l.map (·.1) = m.map (·.1)
  | _, _, .nil => rfl
  | _, _, .cons _ t => by rw [List.map_cons, List.map_cons, RS.ix t]
theorem setsV_append (σ : St) (l m : List (Nat × V)) : setsV σ (l ++ m) = setsV (setsV σ l) m := by
  unfold setsV; rw [List.foldl_append]
def tG (K : PySem.W.Frag) (t : Tg) : TG := fun v σ H Q => ∃ B d l, R K (hid B H) v d ∧ t.go d = some l ∧ ∀ m, RS K (hid B H) m l → Q (setsV σ m) H
def tGs (K : PySem.W.Frag) (ts : List Tg) : TGs := fun vs σ H Q => ∃ B ds l, RA K (hid B H) vs ds ∧ Tg.gos ts ds = some l ∧ ∀ m, RS K (hid B H) m l → Q (setsV σ m) H
theorem _root_.L2.PG.imp {X : Cx} {e : Expr} {t t' : TG} (h : PG X e t) (w : ∀ v σ H Q, t' v σ H Q → t v σ H Q) : PG X e t' := ⟨fun pins s σ H v u Q I r q => h.run pins s σ H v u Q I r (w v σ H Q q)⟩
theorem _root_.L2.PGs.imp {X : Cx} {e : List Expr} {t t' : TGs} (h : PGs X e t) (w : ∀ v σ H Q, t' v σ H Q → t v σ H Q) : PGs X e t' := ⟨fun pins s σ H v u Q I r q => h.run pins s σ H v u Q I r (w v σ H Q q)⟩
section
variable {X : Cx} {K : PySem.W.Frag} {pos : Pos}
theorem gg_of {e : Expr} {i : Nat} (h : PG X e (gName i)) : PG X e (tG K (.nm i)) := h.imp fun v σ H Q ⟨B, d, l, h1, h2, q⟩ => by
  unfold Tg.go at h2
  cases (Option.some.inj h2)
  exact q [(i, v)] (.cons h1 .nil)
theorem gg (i : Nat) {x : Str} (hN : X.N.Nodup) (hi : X.N[i]? = some x := by rfl) (hx : Loc X.env.scope x := by first | exact Or.inl rfl | exact Or.inr rfl) (hf : X.fn x = true ∨ X.env.scope.names.lookup x = some .local := by first | exact .inl rfl | exact .inr rfl) : PG X (.Name x pos) (tG K (.nm i)) := gg_of (pg_name hN hi hx hf)
theorem ggs_nil : PGs X [] (tGs K []) := pgs_nil.imp fun v σ H Q ⟨B, ds, l, h1, h2, q⟩ => by
  cases ds with
  | nil =>
    cases h1
    unfold Tg.gos at h2
    cases (Option.some.inj h2)
    exact ⟨rfl, q [] .nil⟩
  | cons _ _ => unfold Tg.gos at h2; cases h2
theorem ggs_cons {e : Expr} {es : List Expr} {t : Tg} {ts : List Tg} (h : PG X e (tG K t)) (hs : PGs X es (tGs K ts)) (he : (assignEach (e :: es) X.env).map (·.2) = assign e X.env :: (assignEach es X.env).map (·.2) := by rfl) : PGs X (e :: es) (tGs K (t :: ts)) :=
  (pgs_cons h hs he).imp fun v σ H Q ⟨B, ds, l, h1, h2, q⟩ => by
  cases ds with
  | nil => unfold Tg.gos at h2; cases h2
  | cons d ds =>
    cases h1 with
    | cons r rs =>
      unfold Tg.gos at h2
      split at h2
      · rename_i l1 l2 e1 e2
        cases (Option.some.inj h2)
        exact ⟨_, _, rfl, B, d, l1, r, e1, fun m hm => ⟨B, ds, l2, rs, e2, fun m2 hm2 => by
          rw [← setsV_append]
          exact q _ (hm.append hm2)⟩⟩
      · cases h2
theorem Tg.gos_len : ∀ {ts : List Tg} {ds : List D} {l : List (Nat × D)}, Tg.gos ts ds = some l → ts.length = ds.length
  | [], [], _, _ => rfl
  | t :: ts, d :: ds, l, h => by
    unfold Tg.gos at h
    split at h
    · rename_i h2
      rw [List.length_cons, List.length_cons, Tg.gos_len h2]
    · cases h
  | [], _ :: _, l, h => by unfold Tg.gos at h; cases h
  | _ :: _, [], l, h => by unfold Tg.gos at h; cases h
theorem gg_tup {es : List Expr} {k : Nat} {ts : List Tg} (hc : X.calm = true) (h : PGs X es (tGs K ts)) (hX : X.K = K := by rfl)
    (hn : (assignEach es X.env).length = ts.length := by rfl) (hst : (assignEach es X.env).findIdx? (·.1) = none := by rfl) : PG X (.Tuple es k pos) (tG K (.tp ts)) := by
  subst hX
  refine (pg_tup hc h hn hst).imp fun v σ H Q ⟨B, d, l, h1, h2, q⟩ => ?_
  cases d with
  | tuple ds =>
    unfold Tg.go at h2
    cases h1 with
    | tup e1 e2 => exact ⟨_, _, rfl, seqT_mono same_unhid (.inl (.inl e1)), by rw [e2.length, Tg.gos_len h2], B, ds, l, e2, h2, q⟩
  | _ => unfold Tg.go at h2; cases h2
end
structure Walks (K : PySem.W.Frag) (G : Hp) (B : List Addr) (J : It) (ds : List D) : Prop where
  go : ∀ i H, i < ds.length → Same G H → J.go i H
  stop : ∀ H, Same G H → J.stop ds.length H
  yld : ∀ i H x H' d, ds[i]? = some d → Same G H → J.yld i H x H' → Same H H' ∧ ∀ B', Ok B' H → (∀ a ∈ B', (a ∈ B ∨ G a = none) ∧ H a ≠ none) → R K (hid B' H') x d
def gOf (m : Nat) (B : List Addr) (H : Hp) : Hp := match m with
  | 0 => hid B H
  | _ => H
def tI (K : PySem.W.Frag) (m : Nat) (f : FA) (c : Esc) : TI := fun σ H Rr => ∃ B L ρ ds, Good K B L σ H ρ ∧ EscOk c L ∧ f ρ = some ds ∧ ∀ J H1, Same H H1 → Walks K (gOf m B H1) B J ds → Rr J H1
theorem gOf_unhid {m : Nat} {B : List Addr} {H : Hp} : Same (gOf m B H) H := by
  cases m with
  | zero => exact same_unhid
  | succ m => exact Same.refl H
theorem same_gOf {m : Nat} {B : List Addr} {H : Hp} : Same (hid B H) (gOf m B H) := by
  cases m with
  | zero => exact Same.refl _
  | succ m => exact same_unhid
theorem keepR {m : Nat} {B B' : List Addr} {H1 H H' : Hp} (s : Same (gOf m B H1) H) (s' : Same H H') (h : ∀ a ∈ B', (a ∈ B ∨ gOf m B H1 a = none) ∧ H a ≠ none) : Same (hid B H1) (hid B' H') := by
  have t := (same_gOf (m := m)).trans (s.trans s')
  refine ⟨fun b o q n => ?_, fun p hp z => tabN_hid.mpr (t.tab p hp z), fun b ps q => ?_⟩
  · obtain ⟨q1, q2⟩ := hid_some q
    have q3 : gOf m B H1 b = some o := same_gOf.get b o q n
    refine hid_of (t.get b o q n) fun mo z => ?_
    rcases (h b z).1 with z | z
    · exact q1 mo z
    · rw [q3] at z; cases z
  · obtain ⟨ps', q'⟩ := t.tbl b ps q
    exact ⟨ps', hid_of q' fun z => by cases z⟩
section
variable {X : Cx} {K : PySem.W.Frag} {pos p tpos : Pos} {tg e : Expr} {f : FE} {c : Esc} {m : Nat}
def seqOf : D → Option (List D)
  | .list ds => some ds
  | .tuple ds => some ds
  | _ => none
def iSeq (f : FE) : FA := fun ρ => o1 (f ρ) seqOf
theorem RL.listG {B : List Addr} {H : Hp} {v : V} {ds : List D} (hm : m ≤ 1) (h : RL K B H m v (.list ds)) : ∃ a xs, v = .ref a ∧ gOf m B H a = some (.lst xs) ∧ RA K (hid B H) xs ds := by
  match m, hm with
  | 0, _ =>
    have := h.r
    cases this with
    | lst h1 h2 => exact ⟨_, _, rfl, h1, h2⟩
  | 1, _ => exact h.list1
theorem walks_list {B : List Addr} {H1 : Hp} {a : Addr} {xs : List V} {ds : List D} (h1 : gOf m B H1 a = some (.lst xs)) (h2 : RA K (hid B H1) xs ds) : Walks K (gOf m B H1) B (Itl K a) ds where
  go := fun i H hi s => ⟨xs, xs[i]'(by rw [h2.length]; exact hi), SqL.of (s _ _ h1), by simp⟩
  stop := fun H s => ⟨xs, SqL.of (s _ _ h1), by rw [h2.length]; exact Nat.le_refl _⟩
  yld := fun i H x H' d hd s y => by
    obtain ⟨e, y⟩ := y
    subst e
    obtain ⟨z, e1, r⟩ := h2.get hd
    have e2 := y xs (SqL.of (s _ _ h1))
    rw [e1] at e2
    cases (Option.some.inj e2)
    exact ⟨Same.refl _, fun B' _ hb => r.mono (keepR s (Same.refl _) hb)⟩
theorem walks_tup {B : List Addr} {H1 : Hp} {a : Addr} {xs : List V} {ds : List D} (h1 : SqT K (hid B H1) a xs) (h2 : RA K (hid B H1) xs ds) : Walks K (gOf m B H1) B (Itt K a) ds where
  go := fun i H hi s => ⟨xs, xs[i]'(by rw [h2.length]; exact hi), seqT_mono s (seqT_mono same_gOf h1), by simp⟩
  stop := fun H s => ⟨xs, seqT_mono s (seqT_mono same_gOf h1), by rw [h2.length]; exact Nat.le_refl _⟩
  yld := fun i H x H' d hd s y => by
    obtain ⟨e, y⟩ := y
    subst e
    obtain ⟨z, e1, r⟩ := h2.get hd
    have e2 := y xs (seqT_mono s (seqT_mono same_gOf h1))
    rw [e1] at e2
    cases (Option.some.inj e2)
    exact ⟨Same.refl _, fun B' _ hb => r.mono (keepR s (Same.refl _) hb)⟩
def iLT (K : PySem.W.Frag) (tl : TE) : TI := fun σ H R => tl σ H fun x H1 => ∃ a, x = .ref a ∧ ((∃ xs, SqL K H1 a xs ∧ R (Itl K a) H1) ∨ (∃ xs, SqT K H1 a xs ∧ R (Itt K a) H1))
theorem pi_lt {l : Expr} {tl : TE} (hl : PE X l tl) : PI X tg l (iLT X.K tl) := by
  refine ⟨fun pins s σ H R I h => ?_⟩
  refine thn (hl.run pins s σ H _ I h) fun v s1 ⟨x, H1, I1, r1, q1⟩ => ?_
  obtain ⟨a, e, q⟩ := q1
  subst e
  cases r1
  rcases q with ⟨xs, hq, q⟩ | ⟨xs, hq, q⟩
  · obtain ⟨its, rv, p, hz⟩ := I1.list hq
    refine wpAny_pyIter_list p.isList ?_
    refine ⟨s1.heap.objs.size, [s1.heap.objs.size], _, _, H1, rfl, I1.kept (t' := s1.toks) fun b o e => Heap.get?_push_of_some _ e, turn_list a _, ⟨_, Heap.get?_push_size _ rfl, rfl, rfl⟩, fun b hb => ?_, q⟩
    have e : b = s1.heap.objs.size := by simpa using hb
    subst e
    exact I1.fpOk (Nat.le_refl _) (I1.hok.fresh (Nat.le_refl _))
  · obtain ⟨its, rv, p, hz⟩ := I1.tuple hq
    refine wpAny_pyIter_tuple (show s1.heap.IsTuple a its.toArray from p) ?_
    refine ⟨s1.heap.objs.size, [s1.heap.objs.size], _, _, H1, rfl, I1.kept (t' := s1.toks) fun b o e => Heap.get?_push_of_some _ e, turn_tuple a _, ⟨_, Heap.get?_push_size _ rfl, rfl, rfl⟩, fun b hb => ?_, q⟩
    have e : b = s1.heap.objs.size := by simpa using hb
    subst e
    exact I1.fpOk (Nat.le_refl _) (I1.hok.fresh (Nat.le_refl _))
theorem qi_seq (h : PE X e (tD K (.br m) f c)) (hm : m ≤ 1 := by decide) (hX : X.K = K := by rfl) : PI X tg e (tI K m (iSeq f) c) := by
  subst hX
  refine (pi_lt h).imp fun σ H Rr ⟨B, L, ρ, ds, g, es, hf, q⟩ => ?_
  obtain ⟨d, h1, h2⟩ := o1_some hf
  refine ⟨B, L, ρ, d, g, es, h1, fun v H1 s1 p1 => ?_⟩
  unfold seqOf at h2
  split at h2
  · cases (Option.some.inj h2)
    obtain ⟨a, xs, rfl, e1, e2⟩ := RL.listG hm p1
    exact ⟨a, rfl, .inl ⟨xs, SqL.of (gOf_unhid _ _ e1), q _ H1 s1 (walks_list e1 e2)⟩⟩
  · cases (Option.some.inj h2)
    obtain ⟨a, xs, rfl, e1, e1', e2⟩ := RL.tup p1
    exact ⟨a, rfl, .inr ⟨xs, e1, q _ H1 s1 (walks_tup (.inl (.inl e1')) e2)⟩⟩
  · cases h2
def rngD (lo : Int) (n : Nat) : List D := (List.range n).map fun (i : Nat) => .int (lo + (i : Int))
theorem walks_rng {G : Hp} {B : List Addr} {lo : Int} {n : Nat} : Walks K G B (Itr lo n) (rngD lo n) where
  go := fun i H hi s => show i < n from by simpa [rngD] using hi
  stop := fun H s => by
    show n ≤ (rngD lo n).length
    simp [rngD]
  yld := fun i H x H' d hd s y => by
    obtain ⟨e, y⟩ := y
    subst e y
    refine ⟨Same.refl _, fun B' _ hb => ?_⟩
    have hi : i < n := by
      have := (List.getElem?_eq_some_iff.mp hd).1
      simpa [rngD] using this
    have : d = .int (lo + i) := by
      unfold rngD at hd
      rw [List.getElem?_map, List.getElem?_range hi] at hd
      exact (Option.some.inj hd).symm
    rw [this]
    exact .int _
def rngOk (lo hi : Int) : Bool := decide (-4611686018427387904 ≤ lo) && decide (lo < 4611686018427387904) && decide (-4611686018427387904 ≤ hi) && decide (hi < 4611686018427387904)
def iRange1 (f : FE) : FA := fun ρ => o1 (f ρ) fun d => match d with
  | .int j => if rngOk 0 j = true then some (rngD 0 j.toNat) else none
  | _ => none
theorem rngOk_ok {lo hi : Int} (h : rngOk lo hi = true) : -(2 ^ 62) ≤ lo ∧ lo < 2 ^ 62 ∧ -(2 ^ 62) ≤ hi ∧ hi < 2 ^ 62 := by
  unfold rngOk at h
  simp only [Bool.and_eq_true, decide_eq_true_eq] at h
  omega
theorem qi_range1 {a : Expr} (hg : Gl X "range") (hm : X.mg "range" = none) (ha : PE X a (tD K (.br 1) f c)) (hs : starEach [a] X.env = (false, eval a X.env) :: starEach [] X.env := by rfl) : PI X tg (.Call (.Name "range" p) [a] [] pos) (tI K m (iRange1 f) []) := by
  refine (pi_range1 hg hm (pa_cons ha pa_nil hs) hs).imp fun σ H Rr ⟨B, L, ρ, ds, g, es, hf, q⟩ => ?_
  obtain ⟨d, h1, h2⟩ := o1_some hf
  split at h2
  · obtain ⟨k, rfl⟩ := ite_some h2
    have k := rngOk_ok k
    refine ⟨[], _, ρ, _, g.zero, .zero, h1, fun v H1 s1 p1 => ?_⟩
    exact ⟨_, by rw [RL.int p1], k.2.2.1, k.2.2.2, q _ H1 s1 walks_rng⟩
  · cases h2
end
def wipeD (ρ : PEnv) : List Nat → PEnv
  | [] => ρ
  | v :: vs => (wipeD ρ vs).set v none
def lcGo (t : Tg) (ft : FT) (fe : FE) (ρ : PEnv) : List D → Option (List D)
  | [] => some []
  | d :: ds => match t.go d with
    | none => none
    | some l => match ft (setsD ρ l) with
      | none => none
      | some false => lcGo t ft fe ρ ds
      | some true => match fe (setsD ρ l) with
        | none => none
        | some y => match lcGo t ft fe ρ ds with
          | none => none
          | some ys => some (y :: ys)
def eLc (fi : FA) (t : Tg) (ft : FT) (fe : FE) (vs : List Nat) : FE := fun ρ => o1 (fi ρ) fun ds => if ds.length ≤ sz then o1 (lcGo t ft fe (wipeD ρ vs) ds) fun ys => some (.list ys) else none
section
variable {X : Cx} {K : PySem.W.Frag} {κ : Mo}
theorem wipeD_length (ρ : PEnv) : ∀ vs : List Nat, (wipeD ρ vs).length = ρ.length
  | [] => rfl
  | v :: vs => by unfold wipeD; rw [List.length_set, wipeD_length ρ vs]
theorem wipe_get {σ : St} {ρ : PEnv} (hl : σ.length = ρ.length) : ∀ {vs : List Nat} {i : Nat} {d : D}, (wipeD ρ vs)[i]? = some (some d) → ρ[i]? = some (some d) ∧ ∀ v : V, σ[i]? = some (some v) → (wipe σ vs)[i]? = some (some v)
  | [], i, d, h => ⟨h, fun v e => e⟩
  | w :: vs, i, d, h => by
    unfold wipeD at h
    by_cases hi : w = i
    · subst hi
      by_cases hv : w < (wipeD ρ vs).length
      · rw [List.getElem?_set_self hv] at h; cases h
      · rw [List.getElem?_eq_none (by simpa using hv)] at h; cases h
    · rw [List.getElem?_set_ne hi] at h
      obtain ⟨h1, h2⟩ := wipe_get hl h
      refine ⟨h1, fun v e => ?_⟩
      unfold wipe
      rw [List.getElem?_set_ne hi]
      exact h2 v e
theorem Good.wipe {B : List Addr} {L : Nat → Nat} {σ : St} {H : Hp} {ρ : PEnv} (g : Good K B L σ H ρ) (vs : List Nat) : Good K B L (wipe σ vs) H (wipeD ρ vs) :=
  ⟨g.ok, by rw [wipe_length, wipeD_length, g.len], fun i d h => by
    obtain ⟨h1, h2⟩ := wipe_get g.len h
    obtain ⟨v, e, r⟩ := g.slot i d h1
    exact ⟨v, h2 v e, r⟩, g.tabs⟩
theorem Good.set {B : List Addr} {L : Nat → Nat} {σ : St} {H : Hp} {ρ : PEnv} {i : Nat} {v : V} {d : D} (g : Good K B L σ H ρ) (r : R K (hid B H) v d) : Good K B L (σ.set i (some v)) H (ρ.set i (some d)) :=
  ⟨g.ok, by rw [List.length_set, List.length_set, g.len], fun j e h => by
    by_cases hj : i = j
    · subst hj
      have hi : i < ρ.length := by
        have := (List.getElem?_eq_some_iff.mp h).1
        simpa using this
      rw [List.getElem?_set_self hi] at h
      cases h
      exact ⟨v, List.getElem?_set_self (by rw [g.len]; exact hi), .z r⟩
    · rw [List.getElem?_set_ne hj] at h ⊢
      exact g.slot j e h, g.tabs⟩
theorem Good.sets {B : List Addr} {L : Nat → Nat} {H : Hp} : ∀ {m : List (Nat × V)} {l : List (Nat × D)} {σ : St} {ρ : PEnv}, Good K B L σ H ρ → RS K (hid B H) m l → Good K B L (setsV σ m) H (setsD ρ l)
  | [], [], σ, ρ, g, .nil => g
  | (i, v) :: m, (_, d) :: l, σ, ρ, g, .cons r t => Good.sets (m := m) (l := l) (σ := σ.set i (some v)) (ρ := ρ.set i (some d)) (Good.set g r) t
theorem wipe_set {σ : St} {i : Nat} {x : Option V} : ∀ {vs : List Nat}, i ∈ vs → wipe (σ.set i x) vs = wipe σ vs
  | [], h => by simp at h
  | v :: vs, h => by
    unfold wipe
    by_cases hv : i ∈ vs
    · rw [wipe_set hv]
    · have e : i = v := by
        rcases List.mem_cons.mp h with e | h
        · exact e
        · exact absurd h hv
      subst e
      have : ∀ ws : List Nat, i ∉ ws → wipe (σ.set i x) ws = (wipe σ ws).set i x := by
        intro ws
        induction ws with
        | nil => intro _; rfl
        | cons w ws ih =>
          intro hn
          unfold wipe
          rw [ih (fun z => hn (List.mem_cons_of_mem _ z)), List.set_comm _ _ (fun z => hn (by rw [z]; exact List.mem_cons_self))]
      rw [this vs hv, List.set_set]
theorem wipe_sets : ∀ {m : List (Nat × V)} {σ : St} {vs : List Nat}, (∀ i ∈ m.map (·.1), i ∈ vs) → wipe (setsV σ m) vs = wipe σ vs
  | [], σ, vs, _ => rfl
  | (i, v) :: m, σ, vs, h => by
    show wipe (setsV (σ.set i (some v)) m) vs = _
    rw [wipe_sets fun j hj => h j (List.mem_cons_of_mem _ hj), wipe_set (h i List.mem_cons_self)]
theorem wipe_wipe (σ : St) : ∀ vs : List Nat, (∀ i ∈ vs, (wipe σ vs)[i]? = some none ∨ (wipe σ vs)[i]? = none) := fun vs i hi => by
  cases h : (wipe σ vs)[i]? with
  | none => exact .inr rfl
  | some x =>
    cases x with
    | none => exact .inl rfl
    | some v => exact absurd hi (wipe_some h).2
theorem wipe_idem {σ : St} {vs : List Nat} : ∀ ws : List Nat, (∀ i ∈ ws, i ∈ vs) → wipe (wipe σ vs) ws = wipe σ vs
  | [], _ => rfl
  | w :: ws, h => by
    show (L2.wipe (L2.wipe σ vs) ws).set w none = L2.wipe σ vs
    rw [wipe_idem ws fun i hi => h i (List.mem_cons_of_mem _ hi)]
    have hw := wipe_wipe σ vs w (h w List.mem_cons_self)
    apply List.ext_getElem?
    intro j
    by_cases hj : w = j
    · subst hj
      by_cases hl : w < (L2.wipe σ vs).length
      · rw [List.getElem?_set_self hl]
        rcases hw with e | e
        · exact e.symm
        · rw [List.getElem?_eq_getElem hl] at e; cases e
      · rw [List.getElem?_eq_none (by simpa using hl), List.getElem?_eq_none (by simpa using hl)]
    · rw [List.getElem?_set_ne hj]
theorem lc_core {m : Nat} {fi : FA} {ci : Esc} {t : Tg} {ft : FT} {fe : FE} {ce : Esc} {vs : List Nat} {ti : TI} (hm : m = 1) (hv : t.ix.all (vs.contains ·) = true) (hκ : κ.one = true) :
    ∀ σ H Q B L ρ d, Good K B L σ H ρ → EscOk (ci ++ ce) L → eLc fi t ft fe vs ρ = some d → (∀ v H', Same H H' → Post K B H H' κ v d → Q v H') →
      (∀ ds Rr, fi ρ = some ds → (∀ J H1, Same H H1 → Walks K (gOf m B H1) B J ds → Rr J H1) → ti σ H Rr) → tLc ti (tG K t) (tT K ft) (tD K (.br 0) fe ce) vs σ H Q := by
  intro σ H Q B L ρ d g es hf q hti
  obtain ⟨ds, h1, h2⟩ := o1_some hf
  have hz : ds.length ≤ sz := by
    split at h2
    · assumption
    · cases h2
  rw [if_pos hz] at h2
  obtain ⟨ys, h3, h4⟩ := o1_some h2
  cases (Option.some.inj h4)
  refine hti ds _ h1 fun J H1 s1 wk D hD => ?_
  subst hm
  have hixs : ∀ {l : List (Nat × PyData)} {mm : List (Nat × V)} {d : PyData} {B' : List Addr} {Hh : Hp}, t.go d = some l → RS K (hid B' Hh) mm l → ∀ i ∈ mm.map (·.1), i ∈ vs := fun {l mm d B' Hh} e rs i hi => by
    rw [rs.ix, Tg.go_ix e] at hi
    have := List.all_eq_true.mp hv i hi
    simpa using this
  let W : Nat → Nat → Hp → Prop := fun i n H' => n = ds.length - i ∧ i ≤ ds.length ∧ Same H1 H' ∧ ∃ acc done rest, H' D = some (.lst acc) ∧ RA K (hid (D :: B) H') acc done ∧ acc.length ≤ i ∧ lcGo t ft fe (wipeD ρ vs) (ds.drop i) = some rest ∧ done ++ rest = ys
  refine ⟨W, ⟨ds.length, by simp, Nat.zero_le _, same_upd hD, [], [], ys, upd_same, .nil, Nat.le_refl _, by simpa using h3, rfl⟩, ?_⟩
  rintro i n H' ⟨rfl, hi, s', acc, done, rest, hacc, racc, hlen, hgo, hys⟩
  have okB : Ok (D :: B) H' := ((g.ok.mono s1).mono s').cons hacc rfl
  have gd : Good K (D :: B) L σ H' ρ := by
    refine ⟨okB, g.len, fun j e h => ?_, (s1.trans s').tb g.tabs⟩
    obtain ⟨v, e1, r⟩ := g.slot j e h
    refine ⟨v, e1, ((r.mono s1 (same_hid s1)).mono s' (same_hidW s' fun a ha => ?_))⟩
    rcases List.mem_cons.mp ha with z | z
    · rw [z]; exact .inr hD
    · exact .inl z
  by_cases hlt : i < ds.length
  · refine .inr ⟨wk.go i H' hlt s', fun H'' => W (i + 1) (ds.length - (i + 1)) H'', fun H'' w => ⟨_, by omega, w⟩, fun x H2 y => ?_⟩
    have hd : ds[i]? = some ds[i] := List.getElem?_eq_getElem hlt
    obtain ⟨s2, rx⟩ := wk.yld i H' x H2 _ hd s' y
    have rx := rx (D :: B) okB fun a ha => by
      refine ⟨?_, okB.trk a ha⟩
      rcases List.mem_cons.mp ha with z | z
      · rw [z]; exact .inr hD
      · exact .inl z
    rw [List.drop_eq_getElem_cons hlt] at hgo
    unfold lcGo at hgo
    have hacc2 := s2 _ _ hacc
    have racc2 := racc.mono (same_hid (B := D :: B) s2)
    split at hgo
    · cases hgo
    · rename_i l hl
      refine ⟨D :: B, _, l, rx, hl, fun mm rs => ⟨?_, ?_⟩⟩
      · rw [wipe_sets (hixs hl rs)]
        exact wipe_idem vs fun _ h => h
      · have gs : Good K (D :: B) L (setsV (wipe σ vs) mm) H2 (setsD (wipeD ρ vs) l) := ((gd.mono s2).wipe vs).sets rs
        split at hgo
        · cases hgo
        · rename_i hft
          refine ⟨D :: B, L, _, false, gs, hft, fun H3 s3 => ?_⟩
          refine iteF ?_
          exact ⟨rfl, hlt, (s'.trans s2).trans s3, acc, done, rest, s3 _ _ hacc2, racc2.mono (same_hid s3), by omega, hgo, hys⟩
        · rename_i hft
          split at hgo
          · cases hgo
          · rename_i yv hfe
            split at hgo
            · cases hgo
            · rename_i ys' hrest
              cases (Option.some.inj hgo)
              refine ⟨D :: B, L, _, true, gs, hft, fun H3 s3 => ?_⟩
              refine iteT ?_
              refine ⟨D :: B, L, _, yv, gs.mono s3, es.right, hfe, fun v H4 s4 p4 => ?_⟩
              have s34 := s3.trans s4
              have hacc4 := s34 _ _ hacc2
              have su : Same (hid (D :: B) H4) (hid (D :: B) (upd H4 D (.lst (acc ++ [v])))) := same_hidU List.mem_cons_self hacc4 rfl
              refine ⟨acc, hacc4, by rw [sz_eq]; omega, rfl, hlt, same_set ((s'.trans s2).trans s34) hD hacc4 rfl, acc ++ [v], done ++ [yv], ys', upd_same, ((racc2.mono (same_hid s34)).append (.cons (RL.r p4) .nil)).mono su, by simp; omega, hrest, by rw [List.append_assoc]; exact hys⟩
  · have e : i = ds.length := by omega
    subst e
    refine .inl ⟨wk.stop H' s', ?_⟩
    rw [List.drop_length] at hgo
    unfold lcGo at hgo
    cases (Option.some.inj hgo)
    rw [List.append_nil] at hys
    subst hys
    refine q _ H' (s1.trans s') (Post.new g.ok.trk (s1.free hD) hacc racc hκ)
theorem lc_ok {m : Nat} {fi : FA} {ci : Esc} {t : Tg} {ft : FT} {fe : FE} {ce : Esc} {vs : List Nat} (hm : m = 1) (hv : t.ix.all (vs.contains ·) = true) (hκ : κ.one = true) :
    ∀ σ H Q, tD K κ (eLc fi t ft fe vs) (ci ++ ce) σ H Q → tLc (tI K m fi ci) (tG K t) (tT K ft) (tD K (.br 0) fe ce) vs σ H Q := by
  intro σ H Q ⟨B, L, ρ, d, g, es, hf, q⟩
  exact lc_core hm hv hκ σ H Q B L ρ d g es hf q fun ds Rr h1 hR => ⟨B, L, ρ, ds, g, es.left, h1, hR⟩
theorem qe_lc {elt tg iter : Expr} {ifs : List Expr} {scope : Scope} {own : List (Str × Nat)} {pos : Pos} {fi : FA} {ci ce : Esc} {t : Tg} {ft : FT} {fe : FE} (hc : X.calm = true) (hN : X.N.Nodup) (hi : PI X tg iter (tI K 1 fi ci)) (ok : BlkOk X.N X.env.scope scope own)
    (hg : ∀ (s : Shared) (H : Hp) (C : Addr) (cl : List (Str × Addr)) (fp : List Addr), PG (X.blk s H scope (compEnvC scope cl C X.env) fp) tg (tG K t)) (ht : ∀ (s : Shared) (H : Hp) (C : Addr) (cl : List (Str × Addr)) (fp : List Addr), PTs (X.blk s H scope (compEnvC scope cl C X.env) fp) ifs (tT K ft))
    (he : ∀ (s : Shared) (H : Hp) (C : Addr) (cl : List (Str × Addr)) (fp : List Addr), PE (X.blk s H scope (compEnvC scope cl C X.env) fp) elt (tD K (.br 0) fe ce)) (hv : t.ix.all ((own.map (·.2)).contains ·) = true := by rfl) (hκ : κ.one = true := by rfl) (hs : ∀ x, foldedSetIterable iter X.env x = pure x := by intro _; rfl) :
    PE X (.ListComp elt [⟨tg, iter, ifs, 0⟩] scope pos) (tD K κ (eLc fi t ft fe (own.map (·.2))) (ci ++ ce)) := (pe_lc hc hN hi ok hg ht he hs).imp (lc_ok rfl hv hκ)
def tTrue : FT := fun _ => some true
theorem qts_nil : PTs X [] (tT K tTrue) := ⟨fun pins s σ H Q I ⟨B, L, ρ, b, g, h, q⟩ => pts_nil.run pins s σ H Q I (by cases (Option.some.inj h); exact q H (Same.refl H))⟩
theorem qts_one {c : Expr} {f : FT} (h : PT X c (tT K f)) : PTs X [c] (tT K f) := pts_one h
end
end DS
end
section
set_option Elab.async false
set_option linter.all false
set_option maxRecDepth 100000
namespace DS
open PySem PySem.Spec PyProof.Rows L2
variable [Tbls]
abbrev S := PEnv × List Nat
inductive Out where
  | stuck
  | next (s : S)
  | ret (d : D)
  | brk (s : S)
  | cont (s : S)
abbrev FS := S → Out
def lv (L : List Nat) (i : Nat) : Nat := L.getD i 0
def demote : Esc → List Nat → List Nat
  | [], L => L
  | (i, m) :: es, L => demote es (if lv L i ≤ m then L else L.set i 0)
structure GoodS (K : PySem.W.Frag) (B0 : List Addr) (G : Hp) (O : Nat → List Addr) (B : List Addr) (σ : St) (H : Hp) (ρ : PEnv) (L : List Nat) : Prop where
  memB : ∀ a, a ∈ B ↔ a ∈ B0 ∨ ∃ i, a ∈ O i
  ok : Ok B H
  same : Same G H
  g0 : ∀ a ∈ B0, G a ≠ none
  gO : ∀ i, ∀ a ∈ O i, G a = none
  nd : ∀ i, (O i).Nodup
  dj : ∀ i j, i ≠ j → ∀ a ∈ O i, a ∉ O j
  len : σ.length = ρ.length
  lenL : L.length = ρ.length
  slot : ∀ (i : Nat) (d : D), ρ[i]? = some (some d) → ∃ v, σ[i]? = some (some v) ∧ RO K B H (lv L i) (O i) v d
  tabs : Tb H
def GS (K : PySem.W.Frag) (B0 : List Addr) (G : Hp) (σ : St) (H : Hp) (s : S) : Prop := ∃ O B, GoodS K B0 G O B σ H s.1 s.2
section
variable {K : PySem.W.Frag} {B0 B : List Addr} {G H H' : Hp} {O : Nat → List Addr} {σ : St} {ρ : PEnv} {L : List Nat}
theorem GoodS.good (g : GoodS K B0 G O B σ H ρ L) : Good K B (lv L) σ H ρ := ⟨g.ok, g.len, fun i d h => let ⟨v, h1, h2⟩ := g.slot i d h; ⟨v, h1, h2.toRL_aux⟩, g.tabs⟩
theorem GoodS.mono (g : GoodS K B0 G O B σ H ρ L) (e : Same H H') : GoodS K B0 G O B σ H' ρ L :=
  ⟨g.memB, g.ok.mono e, g.same.trans e, g.g0, g.gO, g.nd, g.dj, g.len, g.lenL, fun i d h => let ⟨v, h1, h2⟩ := g.slot i d h; ⟨v, h1, h2.mono_aux (same_hid e) fun a ha => g.ok.same e ((g.memB a).mpr (.inr ⟨i, ha⟩))⟩, e.tb g.tabs⟩
theorem lv_set {L : List Nat} {i j x : Nat} : lv (L.set i x) j = if i = j ∧ i < L.length then x else lv L j := by
  unfold lv
  rw [List.getD_eq_getElem?_getD, List.getD_eq_getElem?_getD]
  by_cases h : i = j
  · subst h
    by_cases hi : i < L.length
    · rw [List.getElem?_set_self hi, if_pos ⟨rfl, hi⟩]; rfl
    · rw [List.getElem?_eq_none (by simpa using hi), List.getElem?_eq_none (by omega), if_neg fun z => hi z.2]
  · rw [List.getElem?_set_ne h, if_neg fun z => h z.1]
theorem GoodS.drop (g : GoodS K B0 G O B σ H ρ L) (i : Nat) : ∃ O' B', GoodS K B0 G O' B' σ H ρ (L.set i 0) ∧ (∀ a ∈ B', a ∈ B) := by
  refine ⟨fun j => if j = i then [] else O j, B.filter fun a => decide (a ∉ O i), ⟨fun a => ?_, g.ok.sub fun a h => (List.mem_filter.mp h).1, g.same, g.g0, fun j a h => ?_, fun j => ?_, fun j k hjk a h => ?_, g.len, by rw [List.length_set, g.lenL], fun j d h => ?_, g.tabs⟩, fun a h => (List.mem_filter.mp h).1⟩
  · rw [List.mem_filter, g.memB]
    constructor
    · rintro ⟨h | ⟨j, h⟩, h2⟩
      · exact .inl h
      · refine .inr ⟨j, ?_⟩
        have h2 := of_decide_eq_true h2
        by_cases hj : j = i
        · rw [hj] at h; exact absurd h h2
        · rw [if_neg hj]; exact h
    · rintro (h | ⟨j, h⟩)
      · exact ⟨.inl h, decide_eq_true fun z => g.g0 a h (g.gO i a z)⟩
      · by_cases hj : j = i
        · rw [if_pos hj] at h; simp at h
        · rw [if_neg hj] at h
          exact ⟨.inr ⟨j, h⟩, decide_eq_true (g.dj j i hj a h)⟩
  · by_cases hj : j = i
    · simp only [if_pos hj] at h; simp at h
    · simp only [if_neg hj] at h; exact g.gO j a h
  · by_cases hj : j = i
    · simp only [if_pos hj]; exact List.nodup_nil
    · simp only [if_neg hj]; exact g.nd j
  · by_cases hj : j = i
    · simp only [if_pos hj] at h; simp at h
    · simp only [if_neg hj] at h
      by_cases hk : k = i
      · simp only [if_pos hk]; simp
      · simp only [if_neg hk]; exact g.dj j k hjk a h
  · obtain ⟨v, h1, h2⟩ := g.slot j d h
    refine ⟨v, h1, ?_⟩
    by_cases hj : j = i
    · subst hj
      simp only [if_pos rfl]
      have hl : j < L.length := by
        have := (List.getElem?_eq_some_iff.mp h).1
        rw [g.lenL]; exact this
      rw [lv_set, if_pos ⟨rfl, hl⟩]
      exact .z (.inl rfl) (h2.toR_aux fun a q => ⟨(List.mem_filter.mp q).1, of_decide_eq_true (List.mem_filter.mp q).2⟩)
    · simp only [if_neg hj]
      rw [lv_set, if_neg fun z => hj z.1.symm]
      exact h2.mono_aux (same_hidW (Same.refl H) fun a q => .inl (List.mem_filter.mp q).1) fun _ _ => rfl
theorem demote_le : ∀ (es : Esc) (L : List Nat) (j : Nat), lv (demote es L) j ≤ lv L j
  | [], L, j => Nat.le_refl _
  | (i, m) :: es, L, j => by
    unfold demote
    refine Nat.le_trans (demote_le es _ j) ?_
    split
    · exact Nat.le_refl _
    · rw [lv_set]
      split
      · exact Nat.zero_le _
      · exact Nat.le_refl _
theorem demote_ok : ∀ (es : Esc) (L : List Nat), EscOk es (lv (demote es L))
  | [], L => EscOk.nil
  | (i, m) :: es, L => fun p hp => by
    unfold demote
    rcases List.mem_cons.mp hp with e | hp
    · rw [e]
      refine Nat.le_trans (demote_le es _ i) ?_
      split
      · assumption
      · rename_i h
        rw [lv_set]
        split
        · exact Nat.zero_le _
        · rename_i h2
          have : ¬ i < L.length := fun z => h2 ⟨rfl, z⟩
          unfold lv at h ⊢
          rw [List.getD_eq_getElem?_getD, List.getElem?_eq_none (by omega)] at h ⊢
          exact absurd (Nat.zero_le m) h
    · exact demote_ok es _ p hp
theorem GoodS.demote (es : Esc) : ∀ {O : Nat → List Addr} {B : List Addr} {L : List Nat}, GoodS K B0 G O B σ H ρ L → ∃ O' B', GoodS K B0 G O' B' σ H ρ (DS.demote es L) ∧ ∀ a ∈ B', a ∈ B := by
  induction es with
  | nil => intro O B L g; exact ⟨O, B, g, fun _ h => h⟩
  | cons p es ih =>
    obtain ⟨i, m⟩ := p
    intro O B L g
    unfold DS.demote
    split
    · exact ih g
    · obtain ⟨O1, B1, g1, h1⟩ := g.drop i
      obtain ⟨O2, B2, g2, h2⟩ := ih g1
      exact ⟨O2, B2, g2, fun a h => h1 a (h2 a h)⟩
theorem GoodS.assign {i l : Nat} {v : V} {d : D} {o : List Addr} (g : GoodS K B0 G O B σ H ρ L) (e : Same H H') (hn : ∀ a ∈ o, H a = none) (ho : o.Nodup) (r : RO K (o ++ B) H' l o v d) : ∃ O' B', GoodS K B0 G O' B' (σ.set i (some v)) H' (ρ.set i (some d)) (L.set i l) ∧ ∀ a ∈ B', a ∈ o ++ B := by
  have hB' : ∀ a, a ∈ o ++ B.filter (fun a => decide (a ∉ O i)) → a ∈ o ++ B := fun a h => by
    rcases List.mem_append.mp h with h | h
    · exact List.mem_append_left _ h
    · exact List.mem_append_right _ (List.mem_filter.mp h).1
  have oB : ∀ a ∈ o, a ∉ B := fun a h z => g.ok.trk a z (hn a h)
  refine ⟨fun j => if j = i then o else O j, o ++ B.filter fun a => decide (a ∉ O i), ⟨fun a => ?_, ?_, g.same.trans e, g.g0, fun j a h => ?_, fun j => ?_, fun j k hjk a h => ?_, by rw [List.length_set, List.length_set, g.len], by rw [List.length_set, List.length_set, g.lenL], fun j d' h => ?_, e.tb g.tabs⟩, hB'⟩
  · rw [List.mem_append, List.mem_filter, g.memB]
    constructor
    · rintro (h | ⟨h | ⟨j, h⟩, h2⟩)
      · exact .inr ⟨i, by rw [if_pos rfl]; exact h⟩
      · exact .inl h
      · refine .inr ⟨j, ?_⟩
        have h2 := of_decide_eq_true h2
        by_cases hj : j = i
        · rw [hj] at h; exact absurd h h2
        · rw [if_neg hj]; exact h
    · rintro (h | ⟨j, h⟩)
      · exact .inr ⟨.inl h, decide_eq_true fun z => g.g0 a h (g.gO i a z)⟩
      · by_cases hj : j = i
        · rw [if_pos hj] at h; exact .inl h
        · rw [if_neg hj] at h
          exact .inr ⟨.inr ⟨j, h⟩, decide_eq_true (g.dj j i hj a h)⟩
  · have h1 : Ok o H' := r.mut_aux
    exact h1.append ((g.ok.mono e).sub fun a h => (List.mem_filter.mp h).1)
  · by_cases hj : j = i
    · simp only [if_pos hj] at h
      exact g.same.free (hn a h)
    · simp only [if_neg hj] at h; exact g.gO j a h
  · by_cases hj : j = i
    · simp only [if_pos hj]; exact ho
    · simp only [if_neg hj]; exact g.nd j
  · by_cases hj : j = i
    · simp only [if_pos hj] at h
      have hk : ¬ k = i := fun z => hjk (hj.trans z.symm)
      simp only [if_neg hk]
      exact fun z => oB a h ((g.memB a).mpr (.inr ⟨k, z⟩))
    · simp only [if_neg hj] at h
      by_cases hk : k = i
      · simp only [if_pos hk]
        exact fun z => oB a z ((g.memB a).mpr (.inr ⟨j, h⟩))
      · simp only [if_neg hk]; exact g.dj j k hjk a h
  · by_cases hj : j = i
    · subst hj
      have hi : j < ρ.length := by
        have := (List.getElem?_eq_some_iff.mp h).1
        simpa using this
      rw [List.getElem?_set_self hi] at h
      cases h
      refine ⟨v, List.getElem?_set_self (by rw [g.len]; exact hi), ?_⟩
      simp only [if_pos rfl]
      rw [lv_set, if_pos ⟨rfl, by rw [g.lenL]; exact hi⟩]
      exact r.mono_aux (same_hidW (Same.refl H') fun a q => .inl (hB' a q)) fun _ _ => rfl
    · rw [List.getElem?_set_ne (Ne.symm hj)] at h
      obtain ⟨w, h1, h2⟩ := g.slot j d' h
      refine ⟨w, by rw [List.getElem?_set_ne (Ne.symm hj)]; exact h1, ?_⟩
      simp only [if_neg hj]
      rw [lv_set, if_neg fun z => hj z.1.symm]
      refine h2.mono_aux (same_hidW e fun a q => ?_) fun a ha => ?_
      · rcases List.mem_append.mp q with q | q
        · exact .inr (hn a q)
        · exact .inl (List.mem_filter.mp q).1
      · exact g.ok.same e ((g.memB a).mpr (.inr ⟨j, ha⟩))
theorem GoodS.assign0 {i : Nat} {v : V} {d : D} (g : GoodS K B0 G O B σ H ρ L) (r : R K (hid B H) v d) : ∃ O' B', GoodS K B0 G O' B' (σ.set i (some v)) H (ρ.set i (some d)) (L.set i 0) ∧ ∀ a ∈ B', a ∈ B :=
  g.assign (o := []) (Same.refl H) (by simp) List.nodup_nil (.z (.inl rfl) r)
end
def Fin (K : PySem.W.Frag) (B0 : List Addr) (G : Hp) (E : Ends) : Out → Prop
  | .stuck => False
  | .next s => ∀ σ' H', GS K B0 G σ' H' s → E.nx σ' H'
  | .brk s => ∀ σ' H', GS K B0 G σ' H' s → E.bk σ' H'
  | .cont s => ∀ σ' H', GS K B0 G σ' H' s → E.ct σ' H'
  | .ret d => ∀ v H', Same G H' → R K (hid B0 H') v d → E.rt v H'
def tS (K : PySem.W.Frag) (g : FS) : TS := fun E σ H => ∃ B0 G s, GS K B0 G σ H s ∧ Fin K B0 G E (g s)
def sNil : FS := fun s => .next s
def sSeq (f g : FS) : FS := fun s => match f s with
  | .next s' => g s'
  | o => o
section
variable {X : Cx} {K : PySem.W.Frag} {st : Stmt} {sts : List Stmt} {f g : FS}
theorem ss_nil : PSs X [] (tS K sNil) := pss_nil.imp fun E σ H ⟨B0, G, s, hs, q⟩ => q σ H hs
theorem ss_one (h : PS X st (tS K f)) : PSs X [st] (tS K f) := pss_one h
theorem ss_cons (h : PS X st (tS K f)) (t : PSs X sts (tS K g)) : PSs X (st :: sts) (tS K (sSeq f g)) := (pss_cons h t).imp fun E σ H ⟨B0, G, s, hs, q⟩ => by
  refine ⟨B0, G, s, hs, ?_⟩
  unfold sSeq at q
  cases hf : f s with
  | next s' => rw [hf] at q; exact fun σ' H' hs' => ⟨B0, G, s', hs', q⟩
  | stuck => rw [hf] at q; exact q
  | ret d => rw [hf] at q; exact q
  | brk s' => rw [hf] at q; exact q
  | cont s' => rw [hf] at q; exact q
def sRet (f : FE) : FS := fun s => match f s.1 with
  | none => .stuck
  | some d => .ret d
theorem GS.value {κ : Mo} {B0 : List Addr} {G H : Hp} {σ : St} {s : S} {f : FE} {es : Esc} {d : D} {Q : VK} (h : GS K B0 G σ H s) (hf : f s.1 = some d)
    (q : ∀ O B v H', GoodS K B0 G O B σ H s.1 (demote es s.2) → Same H H' → Post K B H H' κ v d → Q v H') : tD K κ f es σ H Q := by
  obtain ⟨O, B, g⟩ := h
  obtain ⟨O', B', g', _⟩ := g.demote es
  exact ⟨B', lv (demote es s.2), s.1, d, g'.good, demote_ok es s.2, hf, fun v H' e p => q O' B' v H' g' e p⟩
theorem ss_ret {e : Expr} {pos : Pos} {f : FE} {c : Esc} (h : PE X e (tD K (.br 0) f c)) : PS X (.Return (some e) pos) (tS K (sRet f)) := (ps_ret h).imp fun E σ H ⟨B0, G, s, hs, q⟩ => by
  unfold sRet at q
  split at q
  · exact q.elim
  · rename_i d hd
    refine GS.value hs hd fun O B v H' g e p => q v H' (g.same.trans e) ((RL.r p).mono (same_hidW (Same.refl H') fun a ha => .inl ((g.memB a).mpr (.inl ha))))
def sIf (c : FT) (f g : FS) : FS := fun s => match c s.1 with
  | none => .stuck
  | some true => f s
  | some false => g s
theorem GS.mono {B0 : List Addr} {G H H' : Hp} {σ : St} {s : S} (h : GS K B0 G σ H s) (e : Same H H') : GS K B0 G σ H' s := let ⟨O, B, g⟩ := h; ⟨O, B, g.mono e⟩
theorem GS.good {B0 : List Addr} {G H : Hp} {σ : St} {s : S} (h : GS K B0 G σ H s) : ∃ B L, Good K B L σ H s.1 := let ⟨_, _, g⟩ := h; ⟨_, _, g.good⟩
theorem ss_if {c : Expr} {a b : List Stmt} {pos : Pos} {t : FT} (hc : PT X c (tT K t)) (ha : PSs X a (tS K f)) (hb : PSs X b (tS K g)) : PS X (.If c a b pos) (tS K (sIf t f g)) := (ps_if hc ha hb).imp fun E σ H ⟨B0, G, s, hs, q⟩ => by
  obtain ⟨B, L, gd⟩ := hs.good
  unfold sIf at q
  split at q
  · exact q.elim
  · exact ⟨B, L, s.1, true, gd, by assumption, fun H1 s1 => iteT ⟨B0, G, s, hs.mono s1, q⟩⟩
  · exact ⟨B, L, s.1, false, gd, by assumption, fun H1 s1 => iteF ⟨B0, G, s, hs.mono s1, q⟩⟩
def sSet (i l : Nat) (f : FE) (c : Esc) : FS := fun s => match f s.1 with
  | none => .stuck
  | some d => if flat d = true then .next (s.1.set i (some d), s.2.set i 0) else .next (s.1.set i (some d), (demote c s.2).set i l)
def moOf : Nat → Mo
  | 0 => .br 0
  | 1 => .fr
  | _ => .fr2
theorem Post.open {B : List Addr} {H0 H' : Hp} {κ : Mo} {v : V} {d : D} (h : Post K B H0 H' κ v d) : R K H' v d := by
  cases κ with
  | br m => exact RL.open h
  | fr => obtain ⟨o, _, _, h⟩ := h; exact h.toRL_aux.open
  | fr2 => obtain ⟨o, _, _, h⟩ := h; exact h.toRL_aux.open
theorem set_ok {i l : Nat} {f : FE} {c : Esc} (hl : l ≤ 2) : ∀ E σ H, tS K (sSet i l f c) E σ H → tAsg (tD K (moOf l) f c) (gName i) E σ H := fun E σ H ⟨B0, G, s, hs, q⟩ => by
  unfold sSet at q
  split at q
  · exact q.elim
  · rename_i d hd
    split at q
    · rename_i hfl
      obtain ⟨O, B, g⟩ := hs
      refine ⟨[], _, s.1, d, g.good.zero, .zero, hd, fun v H' e p => q _ H' ?_⟩
      obtain ⟨O', B', g', _⟩ := (g.mono e).assign0 (i := i) (p.open.hidF ((g.ok.mono e).noTup) hfl)
      exact ⟨O', B', g'⟩
    · refine GS.value hs hd fun O B v H' g e p => q _ H' ?_
      match l, hl with
      | 0, _ =>
        obtain ⟨O', B', g', _⟩ := (g.mono e).assign0 (i := i) (RL.r p)
        exact ⟨O', B', g'⟩
      | 1, _ =>
        obtain ⟨o, h1, h2, h3⟩ := p
        obtain ⟨O', B', g', _⟩ := g.assign (i := i) e h1 h2 h3
        exact ⟨O', B', g'⟩
      | 2, _ =>
        obtain ⟨o, h1, h2, h3⟩ := p
        obtain ⟨O', B', g', _⟩ := g.assign (i := i) e h1 h2 h3
        exact ⟨O', B', g'⟩
theorem ss_set (i l : Nat) {x : Str} {e : Expr} {f : FE} {c : Esc} {pos pos' : Pos} (hN : X.N.Nodup) (he : PE X e (tD K (moOf l) f c)) (hl : l ≤ 2 := by decide) (hi : X.N[i]? = some x := by rfl) (hx : Loc X.env.scope x := by first | exact Or.inl rfl | exact Or.inr rfl) (hs : swapsWith e (some (.Name x pos')) pos.line X.env = pure false := by rfl) (hf : X.fn x = true ∨ X.env.scope.names.lookup x = some .local := by first | exact .inl rfl | exact .inr rfl) :
    PS X (.Assign [.Name x pos'] e pos) (tS K (sSet i l f c)) := (ps_set hN hi hx he hs hf).imp (set_ok hl)
theorem ss_setLc (i l : Nat) {y : Str} {py : Pos} {elt tg iter : Expr} {ifs : List Expr} {scope : Scope} {own : List (Str × Nat)} {pos spos : Pos} {fi : FA} {ci ce : Esc} {t : Tg} {ft : FT} {fe : FE} (hc : X.calm = true) (hN : X.N.Nodup) (hi : PI X tg iter (tI K 1 fi ci)) (ok : BlkOk X.N X.env.scope scope own)
    (hg : ∀ (s : Shared) (H : Hp) (C : Addr) (cl : List (Str × Addr)) (fp : List Addr), PG (X.blk s H scope (compEnvC scope cl C X.env) fp) tg (tG K t)) (ht : ∀ (s : Shared) (H : Hp) (C : Addr) (cl : List (Str × Addr)) (fp : List Addr), PTs (X.blk s H scope (compEnvC scope cl C X.env) fp) ifs (tT K ft))
    (he : ∀ (s : Shared) (H : Hp) (C : Addr) (cl : List (Str × Addr)) (fp : List Addr), PE (X.blk s H scope (compEnvC scope cl C X.env) fp) elt (tD K (.br 0) fe ce)) (hl : l ≤ 1 := by decide) (hy : X.N[i]? = some y := by rfl) (hyl : X.env.scope.names.lookup y = some .local := by rfl)
    (hsw : swapsWith (.ListComp elt [⟨tg, iter, ifs, 0⟩] scope pos) (some (.Name y py)) spos.line X.env = pure true := by exact sw_true rfl rfl rfl (by decide +kernel)) (hv : t.ix.all ((own.map (·.2)).contains ·) = true := by rfl) (hs : ∀ x, foldedSetIterable iter X.env x = pure x := by intro _; rfl) :
    PS X (.Assign [.Name y py] (.ListComp elt [⟨tg, iter, ifs, 0⟩] scope pos) spos) (tS K (sSet i l (eLc fi t ft fe (own.map (·.2))) (ci ++ ce))) := (ps_setLc hc hN hy hyl hsw hi ok hg ht he hs).imp fun E σ H h =>
  lc_ok (κ := moOf l) rfl hv (by match l, hl with | 0, _ => rfl | 1, _ => rfl) σ H _ (set_ok (by omega) E σ H h)
def zeros (L : List Nat) (l : List (Nat × D)) : List Nat := l.foldl (fun L p => L.set p.1 0) L
def sTup (t : Tg) (f : FE) (c : Esc) : FS := fun s => match f s.1 with
  | none => .stuck
  | some d => match t.go d with
    | none => .stuck
    | some l => if flat d = true then .next (setsD s.1 l, zeros s.2 l) else .next (setsD s.1 l, zeros (demote c s.2) l)
theorem GS.sets {B0 : List Addr} {G H : Hp} : ∀ {m : List (Nat × V)} {l : List (Nat × D)} {σ : St} {ρ : PEnv} {L : List Nat} {O : Nat → List Addr} {B B1 : List Addr}, GoodS K B0 G O B σ H ρ L → (∀ a ∈ B, a ∈ B1) → RS K (hid B1 H) m l → GS K B0 G (setsV σ m) H (setsD ρ l, zeros L l)
  | [], [], σ, ρ, L, O, B, B1, g, hB, .nil => ⟨O, B, g⟩
  | (i, v) :: m, (_, d) :: l, σ, ρ, L, O, B, B1, g, hB, .cons r t => by
    obtain ⟨O', B', g', hB'⟩ := g.assign0 (i := i) (v := v) (d := d) (r.mono (same_hidW (Same.refl H) fun a h => .inl (hB a h)))
    exact GS.sets (m := m) (l := l) g' (fun a h => hB a (hB' a h)) t
theorem ss_tup {tg e : Expr} {t : Tg} {f : FE} {c : Esc} {pos : Pos} (he : PE X e (tD K (.br 0) f c)) (hg : PG X tg (tG K t)) (hs : swapsWithSole [tg] e pos.line X.env = pure false := by rfl) (hw : swappedStores [tg] e X.env = pure none := by rfl)
    (h1 : (assignEach [tg] X.env).map (·.2) = [assign tg X.env] := by rfl) : PS X (.Assign [tg] e pos) (tS K (sTup t f c)) := (ps_asg he hg hs hw h1).imp fun E σ H ⟨B0, G, s, hs, q⟩ => by
  unfold sTup at q
  split at q
  · exact q.elim
  · rename_i d hd
    split at q
    · exact q.elim
    · rename_i l hl
      split at q
      · rename_i hfl
        obtain ⟨O, B, g⟩ := hs
        refine ⟨[], _, s.1, d, g.good.zero, .zero, hd, fun v H' e p => ?_⟩
        exact ⟨B, d, l, p.open.hidF ((g.ok.mono e).noTup) hfl, hl, fun m rs => q _ H' (GS.sets (g.mono e) (fun _ h => h) rs)⟩
      · refine GS.value (κ := .br 0) hs hd fun O B v H' g e p => ?_
        exact ⟨B, d, l, RL.r p, hl, fun m rs => q _ H' (GS.sets (g.mono e) (fun _ h => h) rs)⟩
def sPar (i j : Nat) (f g : FE) (c : Esc) : FS := fun s => match f s.1, g s.1 with
  | some d, some e => if (flat d && flat e) = true then .next ((s.1.set i (some d)).set j (some e), (s.2.set i 0).set j 0) else .next ((s.1.set i (some d)).set j (some e), ((demote c s.2).set i 0).set j 0)
  | _, _ => .stuck
theorem ss_par (i j : Nat) {x y : Str} {a b : Expr} {f g : FE} {c c' : Esc} {px py pt pos : Pos} {kt k2 pt2} (hc : X.calm = true) (hN : X.N.Nodup) (ha : PE X a (tD K (.br 0) f c)) (hb : PE X b (tD K (.br 0) g c'))
    (hw : swappedStores [.Tuple [.Name x px, .Name y py] kt pt] (.Tuple [a, b] k2 pt2) X.env = pure (some [x, y])) (hi : X.N[i]? = some x := by rfl) (hj : X.N[j]? = some y := by rfl) (hij : i ≠ j := by decide)
    (hx : X.env.scope.names.lookup x = some .local := by rfl) (hy : X.env.scope.names.lookup y = some .local := by rfl)
    (hs : swapsWithSole [.Tuple [.Name x px, .Name y py] kt pt] (.Tuple [a, b] k2 pt2) pos.line X.env = pure false := by rfl) (hs1 : starEach [a, b] X.env = (false, eval a X.env) :: starEach [b] X.env := by rfl) (hs2 : starEach [b] X.env = (false, eval b X.env) :: starEach [] X.env := by rfl) :
    PS X (.Assign [.Tuple [.Name x px, .Name y py] kt pt] (.Tuple [a, b] k2 pt2) pos) (tS K (sPar i j f g (c ++ c'))) := (ps_par hc hN hi hj hij hx hy (qa_cons ha (qa_cons hb qa_nil hs2) hs1) hw hs).imp fun E σ H ⟨B0, G, s, hs, q⟩ => by
  unfold sPar at q
  split at q
  · rename_i d e hd he
    have hf : aCons f (aCons g aNil) s.1 = some [d, e] := by
      unfold aCons aNil
      simp [hd, he, o2]
    split at q
    · rename_i hfl
      rw [Bool.and_eq_true] at hfl
      obtain ⟨O, B, gd⟩ := hs
      refine ⟨[], _, s.1, _, gd.good.zero, .zero, hf, fun vs H' e1 hl p => ?_⟩
      match vs, hl with
      | [v, w], _ =>
        refine ⟨v, w, rfl, q _ H' ?_⟩
        have hB := (gd.ok.mono e1).noTup
        exact GS.sets (m := [(i, v), (j, w)]) (l := [(i, d), (j, e)]) (gd.mono e1) (fun _ h => h) (.cons ((RL.r0 (p 0 v d rfl rfl)).hidF hB hfl.1) (.cons ((RL.r0 (p 1 w e rfl rfl)).hidF hB hfl.2) .nil))
    · obtain ⟨O, B, gd⟩ := hs
      obtain ⟨O', B', g', _⟩ := gd.demote (c ++ (c' ++ []))
      rw [List.append_nil] at g'
      refine ⟨B', lv (demote (c ++ c') s.2), s.1, _, g'.good, by rw [List.append_nil]; exact demote_ok _ s.2, hf, fun vs H' e1 hl p => ?_⟩
      match vs, hl with
      | [v, w], _ =>
        refine ⟨v, w, rfl, q _ H' ?_⟩
        exact GS.sets (m := [(i, v), (j, w)]) (l := [(i, d), (j, e)]) (g'.mono e1) (fun _ h => h) (.cons (RL.r (p 0 v d rfl rfl)) (.cons (RL.r (p 1 w e rfl rfl)) .nil))
  · exact q.elim
def sAug (i : Nat) (op : D → D → Option D) (f : FE) : FS := fun s => match o2 (eVar i s.1) (f s.1) op with
  | none => .stuck
  | some d => .next (s.1.set i (some d), s.2.set i 0)
def dAddI : D → D → Option D
  | .int i, .int j => some (.int (i + j))
  | _, _ => none
def sApp (i : Nat) (f : FE) (c : Esc) : FS := fun s => match f s.1, eVar i s.1 with
  | some d, some (.list ds) => if ds.length < sz then
      (if flat d = true then (if lv s.2 i = 1 then .next (s.1.set i (some (.list (ds ++ [d]))), s.2) else .stuck)
        else (if lv (demote c s.2) i = 1 then .next (s.1.set i (some (.list (ds ++ [d]))), demote c s.2) else .stuck)) else .stuck
  | _, _ => .stuck
theorem GoodS.write {B0 B : List Addr} {G H : Hp} {O : Nat → List Addr} {σ : St} {ρ : PEnv} {L : List Nat} {i : Nat} {ds : List D} (g : GoodS K B0 G O B σ H ρ L) (hd : ρ[i]? = some (some (.list ds))) (hl : lv L i = 1) :
    ∃ a xs, σ[i]? = some (some (.ref a)) ∧ H a = some (.lst xs) ∧ RA K (hid B H) xs ds ∧ ∀ xs' ds', RA K (hid B H) xs' ds' → GS K B0 G σ (upd H a (.lst xs')) (ρ.set i (some (.list ds')), L) := by
  obtain ⟨v, h1, h2⟩ := g.slot i _ hd
  rw [hl] at h2
  generalize hoi : O i = oi at h2
  cases h2 with
  | z h _ => rcases h with h | h <;> cases h
  | @l _ a os xs _ e ra =>
    have hra : RA K (hid B H) xs ds := by
      have : ∀ {os : List (List Addr)} {vs : List V} {ds : List D}, ROA K B H 0 os vs ds → RA K (hid B H) vs ds := fun {os vs ds} h => by
        refine ROA.rec (K := K) (B := B) (H := H) (motive_1 := fun l o v d _ => l = 0 → R K (hid B H) v d) (motive_2 := fun l os vs ds _ => l = 0 → RA K (hid B H) vs ds) ?_ ?_ ?_ ?_ ?_ ?_ h rfl
        · intro l v d _ r _; exact r
        · intro l a os xs ds _ _ _ z; cases z
        · intro l a kvs es _ _ _ z; cases z
        · intro l a kvs es _ _ _ z; cases z
        · intro l _; exact .nil
        · intro l o os v d vs ds _ _ i1 i2 z; exact .cons (i1 z) (i2 z)
      exact this ra
    have aB : a ∈ B := (g.memB a).mpr (.inr ⟨i, by rw [hoi]; exact List.mem_cons_self⟩)
    refine ⟨a, xs, h1, e, hra, fun xs' ds' r => ?_⟩
    have hsame : Same (hid B H) (hid B (upd H a (.lst xs'))) := same_hidU aB e rfl
    have hos : os.flatten = [] := by
      have : ∀ {os : List (List Addr)} {vs : List V} {ds : List D}, ROA K B H 0 os vs ds → os.flatten = [] := fun {os vs ds} h => by
        refine ROA.rec (K := K) (B := B) (H := H) (motive_1 := fun l o v d _ => l = 0 → o = []) (motive_2 := fun l os vs ds _ => l = 0 → os.flatten = []) ?_ ?_ ?_ ?_ ?_ ?_ h rfl
        · intro l v d _ r _; rfl
        · intro l a os xs ds _ _ _ z; cases z
        · intro l a kvs es _ _ _ z; cases z
        · intro l a kvs es _ _ _ z; cases z
        · intro l _; rfl
        · intro l o os v d vs ds _ _ i1 i2 z; rw [List.flatten_cons, i1 z, i2 z]; rfl
      exact this ra
    rw [hos] at hoi
    refine ⟨O, B, g.memB, fun b hb => ?_, same_set g.same (g.gO i a (by rw [hoi]; exact List.mem_cons_self)) e rfl, g.g0, g.gO, g.nd, g.dj, by rw [List.length_set, g.len], by rw [List.length_set, g.lenL], fun j d h => ?_, g.tabs.upd e rfl⟩
    · by_cases hba : b = a
      · rw [hba]; exact ⟨_, upd_same, rfl⟩
      · rw [upd_ne hba]; exact g.ok b hb
    · by_cases hj : j = i
      · subst hj
        have hi : j < ρ.length := (List.getElem?_eq_some_iff.mp hd).1
        simp only [List.getElem?_set_self hi] at h
        cases h
        refine ⟨.ref a, h1, ?_⟩
        rw [hoi]
        show RO K B _ (lv L j) _ _ _
        rw [hl]
        exact RO.l1 upd_same (r.mono hsame)
      · simp only [List.getElem?_set_ne (Ne.symm hj)] at h
        obtain ⟨w, h3, h4⟩ := g.slot j d h
        refine ⟨w, h3, h4.mono_aux hsame fun b hb => upd_ne fun z => ?_⟩
        exact g.dj j i hj b hb (by rw [hoi, z]; exact List.mem_cons_self)
theorem app_ok {i : Nat} {f : FE} {c : Esc} : ∀ E σ H, tS K (sApp i f c) E σ H → tDrop (tBM K "list" rAppend (tVar i) (tCons (tD K (.br 0) f c) tNil)) E σ H := fun E σ H ⟨B0, G, s, hs, q⟩ => by
  unfold sApp at q
  split at q
  · rename_i d ds hd hi
    have hi := eVar_some hi
    split at q
    · rename_i hz
      split at q
      · rename_i hfl
        split at q
        · rename_i hl
          obtain ⟨O, B, g⟩ := hs
          obtain ⟨a, xs, h1, h2, h3, h4⟩ := g.write hi hl
          refine ⟨.ref a, h1, .inl ⟨rfl, _, SqL.of h2⟩, [], _, s.1, d, g.good.zero, .zero, hd, fun v H1 s1 p1 => ?_⟩
          obtain ⟨a', xs', h1', h2', h3', h4'⟩ := (g.mono s1).write hi hl
          rw [h1] at h1'
          cases h1'
          have h5 := s1 _ _ h2
          rw [h5] at h2'
          cases h2'
          refine ⟨a, xs, v, rfl, rfl, h5, by rw [h3.length, sz_eq]; exact hz, ?_⟩
          exact q _ _ (h4' _ _ (h3'.append (.cons ((RL.r0 p1).hidF ((g.ok.mono s1).noTup) hfl) .nil)))
        · exact q.elim
      · split at q
        · rename_i hl
          obtain ⟨O, B, g0⟩ := hs
          obtain ⟨O', B', g, _⟩ := g0.demote c
          obtain ⟨a, xs, h1, h2, h3, h4⟩ := g.write hi hl
          refine ⟨.ref a, h1, .inl ⟨rfl, _, SqL.of h2⟩, B', _, s.1, d, g.good, demote_ok c s.2, hd, fun v H1 s1 p1 => ?_⟩
          obtain ⟨a', xs', h1', h2', h3', h4'⟩ := (g.mono s1).write hi hl
          rw [h1] at h1'
          cases h1'
          have h5 := s1 _ _ h2
          rw [h5] at h2'
          cases h2'
          refine ⟨a, xs, v, rfl, rfl, h5, by rw [h3.length, sz_eq]; exact hz, ?_⟩
          exact q _ _ (h4' _ _ (h3'.append (.cons (RL.r p1) .nil)))
        · exact q.elim
    · exact q.elim
  · exact q.elim
theorem ss_app (i : Nat) {x : Str} {e : Expr} {f : FE} {c : Esc} {pos p p2 p3 : Pos} (ps : PS X (.Expr (.Call (.Attribute (.Name x p) "append" p2) [e] [] p3) pos) (tDrop (tBM K "list" rAppend (tVar i) (tCons (tD K (.br 0) f c) tNil)))) :
    PS X (.Expr (.Call (.Attribute (.Name x p) "append" p2) [e] [] p3) pos) (tS K (sApp i f c)) := ps.imp app_ok
def sPut (i : Nat) (j f : FE) (c : Esc) : FS := fun s => match f s.1, eVar i s.1, j s.1 with
  | some d, some (.list ds), some (.int k) => match ixN ds.length k with
    | none => .stuck
    | some n => if flat d = true then (if lv s.2 i = 1 then .next (s.1.set i (some (.list (ds.set n d))), s.2) else .stuck)
        else (if lv (demote c s.2) i = 1 then .next (s.1.set i (some (.list (ds.set n d))), demote c s.2) else .stuck)
  | _, _, _ => .stuck
theorem put_ok {i : Nat} {j f : FE} {c cj : Esc} : ∀ E σ H, tS K (sPut i j f c) E σ H → tAsg (tD K (.br 0) f c) (gSub (tVar i) (tD K (.br 1) j cj) rSetL) E σ H := fun E σ H ⟨B0, G, s, hs, q⟩ => by
  unfold sPut at q
  split at q
  · rename_i d ds k hd hi hk
    have hi := eVar_some hi
    split at q
    · exact q.elim
    · rename_i n hn
      split at q
      · rename_i hfl
        split at q
        · rename_i hl
          obtain ⟨O, B, g⟩ := hs
          refine ⟨[], _, s.1, d, g.good.zero, .zero, hd, fun v H1 s1 p1 => ?_⟩
          obtain ⟨a, xs, h1, h2, h3, _⟩ := (g.mono s1).write hi hl
          refine ⟨.ref a, h1, [], _, s.1, _, (g.mono s1).good.zero, .zero, hk, fun w H2 s2 p2 => ?_⟩
          obtain ⟨a', xs', h1', h2', h3', h4'⟩ := ((g.mono s1).mono s2).write hi hl
          rw [h1] at h1'
          cases h1'
          have h5 := s2 _ _ h2
          rw [h5] at h2'
          cases h2'
          refine ⟨a, xs, _, n, rfl, RL.int p2, h5, by rw [h3.length]; exact hn, ?_⟩
          exact q _ _ (h4' _ _ (h3'.set (((RL.r0 p1).mono s2).hidF (((g.ok.mono s1).mono s2).noTup) hfl) n))
        · exact q.elim
      · split at q
        · rename_i hl
          obtain ⟨O, B, g0⟩ := hs
          obtain ⟨O', B', g, _⟩ := g0.demote c
          refine ⟨B', _, s.1, d, g.good, demote_ok c s.2, hd, fun v H1 s1 p1 => ?_⟩
          obtain ⟨a, xs, h1, h2, h3, _⟩ := (g.mono s1).write hi hl
          refine ⟨.ref a, h1, [], _, s.1, _, (g.mono s1).good.zero, .zero, hk, fun w H2 s2 p2 => ?_⟩
          obtain ⟨a', xs', h1', h2', h3', h4'⟩ := ((g.mono s1).mono s2).write hi hl
          rw [h1] at h1'
          cases h1'
          have h5 := s2 _ _ h2
          rw [h5] at h2'
          cases h2'
          refine ⟨a, xs, _, n, rfl, RL.int p2, h5, by rw [h3.length]; exact hn, ?_⟩
          exact q _ _ (h4' _ _ (h3'.set ((RL.r p1).mono (same_hid s2)) n))
        · exact q.elim
  · exact q.elim
theorem ss_put (i : Nat) {x : Str} {e ix : Expr} {j f : FE} {c cj : Esc} {pos p p2 : Pos} (ps : PS X (.Assign [.Subscript (.Name x p) ix p2] e pos) (tAsg (tD K (.br 0) f c) (gSub (tVar i) (tD K (.br 1) j cj) rSetL))) :
    PS X (.Assign [.Subscript (.Name x p) ix p2] e pos) (tS K (sPut i j f c)) := ps.imp put_ok
def forGo (t : Tg) (body : FS) : List D → S → Out
  | [], s => .next s
  | d :: ds, s => match t.go d with
    | none => .stuck
    | some l => match body (setsD s.1 l, zeros s.2 l) with
      | .next s' => forGo t body ds s'
      | .cont s' => forGo t body ds s'
      | .brk s' => .next s'
      | .ret d => .ret d
      | .stuck => .stuck
def sFor (fi : FA) (c : Esc) (t : Tg) (body : FS) : FS := fun s => match fi s.1 with
  | none => .stuck
  | some ds => forGo t body ds (s.1, demote c s.2)
theorem Fin.mono {B0 : List Addr} {G G' : Hp} {E : Ends} {o : Out} (hG : Same G G') (g0 : ∀ a ∈ B0, G a ≠ none) (h : Fin K B0 G E o) : Fin K B0 G' E o := by
  have gs : ∀ {σ : St} {H : Hp} {s : S}, GS K B0 G' σ H s → GS K B0 G σ H s := fun {σ H s} ⟨O, B, g⟩ => ⟨O, B, g.memB, g.ok, hG.trans g.same, g0, fun i a h => hG.free (g.gO i a h), g.nd, g.dj, g.len, g.lenL, g.slot, g.tabs⟩
  cases o with
  | stuck => exact h
  | next s => exact fun σ' H' z => h σ' H' (gs z)
  | brk s => exact fun σ' H' z => h σ' H' (gs z)
  | cont s => exact fun σ' H' z => h σ' H' (gs z)
  | ret d => exact fun v H' e r => h v H' (hG.trans e) r
theorem for_core {fi : FA} {c : Esc} {t : Tg} {fb : FS} {ti : TI} {E : Ends} {σ : St} {H : Hp} {B0 : List Addr} {G : Hp} {s : S} (hs : GS K B0 G σ H s) (q : Fin K B0 G E (sFor fi c t fb s))
    (hti : ∀ B L ds, Good K B L σ H s.1 → EscOk c L → fi s.1 = some ds → ∀ Rr, (∀ J H1, Same H H1 → Walks K (gOf 0 B H1) B J ds → Rr J H1) → ti σ H Rr) : tFor ti (tG K t) (tS K fb) E σ H := by
  unfold sFor at q
  split at q
  · exact q.elim
  · rename_i ds hds
    obtain ⟨O, B, g0⟩ := hs
    obtain ⟨O', B', g, _⟩ := g0.demote c
    refine hti B' _ ds g.good (demote_ok c s.2) hds _ fun J H1 s1 wk => ?_
    have g1 := g.mono s1
    let C1 : List Addr := B'.filter fun a => decide (a ∉ B0)
    have inC : ∀ a, a ∈ C1 ↔ a ∈ B' ∧ a ∉ B0 := fun a => by simp [C1]
    let G1 : Hp := hid C1 H1
    have hG1 : Same G1 H1 := same_unhid
    have hGG : Same G G1 := same_hidI g1.same fun b hb => by
      obtain ⟨z1, z2⟩ := (inC b).mp hb
      rcases (g1.memB b).mp z1 with h | ⟨i, h⟩
      · exact absurd h z2
      · exact g1.gO i b h
    have hhG : Same (gOf 0 B' H1) G1 := same_hidW (Same.refl H1) fun a ha => .inl ((inC a).mp ha).1
    have gs1 : GS K B0 G1 σ H1 (s.1, demote c s.2) := ⟨O', B', g1.memB, g1.ok, hG1, fun a h z => g1.g0 a h (hGG.free z), fun i a h => g1.ok.hid ((g1.memB a).mpr (.inr ⟨i, h⟩)) ((inC a).mpr ⟨(g1.memB a).mpr (.inr ⟨i, h⟩), fun z => g1.g0 a z (g1.gO i a h)⟩), g1.nd, g1.dj, g1.len, g1.lenL, g1.slot, g1.tabs⟩
    have q1 : Fin K B0 G1 E (forGo t fb ds (s.1, demote c s.2)) := q.mono hGG g0.g0
    refine ⟨fun i n σ' H' => n = ds.length - i ∧ i ≤ ds.length ∧ ∃ s', GS K B0 G1 σ' H' s' ∧ Fin K B0 G1 E (forGo t fb (ds.drop i) s'), ⟨ds.length, by simp, Nat.zero_le _, _, gs1, by simpa using q1⟩, ?_⟩
    rintro i n σ' H' ⟨rfl, hi, s', gs', q'⟩
    have sG : Same G1 H' := let ⟨_, _, g⟩ := gs'; g.same
    by_cases hlt : i < ds.length
    · refine .inr ⟨wk.go i H' hlt (hhG.trans sG), fun σ2 H2 => (ds.length - (i + 1) = ds.length - (i + 1) ∧ i + 1 ≤ ds.length ∧ ∃ s', GS K B0 G1 σ2 H2 s' ∧ Fin K B0 G1 E (forGo t fb (ds.drop (i + 1)) s')), fun σ2 H2 w => ⟨_, by omega, w⟩, fun x H2 y => ?_⟩
      rw [List.drop_eq_getElem_cons hlt] at q'
      obtain ⟨s2, rx⟩ := wk.yld i H' x H2 _ (List.getElem?_eq_getElem hlt) (hhG.trans sG) y
      obtain ⟨O2, B2, g2⟩ := gs'
      have rx := rx B2 g2.ok fun a ha => by
        refine ⟨?_, g2.ok.trk a ha⟩
        rcases (g2.memB a).mp ha with h | ⟨j, h⟩
        · exact .inl ((g1.memB a).mpr (.inl h))
        · exact .inr (hhG.free (g2.gO j a h))
      unfold forGo at q'
      split at q'
      · exact q'.elim
      · rename_i l hl
        refine ⟨B2, _, l, rx, hl, fun m rs => ⟨B0, G1, _, GS.sets (g2.mono s2) (fun _ h => h) rs, ?_⟩⟩
        cases hbd : fb (setsD s'.1 l, zeros s'.2 l) with
        | stuck => rw [hbd] at q'; exact q'.elim
        | next s3 => rw [hbd] at q'; exact fun σ3 H3 g3 => ⟨rfl, hlt, s3, g3, q'⟩
        | cont s3 => rw [hbd] at q'; exact fun σ3 H3 g3 => ⟨rfl, hlt, s3, g3, q'⟩
        | brk s3 => rw [hbd] at q'; exact q'
        | ret d => rw [hbd] at q'; exact q'
    · have e : i = ds.length := by omega
      subst e
      refine .inl ⟨wk.stop H' (hhG.trans sG), ?_⟩
      rw [List.drop_length] at q'
      exact q' σ' H' gs'
theorem ss_for {iter tg : Expr} {body : List Stmt} {pos : Pos} {fi : FA} {c : Esc} {t : Tg} {fb : FS} (hp : PassesOwn (model X.prog X.w) X.A X.env X.xe) (hc : X.calm = true) (hi : PI X tg iter (tI K 0 fi c)) (hg : PG X tg (tG K t)) (hb : PSs X body (tS K fb))
    (hs : ∀ x, foldedSetIterable iter X.env x = pure x := by intro _; rfl) : PS X (.For tg iter body [] pos) (tS K (sFor fi c t fb)) := (ps_for hp hc hi hg hb hs).imp fun E σ H ⟨B0, G, s, hs, q⟩ =>
  for_core hs q fun B L ds g es hd Rr h => ⟨B, L, s.1, ds, g, es, hd, h⟩
def whGo (c : FT) (body : FS) : Nat → S → Out
  | 0, _ => .stuck
  | n + 1, s => match c s.1 with
    | none => .stuck
    | some false => .next s
    | some true => match body s with
      | .next s' => whGo c body n s'
      | .cont s' => whGo c body n s'
      | .brk s' => .next s'
      | .ret d => .ret d
      | .stuck => .stuck
def sWhile (fuel : Nat) (c : FT) (body : FS) : FS := whGo c body fuel
theorem ss_while (fuel : Nat) {test : Expr} {body : List Stmt} {pos : Pos} {c : FT} {fb : FS} (hp : PassesOwn (model X.prog X.w) X.A X.env X.xe) (hc : PT X test (tT K c)) (hb : PSs X body (tS K fb)) : PS X (.While test body [] pos) (tS K (sWhile fuel c fb)) := (ps_while hp hc hb).imp fun E σ H ⟨B0, G, s, hs, q⟩ => by
  refine ⟨fun m σ' H' => ∃ s', GS K B0 G σ' H' s' ∧ Fin K B0 G E (whGo c fb m s'), ⟨fuel, s, hs, q⟩, ?_⟩
  rintro m σ' H' ⟨s', gs', q'⟩
  cases m with
  | zero => exact q'.elim
  | succ m =>
    obtain ⟨B, L, gd⟩ := gs'.good
    unfold whGo at q'
    split at q'
    · exact q'.elim
    · exact ⟨B, L, s'.1, false, gd, by assumption, fun H1 s1 => iteF (q' σ' H1 (gs'.mono s1))⟩
    · refine ⟨B, L, s'.1, true, gd, by assumption, fun H1 s1 => iteT ⟨fun σ2 H2 => ∃ s2, GS K B0 G σ2 H2 s2 ∧ Fin K B0 G E (whGo c fb m s2), fun σ2 H2 w => ⟨m, Nat.lt_succ_self m, w⟩, B0, G, s', gs'.mono s1, ?_⟩⟩
      cases hbd : fb s' with
      | stuck => rw [hbd] at q'; exact q'.elim
      | next s3 => rw [hbd] at q'; exact fun σ3 H3 g3 => ⟨s3, g3, q'⟩
      | cont s3 => rw [hbd] at q'; exact fun σ3 H3 g3 => ⟨s3, g3, q'⟩
      | brk s3 => rw [hbd] at q'; exact q'
      | ret d => rw [hbd] at q'; exact q'
end
def dfun (N n : Nat) (body : FS) : Fn := fun ds => if ds.length = n then (match body (ds.map some ++ List.replicate (N - n) none, List.replicate N 0) with
  | .ret d => some d
  | .next _ => some .none
  | _ => none) else none
theorem getD_rep {i N : Nat} : lv (List.replicate N 0) i = 0 := by
  unfold lv
  rw [List.getD_eq_getElem?_getD, List.getElem?_replicate]
  split <;> rfl
theorem start_ok {K : PySem.W.Frag} {B : List Addr} {H : Hp} {vs : List V} {ds : List D} {N : List Str} (ok : Ok B H) (tb : Tb H) (r : RA K (hid B H) vs ds) (hn : ds.length ≤ N.length) :
    GS K B H (L2.start N vs) H (ds.map some ++ List.replicate (N.length - ds.length) none, List.replicate N.length 0) := by
  refine ⟨fun _ => [], B, fun a => by simp, ok, Same.refl H, ok.trk, fun i a h => by simp at h, fun i => List.nodup_nil, fun i j _ a h => by simp at h, ?_, ?_, fun i d h => ?_, tb⟩
  · unfold L2.start
    simp [r.length]
  · simp; omega
  · have hi : i < ds.length := by
      by_cases hi : i < ds.length
      · exact hi
      · simp only [List.getElem?_append_right (show (ds.map some).length ≤ i by simpa using hi), List.getElem?_replicate] at h
        split at h <;> cases h
    simp only [List.getElem?_append_left (show i < (ds.map some).length by simpa using hi), List.getElem?_map] at h
    obtain ⟨x, h1, h2⟩ := Option.map_eq_some_iff.mp h
    cases h2
    obtain ⟨v, h3, h4⟩ := r.get h1
    refine ⟨v, ?_, ?_⟩
    · unfold L2.start
      rw [List.getElem?_append_left (by have := r.length; simp; omega), List.getElem?_map, h3]
      rfl
    · show RO K B H (lv (List.replicate N.length 0) i) [] v d
      rw [getD_rep]
      exact .z (.inl rfl) h4
section
variable {P : Program} {w : World} {K : PySem.W.Frag} {mg : Str → Option Value} {base : Heap}
theorem fun_den {x qual : Str} {st : Stmt} {f : Addr} {fd : FuncData} {N ps : List Str} {k : Nat} {g : FS} {NN n : Nat} (F : Fun K x qual st f fd) (hS : FnScope N ps (defScope st)) (hNN : NN = N.length) (hn : n = ps.length) (hle : ps.length ≤ N.length)
    (hbody : ∀ (cdv : Value) (A : Around) (outer : List Env) (s : Shared) (H : Hp) (E : XK), Room k (A.deeper (envOfC qual (defScope st) s.heap.objs.size f cdv)) → PSs (cxOf CX0 P w K mg base N qual (defScope st) f cdv A outer s H E).nox (defBody st) (tS K g)) :
    FnOk P w K mg base CX0 (k + 1) f fd ps (spD K n (dfun NN n g)) := by
  subst hNN hn
  refine F.ok hS spD_len (fun cdv A outer s H vs Q E hr h => ?_)
  obtain ⟨B, ds, d, ok, tb, r, hl, hd, q⟩ := h
  refine ⟨_, hbody cdv A outer s H E hr, B, H, _, start_ok ok tb r (by rw [hl]; exact hle), ?_⟩
  unfold dfun at hd
  rw [if_pos hl] at hd
  rw [hl]
  split at hd
  · rename_i e
    rw [e]
    cases (Option.some.inj hd)
    exact q
  · rename_i e
    rw [e]
    cases (Option.some.inj hd)
    intro σ' H' ⟨O, B', g⟩
    exact q .non H' g.same .non
  · cases hd
end
end DS
end
section
set_option Elab.async false
set_option linter.all false
set_option maxRecDepth 100000
namespace DS
open PySem PySem.Spec PyProof.Rows L2
variable [Tbls]
theorem hu_of64 {A : Around} {k : Nat} (hr : Room k A) : A.units + 64 < cLine := hr.units
theorem hu2_of {A : Around} {k : Nat} (hr : Room k A) : A.units + 65 < cLine := by have := hr.un; omega
section
variable {X : Cx} {K : PySem.W.Frag} {κ : Mo} {pos : Pos} {a b : Expr} {fa fb : FE} {ca cb : Esc}
def tIsND (f : FE) : FT := fun ρ => o1 (f ρ) fun d => some (isNon d)
def tNotND (f : FE) : FT := fun ρ => o1 (f ρ) fun d => some (!isNon d)
theorem qt_isN {j pos'} (ha : PE X a (tD K (.br 1) fa ca)) : PT X (.Compare a [.Is] [.Constant .none j pos'] pos) (tT K (tIsND fa)) := (pt_cmp (pc_isN ha) rfl).imp fun σ H Q ⟨B, L, ρ, k, g, hf, q⟩ => by
  obtain ⟨d, h1, h2⟩ := o1_some hf
  cases (Option.some.inj h2)
  exact ⟨[], _, ρ, d, g.zero, .zero, h1, fun x H1 s1 p1 => ⟨_, by rw [(RL.r0 p1).isNon], q H1 s1⟩⟩
def sExt (i : Nat) (f : FE) (c : Esc) : FS := fun s => match f s.1, eVar i s.1 with
  | some (.list es), some (.list ds) => if ds.length + es.length ≤ sz ∧ lv (demote c s.2) i = 1 then .next (s.1.set i (some (.list (ds ++ es))), demote c s.2) else .stuck
  | _, _ => .stuck
theorem ext_ok {i : Nat} {f : FE} {c : Esc} : ∀ E σ H, tS K (sExt i f c) E σ H → tDrop (tBM K "list" rExtend (tVar i) (tCons (tD K (.br 1) f c) tNil)) E σ H := fun E σ H ⟨B0, G, s, hs, q⟩ => by
  unfold sExt at q
  split at q
  · rename_i es ds hd hi
    have hi := eVar_some hi
    split at q
    · rename_i hz
      obtain ⟨hz, hl⟩ := hz
      obtain ⟨O, B, g0⟩ := hs
      obtain ⟨O', B', g, _⟩ := g0.demote c
      obtain ⟨a, xs, h1, h2, h3, h4⟩ := g.write hi hl
      refine ⟨.ref a, h1, .inl ⟨rfl, _, SqL.of h2⟩, B', _, s.1, _, g.good, demote_ok c s.2, hd, fun v H1 s1 p1 => ?_⟩
      obtain ⟨a', xs', h1', h2', h3', h4'⟩ := (g.mono s1).write hi hl
      rw [h1] at h1'
      cases h1'
      have h5 := s1 _ _ h2
      rw [h5] at h2'
      cases h2'
      obtain ⟨b, ys, rfl, e1, e2⟩ := RL.list1 p1
      refine ⟨a, b, xs, ys, rfl, rfl, h5, e1, by rw [h3.length, e2.length, sz_eq]; exact hz, ?_⟩
      exact q _ _ (h4' _ _ (h3'.append e2))
    · exact q.elim
  · exact q.elim
theorem ss_ext (i : Nat) {x : Str} {e : Expr} {f : FE} {c : Esc} {pos p p2 p3 : Pos} (ps : PS X (.Expr (.Call (.Attribute (.Name x p) "extend" p2) [e] [] p3) pos) (tDrop (tBM K "list" rExtend (tVar i) (tCons (tD K (.br 1) f c) tNil)))) :
    PS X (.Expr (.Call (.Attribute (.Name x p) "extend" p2) [e] [] p3) pos) (tS K (sExt i f c)) := ps.imp ext_ok
end
section
variable {P : Program} {w : World} {K : PySem.W.Frag} {mg : Str → Option Value} {base : Heap}
theorem fun_none {x qual : Str} {st : Stmt} {f : Addr} {fd : FuncData} {N ps : List Str} {k n : Nat} (F : Fun K x qual st f fd) (hS : FnScope N ps (defScope st)) (hn : n = ps.length) : FnOk P w K mg base CX0 (k + 1) f fd ps (spD K n fun _ => none) := by
  subst hn
  refine F.ok hS spD_len (fun cdv A outer s H vs Q E hr h => ?_)
  obtain ⟨B, ds, d, ok, _, r, hl, hd, q⟩ := h
  cases hd
end
end DS
end
section
set_option Elab.async false
set_option linter.all false
set_option maxRecDepth 100000
set_option maxHeartbeats 1000000
namespace DS
open PySem PySem.Spec PyProof.Rows L2
variable [Tbls]
def SqB (b : Bool) (K : PySem.W.Frag) (H : Hp) (a : Addr) (xs : List V) : Prop := if b = true then SqT K H a xs else SqL K H a xs
def ItB (b : Bool) (h : Heap) (it l : Addr) (i : Nat) : Prop := if b = true then h.IsTupleIter it l i else h.IsListIter it l i
def IsB (b : Bool) (h : Heap) (l : Addr) (items : Array Value) : Prop := if b = true then h.IsTuple l items else h.IsList l items
def beginB (b : Bool) (l : Addr) : Obj := if b = true then { cls := .type "tuple_iterator", data := .fields #[.ref l, .int 0 0] } else { cls := .type "list_iterator", data := .fields #[.ref l, .int 0 0] }
section
variable {b : Bool} {K : PySem.W.Frag}
theorem SqB.mono {H H' : Hp} {a : Addr} {xs : List V} (e : Same H H') (h : SqB b K H a xs) : SqB b K H' a xs := by
  cases b with
  | true => exact seqT_mono e h
  | false => exact e.seq h
theorem beginsB (l : Addr) (items : Array Value) : Begins (.ref l) (beginB b l) fun h => IsB b h l items := by
  cases b with
  | true => exact begins_tuple l items
  | false => exact begins_list l items
theorem beginB_it {h : Heap} {it l : Addr} (e : h.get? it = some (beginB b l)) : ItB b h it l 0 := by
  cases b with
  | true => exact ⟨_, e, rfl, rfl⟩
  | false => exact ⟨_, e, rfl, rfl⟩
theorem ItB.at {h h' : Heap} {it l : Addr} {i : Nat} (x : ItB b h it l i) (e : ∀ o, h.get? it = some o → h'.get? it = some o) : ItB b h' it l i := by
  cases b with
  | true => exact Heap.IsTupleIter.at x e
  | false => exact Heap.IsListIter.at x e
theorem ItB.obj {h : Heap} {it l : Addr} {i : Nat} (x : ItB b h it l i) : ∃ o, h.get? it = some o ∧ ∀ v, o.data ≠ .cell v := by
  cases b with
  | true => obtain ⟨o, e, _, d⟩ := x; exact ⟨o, e, fun v z => by rw [d] at z; cases z⟩
  | false => obtain ⟨o, e, _, d⟩ := x; exact ⟨o, e, fun v z => by rw [d] at z; cases z⟩
theorem drawsB {prog : Program} {w : World} {A : Around} (hh : A.handled = none) (it l : Addr) (hne : l ≠ it) (items : Array Value) :
    Draws prog w A it [it, l] items.size (fun i v => items[i]? = some v) (fun i h => ItB b h it l i ∧ IsB b h l items) := by
  cases b with
  | true => exact Draws.tuple hh it l hne items
  | false => exact Draws.list hh it l hne items
theorem _root_.L2.Inv.seqB {X : Cx} {pins : List (Addr × Obj)} {σ : L2.St} {H : Hp} {s : Shared} {a : Addr} {xs : List V} (I : Inv X pins σ H s) (h : SqB b X.K H a xs) : ∃ its : List Value, Vals xs its ∧ IsB b s.heap a its.toArray := by
  cases b with
  | true =>
    obtain ⟨its, rv, p, _⟩ := I.tuple h
    exact ⟨its, rv, p⟩
  | false =>
    obtain ⟨its, rv, p, _⟩ := I.list h
    exact ⟨its, rv, p.isList⟩
theorem _root_.L2.Inv.seqB_inj {X : Cx} {pins : List (Addr × Obj)} {σ : L2.St} {H : Hp} {s : Shared} {a : Addr} {xs ys : List V} (I : Inv X pins σ H s) (h : SqB b X.K H a xs) (h' : SqB b X.K H a ys) : xs = ys := by
  cases b with
  | true => exact I.tuple_inj h h'
  | false => exact I.list_inj h h'
theorem IsB.lt {h : Heap} {l : Addr} {items : Array Value} (x : IsB b h l items) : l < h.objs.size := by
  cases b with
  | true => obtain ⟨o, e, _⟩ := x; exact Heap.lt_size e
  | false => obtain ⟨o, e, _⟩ := x; exact Heap.lt_size e
theorem IsB.keeps {h h' : Heap} {l : Addr} {items : Array Value} (x : IsB b h l items) (k : ∀ c o, h.get? c = some o → h'.get? c = some o) : IsB b h' l items := by
  cases b with
  | true => obtain ⟨o, e, r⟩ := x; exact ⟨o, k _ _ e, r⟩
  | false => obtain ⟨o, e, r⟩ := x; exact ⟨o, k _ _ e, r⟩
end
theorem nin2 {α : Type} {z a b : α} (h1 : z ≠ a) (h2 : z ≠ b) : z ∉ [a, b] := by simp [h1, h2]
theorem in2 {α : Type} {a b : α} : a ∈ [a, b] := by simp
theorem sep_facts {N a1 a2 : Nat} (l1 : a1 < N) (l2 : a2 < N) : (N + 2 ≠ N + 4 ∧ N + 3 ≠ N + 4 ∧ N + 2 ≠ N + 3 ∧ N + 2 ≠ N ∧ N + 4 ≠ N ∧ N + 4 ≠ a1 ∧ N + 3 ≠ N ∧ N + 3 ≠ a1) ∧ N + 2 ≠ N + 1 ∧ N + 4 ≠ N + 1 ∧ N + 4 ≠ a2 ∧ N + 3 ≠ N + 1 ∧ N + 3 ≠ a2 ∧ N ≠ N + 1 ∧ N ≠ a2 ∧ N + 1 ≠ N ∧ N + 1 ≠ a1 := by omega
theorem sep_of {N a1 a2 : Nat} (l1 : a1 < N) (l2 : a2 < N) : ZipSep2 (N + 4) (N + 2) (N + 3) N (N + 1) [N, a1] [N + 1, a2] :=
  let ⟨⟨f1, f2, f3, f4, f5, f6, f7, f8⟩, f9, f10, f11, f12, f13, f14, f15, f16, f17⟩ := sep_facts l1 l2
  ⟨f1, f2, f3, f4, in2, nin2 f5 f6, nin2 f7 f8, f9, in2, nin2 f10 f11, nin2 f12 f13, nin2 f14 f15, nin2 f16 f17⟩
theorem ne_of_ltN {N a : Nat} (l : a < N) : a ≠ N ∧ a ≠ N + 1 ∧ N + 1 ≠ a ∧ N + 1 ≠ N := by omega
theorem le5 {N c : Nat} (h : c ∈ [N + 4, N + 2, N + 3, N, N + 1]) : N ≤ c := by
  simp only [List.mem_cons, List.not_mem_nil, or_false] at h
  omega
theorem le2 {N c : Nat} (h : c ∈ [N + 1, N]) : N ≤ c := by
  simp only [List.mem_cons, List.not_mem_nil, or_false] at h
  omega
def ItP (Sx Sy : Hp → List V → Prop) : It :=
  ⟨fun i H => ∃ (xs ys : List V) (x y : V), Sx H xs ∧ Sy H ys ∧ xs[i]? = some x ∧ ys[i]? = some y,
    fun i H v H' => ∃ T x y, v = .ref T ∧ H T = none ∧ H' = upd H T (.tup [x, y]) ∧ (∀ xs, Sx H xs → xs[i]? = some x) ∧ ∀ ys, Sy H ys → ys[i]? = some y,
    fun i H => ∃ xs ys : List V, Sx H xs ∧ Sy H ys ∧ i = min xs.length ys.length⟩
abbrev ItZ (b1 b2 : Bool) (K : PySem.W.Frag) (a1 a2 : Addr) : It := ItP (fun H xs => SqB b1 K H a1 xs) (fun H xs => SqB b2 K H a2 xs)
theorem turn_zipB {P : Program} {w : World} {K : PySem.W.Frag} {elts : List Expr} {kk : Nat} {tpos : Pos} {b1 b2 : Bool} {a1 a2 z TI TO i1 i2 : Addr} (S : ZipSep2 z TI TO i1 i2 [i1, a1] [i2, a2]) (n1 : a1 ≠ i1) (n2 : a2 ≠ i2) :
    Turn P w K (.Tuple elts kk tpos) (ItZ b1 b2 K a1 a2) [z, TI, TO, i1, i2] z (fun i h => IsZip h z TI TO .none ∧ IsTupOf2 h TI (.ref i1) (.ref i2) ∧ (∃ x y, IsTupOf2 h TO x y) ∧ ItB b1 h i1 a1 i ∧ ItB b2 h i2 a2 i) where
  mem := List.mem_cons_self
  obj := fun i h ⟨hz, hTI, ⟨x, y, hTO⟩, h1, h2⟩ c hc => by
    simp only [List.mem_cons, List.not_mem_nil, or_false] at hc
    rcases hc with rfl | rfl | rfl | rfl | rfl
    · exact ⟨_, hz, fun v q => nomatch q⟩
    · exact ⟨_, hTI, fun v q => nomatch q⟩
    · exact ⟨_, hTO, fun v q => nomatch q⟩
    · exact h1.obj
    · exact h2.obj
  keep := fun i h h' ⟨hz, hTI, ⟨x, y, hTO⟩, h1, h2⟩ k => ⟨k z (by simp) _ hz, k TI (by simp) _ hTI, ⟨x, y, k TO (by simp) _ hTO⟩, h1.at fun o e => k i1 (by simp) o e, h2.at fun o e => k i2 (by simp) o e⟩
  item := by
    intro X hP hw hK hc i pins s σ H E I hf ⟨hz, hTI, hTO, h1, h2⟩ hg
    subst hP hw hK
    obtain ⟨xs, ys, x, y, hqx, hqy, hx, hy⟩ := hg
    obtain ⟨its, rv, p⟩ := I.seqB hqx
    obtain ⟨its2, rv2, p2⟩ := I.seqB hqy
    have W := GoesN.zip2 (prog := X.prog) (w := X.w) (A := X.A) (elts := elts) (x1 := kk) (pos := tpos) S (drawsB (b := b1) (show X.A.in1.handled = none from I.ok.hd hc) i1 a1 n1 its.toArray) (drawsB (b := b2) (show X.A.in1.handled = none from I.ok.hd hc) i2 a2 n2 its2.toArray)
    have hlx : i < xs.length := (List.getElem?_eq_some_iff.mp hx).1
    have hly : i < ys.length := (List.getElem?_eq_some_iff.mp hy).1
    have l1 := rv.length
    have l2 := rv2.length
    refine thn (W.goes i s _ E (by simp only [List.size_toArray]; omega) ⟨hz, hTI, hTO, ⟨h1, p⟩, ⟨h2, p2⟩⟩ fun v h' tk ⟨T, u, u2, hv, hT, hu, hu2, hTup⟩ st' hk _ => ?_) fun r s1 q => q
    subst hv
    obtain ⟨w1, e1, ru⟩ := rv.get hx
    obtain ⟨w2, e2, ru2⟩ := rv2.get hy
    have f1 : u = w1 := by
      have : its[i]? = some u := by simpa using hu
      rw [e1] at this; exact (Option.some.inj this).symm
    have f2 : u2 = w2 := by
      have : its2[i]? = some u2 := by simpa using hu2
      rw [e2] at this; exact (Option.some.inj this).symm
    subst f1 f2
    have new : ObjOk X.prog X.w (upd H T (.tup [x, y])) h' T (.tup [x, y]) := ⟨by show 2 ≤ sizeLine; decide, [u, u2], .cons ru (.cons ru2 .nil), hTup⟩
    have I1 := I.turnedNew (t' := tk) (ch := [z, TI, TO, i1, i2]) (fun c o hb q => hk c o (fun hm => hb (by
      simp only [List.mem_cons, List.not_mem_nil, or_false] at hm ⊢
      rcases hm with h | h | h | h <;> simp [h])) q) hf hT new
    refine ⟨.ref T, _, I1, rfl, ⟨T, x, y, rfl, I.hok.fresh hT, rfl, fun l hl => by rw [Inv.seqB_inj I hl hqx]; exact hx, fun l hl => by rw [Inv.seqB_inj I hl hqy]; exact hy⟩, ⟨st'.1, st'.2.1, st'.2.2.1, st'.2.2.2.1.1, st'.2.2.2.2.1⟩, fun c hcm => ?_⟩
    have hlt : c < s.heap.objs.size := by
      simp only [List.mem_cons, List.not_mem_nil, or_false] at hcm
      obtain ⟨_, _, hTO'⟩ := hTO
      rcases hcm with rfl | rfl | rfl | rfl | rfl
      · exact Heap.lt_size hz
      · exact Heap.lt_size hTI
      · exact Heap.lt_size hTO'
      · obtain ⟨_, e, _⟩ := h1.obj; exact Heap.lt_size e
      · obtain ⟨_, e, _⟩ := h2.obj; exact Heap.lt_size e
    rw [upd_ne (Nat.ne_of_lt (Nat.lt_of_lt_of_le hlt hT))]
    exact (hf c hcm).1
  done := by
    intro X hP hw hK hc i pins s σ H E I hf ⟨hz, hTI, hTO, h1, h2⟩ hg
    subst hP hw hK
    obtain ⟨xs, ys, hqx, hqy, hi⟩ := hg
    obtain ⟨its, rv, p⟩ := I.seqB hqx
    obtain ⟨its2, rv2, p2⟩ := I.seqB hqy
    have W := GoesN.zip2 (prog := X.prog) (w := X.w) (A := X.A) (elts := elts) (x1 := kk) (pos := tpos) S (drawsB (b := b1) (show X.A.in1.handled = none from I.ok.hd hc) i1 a1 n1 its.toArray) (drawsB (b := b2) (show X.A.in1.handled = none from I.ok.hd hc) i2 a2 n2 its2.toArray)
    have hi' : i = min its.toArray.size its2.toArray.size := by simp only [List.size_toArray]; rw [hi, rv.length, rv2.length]
    subst hi'
    exact W.stops s (fun s1 => Inv X pins σ H s1) E ⟨hz, hTI, hTO, ⟨h1, p⟩, ⟨h2, p2⟩⟩ fun h' tk hk _ => I.turnedL (t' := tk) (ch := [z, TI, TO, i1, i2]) (fun c o hb q => hk c o (fun hm => hb (by
      simp only [List.mem_cons, List.not_mem_nil, or_false] at hm ⊢
      rcases hm with h | h | h | h <;> simp [h])) q) hf
  self := fun A i s Q E st h => wpAny_pyIter_zip st.1 h
def iZipB (K : PySem.W.Frag) (ta : TA) : TI := fun σ H R => ta σ H fun vs H1 => ∃ a1 a2 xs ys b1 b2, vs = [.ref a1, .ref a2] ∧ SqB b1 K H1 a1 xs ∧ SqB b2 K H1 a2 ys ∧ R (ItZ b1 b2 K a1 a2) H1
theorem pi_zipB {X : Cx} {e e2 : Expr} {ta : TA} {p pos tpos : Pos} {elts : List Expr} {kk : Nat} (hg : Gl X "zip") (hm : X.mg "zip" = none) (ha : PA X [e, e2] ta)
    (hs : starEach [e, e2] X.env = (false, eval e X.env) :: starEach [e2] X.env := by rfl) (hpl : (backTo pos (starEach [e2] X.env)).any (·.1) = false := by rfl) :
    PI X (.Tuple elts kk tpos) (.Call (.Name "zip" p) [e, e2] [] pos) (iZipB X.K ta) := by
  refine ⟨fun pins s σ H R I h => ?_⟩
  refine Call_ (ld_blt I hg hm PyProof.Rows.boot_zip (PyProof.Rows.callWith_type1 (thn (ha.run pos pins s σ H _ I h) fun us s1 ⟨vs, H1, I1, r1, q1⟩ => ?_) hs hpl))
  obtain ⟨a1, a2, xs, ys, b1, b2, ex, hx, hy, q⟩ := q1
  subst ex
  obtain ⟨u, u2, rfl, r, r'⟩ := vals2 r1
  cases r
  cases r'
  obtain ⟨its, rv, p1⟩ := Inv.seqB I1 hx
  obtain ⟨its2, rv2, p2⟩ := Inv.seqB I1 hy
  have l1 := p1.lt
  have l2 := p2.lt
  refine zip_begins2 (beginsB (b := b1) a1 its.toArray) (beginsB (b := b2) a2 its2.toArray) p1 p2 fun h' hz hTI hTO h1 h2 hsz hk => wpAny_pyIter_zip hz ?_
  have I2 : Inv X pins σ H1 { s1 with heap := h' } := I1.kept (t' := s1.toks) hk
  have hD := sep_of l1 l2
  refine ⟨s1.heap.objs.size + 4, [s1.heap.objs.size + 4, s1.heap.objs.size + 2, s1.heap.objs.size + 3, s1.heap.objs.size, s1.heap.objs.size + 1], _, _, H1, rfl, I2, turn_zipB hD (ne_of_ltN l1).1 (ne_of_ltN l2).2.1, ⟨hz, hTI, ⟨_, _, hTO⟩, beginB_it h1, beginB_it h2⟩, fun c hcm => ?_, q⟩
  exact I1.fpOk (le5 hcm) (I1.hok.fresh (le5 hcm))
abbrev ItE (b : Bool) (K : PySem.W.Frag) (a : Addr) : It :=
  ⟨fun i H => ∃ (xs : List V) (x : V), SqB b K H a xs ∧ xs[i]? = some x,
    fun i H v H' => ∃ T x, v = .ref T ∧ H T = none ∧ H' = upd H T (.tup [.int (i : Nat), x]) ∧ ∀ xs, SqB b K H a xs → xs[i]? = some x,
    fun i H => ∃ xs : List V, SqB b K H a xs ∧ i = xs.length⟩
theorem turn_enumB {P : Program} {w : World} {K : PySem.W.Frag} {elts : List Expr} {kk : Nat} {tpos : Pos} {b : Bool} {a e it : Addr} (hei : e ≠ it) (hea : e ≠ a) (hai : a ≠ it) :
    Turn P w K (.Tuple elts kk tpos) (ItE b K a) [e, it] e (fun i h => (∃ old, IsEnum h e it (0 + (i : Int)) old) ∧ ItB b h it a i) where
  mem := List.mem_cons_self
  obj := fun i h ⟨⟨old, he⟩, h1⟩ c hc => by
    simp only [List.mem_cons, List.not_mem_nil, or_false] at hc
    rcases hc with rfl | rfl
    · exact ⟨_, he, fun v q => nomatch q⟩
    · exact h1.obj
  keep := fun i h h' ⟨⟨old, he⟩, h1⟩ k => ⟨⟨old, k e (by simp) _ he⟩, h1.at fun o q => k it (by simp) o q⟩
  item := by
    intro X hP hw hK hc i pins s σ H E I hf ⟨he, h1⟩ hg
    subst hP hw hK
    obtain ⟨xs, x, hqx, hx⟩ := hg
    obtain ⟨its, rv, p⟩ := I.seqB hqx
    have W := GoesN.enumFrom (prog := X.prog) (w := X.w) (A := X.A) (elts := elts) (x1 := kk) (pos := tpos) 0 (drawsB (b := b) (show X.A.in1.handled = none from I.ok.hd hc) it a hai its.toArray) e hei (fun z => by rcases List.mem_cons.mp z with z | z; exact hei z; exact hea (List.mem_singleton.mp z)) List.mem_cons_self
    have hlx : i < xs.length := (List.getElem?_eq_some_iff.mp hx).1
    have l1 := rv.length
    refine thn (W.goes i s _ E (by simp only [List.size_toArray]; omega) ⟨he, h1, p⟩ fun v h' tk ⟨T, t, u, hv, hT, hu, hTup⟩ st' hk _ => ?_) fun r s1 q => q
    subst hv
    obtain ⟨w1, e1, ru⟩ := rv.get hx
    have f1 : u = w1 := by
      have : its[i]? = some u := by simpa using hu
      rw [e1] at this; exact (Option.some.inj this).symm
    subst f1
    have e0 : (0 : Int) + (i : Int) = (i : Nat) := by omega
    rw [e0] at hTup
    have new : ObjOk X.prog X.w (upd H T (.tup [.int (i : Nat), x])) h' T (.tup [.int (i : Nat), x]) := ⟨by show 2 ≤ sizeLine; decide, [.int (i : Nat) t, u], .cons ⟨_, rfl⟩ (.cons ru .nil), hTup⟩
    have I1 := I.turnedNew (t' := tk) (ch := [e, it]) (fun c o hb q => hk c o hb q) hf hT new
    refine ⟨.ref T, _, I1, rfl, ⟨T, x, rfl, I.hok.fresh hT, rfl, fun l hl => by rw [Inv.seqB_inj I hl hqx]; exact hx⟩, ⟨st'.1, st'.2.1⟩, fun c hcm => ?_⟩
    have hlt : c < s.heap.objs.size := by
      simp only [List.mem_cons, List.not_mem_nil, or_false] at hcm
      obtain ⟨_, he'⟩ := he
      rcases hcm with rfl | rfl
      · exact Heap.lt_size he'
      · obtain ⟨_, e, _⟩ := h1.obj; exact Heap.lt_size e
    rw [upd_ne (Nat.ne_of_lt (Nat.lt_of_lt_of_le hlt hT))]
    exact (hf c hcm).1
  done := by
    intro X hP hw hK hc i pins s σ H E I hf ⟨he, h1⟩ hg
    subst hP hw hK
    obtain ⟨xs, hqx, hi⟩ := hg
    obtain ⟨its, rv, p⟩ := I.seqB hqx
    have W := GoesN.enumFrom (prog := X.prog) (w := X.w) (A := X.A) (elts := elts) (x1 := kk) (pos := tpos) 0 (drawsB (b := b) (show X.A.in1.handled = none from I.ok.hd hc) it a hai its.toArray) e hei (fun z => by rcases List.mem_cons.mp z with z | z; exact hei z; exact hea (List.mem_singleton.mp z)) List.mem_cons_self
    have hi' : i = its.toArray.size := by simp only [List.size_toArray]; rw [hi, rv.length]
    subst hi'
    exact W.stops s (fun s1 => Inv X pins σ H s1) E ⟨he, h1, p⟩ fun h' tk hk _ => I.turnedL (t' := tk) (ch := [e, it]) (fun c o hb q => hk c o hb q) hf
  self := fun A i s Q E st h => let ⟨⟨_, he⟩, _⟩ := st; wpAny_pyIter_enum he h
theorem meets_enum1 {v : Value} {o : Obj} {H : Heap → Prop} (B : Begins v o H) :
    Meets (Builtin.«enumerate.__new__» ⟨[.type "enumerate", v], []⟩) (fun _ R s => H s.heap ∧
      R (.ok (.ret (.ref (s.heap.push o).objs.size))) { s with heap := (s.heap.push o).push { cls := .type "enumerate", data := .fields #[.none, .bool false, .ref s.heap.objs.size, rawInt 0, .none, .none] } }) :=
  .of_wp fun prog w A R s h => by
    obtain ⟨hp, g, d, tk, os⟩ := s
    obtain ⟨h1, h⟩ := h
    have hsub := sub_enumerate
    have q1 : ∀ {A' : Around} {E : Value → Shared → Prop} {Q : Value → Shared → Prop}, Q (.ref hp.objs.size) ⟨hp.push o, g, d, tk, os⟩ → wpAny (model prog w) A' (pyIter v) Q E ⟨hp, g, d, tk, os⟩ := fun q => B.iter prog w _ _ ⟨hp, g, d, tk, os⟩ _ h1 q
    wp_walk using q1
    refine wpAny_stack_any fun st => wpAny_pure ?_
    split
    · rename_i c _ _ _ _ _
      cases (c == Value.type "enumerate") <;> (wp_walk using q1; exact ⟨_, rfl, h⟩)
    · wp_walk using q1
      exact ⟨_, rfl, h⟩
theorem enum_begins1 {prog : Program} {w : World} {A : Around} {E : Value → Shared → Prop} {s : Shared} {v : Value} {o : Obj} {H : Heap → Prop} {Q : Value → Shared → Prop} (B : Begins v o H) (h1 : H s.heap)
    (h : ∀ h', IsEnum h' (s.heap.objs.size + 1) s.heap.objs.size 0 .none → h'.get? s.heap.objs.size = some o → (∀ b o, s.heap.get? b = some o → h'.get? b = some o) → Q (.ref (s.heap.objs.size + 1)) { s with heap := h' }) :
    wpAny (model prog w) A (call (.type "enumerate") [v]) Q E s := by
  refine callType_new F.called_enumerate (by decide) (F.typeCall_enumerate_1 _) (F.newCall_enumerate_1 _) (fun obj => F.args_object_init_2 obj _) F.entry_enumerate_new (meets_enum1 B) ⟨h1, ?_⟩
  have hz : (s.heap.push o).objs.size = s.heap.objs.size + 1 := Heap.size_push ..
  show _ ∧ _
  rw [hz]
  have he : IsEnum ((s.heap.push o).push { cls := .type "enumerate", data := .fields #[.none, .bool false, .ref s.heap.objs.size, rawInt 0, .none, .none] }) (s.heap.objs.size + 1) s.heap.objs.size 0 .none := by
    have e := Heap.get?_push_size (s.heap.push o) (o := { cls := .type "enumerate", data := .fields #[.none, .bool false, .ref s.heap.objs.size, rawInt 0, .none, .none] }) rfl
    rw [hz] at e; exact e
  exact ⟨⟨_, he, rfl⟩, h _ he (Heap.get?_push_of_some _ (Heap.get?_push_size _ B.free)) fun b o x => Heap.get?_push_of_some _ (Heap.get?_push_of_some _ x)⟩
def iEnumB (K : PySem.W.Frag) (ta : TA) : TI := fun σ H R => ta σ H fun vs H1 => ∃ a xs b, vs = [.ref a] ∧ SqB b K H1 a xs ∧ R (ItE b K a) H1
theorem pi_enumB {X : Cx} {e : Expr} {ta : TA} {p pos tpos : Pos} {elts : List Expr} {kk : Nat} (hg : Gl X "enumerate") (hm : X.mg "enumerate" = none) (ha : PA X [e] ta)
    (hs : starEach [e] X.env = [(false, eval e X.env)] := by rfl) : PI X (.Tuple elts kk tpos) (.Call (.Name "enumerate" p) [e] [] pos) (iEnumB X.K ta) := by
  refine ⟨fun pins s σ H R I h => ?_⟩
  refine Call_ (ld_blt I hg hm boot_enumerate (PyProof.Rows.callWith_type1 (thn (ha.run pos pins s σ H _ I h) fun us s1 ⟨vs, H1, I1, r1, q1⟩ => ?_) hs rfl))
  obtain ⟨a, xs, b, ex, hx, q⟩ := q1
  subst ex
  obtain ⟨u, rfl, r⟩ := vals1 r1
  cases r
  obtain ⟨its, rv, p1⟩ := Inv.seqB I1 hx
  have l1 := p1.lt
  refine enum_begins1 (beginsB (b := b) a its.toArray) p1 fun h' he h1 hk => wpAny_pyIter_enum he ?_
  have I2 : Inv X pins σ H1 { s1 with heap := h' } := I1.kept (t' := s1.toks) hk
  refine ⟨s1.heap.objs.size + 1, [s1.heap.objs.size + 1, s1.heap.objs.size], _, _, H1, rfl, I2, turn_enumB (b := b) (a := a) (ne_of_ltN l1).2.2.2 (ne_of_ltN l1).2.2.1 (ne_of_ltN l1).1, ⟨⟨_, he⟩, beginB_it h1⟩, fun c hcm => ?_, q⟩
  exact I1.fpOk (le2 hcm) (I1.hok.fresh (le2 hcm))
section
variable {X : Cx} {K : PySem.W.Frag} {m : Nat}
theorem sq_of {B : List Addr} {H : Hp} {v : V} {d : D} {ds : List D} (hm : m ≤ 1) (h : RL K B H m v d) (hd : seqOf d = some ds) : ∃ a xs b, v = .ref a ∧ SqB b K (gOf m B H) a xs ∧ RA K (hid B H) xs ds := by
  unfold seqOf at hd
  split at hd
  · cases (Option.some.inj hd)
    obtain ⟨a, xs, rfl, e1, e2⟩ := RL.listG hm h
    exact ⟨a, xs, false, rfl, SqL.of e1, e2⟩
  · cases (Option.some.inj hd)
    obtain ⟨a, xs, rfl, e1, e1', e2⟩ := RL.tup h
    exact ⟨a, xs, true, rfl, seqT_mono same_gOf (.inl (.inl e1')), e2⟩
  · cases hd
theorem walks_pair {B : List Addr} {H1 : Hp} {Sx Sy : Hp → List V → Prop} {xs ys : List V} {ds es : List D} (hx : ∀ H, Same (gOf m B H1) H → Sx H xs) (hy : ∀ H, Same (gOf m B H1) H → Sy H ys) (rx : RA K (hid B H1) xs ds) (ry : RA K (hid B H1) ys es) :
    Walks K (gOf m B H1) B (ItP Sx Sy) ((ds.zip es).map fun p => .tuple [p.1, p.2]) where
  go := fun i H hi s => by
    simp only [List.length_map, List.length_zip] at hi
    have e1 := rx.length
    have e2 := ry.length
    exact ⟨xs, ys, xs[i]'(by omega), ys[i]'(by omega), hx H s, hy H s, by simp, by simp⟩
  stop := fun H s => ⟨xs, ys, hx H s, hy H s, by simp [rx.length, ry.length]⟩
  yld := fun i H v H' d hd s ⟨T, x, y, hv, hT, hH, h1, h2⟩ => by
    subst hv hH
    rw [List.getElem?_map] at hd
    obtain ⟨p, hp, e⟩ := Option.map_eq_some_iff.mp hd
    subst e
    rw [List.getElem?_zip_eq_some] at hp
    obtain ⟨x', f1, r1⟩ := rx.get hp.1
    obtain ⟨y', f2, r2⟩ := ry.get hp.2
    have g1 := h1 xs (hx H s)
    have g2 := h2 ys (hy H s)
    rw [f1] at g1
    rw [f2] at g2
    cases g1
    cases g2
    refine ⟨same_upd hT, fun B' _ hb => .tup (a := T) (xs := [x, y]) ?_ (.cons (r1.mono (keepR s (same_upd hT) hb)) (.cons (r2.mono (keepR s (same_upd hT) hb)) .nil))⟩
    rw [hid_out fun z => (hb T z).2 hT, upd_same]
def iZip2 (f g : FE) : FA := fun ρ => o2 (f ρ) (g ρ) fun d e => o2 (seqOf d) (seqOf e) fun ds es => some ((ds.zip es).map fun p => .tuple [p.1, p.2])
theorem qi_zip {e e2 : Expr} {f g : FE} {c c2 : Esc} {p pos tpos : Pos} {elts : List Expr} {kk : Nat} (hg : Gl X "zip") (hm : X.mg "zip" = none) (ha : PE X e (tD K (.br m) f c)) (hb : PE X e2 (tD K (.br m) g c2)) (hm1 : m ≤ 1 := by decide) (hX : X.K = K := by rfl)
    (hs : starEach [e, e2] X.env = (false, eval e X.env) :: starEach [e2] X.env := by rfl) (hs2 : starEach [e2] X.env = (false, eval e2 X.env) :: starEach [] X.env := by rfl) (hpl : (backTo pos (starEach [e2] X.env)).any (·.1) = false := by rfl) :
    PI X (.Tuple elts kk tpos) (.Call (.Name "zip" p) [e, e2] [] pos) (tI K m (iZip2 f g) (c ++ c2)) := by
  subst hX
  refine (pi_zipB hg hm (pa_cons ha (pa_cons hb pa_nil hs2) hs) hs hpl).imp fun σ H Rr ⟨B, L, ρ, ds, g, es, hf, q⟩ => ?_
  obtain ⟨d, d', h1, h2, h3⟩ := o2_some hf
  obtain ⟨xs, ys, h4, h5, h6⟩ := o2_some h3
  cases (Option.some.inj h6)
  refine ⟨B, L, ρ, d, g, es.left, h1, fun v H1 s1 p1 => ⟨B, L, ρ, d', g.mono s1, es.right, h2, fun w H2 s2 p2 => ?_⟩⟩
  obtain ⟨a1, vs1, b1, rfl, k1, r1⟩ := sq_of hm1 (RL.mono s2 (same_hid s2) p1) h4
  obtain ⟨a2, vs2, b2, rfl, k2, r2⟩ := sq_of hm1 p2 h5
  exact ⟨a1, a2, vs1, vs2, b1, b2, rfl, k1.mono gOf_unhid, k2.mono gOf_unhid, q _ H2 (s1.trans s2) (walks_pair (fun H s => k1.mono s) (fun H s => k2.mono s) r1 r2)⟩
def enumD (ds : List D) : List D := (ds.zipIdx).map fun p => .tuple [.int (p.2 : Nat), p.1]
def iEnumD (f : FE) : FA := fun ρ => o1 (f ρ) fun d => o1 (seqOf d) fun ds => some (enumD ds)
theorem walks_enum {B : List Addr} {H1 : Hp} {b : Bool} {a : Addr} {xs : List V} {ds : List D} (hx : SqB b K (gOf m B H1) a xs) (rx : RA K (hid B H1) xs ds) : Walks K (gOf m B H1) B (ItE b K a) (enumD ds) where
  go := fun i H hi s => by
    simp only [enumD, List.length_map, List.length_zipIdx] at hi
    have e1 := rx.length
    exact ⟨xs, xs[i]'(by omega), hx.mono s, by simp⟩
  stop := fun H s => ⟨xs, hx.mono s, by simp [enumD, rx.length]⟩
  yld := fun i H v H' d hd s ⟨T, x, hv, hT, hH, h1⟩ => by
    subst hv hH
    unfold enumD at hd
    rw [List.getElem?_map, List.getElem?_zipIdx] at hd
    obtain ⟨p, hp, e⟩ := Option.map_eq_some_iff.mp hd
    subst e
    obtain ⟨y, hy, e⟩ := Option.map_eq_some_iff.mp hp
    subst e
    obtain ⟨x', f1, r1⟩ := rx.get hy
    have g1 := h1 xs (hx.mono s)
    rw [f1] at g1
    cases g1
    refine ⟨same_upd hT, fun B' _ hb => .tup (a := T) (xs := [.int (i : Nat), x]) ?_ (.cons ?_ (.cons (r1.mono (keepR s (same_upd hT) hb)) .nil))⟩
    · rw [hid_out fun z => (hb T z).2 hT, upd_same]
    · have e0 : (((0 + i : Nat) : Int)) = ((i : Nat) : Int) := by omega
      show R K _ (.int (i : Nat)) (.int ((0 + i : Nat) : Int))
      rw [e0]
      exact .int _
theorem qi_enum {e : Expr} {f : FE} {c : Esc} {p pos tpos : Pos} {elts : List Expr} {kk : Nat} (hg : Gl X "enumerate") (hm : X.mg "enumerate" = none) (ha : PE X e (tD K (.br m) f c)) (hm1 : m ≤ 1 := by decide) (hX : X.K = K := by rfl)
    (hs : starEach [e] X.env = (false, eval e X.env) :: starEach [] X.env := by rfl) : PI X (.Tuple elts kk tpos) (.Call (.Name "enumerate" p) [e] [] pos) (tI K m (iEnumD f) c) := by
  subst hX
  refine (pi_enumB hg hm (pa_cons ha pa_nil hs) hs).imp fun σ H Rr ⟨B, L, ρ, ds, g, es, hf, q⟩ => ?_
  obtain ⟨d, h1, h3⟩ := o1_some hf
  obtain ⟨xs, h4, h6⟩ := o1_some h3
  cases (Option.some.inj h6)
  refine ⟨B, L, ρ, d, g, es, h1, fun v H1 s1 p1 => ?_⟩
  obtain ⟨a1, vs1, b1, rfl, k1, r1⟩ := sq_of hm1 p1 h4
  exact ⟨a1, vs1, b1, rfl, k1.mono gOf_unhid, q _ H1 s1 (walks_enum k1 r1)⟩
end
end DS
end
section
set_option Elab.async false
set_option linter.all false
set_option maxRecDepth 100000
set_option maxHeartbeats 1000000
namespace DS
open PySem PySem.Spec PyProof.Rows L2
variable [Tbls]
section
variable {X : Cx} {K : PySem.W.Frag} {κ : Mo} {o e : Expr} {fo fe : FE} {co ce : Esc} {T id : String} {r : V → List V → Hp → VK → Prop} {dop : D → D → Option D}
end
section
variable {X : Cx} {K : PySem.W.Frag} {κ : Mo} {pos : Pos} {a b c : Expr} {f g h : FE} {ca cb cc : Esc}
def rgOk (a b : Int) : Bool := rngOk a b && decide ((b - a).toNat ≤ 16777216)
theorem rgOk_ok {a b : Int} (h : rgOk a b = true) : RgOk a b := by
  unfold rgOk at h
  rw [Bool.and_eq_true] at h
  have h1 := rngOk_ok h.1
  have h2 := of_decide_eq_true h.2
  exact ⟨h1.1, h1.2.1, h1.2.2.1, h1.2.2.2, by omega⟩
def eRg (t : List D → D) (f g : FE) : FE := fun ρ => o2 (f ρ) (g ρ) fun d e => match d, e with
  | .int i, .int j => if rgOk i j = true then some (t (rngD i (j - i).toNat)) else none
  | _, _ => none
def tRgD (K : PySem.W.Frag) (f g : FE) : St → Hp → (Int → Int → Hp → Prop) → Prop := fun σ H Q => ∃ B L ρ i j, Good K B L σ H ρ ∧ f ρ = some (.int i) ∧ g ρ = some (.int j) ∧ ∀ H', Same H H' → Q i j H'
theorem qrg_1 {p : Pos} (hg : Gl X "range") (hm : X.mg "range" = none) (ha : PE X a (tD K (.br 1) f ca)) (na : starEach [a] X.env = (false, eval a X.env) :: starEach [] X.env := by rfl) : PRg X (.Call (.Name "range" p) [a] [] pos) (tRgD K (eC (.int 0)) f) := by
  intro pins s σ H Q I ⟨B, L, ρ, i, j, gd, h1, h2, q⟩
  cases (Option.some.inj h1)
  exact prg_1 hg hm ha na pins s σ H Q I ⟨[], _, ρ, _, gd.zero, .zero, h2, fun v H1 s1 p1 => ⟨j, RL.int p1, q H1 s1⟩⟩
theorem rgV_R {H : Hp} (i : Int) (n : Nat) : RA K H ((List.range n).map fun k => V.int (i + (k : Nat))) (rngD i n) := by
  unfold rngD
  generalize List.range n = l
  induction l with
  | nil => exact .nil
  | cons k r ih => exact .cons (.int _) ih
theorem qe_listRg {p : Pos} {e : Expr} (hc : X.calm = true) (hg : Gl X "list") (hm : X.mg "list" = none) (he : PRg X e (tRgD K f g)) (hκ : κ.one = true := by rfl) (na : starEach [e] X.env = (false, eval e X.env) :: starEach [] X.env := by rfl) : PE X (.Call (.Name "list" p) [e] [] pos) (tD K κ (eRg .list f g) []) :=
  (pe_listRg hc hg hm he na).imp fun σ H Q ⟨B, L, ρ, d, gd, es, hf, q⟩ => by
  obtain ⟨d1, d2, h1, h2, h3⟩ := o2_some hf
  split at h3
  · rename_i i j
    obtain ⟨hok, e⟩ := ite_some h3
    subst e
    refine ⟨B, L, ρ, i, j, gd, h1, h2, fun H1 s1 => ⟨rgOk_ok hok, fun t nt => q _ _ (s1.trans (same_upd nt)) (Post.new gd.ok.trk (s1.free nt) upd_same (rgV_R i _) hκ)⟩⟩
  · cases h3
end
end DS
end
section
set_option Elab.async false
set_option linter.all false
set_option maxRecDepth 100000
namespace DS
open PySem PySem.Spec PyProof.Rows L2
variable [Tbls]
def scr (ns : List Int) : D := .dict [(.none, .list (ns.map PyData.int))]
theorem law_sp {K : PySem.W.Frag} {F : Fn} {H : Hp} {a : Addr} {ns : List Int} (h : F [scr ns] = some (.bool true)) (hS : SqL K H a (ns.map V.int)) (tb : Tb H) : spD K 1 F [.ref a] H (fun v _ => v = .bl true) fun _ _ _ => False :=
  ⟨[], [scr ns], .bool true, Ok.nil, tb, by rw [hid_nil]; exact .cons (.frz hS (RA.ofInts ns)) .nil, rfl, h, fun v H' _ r => r.bl'⟩
end DS
end
section
set_option Elab.async false
set_option linter.all false
set_option maxRecDepth 100000
set_option maxHeartbeats 1000000
namespace DS
open PySem PySem.Spec PyProof.Rows L2
variable [Tbls]
def allCmp (ds : List D) : Bool := PyData.canLayAll0 ds && decide (PyData.depthAll ds ≤ 60) && ds.all fun x => !noneD x && ds.all fun y => PySem.W.alike x y
theorem noneD_ne {x : D} (h : (!noneD x) = true) : x ≠ .none := by
  intro e
  rw [e] at h
  simp [noneD] at h
theorem allCmp_facts {ds : List D} (h : allCmp ds = true) : PyData.canLayAll0 ds = true ∧ PyData.depthAll ds ≤ 60 ∧ PySem.W.AlikeAll ds := by
  unfold allCmp at h
  simp only [Bool.and_eq_true, decide_eq_true_eq, List.all_eq_true] at h
  exact ⟨h.1.1, h.1.2, fun x hx y hy => (h.2 x hx).2 y hy, fun x hx => noneD_ne (h.2 x hx).1⟩
theorem fold_mem (f : D → D → Bool) : ∀ (r : List D) (x : D), r.foldl (fun a y => if f y a = true then y else a) x ∈ x :: r
  | [], x => .head _
  | y :: r, x => by
    have := fold_mem f r (if f y x = true then y else x)
    rw [List.foldl_cons]
    rcases List.mem_cons.mp this with e | e
    · rw [e]
      split
      · exact .tail _ (.head _)
      · exact .head _
    · exact .tail _ (.tail _ e)
theorem minD_mem (x : D) (r : List D) : PySem.W.minD x r ∈ x :: r := fold_mem (fun y a => PySem.W.dataLt y a) r x
theorem maxD_mem (x : D) (r : List D) : PySem.W.maxD x r ∈ x :: r := fold_mem (fun y a => PySem.W.dataLt a y) r x
def rBest (K : PySem.W.Frag) (g : D → List D → D) : List V → Hp → VK → Prop := fun vs H Q => ∃ a xs ds x r, vs = [.ref a] ∧ (SqL K H a xs ∨ SqT K H a xs) ∧ DpAll K H xs ds ∧ ds = x :: r ∧ allCmp ds = true ∧ ∀ (i : Nat) (y : V), xs[i]? = some y → ds[i]? = some (g x r) → Q y H
section
variable {X : Cx} {K : PySem.W.Frag} {pins : List (Addr × Obj)} {s : Shared} {σ : St} {H : Hp}
theorem best_at {its : List Value} {xs : List V} {ds : List D} {as : List Addr} {i : Nat} {v : Value} {d : D} {h' : Heap} {bs : List Addr} (rv : Vals xs its) (ra : ReadsAll s.heap its ds as) (al : PySem.W.AlikeAll ds) (hd : d ∈ ds)
    (hk : ∀ b o, s.heap.get? b = some o → h'.get? b = some o) (hv : its.toArray[i]? = some v) (rd : Reads h' v d bs) : ∃ y, xs[i]? = some y ∧ RelV y v ∧ ds[i]? = some d := by
  have hv' : its[i]? = some v := by simpa using hv
  obtain ⟨bs', r1, hi, hm, _⟩ := PySem.W.readsAll_at ra i v hv'
  have e := PySem.W.alike_unique _ _ _ _ _ (al.1 _ hm _ hd) (PyProof.Rows.Reads.keeps hk r1) rd
  have hl : i < its.length := (List.getElem?_eq_some_iff.mp hv').1
  have hx : i < xs.length := by rw [rv.length]; exact hl
  obtain ⟨u, hu, ru⟩ := rv.get (List.getElem?_eq_getElem hx)
  rw [hv'] at hu
  cases hu
  refine ⟨xs[i], List.getElem?_eq_getElem hx, ru, ?_⟩
  rw [← e, List.getD_eq_getElem?_getD, List.getElem?_eq_getElem hi]
  rfl
theorem cr_minD (hc : X.calm = true) (hu : X.A.units + 64 < cLine) : CallR X (.builtin "min") (rBest X.K PySem.W.minD) := by
  intro pins s σ H vs us Q I r h
  obtain ⟨a, xs, ds, x, l, rfl, hs, dp, rfl, ok, q⟩ := h
  obtain ⟨f1, f2, f3⟩ := allCmp_facts ok
  rw [Vals.ref1 r]
  rcases hs with hs | hs
  · obtain ⟨its, rv, hl, _⟩ := I.list hs
    obtain ⟨as, ra⟩ := Dp.readsAll I _ _ _ dp rv
    refine PySem.W.min_list_data (I.ok.hd hc) hl.isList (by simpa using ra) f3 (by omega) fun i v h' tk bs hv rd hk => ?_
    obtain ⟨y, e1, e2, e3⟩ := best_at rv ra f3 (minD_mem x l) hk hv rd
    exact ⟨y, H, I.kept hk, e2, q i y e1 e3⟩
  · obtain ⟨its, rv, hl, _⟩ := I.tuple hs
    obtain ⟨as, ra⟩ := Dp.readsAll I _ _ _ dp rv
    refine PySem.W.min_tuple_data (I.ok.hd hc) hl (by simpa using ra) f3 (by omega) fun i v h' tk bs hv rd hk => ?_
    obtain ⟨y, e1, e2, e3⟩ := best_at rv ra f3 (minD_mem x l) hk hv rd
    exact ⟨y, H, I.kept hk, e2, q i y e1 e3⟩
theorem cr_maxD (hc : X.calm = true) (hu : X.A.units + 64 < cLine) : CallR X (.builtin "max") (rBest X.K PySem.W.maxD) := by
  intro pins s σ H vs us Q I r h
  obtain ⟨a, xs, ds, x, l, rfl, hs, dp, rfl, ok, q⟩ := h
  obtain ⟨f1, f2, f3⟩ := allCmp_facts ok
  rw [Vals.ref1 r]
  rcases hs with hs | hs
  · obtain ⟨its, rv, hl, _⟩ := I.list hs
    obtain ⟨as, ra⟩ := Dp.readsAll I _ _ _ dp rv
    refine PySem.W.max_list_data (I.ok.hd hc) hl.isList (by simpa using ra) f3 (by omega) fun i v h' tk bs hv rd hk => ?_
    obtain ⟨y, e1, e2, e3⟩ := best_at rv ra f3 (maxD_mem x l) hk hv rd
    exact ⟨y, H, I.kept hk, e2, q i y e1 e3⟩
  · obtain ⟨its, rv, hl, _⟩ := I.tuple hs
    obtain ⟨as, ra⟩ := Dp.readsAll I _ _ _ dp rv
    refine PySem.W.max_tuple_data (I.ok.hd hc) hl (by simpa using ra) f3 (by omega) fun i v h' tk bs hv rd hk => ?_
    obtain ⟨y, e1, e2, e3⟩ := best_at rv ra f3 (maxD_mem x l) hk hv rd
    exact ⟨y, H, I.kept hk, e2, q i y e1 e3⟩
end
def bestOf (g : D → List D → D) : List D → Option D
  | x :: r => if (allCmp (x :: r) && flat (g x r)) = true then some (g x r) else none
  | [] => none
def dMin1 : D → Option D
  | .list ds => bestOf PySem.W.minD ds
  | .tuple ds => bestOf PySem.W.minD ds
  | _ => none
def dMax1 : D → Option D
  | .list ds => bestOf PySem.W.maxD ds
  | .tuple ds => bestOf PySem.W.maxD ds
  | _ => none
section
variable {K : PySem.W.Frag}
theorem best_ok {g : D → List D → D} {a : Addr} {xs : List V} {ds : List D} {d : D} {H : Hp} {Q : VK} (hs : SqL K H a xs ∨ SqT K H a xs) (ra : RA K H xs ds) (h : bestOf g ds = some d) (q : ∀ v, R K H v d → flat d = true → Q v H) : rBest K g [.ref a] H Q := by
  unfold bestOf at h
  split at h
  · rename_i x r
    obtain ⟨hc, e⟩ := ite_some h
    subst e
    rw [Bool.and_eq_true] at hc
    refine ⟨a, xs, _, x, r, rfl, hs, RA.toDp ra (allCmp_facts hc.1).1, rfl, hc.1, fun i y e1 e2 => ?_⟩
    obtain ⟨y', e3, rr⟩ := ra.get e2
    rw [e1] at e3
    cases e3
    exact q y rr hc.2
  · cases h
theorem cf_min1 : CallF K (rBest K PySem.W.minD) (d1 dMin1) := by
  intro vs ds d H Q r h q
  obtain ⟨x, rfl, h'⟩ := d1_some h
  obtain ⟨v, rfl, rv⟩ := r.one
  unfold dMin1 at h'
  split at h'
  · cases rv with
    | lst e1 e2 => exact best_ok (.inl (SqL.of e1)) e2 h' q
  · cases rv with
    | tup e1 e2 => exact best_ok (.inr (.inl (.inl e1))) e2 h' q
  · cases h'
theorem cf_max1 : CallF K (rBest K PySem.W.maxD) (d1 dMax1) := by
  intro vs ds d H Q r h q
  obtain ⟨x, rfl, h'⟩ := d1_some h
  obtain ⟨v, rfl, rv⟩ := r.one
  unfold dMax1 at h'
  split at h'
  · cases rv with
    | lst e1 e2 => exact best_ok (.inl (SqL.of e1)) e2 h' q
  · cases rv with
    | tup e1 e2 => exact best_ok (.inr (.inl (.inl e1))) e2 h' q
  · cases h'
end
end DS
end
section
set_option Elab.async false
set_option linter.all false
set_option maxRecDepth 100000
set_option maxHeartbeats 1000000
namespace DS
open PySem PySem.Spec PyProof.Rows L2
variable [Tbls]
def lc2Go (t : Tg) (ft : FT) (inner : PEnv → Option (List D)) (ρ : PEnv) : List D → Option (List D)
  | [] => some []
  | d :: ds => match t.go d with
    | none => none
    | some l => match ft (setsD ρ l) with
      | none => none
      | some false => lc2Go t ft inner ρ ds
      | some true => match inner (setsD ρ l) with
        | none => none
        | some ys => match lc2Go t ft inner ρ ds with
          | none => none
          | some zs => some (ys ++ zs)
def inLc (fi : FA) (t : Tg) (ft : FT) (fe : FE) (vs : List Nat) (ρ : PEnv) : Option (List D) := o1 (fi ρ) fun ds => lcGo t ft fe (wipeD ρ vs) ds
def eLc2 (fi : FA) (t : Tg) (ft : FT) (fi1 : FA) (t1 : Tg) (ft1 : FT) (fe : FE) (vs vs1 : List Nat) : FE := fun ρ => o1 (fi ρ) fun ds => o1 (lc2Go t ft (inLc fi1 t1 ft1 fe vs1) (wipeD ρ vs) ds) fun ys => if ys.length ≤ sz then some (.list ys) else none
section
variable {X : Cx} {K : PySem.W.Frag} {κ : Mo}
theorem RS.mono {H H' : Hp} (e : Same H H') : ∀ {l : List (Nat × V)} {m : List (Nat × D)}, RS K H l m → RS K H' l m
  | _, _, .nil => .nil
  | _, _, .cons h t => .cons (h.mono e) (RS.mono e t)
theorem lc2_ok {fi fi1 : FA} {ci ci1 : Esc} {t t1 : Tg} {ft ft1 : FT} {fe : FE} {ce : Esc} {vs vs1 : List Nat} (hv : t.ix.all (vs.contains ·) = true) (hv1 : t1.ix.all (vs1.contains ·) = true) (hκ : κ.one = true) :
    ∀ σ H Q, tD K κ (eLc2 fi t ft fi1 t1 ft1 fe vs vs1) (ci ++ (ci1 ++ ce)) σ H Q → tLc2 (tI K 1 fi ci) (tG K t) (tT K ft) (tI K 0 fi1 ci1) (tG K t1) (tT K ft1) (tD K (.br 0) fe ce) vs vs1 σ H Q := by
  intro σ H Q ⟨B, L, ρ, d, g, es, hf, q⟩
  obtain ⟨ds, h1, h2⟩ := o1_some hf
  obtain ⟨ys, h3, h4⟩ := o1_some h2
  have hz : ys.length ≤ sz := by
    split at h4
    · assumption
    · cases h4
  rw [if_pos hz] at h4
  cases (Option.some.inj h4)
  refine ⟨B, L, ρ, ds, g, es.left, h1, fun J H1 s1 wk D hD => ?_⟩
  have hixs : ∀ {t : Tg} {vs : List Nat} {l : List (Nat × PyData)} {mm : List (Nat × V)} {d : PyData} {B' : List Addr} {Hh : Hp}, t.ix.all (vs.contains ·) = true → t.go d = some l → RS K (hid B' Hh) mm l → ∀ i ∈ mm.map (·.1), i ∈ vs := fun {t vs l mm d B' Hh} hv e rs i hi => by
    rw [rs.ix, Tg.go_ix e] at hi
    have := List.all_eq_true.mp hv i hi
    simpa using this
  have okB : ∀ {H' : Hp} {acc : List V}, Same H1 H' → H' D = some (.lst acc) → Ok (D :: B) H' := fun s' hacc => ((g.ok.mono s1).mono s').cons hacc rfl
  have gd : ∀ {H' : Hp} {acc : List V}, Same H1 H' → H' D = some (.lst acc) → Good K (D :: B) L σ H' ρ := fun {H' acc} s' hacc => by
    refine ⟨okB s' hacc, g.len, fun j e h => ?_, (s1.trans s').tb g.tabs⟩
    obtain ⟨v, e1, r⟩ := g.slot j e h
    refine ⟨v, e1, ((r.mono s1 (same_hid s1)).mono s' (same_hidW s' fun a ha => ?_))⟩
    rcases List.mem_cons.mp ha with z | z
    · rw [z]; exact .inr hD
    · exact .inl z
  let W : Nat → Nat → Hp → Prop := fun i n H' => n = ds.length - i ∧ i ≤ ds.length ∧ Same H1 H' ∧ ∃ acc done rest, H' D = some (.lst acc) ∧ RA K (hid (D :: B) H') acc done ∧ lc2Go t ft (inLc fi1 t1 ft1 fe vs1) (wipeD ρ vs) (ds.drop i) = some rest ∧ done ++ rest = ys
  refine ⟨W, ⟨ds.length, by simp, Nat.zero_le _, same_upd hD, [], [], ys, upd_same, .nil, by simpa using h3, rfl⟩, ?_⟩
  rintro i n H' ⟨rfl, hi, s', acc, done, rest, hacc, racc, hgo, hys⟩
  by_cases hlt : i < ds.length
  · refine .inr ⟨wk.go i H' hlt s', fun H'' => W (i + 1) (ds.length - (i + 1)) H'', fun H'' w => ⟨_, by omega, w⟩, fun x H2 y => ?_⟩
    have hd : ds[i]? = some ds[i] := List.getElem?_eq_getElem hlt
    obtain ⟨s2, rx⟩ := wk.yld i H' x H2 _ hd s' y
    have rx := rx (D :: B) (okB s' hacc) fun a ha => by
      refine ⟨?_, (okB s' hacc).trk a ha⟩
      rcases List.mem_cons.mp ha with z | z
      · rw [z]; exact .inr hD
      · exact .inl z
    rw [List.drop_eq_getElem_cons hlt] at hgo
    unfold lc2Go at hgo
    have hacc2 := s2 _ _ hacc
    have racc2 := racc.mono (same_hid (B := D :: B) s2)
    split at hgo
    · cases hgo
    · rename_i l hl
      refine ⟨D :: B, _, l, rx, hl, fun mm rs => ⟨?_, ?_⟩⟩
      · rw [wipe_sets (hixs hv hl rs)]
        exact wipe_idem vs fun _ h => h
      · have gs : Good K (D :: B) L (setsV (wipe σ vs) mm) H2 (setsD (wipeD ρ vs) l) := ((gd (s'.trans s2) hacc2).wipe vs).sets rs
        split at hgo
        · cases hgo
        · rename_i hft
          refine ⟨D :: B, L, _, false, gs, hft, fun H3 s3 => ?_⟩
          refine iteF ?_
          exact ⟨rfl, hlt, (s'.trans s2).trans s3, acc, done, rest, s3 _ _ hacc2, racc2.mono (same_hid s3), hgo, hys⟩
        · rename_i hft
          split at hgo
          · cases hgo
          · rename_i zs hin
            split at hgo
            · cases hgo
            · rename_i ys' hrest
              cases (Option.some.inj hgo)
              refine ⟨D :: B, L, _, true, gs, hft, fun H3 s3 => ?_⟩
              refine iteT ?_
              obtain ⟨ds1, g1, g2⟩ := o1_some hin
              refine ⟨D :: B, L, _, ds1, gs.mono s3, es.right.left, g1, fun J1 H4 s4 wk1 => ?_⟩
              have hacc4 := s4 _ _ (s3 _ _ hacc2)
              have racc4 := racc2.mono (same_hid (B := D :: B) (s3.trans s4))
              have s14 := ((s'.trans s2).trans s3).trans s4
              have rs4 := rs.mono (same_hid (B := D :: B) (s3.trans s4))
              let W1 : Nat → Nat → Hp → Prop := fun j k H' => k = ds1.length - j ∧ j ≤ ds1.length ∧ Same H1 H' ∧ Same (hid (D :: B) H4) (hid (D :: B) H') ∧ ∃ acc done2 rest2, H' D = some (.lst acc) ∧ RA K (hid (D :: B) H') acc done2 ∧ lcGo t1 ft1 fe (wipeD (setsD (wipeD ρ vs) l) vs1) (ds1.drop j) = some rest2 ∧ done2 ++ (rest2 ++ ys') = ys
              refine ⟨W1, ⟨ds1.length, by simp, Nat.zero_le _, s14, Same.refl _, acc, done, zs, hacc4, racc4, by simpa using g2, hys⟩, ?_⟩
              rintro j k H5 ⟨rfl, hj, s15, s45, acc5, done5, rest5, hacc5, racc5, hgo5, hys5⟩
              have st5 : Same (gOf 0 (D :: B) H4) H5 := s45.trans same_unhid
              by_cases hlt1 : j < ds1.length
              · refine .inr ⟨wk1.go j H5 hlt1 st5, fun H'' => W1 (j + 1) (ds1.length - (j + 1)) H'', fun H'' w => ⟨_, by omega, w⟩, fun x1 H6 y1 => ?_⟩
                have hd1 : ds1[j]? = some ds1[j] := List.getElem?_eq_getElem hlt1
                obtain ⟨s6, rx1⟩ := wk1.yld j H5 x1 H6 _ hd1 st5 y1
                have rx1 := rx1 (D :: B) (okB s15 hacc5) fun a ha => ⟨.inl ha, (okB s15 hacc5).trk a ha⟩
                rw [List.drop_eq_getElem_cons hlt1] at hgo5
                unfold lcGo at hgo5
                have hacc6 := s6 _ _ hacc5
                have racc6 := racc5.mono (same_hid (B := D :: B) s6)
                split at hgo5
                · cases hgo5
                · rename_i l1 hl1
                  refine ⟨D :: B, _, l1, rx1, hl1, fun mm1 rs1 => ⟨?_, ?_⟩⟩
                  · rw [wipe_sets (hixs hv1 hl1 rs1)]
                    exact wipe_idem vs1 fun _ h => h
                  · have gs6 : Good K (D :: B) L (setsV (wipe σ vs) mm) H6 (setsD (wipeD ρ vs) l) := ((gd (s15.trans s6) hacc6).wipe vs).sets (rs4.mono (s45.trans (same_hid s6)))
                    have gt : Good K (D :: B) L (setsV (wipe (setsV (wipe σ vs) mm) vs1) mm1) H6 (setsD (wipeD (setsD (wipeD ρ vs) l) vs1) l1) := (gs6.wipe vs1).sets rs1
                    split at hgo5
                    · cases hgo5
                    · rename_i hft1
                      refine ⟨D :: B, L, _, false, gt, hft1, fun H7 s7 => ?_⟩
                      refine iteF ?_
                      exact ⟨rfl, hlt1, (s15.trans s6).trans s7, s45.trans (same_hid (s6.trans s7)), acc5, done5, rest5, s7 _ _ hacc6, racc6.mono (same_hid s7), hgo5, hys5⟩
                    · rename_i hft1
                      split at hgo5
                      · cases hgo5
                      · rename_i yv hfe
                        split at hgo5
                        · cases hgo5
                        · rename_i rest6 hrest6
                          cases (Option.some.inj hgo5)
                          refine ⟨D :: B, L, _, true, gt, hft1, fun H7 s7 => ?_⟩
                          refine iteT ?_
                          refine ⟨D :: B, L, _, yv, gt.mono s7, es.right.right, hfe, fun v H8 s8 p8 => ?_⟩
                          have s78 := s7.trans s8
                          have hacc8 := s78 _ _ hacc6
                          have su : Same (hid (D :: B) H8) (hid (D :: B) (upd H8 D (.lst (acc5 ++ [v])))) := same_hidU List.mem_cons_self hacc8 rfl
                          have hl5 : acc5.length < sizeLine := by
                            rw [sz_eq, racc5.length]
                            have hlen : done5.length < ys.length := by
                              rw [← hys5]
                              simp only [List.length_append, List.length_cons]
                              omega
                            omega
                          refine ⟨acc5, hacc8, hl5, rfl, hlt1, same_set ((s15.trans s6).trans s78) hD hacc8 rfl, (s45.trans (same_hid (s6.trans s78))).trans su, acc5 ++ [v], done5 ++ [yv], rest6, upd_same, ((racc6.mono (same_hid s78)).append (.cons (RL.r p8) .nil)).mono su, hrest6, by simpa using hys5⟩
              · have e : j = ds1.length := by omega
                subst e
                refine .inl ⟨wk1.stop H5 st5, ?_⟩
                rw [List.drop_length] at hgo5
                unfold lcGo at hgo5
                cases (Option.some.inj hgo5)
                exact ⟨rfl, hlt, s15, acc5, done5, ys', hacc5, racc5, hrest, by simpa using hys5⟩
  · have e : i = ds.length := by omega
    subst e
    refine .inl ⟨wk.stop H' s', ?_⟩
    rw [List.drop_length] at hgo
    unfold lc2Go at hgo
    cases (Option.some.inj hgo)
    rw [List.append_nil] at hys
    subst hys
    refine q _ H' (s1.trans s') (Post.new g.ok.trk (s1.free hD) hacc racc hκ)
theorem ss_setLc2 (i l : Nat) {y : Str} {py : Pos} {elt tg iter tg1 iter1 : Expr} {ifs ifs1 : List Expr} {scope : Scope} {own : List (Str × Nat)} {vs1 : List Nat} {pos spos : Pos} {fi fi1 : FA} {ci ci1 ce : Esc} {t t1 : Tg} {ft ft1 : FT} {fe : FE} (hc : X.calm = true) (hN : X.N.Nodup) (hi : PI X tg iter (tI K 1 fi ci)) (ok : BlkOk X.N X.env.scope scope own) (hvs : vs1.all ((own.map (·.2)).contains ·) = true)
    (hg : ∀ (s : Shared) (H : Hp) (C : Addr) (cl : List (Str × Addr)) (fp : List Addr), PG (X.blk s H scope (compEnvC scope cl C X.env) fp) tg (tG K t)) (ht : ∀ (s : Shared) (H : Hp) (C : Addr) (cl : List (Str × Addr)) (fp : List Addr), PTs (X.blk s H scope (compEnvC scope cl C X.env) fp) ifs (tT K ft))
    (hi1 : ∀ (s : Shared) (H : Hp) (C : Addr) (cl : List (Str × Addr)) (fp : List Addr), PI (X.blk s H scope (compEnvC scope cl C X.env) fp) tg1 iter1 (tI K 0 fi1 ci1))
    (hg1 : ∀ (s : Shared) (H : Hp) (C : Addr) (cl : List (Str × Addr)) (fp : List Addr), PG (X.blk s H scope (compEnvC scope cl C X.env) fp) tg1 (tG K t1)) (ht1 : ∀ (s : Shared) (H : Hp) (C : Addr) (cl : List (Str × Addr)) (fp : List Addr), PTs (X.blk s H scope (compEnvC scope cl C X.env) fp) ifs1 (tT K ft1))
    (he : ∀ (s : Shared) (H : Hp) (C : Addr) (cl : List (Str × Addr)) (fp : List Addr), PE (X.blk s H scope (compEnvC scope cl C X.env) fp) elt (tD K (.br 0) fe ce)) (hl : l ≤ 1 := by decide) (hy : X.N[i]? = some y := by rfl) (hyl : X.env.scope.names.lookup y = some .local := by rfl)
    (hsw : swapsWith (.ListComp elt [⟨tg, iter, ifs, 0⟩, ⟨tg1, iter1, ifs1, 0⟩] scope pos) (some (.Name y py)) spos.line X.env = pure true := by exact sw_true rfl rfl rfl (by decide +kernel)) (hv : t.ix.all ((own.map (·.2)).contains ·) = true := by rfl) (hv1 : t1.ix.all (vs1.contains ·) = true := by rfl) (hs : ∀ x, foldedSetIterable iter X.env x = pure x := by intro _; rfl) (hs1 : ∀ env x, foldedSetIterable iter1 env x = pure x := by intro _ _; rfl) :
    PS X (.Assign [.Name y py] (.ListComp elt [⟨tg, iter, ifs, 0⟩, ⟨tg1, iter1, ifs1, 0⟩] scope pos) spos) (tS K (sSet i l (eLc2 fi t ft fi1 t1 ft1 fe (own.map (·.2)) vs1) (ci ++ (ci1 ++ ce)))) := (ps_setLc2 hc hN hy hyl hsw hi ok (fun i hi => by simpa using List.all_eq_true.mp hvs i hi) hg ht hi1 hg1 ht1 he hs hs1).imp fun E σ H h =>
  lc2_ok (κ := moOf l) hv hv1 (by match l, hl with | 0, _ => rfl | 1, _ => rfl) σ H _ (set_ok (by omega) E σ H h)
end
end DS
end
section
set_option Elab.async false
set_option linter.all false
set_option maxRecDepth 100000
set_option maxHeartbeats 1000000
namespace DS
open PySem PySem.Spec PyProof.Rows L2
variable [Tbls]
def rngDn (i : Int) (n : Nat) : List D := (List.range n).map fun (k : Nat) => .int (i - (k : Int))
def iRange3 (f g h : FE) : FA := fun ρ => match f ρ, g ρ, h ρ with
  | some (.int i), some (.int j), some (.int c) => if (rngOk i j && decide (c = -1)) = true then some (rngDn i (i - j).toNat) else none
  | _, _, _ => none
section
variable {X : Cx} {K : PySem.W.Frag} {tg : Expr} {p pos : Pos} {m : Nat} {f f2 f3 : FE} {c c2 c3 : Esc}
end
end DS
end
section
set_option Elab.async false
set_option linter.all false
set_option maxRecDepth 100000
set_option maxHeartbeats 1000000
namespace PySem.W
open PySem PySem.Calls PyProof.Rows PySem.SeqAt
section
variable {A : Around} {s : Shared}
theorem call_tuple_lt' {prog : Program} {w : World} {E : Value → Shared → Prop} {Q : Value → Shared → Prop} {l b : Addr} {items items2 : Array Value} {e r : Nat → Bool} (hl : s.heap.IsTuple l items) (hb : s.heap.IsTuple b items2)
    (he : ∀ j (h1 : j < items.size) (h2 : j < items2.size), EqAt A.in1 s items[j] items2[j] (e j)) (hr : ∀ j (h1 : j < items.size) (h2 : j < items2.size), e j = false → RcLt A.in1 s items[j] items2[j] (r j))
    (h : Q (.bool (firstLt e r (decide (items.size < items2.size)) (List.range (min items.size items2.size)))) s) : wpAny (model prog w) A (call (.builtin "tuple.__lt__") [.ref l, .ref b]) Q E s := by
  obtain ⟨⟨cls, dd, data, sl⟩, ho, hc, n, hd⟩ := id hl
  obtain ⟨⟨cls2, dd2, data2, sl2⟩, ho2, hc2, n2, hd2⟩ := id hb
  simp only at hc hd hc2 hd2
  subst hc hd hc2 hd2
  exact call_meets F.slot_tuple_lt ⟨_, ho, rfl⟩ F.entry_tuple_lt (F.args_tuple_lt_2 _ _) (tuple_ltAt l b items items2 n n2 dd dd2 sl sl2 e r) ⟨ho, ho2, he, hr, h⟩
end
section
variable {prog : Program} {w : World} {A : Around} {E : Value → Shared → Prop} {s : Shared}
theorem oneLt_any {f : Bool} {da db : PyData} {a b : Value} {as bs : List Addr} {Q : Bool → Shared → Prop} (ra : Reads s.heap a da as) (rb : Reads s.heap b db bs) (h : alike da db = true) (hn : da ≠ .none)
    (hu : A.units + min da.depth db.depth < cLine) (hq : Q (dataLt da db) s) : wpAny (model prog w) A (oneLt' f a b) Q E s := by
  by_cases ht : f = true → ∀ xs, da ≠ .tuple xs
  · exact oneLt_alike ht ra rb h hn hu hq
  · obtain ⟨hf, xs, rfl⟩ : f = true ∧ ∃ xs, da = .tuple xs := by
      by_cases hf : f = true
      · refine ⟨hf, ?_⟩
        by_cases z : ∃ xs, da = .tuple xs
        · exact z
        · exact absurd (fun _ xs e => z ⟨xs, e⟩) ht
      · exact absurd (fun z => absurd z hf) ht
    subst hf
    cases db with
    | tuple ys =>
      have hal : alikeAll xs ys = true := by simpa [alike] using h
      cases ra with
      | @tuple l o vs n _ as₁ h1 h2 h3 h4 =>
        cases rb with
        | @tuple l' o' vs' n' _ bs₁ k1 k2 k3 k4 =>
          have n1 : vs.size = xs.length := by simpa using ReadsAll.length _ _ _ h4
          have n2 : vs'.size = ys.length := by simpa using ReadsAll.length _ _ _ k4
          rw [dataLt_tuple, ← firstLt_toks xs ys hal, ← n1, ← n2] at hq
          rw [oneLt'_eq]
          simp only [if_true]
          refine wpAny_bind (wpAny_cRoomFor (room_here hu) ?_)
          refine wpAny_bind (wpAny_callSpecialIfBound?_slot (T := "tuple") ⟨_, h1, h2⟩ F.slot_tuple_lt (call_tuple_lt' (e := pairEq xs ys) (r := fun j => dataLt (xs.getD j .none) (ys.getD j .none)) ⟨_, h1, h2, _, h3⟩ ⟨_, k1, k2, _, k3⟩ (fun j j1 j2 => ?_) (fun j j1 j2 hj => ?_) ?_))
          · have := eqAt_alikeAll xs ys A.in1 s vs.toList vs'.toList _ _ h4 k4 hal (room_in hu) j (by simpa using j1) (by simpa using j2)
            simpa using this
          · have := rcLt_alikeAll xs ys A.in1 s vs.toList vs'.toList _ _ h4 k4 hal (room_in hu) j (by simpa using j1) (by simpa using j2) hj
            simpa using this
          · exact wpAny_truthy_bool hq
    | _ => exact absurd h (by simp [alike])
end
inductive Mix (h : Heap) : List Value → List (Option Value) → Prop
  | nil : Mix h [] []
  | cons {a : Addr} {o : Obj} {xs : Array Value} {n : Nat} {vs : List Value} {fs : List (Option Value)} (ho : h.get? a = some o) (hc : o.cls = .type "tuple") (hd : o.data = .seq xs n) (r : Mix h vs fs) : Mix h (.ref a :: vs) (xs[0]? :: fs)
section
variable {M : Model} {A : Around} {E : Value → Shared → Prop} {s : Shared}
theorem mix_firsts : ∀ {vs : List Value} {fs : List (Option Value)} {Q : List (Option Value) → Shared → Prop}, Mix s.heap vs fs → Q fs s → wpAny M A (vs.mapM firstOfTuple') Q E s
  | _, _, _, .nil, h => by rw [List.mapM_nil]; exact wpAny_pure h
  | _, _, Q, .cons (a := a) (o := o) (xs := xs) (fs := fs) ho hc hd t, h => by
    rw [List.mapM_cons]
    refine wpAny_bind ?_
    rw [kas_first_eq]
    refine wpAny_bind (Looks.here (show Looks M s.heap (typeOf (.ref a)) o.cls from (Looks.ld ho).andThen .now) ?_)
    rw [hc, if_neg (by first | decide | simp)]
    refine wpAny_bind (listItems_at ho hd (wpAny_pure ?_))
    exact wpAny_bind (mix_firsts (Q := fun bs s' => wpAny M A (pure (xs[0]? :: bs)) Q E s') t (wpAny_pure h))
theorem Mix.length {h : Heap} : ∀ {vs : List Value} {fs : List (Option Value)}, Mix h vs fs → vs.length = fs.length
  | _, _, .nil => rfl
  | _, _, .cons _ _ _ t => congrArg (· + 1) t.length
theorem Mix.looks {h : Heap} : ∀ {vs : List Value} {fs : List (Option Value)}, Mix h vs fs → ∀ v ∈ vs, Looks M h (typeOf v) (Value.type "tuple")
  | _, _, .nil, v, hv => by simp at hv
  | _, _, .cons (a := a) (o := o) ho hc hd t, v, hv => by
    rcases List.mem_cons.mp hv with e | hv
    · rw [e]
      exact hc ▸ (Looks.ld ho).andThen .now
    · exact t.looks v hv
theorem mix_kind {vs : List Value} {fs : List (Option Value)} {f : Option Value} {fr : List (Option Value)} {Q : SortKind → Shared → Prop} (t : Mix s.heap vs fs) (hf : fs = f :: fr) (hno : (fs.all fun x => x.isSome) = false) (h : Q (if f.isSome = true then general' else oneType') s) :
    wpAny M A (keyKind' vs.toArray) Q E s := by
  subst hf
  rw [keyKind'_eq, List.mapM_toArray, map_eq_pure_bind]
  refine wpAny_bind (wpAny_bind (mix_firsts t (wpAny_pure ?_)))
  have h1 : ((f :: fr).toArray.all fun x => x.isSome) = false := by simpa using hno
  rw [h1, if_neg (by simp)]
  have h2 : ((f :: fr).toArray[0]?.bind id) = f := by simp
  rw [h2]
  by_cases hs : f.isSome = true
  · rw [if_pos hs]
    rw [if_pos hs] at h
    exact wpAny_pure h
  · rw [if_neg hs]
    rw [if_neg hs] at h
    rw [oneTypeOnly'_eq, List.mapM_toArray, map_eq_pure_bind]
    refine wpAny_bind (wpAny_bind (wpAny_bind (kas_mapM (r := Value.type "tuple") _ (fun v hv Q' hq => (t.looks v hv).here hq) (wpAny_pure ?_))))
    obtain ⟨v₁, rest, rfl⟩ : ∃ v₁ rest, vs = v₁ :: rest := by
      cases t with
      | cons ho hc hd r => exact ⟨_, _, rfl⟩
    have hall : ((List.map (fun _ => Value.type "tuple") (v₁ :: rest)).toArray.all fun x => x == Value.type "tuple") = true := by
      simp only [List.all_toArray, List.all_map, List.all_eq_true]
      intro _ _
      exact beq_self_eq_true _
    have h0 : (List.map (fun _ => Value.type "tuple") (v₁ :: rest)).toArray[0]? = some (Value.type "tuple") := by simp
    rw [h0]
    simp only [hall, if_true]
    exact wpAny_pure (wpAny_pure h)
end
theorem each_mix {h : Heap} : ∀ {vs : List Value} {ds : List PyData}, EachIs (fun v d => ∃ as, Reads h v d as) vs ds → (∀ d, d ∈ ds → ∃ xs, d = .tuple xs) → ∃ fs, Mix h vs fs ∧ ∀ i : Nat, (∀ d : PyData, ds[i]? = some d → (∃ f, fs[i]? = some f ∧ (f.isSome = true ↔ ∃ x r, d = .tuple (x :: r))))
  | _, _, .nil, _ => ⟨[], .nil, fun i d hd => by simp at hd⟩
  | _, _, .cons (b := d) ⟨as, r⟩ t, ht => by
    obtain ⟨fs, h1, h2⟩ := each_mix t fun d hd => ht d (List.mem_cons_of_mem _ hd)
    obtain ⟨xs, rfl⟩ := ht d (List.mem_cons_self ..)
    cases r with
    | @tuple a o its n _ _ ho hc hd hr =>
      refine ⟨its[0]? :: fs, .cons ho hc hd h1, fun i d' hi => ?_⟩
      cases i with
      | succ i => exact h2 i d' (by simpa using hi)
      | zero =>
        have e : d' = .tuple xs := by simpa using hi.symm
        subst e
        refine ⟨_, rfl, ?_⟩
        have hl : its.size = xs.length := by simpa using SeqAt.ReadsAll.length _ _ _ hr
        cases xs with
        | nil =>
          have : its[0]? = none := by
            rw [Array.getElem?_eq_none]
            simp at hl
            simp [hl]
          rw [this]
          simp
        | cons x r =>
          have : its[0]?.isSome = true := by
            have : 0 < its.size := by rw [hl]; simp
            simp [this]
          exact ⟨fun _ => ⟨x, r, rfl⟩, fun _ => this⟩
section
variable {prog : Program} {w : World} {A : Around} {s : Shared}
theorem SortsAt.any {vs : List Value} {ds : List PyData} (e : EachIs (fun v d => ∃ as, Reads s.heap v d as) vs ds) (hal : AllAlike ds) (hn : ∀ d, d ∈ ds → d ≠ .none) (hu : ∀ d, d ∈ ds → A.units + d.depth < cLine) : SortsAt prog w A s (dataKind s.heap ds) vs := by
  by_cases hk : Sortable ds
  · exact SortsAt.data e hal hk hu
  · have room : ∀ {d d' : PyData}, d ∈ ds → A.units + min d.depth d'.depth < cLine := fun {d d'} hd => Nat.lt_of_le_of_lt (Nat.add_le_add_left (Nat.min_le_left _ _) _) (hu d hd)
    have ht : ∀ d, d ∈ ds → ∃ xs, d = .tuple xs := by
      by_cases z : ∃ d ∈ ds, ∃ xs, d = .tuple xs
      · obtain ⟨d0, h0, xs0, rfl⟩ := z
        intro d hd
        have := hal d hd _ h0
        cases d with
        | tuple xs => exact ⟨xs, rfl⟩
        | _ => exact absurd this (by simp [alike])
      · exact absurd (.inr fun d hd => ⟨hn d hd, fun xs ex => z ⟨d, hd, xs, ex⟩⟩) hk
    obtain ⟨fs, m, hm⟩ := each_mix e ht
    have hne : ∃ d ∈ ds, d = .tuple [] := by
      by_cases z : ∃ d ∈ ds, d = .tuple []
      · exact z
      · refine absurd (.inl fun d hd => ?_) hk
        obtain ⟨xs, rfl⟩ := ht d hd
        cases xs with
        | nil => exact absurd ⟨_, hd, rfl⟩ z
        | cons x r => exact ⟨x, r, rfl⟩
    obtain ⟨d0, hd0, rfl⟩ := hne
    obtain ⟨i0, hi0⟩ := List.getElem?_of_mem hd0
    obtain ⟨f0, hf0, q0⟩ := hm i0 _ hi0
    have hno : (fs.all fun x => x.isSome) = false := by
      rw [Bool.eq_false_iff]
      intro z
      rw [List.all_eq_true] at z
      have := q0.mp (z f0 (List.mem_of_getElem? hf0))
      obtain ⟨x, r, h⟩ := this
      cases h
    cases hfs : fs with
    | nil =>
      rw [hfs] at hf0
      simp at hf0
    | cons f fr =>
      have lt : ∀ b : Bool, H.LtAt prog w A s (dataKind s.heap ds) (if b = true then general' else oneType') := by
        intro b E x y a b' Q ha hb hq
        obtain ⟨d, as, hd, ra, rfl⟩ := dataKind_inv ha
        obtain ⟨d', as', hd', rb, rfl⟩ := dataKind_inv hb
        cases b with
        | true => exact oneLt_any (f := false) ra rb (hal d hd d' hd') (hn d hd) (room hd) hq
        | false => exact oneLt_any (f := true) ra rb (hal d hd d' hd') (hn d hd) (room hd) hq
      refine ⟨fun v hv => ?_, (if f.isSome = true then general' else oneType'), lt _, fun _ E Q hq => mix_kind m hfs hno hq⟩
      obtain ⟨d, hd, as, r⟩ := e.left v hv
      exact ⟨_, dataKind_some hal hd r⟩
end
end PySem.W
end
section
set_option Elab.async false
set_option linter.all false
set_option maxRecDepth 100000
set_option maxHeartbeats 1000000
namespace PySem.W
open PySem PySem.Calls PyProof.Rows
section
variable {prog : Program} {w : World} {A : Around} {E : Value → Shared → Prop} {s : Shared} {β : Type} {vs : List Value} {bs : List β} {enc : β → PyData} {R : Value → β → Prop}
end
end PySem.W
namespace DS
open PySem PySem.Spec PyProof.Rows L2
variable [Tbls]
def leD (a b : D) : Bool := !PySem.W.dataLt b a
section
variable {X : Cx} {K : PySem.W.Frag}
theorem each_zip {R : Value → V → Prop} : ∀ {us : List Value} {xs : List V} {ds : List D}, us.length = xs.length → xs.length = ds.length → (∀ (i : Nat) (u : Value) (x : V), us[i]? = some u → xs[i]? = some x → R u x) → PySem.W.EachIs (fun u b => R u b.1) us (xs.zip ds)
  | [], [], [], _, _, _ => .nil
  | u :: us, x :: xs, d :: ds, h1, h2, h => .cons (h 0 u x rfl rfl) (each_zip (by simpa using h1) (by simpa using h2) fun i u' x' e1 e2 => h (i + 1) u' x' (by simpa using e1) (by simpa using e2))
  | [], _ :: _, _, h1, _, _ => by simp at h1
  | _ :: _, [], _, h1, _, _ => by simp at h1
  | [], [], _ :: _, _, h2, _ => by simp at h2
  | _ :: _, _ :: _, [], _, h2, _ => by simp at h2
theorem each_reads {h : Heap} : ∀ {us : List Value} {xs : List V} {ds : List D} {as : List Addr}, ReadsAll h us ds as → xs.length = ds.length → PySem.W.EachIs (fun u b => ∃ as, Reads h u b.2 as) us (xs.zip ds)
  | _, [], _, _, .nil, _ => .nil
  | _, x :: xs, _, _, .cons r t, hl => .cons ⟨_, r⟩ (each_reads t (by simpa using hl))
  | _, _ :: _, _, _, .nil, hl => by simp at hl
  | _, [], _, _, .cons r t, hl => by simp at hl
theorem each_vals : ∀ {us : List Value} {zs : List (V × D)}, PySem.W.EachIs (fun u b => RelV b.1 u) us zs → Vals (zs.map (·.1)) us
  | _, _, .nil => .nil
  | _, _, .cons r t => .cons r (each_vals t)
theorem zip_snd {α β : Type} : ∀ {xs : List α} {ds : List β}, xs.length = ds.length → (xs.zip ds).map (·.2) = ds
  | [], [], _ => rfl
  | x :: xs, d :: ds, h => by
    simp only [List.zip_cons_cons, List.map_cons]
    rw [zip_snd (by simpa using h)]
  | [], _ :: _, h => by simp at h
  | _ :: _, [], h => by simp at h
theorem depth_mem : ∀ {ds : List D} {d : D}, d ∈ ds → d.depth ≤ PyData.depthAll ds
  | x :: ds, d, h => by
    rw [PyData.depthAll]
    rcases List.mem_cons.mp h with e | h
    · rw [e]; omega
    · have := depth_mem h
      omega
end
def dSorted : D → Option D
  | .list ds => if allCmp ds = true then some (.list (ds.mergeSort leD)) else none
  | _ => none
section
variable {K : PySem.W.Frag}
theorem sort_snd {xs : List V} {ds : List D} (h : xs.length = ds.length) : ((xs.zip ds).mergeSort (fun u v => leD u.2 v.2)).map (·.2) = ds.mergeSort leD := by
  have := PySem.W.sort_maps (r := fun u v : V × D => leD u.2 v.2) (s := leD) (fun b : V × D => b.2) (l := xs.zip ds) fun _ _ _ _ => rfl
  rw [this, zip_snd h]
theorem RA.sorted {H : Hp} {xs : List V} {ds : List D} (r : RA K H xs ds) : RA K H (((xs.zip ds).mergeSort (fun u v => leD u.2 v.2)).map (·.1)) (ds.mergeSort leD) := by
  rw [← sort_snd r.length]
  have all : ∀ p ∈ xs.zip ds, R K H p.1 p.2 := by
    intro p hp
    obtain ⟨i, hi⟩ := List.getElem?_of_mem hp
    have := List.getElem?_zip_eq_some.mp hi
    obtain ⟨y, e, ry⟩ := r.get this.2
    rw [this.1] at e
    cases e
    exact ry
  have go : ∀ l : List (V × D), (∀ p ∈ l, R K H p.1 p.2) → RA K H (l.map (·.1)) (l.map (·.2)) := by
    intro l hl
    induction l with
    | nil => exact .nil
    | cons p l ih => exact .cons (hl p (.head _)) (ih fun q hq => hl q (.tail _ hq))
  exact go _ fun p hp => all p ((List.mergeSort_perm _ _).mem_iff.mp hp)
end
end DS
end
section
set_option Elab.async false
set_option linter.all false
set_option maxRecDepth 100000
set_option maxHeartbeats 1000000
namespace DS
open PySem PySem.Spec PyProof.Rows L2
variable [Tbls]
section
variable {X : Cx} {K : PySem.W.Frag}
end
def bestOr (g : D → List D → D) : List D → D → Option D
  | [], z => if flat z = true then some z else none
  | x :: r, _ => bestOf g (x :: r)
def dMaxD : D → D → Option D
  | .list ds, z => bestOr PySem.W.maxD ds z
  | .tuple ds, z => bestOr PySem.W.maxD ds z
  | _, _ => none
section
variable {K : PySem.W.Frag}
end
section
variable {X : Cx} {K : PySem.W.Frag} {κ : Mo} {x : Str} {p pos kpos : Pos} {e o : Expr} {f g : FE} {c c2 : Esc} {id : String} {nm : Str} {r : List V → List V → Hp → VK → Prop} {op : D → D → Option D}
end
end DS
end
section
set_option Elab.async false
set_option linter.all false
set_option maxRecDepth 100000
set_option maxHeartbeats 1000000
namespace DS
open PySem PySem.Spec PyProof.Rows L2
variable [Tbls]
def dIs : D → D → Option Bool
  | .bool a, .bool b => some (decide (a = b))
  | _, _ => none
def dIsNot : D → D → Option Bool
  | .bool a, .bool b => some (!decide (a = b))
  | _, _ => none
section
variable {X : Cx} {K : PySem.W.Frag}
theorem oc_is : OpC K rIsB dIs := by
  intro x y dx dy b H Q rx ry h q
  unfold dIs at h
  split at h
  · cases (Option.some.inj h)
    exact ⟨_, _, rx.bl', ry.bl', q⟩
  · cases h
theorem oc_isNot : OpC K rNotB dIsNot := by
  intro x y dx dy b H Q rx ry h q
  unfold dIsNot at h
  split at h
  · cases (Option.some.inj h)
    exact ⟨_, _, rx.bl', ry.bl', q⟩
  · cases h
end
end DS
end
section
set_option Elab.async false
set_option linter.all false
set_option maxRecDepth 100000
set_option maxHeartbeats 1000000
namespace DS
open PySem PySem.Spec PyProof.Rows L2
variable [Tbls]
def sPutC (i : Nat) (j : FE) (d : D) : FS := fun s => match eVar i s.1, j s.1 with
  | some (.list ds), some (.int k) => match ixN ds.length k with
    | none => .stuck
    | some n => if lv s.2 i = 1 then .next (s.1.set i (some (.list (ds.set n d))), s.2) else .stuck
  | _, _ => .stuck
def sPut2 (i1 : Nat) (j1 : FE) (i2 : Nat) (j2 : FE) (f : FE) : FS := fun s => match f s.1 with
  | some (.tuple [a, b]) => if (flat a && flat b) = true then (match sPutC i1 j1 a s with
    | .next s1 => sPutC i2 j2 b s1
    | _ => .stuck) else .stuck
  | _ => .stuck
section
variable {X : Cx} {K : PySem.W.Frag}
theorem flat_write {H : Hp} {a : Addr} {xs xs' : List V} {w : V} {e : D} (r : R K H w e) (hf : flat e = true) (ha : H a = some (.lst xs)) : R K (upd H a (.lst xs')) w e := by
  have nt : NoTup [a] H := fun b hb ys rd => by
    have : b = a := by simpa using hb
    subst this
    rcases rd with rd | ⟨u, rd⟩ <;> rw [rd] at ha <;> cases ha
  refine (r.hidF nt hf).mono ((same_hidU List.mem_cons_self ha rfl).trans same_unhid)
theorem putC_ok {B0 : List Addr} {G H : Hp} {σ : St} {s s' : S} {i : Nat} {j : FE} {cj : Esc} {d : D} {v : V} {Q : St → Hp → Prop} (hs : GS K B0 G σ H s) (hv : R K H v d) (hfl : flat d = true) (he : sPutC i j d s = .next s')
    (q : ∀ H', GS K B0 G σ H' s' → (∀ w e, R K H w e → flat e = true → R K H' w e) → Q σ H') : gSub (tVar i) (tD K (.br 1) j cj) rSetL v σ H Q := by
  unfold sPutC at he
  split at he
  · rename_i ds k hi hk
    have hi := eVar_some hi
    split at he
    · cases he
    · rename_i n hn
      split at he
      · rename_i hl
        cases he
        obtain ⟨O, B, g⟩ := hs
        obtain ⟨a, xs, h1, h2, h3, _⟩ := g.write hi hl
        refine ⟨.ref a, h1, [], _, s.1, _, g.good.zero, .zero, hk, fun w H2 s2 p2 => ?_⟩
        obtain ⟨a', xs', h1', h2', h3', h4'⟩ := (g.mono s2).write hi hl
        rw [h1] at h1'
        cases h1'
        have h5 := s2 _ _ h2
        rw [h5] at h2'
        cases h2'
        refine ⟨a, xs, _, n, rfl, RL.int p2, h5, by rw [h3.length]; exact hn, ?_⟩
        exact q _ (h4' _ _ (h3'.set ((hv.mono s2).hidF ((g.ok.mono s2).noTup) hfl) n)) fun w' e' r' f' => flat_write (r'.mono s2) f' h5
      · cases he
  · cases he
theorem put2_ok {i1 i2 : Nat} {j1 j2 f : FE} {c c1 c2 : Esc} : ∀ E σ H, tS K (sPut2 i1 j1 i2 j2 f) E σ H →
    tAsg (tD K (.br 0) f c) (gTup K 2 (gCons (gSub (tVar i1) (tD K (.br 1) j1 c1) rSetL) (gCons (gSub (tVar i2) (tD K (.br 1) j2 c2) rSetL) gNil))) E σ H := fun E σ H ⟨B0, G, s, hs, q⟩ => by
  unfold sPut2 at q
  split at q
  · rename_i a b hd
    split at q
    · rename_i hfl
      rw [Bool.and_eq_true] at hfl
      split at q
      · rename_i s1 e1
        cases e2 : sPutC i2 j2 b s1 with
        | next s2 =>
          rw [e2] at q
          obtain ⟨O, B, g⟩ := id hs
          refine ⟨[], _, s.1, _, g.good.zero, .zero, hd, fun v H1 st p1 => ?_⟩
          have rv := RL.r0 p1
          cases rv with
          | tup t1 t2 =>
            cases t2 with
            | cons ra t3 =>
              cases t3 with
              | cons rb t4 =>
                cases t4
                refine ⟨_, _, rfl, (.inl (.inl t1)), rfl, _, _, rfl, ?_⟩
                have hs1 : GS K B0 G σ H1 s := ⟨O, B, g.mono st⟩
                refine putC_ok hs1 ra hfl.1 e1 fun H2 gs2 kp => ?_
                refine ⟨_, _, rfl, putC_ok gs2 (kp _ _ rb hfl.2) hfl.2 e2 fun H3 gs3 _ => ⟨rfl, q σ H3 gs3⟩⟩
        | ret d =>
          unfold sPutC at e2
          split at e2
          · split at e2
            · cases e2
            · split at e2 <;> cases e2
          · cases e2
        | brk s2 =>
          unfold sPutC at e2
          split at e2
          · split at e2
            · cases e2
            · split at e2 <;> cases e2
          · cases e2
        | cont s2 =>
          unfold sPutC at e2
          split at e2
          · split at e2
            · cases e2
            · split at e2 <;> cases e2
          · cases e2
        | stuck => rw [e2] at q; exact q.elim
      · exact q.elim
    · exact q.elim
  · exact q.elim
theorem ss_put2 (i1 i2 : Nat) {tg e : Expr} {j1 j2 f : FE} {c c1 c2 : Esc} {pos : Pos} (ps : PS X (.Assign [tg] e pos) (tAsg (tD K (.br 0) f c) (gTup K 2 (gCons (gSub (tVar i1) (tD K (.br 1) j1 c1) rSetL) (gCons (gSub (tVar i2) (tD K (.br 1) j2 c2) rSetL) gNil))))) :
    PS X (.Assign [tg] e pos) (tS K (sPut2 i1 j1 i2 j2 f)) := ps.imp put2_ok
end
end DS
end
section
set_option Elab.async false
set_option linter.all false
set_option maxRecDepth 100000
set_option maxHeartbeats 1000000
namespace PySem.W
open PySem PySem.Calls PyProof.Rows
section
variable {prog : Program} {w : World} {A : Around} {E : Value → Shared → Prop} {s : Shared} {β : Type} {vs : List Value} {bs : List β} {enc : β → PyData} {R : Value → β → Prop}
end
end PySem.W
namespace DS
open PySem PySem.Spec PyProof.Rows L2
variable [Tbls]
section
variable {X : Cx} {K : PySem.W.Frag}
end
section
variable {K : PySem.W.Frag}
end
section
variable {X : Cx} {K : PySem.W.Frag} {κ : Mo} {x : Str} {p pos kpos : Pos} {e o : Expr} {f g : FE} {c c2 : Esc} {id : String} {nm : Str} {r : List V → List V → Hp → VK → Prop} {op : D → D → Option D}
end
end DS
end
section
set_option Elab.async false
set_option linter.all false
set_option maxRecDepth 100000
set_option maxHeartbeats 1000000
namespace DS
open PySem PySem.Spec PyProof.Rows L2
variable [Tbls]
section
variable {X : Cx} {K : PySem.W.Frag}
end
end DS
end
section
set_option Elab.async false
set_option linter.all false
set_option maxRecDepth 100000
set_option maxHeartbeats 1000000
namespace DS
open PySem PySem.Spec PyProof.Rows L2
variable [Tbls]
def sParF (i j : Nat) (f g : FE) (c : Esc) : FS := fun s => match f s.1, g s.1 with
  | some d, some e => if flat e = true then .next ((s.1.set i (some d)).set j (some e), ((demote c s.2).set i 1).set j 0) else .stuck
  | _, _ => .stuck
section
variable {X : Cx} {K : PySem.W.Frag}
end
section
variable {X : Cx} {K : PySem.W.Frag}
end
section
variable {X : Cx} {K : PySem.W.Frag}
end
end DS
end
section
set_option Elab.async false
set_option linter.all false
set_option maxRecDepth 100000
set_option maxHeartbeats 4000000
namespace DS
open PySem PySem.Spec PyProof.Rows L2
variable [Tbls]
section
variable {X : Cx}
end
def dMulT : D → D → Option D
  | .tuple x, .int j => if x ≠ [] ∧ x.length ≤ 1000 ∧ -1000000 ≤ j ∧ j ≤ 1000 then some (.tuple (List.replicate j.toNat x).flatten) else none
  | _, _ => none
section
variable {X : Cx} {K : PySem.W.Frag} {κ : Mo} {a b : Expr} {fa fb : FE} {ca cb : Esc} {pos : Pos}
end
end DS
end
section
set_option Elab.async false
set_option linter.all false
set_option maxRecDepth 100000
set_option maxHeartbeats 4000000
namespace DS
open PySem PySem.Spec PyProof.Rows L2
variable [Tbls]
def rgd (lo hi : Int) : D := .dict [(.none, .tuple [.int lo, .int hi])]
section
variable {X : Cx} {K : PySem.W.Frag} {κ : Mo} {m : Nat} {tg : Expr} {B : List Addr} {H : Hp}
theorem RL.rng {v : V} {lo hi : Int} (h : RL K B H m v (rgd lo hi)) : ∃ a, v = .ref a ∧ hid B H a = some (.rng lo hi) := by
  generalize hd : rgd lo hi = d at h
  cases h with
  | z h =>
    cases h with
    | rng h1 =>
      unfold rgd at hd
      simp at hd
      obtain ⟨rfl, rfl⟩ := hd
      exact ⟨_, rfl, h1⟩
    | frz _ _ => unfold rgd at hd; simp at hd
    | dk _ h2 =>
      unfold rgd at hd
      cases hd
      exact absurd rfl h2.key
    | dt _ h2 =>
      unfold rgd at hd
      cases hd
      exact absurd rfl h2.key
    | _ => cases hd
  | l => cases hd
  | dk _ h2 =>
    unfold rgd at hd
    cases hd
    exact absurd rfl h2.key
  | dt _ h2 =>
    unfold rgd at hd
    cases hd
    exact absurd rfl h2.key
def eRgV (f : FE) : FE := fun ρ => o1 (f ρ) fun d => match d with
  | .int n => some (rgd 0 n)
  | _ => none
end
end DS
end
section
set_option Elab.async false
set_option linter.all false
set_option maxRecDepth 100000
namespace DS
open PySem PySem.Spec PyProof.Rows L2
variable [Tbls]
def IsDk : HO → Prop
  | .dK _ => True
  | .dT _ => True
  | _ => False
theorem IsDk.mut {u : HO} (h : IsDk u) : Mut (some u) := by cases u <;> first | exact True.intro | exact h.elim
theorem IsDk.mutO {u : HO} (h : IsDk u) : DS.mutO u = true := by cases u <;> first | rfl | exact h.elim
theorem nf_lst (xs : List V) : ∀ o x, HO.lst xs ≠ .frz o x := fun _ _ z => nomatch z
theorem nf_tup (xs : List V) : ∀ o x, HO.tup xs ≠ .frz o x := fun _ _ z => nomatch z
theorem nf_rng (a b : Int) : ∀ o x, HO.rng a b ≠ .frz o x := fun _ _ z => nomatch z
theorem nf_dk (k : List (Key × V)) : ∀ o x, HO.dK k ≠ .frz o x := fun _ _ z => nomatch z
theorem nf_dt (k : List (List Key × V)) : ∀ o x, HO.dT k ≠ .frz o x := fun _ _ z => nomatch z
theorem IsDk.nf {u : HO} (h : IsDk u) : ∀ o w, u ≠ .frz o w := fun o w e => by subst e; exact h
section
variable {K : PySem.W.Frag} {H : Hp} {d : Addr} {od : Obj} {u : HO}
theorem rd_lock (hd : H d = some u) (hu : IsDk u) {a : Addr} {w : HO} (h : Rd H a w) : Rd (upd H d (.frz od u)) a w := by
  by_cases e : a = d
  · subst e
    rcases h with h | ⟨o, h⟩
    · rw [hd] at h; cases h; exact .inr ⟨od, upd_same⟩
    · rw [hd] at h; cases h; exact hu.elim
  · rcases h with h | ⟨o, h⟩
    · exact .inl (by rw [upd_ne e]; exact h)
    · exact .inr ⟨o, by rw [upd_ne e]; exact h⟩
theorem rd_unlock (hd : H d = some (.frz od u)) {a : Addr} {w : HO} (hw : ∀ o x, w ≠ .frz o x) (h : Rd H a w) : Rd (upd H d u) a w := by
  by_cases e : a = d
  · subst e
    rcases h with h | ⟨o, h⟩
    · rw [hd] at h; cases h; exact absurd rfl (hw _ _)
    · rw [hd] at h; cases h; exact .inl upd_same
  · rcases h with h | ⟨o, h⟩
    · exact .inl (by rw [upd_ne e]; exact h)
    · exact .inr ⟨o, by rw [upd_ne e]; exact h⟩
theorem sqL_lock (hd : H d = some u) (hu : IsDk u) {a : Addr} {xs : List V} (h : SqL K H a xs) : SqL K (upd H d (.frz od u)) a xs := by
  rcases h with h | h
  · exact .inl (rd_lock hd hu h)
  · exact .inr h
theorem sqL_unlock (hd : H d = some (.frz od u)) {a : Addr} {xs : List V} (h : SqL K H a xs) : SqL K (upd H d u) a xs := by
  rcases h with h | h
  · exact .inl (rd_unlock hd (fun _ _ z => nomatch z) h)
  · exact .inr h
theorem ne_dk {a : Addr} {w : HO} (hd : H d = some u) (hu : IsDk u) (h : H a = some w) (hw : ¬ IsDk w) : a ≠ d := fun e => by
  subst e; rw [hd] at h; cases h; exact hw hu
theorem ne_fz {a : Addr} {w : HO} (hd : H d = some (.frz od u)) (h : H a = some w) (hw : ∀ o x, w ≠ .frz o x) : a ≠ d := fun e => by
  subst e; rw [hd] at h; cases h; exact hw _ _ rfl
mutual
theorem R.lock (hd : H d = some u) (hu : IsDk u) : ∀ {v : V} {e : D}, R K H v e → R K (upd H d (.frz od u)) v e
  | _, _, .non => .non
  | _, _, .bl b => .bl b
  | _, _, .int i => .int i
  | _, _, .str x => .str x
  | _, _, .lst h a => .lst (by rw [upd_ne (ne_dk hd hu h (fun z => z))]; exact h) (RA.lock hd hu a)
  | _, _, .frz h a => .frz (sqL_lock hd hu h) (RA.lock hd hu a)
  | _, _, .tup h a => .tup (by rw [upd_ne (ne_dk hd hu h (fun z => z))]; exact h) (RA.lock hd hu a)
  | _, _, .rng h => .rng (by rw [upd_ne (ne_dk hd hu h (fun z => z))]; exact h)
  | _, _, .dk h a => .dk (rd_lock hd hu h) (RK.lock hd hu a)
  | _, _, .dt h a => .dt (rd_lock hd hu h) (RT.lock hd hu a)
theorem RA.lock (hd : H d = some u) (hu : IsDk u) : ∀ {v : List V} {e : List D}, RA K H v e → RA K (upd H d (.frz od u)) v e
  | _, _, .nil => .nil
  | _, _, .cons h t => .cons (R.lock hd hu h) (RA.lock hd hu t)
theorem RK.lock (hd : H d = some u) (hu : IsDk u) : ∀ {v : List (Key × V)} {e : List (D × D)}, RK K H v e → RK K (upd H d (.frz od u)) v e
  | _, _, .nil => .nil
  | _, _, .cons h t => .cons (R.lock hd hu h) (RK.lock hd hu t)
theorem RT.lock (hd : H d = some u) (hu : IsDk u) : ∀ {v : List (List Key × V)} {e : List (D × D)}, RT K H v e → RT K (upd H d (.frz od u)) v e
  | _, _, .nil => .nil
  | _, _, .cons h t => .cons (R.lock hd hu h) (RT.lock hd hu t)
end
mutual
theorem R.unlock (hd : H d = some (.frz od u)) : ∀ {v : V} {e : D}, R K H v e → R K (upd H d u) v e
  | _, _, .non => .non
  | _, _, .bl b => .bl b
  | _, _, .int i => .int i
  | _, _, .str x => .str x
  | _, _, .lst h a => .lst (by rw [upd_ne (ne_fz hd h (nf_lst _))]; exact h) (RA.unlock hd a)
  | _, _, .frz h a => .frz (sqL_unlock hd h) (RA.unlock hd a)
  | _, _, .tup h a => .tup (by rw [upd_ne (ne_fz hd h (nf_tup _))]; exact h) (RA.unlock hd a)
  | _, _, .rng h => .rng (by rw [upd_ne (ne_fz hd h (nf_rng _ _))]; exact h)
  | _, _, .dk h a => .dk (rd_unlock hd (nf_dk _) h) (RK.unlock hd a)
  | _, _, .dt h a => .dt (rd_unlock hd (nf_dt _) h) (RT.unlock hd a)
theorem RA.unlock (hd : H d = some (.frz od u)) : ∀ {v : List V} {e : List D}, RA K H v e → RA K (upd H d u) v e
  | _, _, .nil => .nil
  | _, _, .cons h t => .cons (R.unlock hd h) (RA.unlock hd t)
theorem RK.unlock (hd : H d = some (.frz od u)) : ∀ {v : List (Key × V)} {e : List (D × D)}, RK K H v e → RK K (upd H d u) v e
  | _, _, .nil => .nil
  | _, _, .cons h t => .cons (R.unlock hd h) (RK.unlock hd t)
theorem RT.unlock (hd : H d = some (.frz od u)) : ∀ {v : List (List Key × V)} {e : List (D × D)}, RT K H v e → RT K (upd H d u) v e
  | _, _, .nil => .nil
  | _, _, .cons h t => .cons (R.unlock hd h) (RT.unlock hd t)
end
theorem hid_upd {B : List Addr} {o : HO} (h : d ∉ B) : hid B (upd H d o) = upd (hid B H) d o := by
  funext a
  by_cases e : a = d
  · subst e; rw [hid_out h, upd_same, upd_same]
  · rw [upd_ne e]
    unfold hid
    rw [upd_ne e]
end
section
variable {K : PySem.W.Frag} {B : List Addr} {H : Hp} {d : Addr} {od : Obj} {u : HO}
theorem RL.lock (hB : d ∉ B) (hd : H d = some u) (hu : IsDk u) {m : Nat} {v : V} {e : D} (h : RL K B H m v e) : RL K B (upd H d (.frz od u)) m v e := by
  have hd' : hid B H d = some u := by rw [hid_out hB]; exact hd
  induction h with
  | z r => exact .z (by rw [hid_upd hB]; exact r.lock hd' hu)
  | l h1 h2 _ ih => exact .l (by rw [upd_ne (ne_dk hd hu h1 (fun z => z))]; exact h1) h2 ih
  | @dk m a kvs es h1 h2 =>
    by_cases e : a = d
    · subst e
      refine .z (.dk (kvs := kvs) ?_ (by rw [hid_upd hB]; exact h2.lock hd' hu))
      rw [hid_upd hB]
      exact rd_lock hd' hu (.inl (by rw [hid_out hB]; exact h1))
    · exact .dk (by rw [upd_ne e]; exact h1) (by rw [hid_upd hB]; exact h2.lock hd' hu)
  | @dt m a kvs es h1 h2 =>
    by_cases e : a = d
    · subst e
      refine .z (.dt (kvs := kvs) ?_ (by rw [hid_upd hB]; exact h2.lock hd' hu))
      rw [hid_upd hB]
      exact rd_lock hd' hu (.inl (by rw [hid_out hB]; exact h1))
    · exact .dt (by rw [upd_ne e]; exact h1) (by rw [hid_upd hB]; exact h2.lock hd' hu)
theorem RL.unlock (hB : d ∉ B) (hd : H d = some (.frz od u)) {m : Nat} {v : V} {e : D} (h : RL K B H m v e) : RL K B (upd H d u) m v e := by
  have hd' : hid B H d = some (.frz od u) := by rw [hid_out hB]; exact hd
  induction h with
  | z r => exact .z (by rw [hid_upd hB]; exact r.unlock hd')
  | l h1 h2 _ ih => exact .l (by rw [upd_ne (ne_fz hd h1 (fun _ _ z => nomatch z))]; exact h1) h2 ih
  | dk h1 h2 => exact .dk (by rw [upd_ne (ne_fz hd h1 (fun _ _ z => nomatch z))]; exact h1) (by rw [hid_upd hB]; exact h2.unlock hd')
  | dt h1 h2 => exact .dt (by rw [upd_ne (ne_fz hd h1 (fun _ _ z => nomatch z))]; exact h1) (by rw [hid_upd hB]; exact h2.unlock hd')
theorem RO.lock (hB : d ∉ B) (hd : H d = some u) (hu : IsDk u) {l : Nat} {o : List Addr} {v : V} {e : D} (h : RO K B H l o v e) : d ∉ o → RO K B (upd H d (.frz od u)) l o v e := by
  have hd' : hid B H d = some u := by rw [hid_out hB]; exact hd
  refine RO.rec (K := K) (B := B) (H := H) (motive_1 := fun l o v e _ => d ∉ o → RO K B (upd H d (.frz od u)) l o v e)
    (motive_2 := fun l os vs ds _ => d ∉ os.flatten → ROA K B (upd H d (.frz od u)) l os vs ds) ?_ ?_ ?_ ?_ ?_ ?_ h
  · intro l v e hl r _
    exact .z hl (by rw [hid_upd hB]; exact r.lock hd' hu)
  · intro l a os xs ds h1 _ ih hn
    exact .l (by rw [upd_ne (ne_dk hd hu h1 (fun z => z))]; exact h1) (ih fun z => hn (List.mem_cons_of_mem _ z))
  · intro l a kvs es ht h1 h2 hn
    exact .dk ht (by rw [upd_ne (fun z => hn (by rw [z]; exact List.mem_cons_self))]; exact h1) (by rw [hid_upd hB]; exact h2.lock hd' hu)
  · intro l a kvs es ht h1 h2 hn
    exact .dt ht (by rw [upd_ne (fun z => hn (by rw [z]; exact List.mem_cons_self))]; exact h1) (by rw [hid_upd hB]; exact h2.lock hd' hu)
  · intro l _
    exact .nil
  · intro l o os v e vs ds _ _ ih1 ih2 hn
    exact .cons (ih1 fun z => hn (by rw [List.flatten_cons]; exact List.mem_append_left _ z)) (ih2 fun z => hn (by rw [List.flatten_cons]; exact List.mem_append_right _ z))
theorem RO.unlock (hB : d ∉ B) (hd : H d = some (.frz od u)) {l : Nat} {o : List Addr} {v : V} {e : D} (h : RO K B H l o v e) : RO K B (upd H d u) l o v e := by
  have hd' : hid B H d = some (.frz od u) := by rw [hid_out hB]; exact hd
  refine RO.rec (K := K) (B := B) (H := H) (motive_1 := fun l o v e _ => RO K B (upd H d u) l o v e)
    (motive_2 := fun l os vs ds _ => ROA K B (upd H d u) l os vs ds) ?_ ?_ ?_ ?_ ?_ ?_ h
  · intro l v e hl r
    exact .z hl (by rw [hid_upd hB]; exact r.unlock hd')
  · intro l a os xs ds h1 _ ih
    exact .l (by rw [upd_ne (ne_fz hd h1 (fun _ _ z => nomatch z))]; exact h1) ih
  · intro l a kvs es ht h1 h2
    exact .dk ht (by rw [upd_ne (ne_fz hd h1 (fun _ _ z => nomatch z))]; exact h1) (by rw [hid_upd hB]; exact h2.unlock hd')
  · intro l a kvs es ht h1 h2
    exact .dt ht (by rw [upd_ne (ne_fz hd h1 (fun _ _ z => nomatch z))]; exact h1) (by rw [hid_upd hB]; exact h2.unlock hd')
  · intro l
    exact .nil
  · intro l o os v e vs ds _ _ ih1 ih2
    exact .cons ih1 ih2
theorem Ok.lock (h : Ok B H) (hB : d ∉ B) {o : HO} : Ok B (upd H d o) := fun a ha => by
  obtain ⟨x, h1, h2⟩ := h a ha
  exact ⟨x, by rw [upd_ne fun e => hB (by rw [← e]; exact ha)]; exact h1, h2⟩
theorem Good.lock {L : Nat → Nat} {σ : St} {ρ : PEnv} (g : Good K B L σ H ρ) (hB : d ∉ B) (hd : H d = some u) (hu : IsDk u) : Good K B L σ (upd H d (.frz od u)) ρ :=
  ⟨g.ok.lock hB, g.len, fun i e h => let ⟨v, h1, h2⟩ := g.slot i e h; ⟨v, h1, h2.lock hB hd hu⟩, g.tabs.upd hd (mut_plain hu.mutO)⟩
theorem same_back {H' : Hp} (s : Same (upd H d (.frz od u)) H') (hd : H d = some u) (hu : IsDk u) : H' d = some (.frz od u) ∧ Same H (upd H' d u) := by
  have hf : H' d = some (.frz od u) := s _ _ upd_same
  refine ⟨hf, fun a o h n => ?_, fun p hp t => tabN_upd hf rfl (s.tab p hp (tabN_upd hd (mut_plain hu.mutO) t)), fun b ps h => ?_⟩
  · by_cases e : a = d
    · subst e; rw [hd] at h; cases h; exact upd_same
    · rw [upd_ne e]; exact s.get a o (by rw [upd_ne e]; exact h) n
  · have e : b ≠ d := fun z => by
      rw [z, hd] at h
      cases h
      exact hu.elim
    rw [upd_ne e]
    exact s.tbl b ps (by rw [upd_ne e]; exact h)
theorem Post.unlock {H' : Hp} {κ : Mo} {v : V} {e : D} (hB : d ∉ B) (hd : H d = some u) (hd' : H' d = some (.frz od u)) (h : Post K B (upd H d (.frz od u)) H' κ v e) : Post K B H (upd H' d u) κ v e := by
  have go : ∀ (l : Nat), (∃ o : List Addr, (∀ a ∈ o, (upd H d (.frz od u)) a = none) ∧ o.Nodup ∧ RO K (o ++ B) H' l o v e) → ∃ o : List Addr, (∀ a ∈ o, H a = none) ∧ o.Nodup ∧ RO K (o ++ B) (upd H' d u) l o v e := by
    rintro l ⟨o, h1, h2, h3⟩
    have hno : ∀ a ∈ o, a ≠ d := fun a ha z => by
      have := h1 a ha
      rw [z, upd_same] at this
      cases this
    refine ⟨o, fun a ha => ?_, h2, h3.unlock (fun z => ?_) hd'⟩
    · have := h1 a ha
      rw [upd_ne (hno a ha)] at this
      exact this
    · rcases List.mem_append.mp z with z | z
      · exact hno d z rfl
      · exact hB z
  cases κ with
  | br m => exact RL.unlock hB hd' h
  | fr => exact go 1 h
  | fr2 => exact go 2 h
theorem dict_seen {v : V} {es : List (D × D)} (ok : Ok B H) (hn : ∀ k r, es = k :: r → k.1 ≠ .none) (h : R K (hid B H) v (.dict es)) : ∃ a, v = .ref a ∧ a ∉ B ∧ ∃ u, IsDk u ∧ Rd H a u ∧
    ((∃ kvs, u = .dK kvs ∧ RK K (hid B H) kvs es) ∨ ∃ kvs, u = .dT kvs ∧ RT K (hid B H) kvs es) := by
  have vis : ∀ {a : Addr} {w : HO}, Rd (hid B H) a w → a ∉ B ∧ Rd H a w := fun {a w} h => by
    have nb : ∀ {x : HO}, hid B H a = some x → a ∉ B := fun {x} q z => by
      obtain ⟨o, h1, h2⟩ := ok a z
      rw [hid_in z h1 h2] at q
      cases q
    rcases h with h | ⟨o, h⟩
    · exact ⟨nb h, .inl (hid_some h).2⟩
    · exact ⟨nb h, .inr ⟨o, (hid_some h).2⟩⟩
  cases h with
  | frz _ _ => exact absurd rfl (hn _ _ rfl)
  | rng _ => exact absurd rfl (hn _ _ rfl)
  | dk h1 h2 => exact ⟨_, rfl, (vis h1).1, .dK _, True.intro, (vis h1).2, .inl ⟨_, rfl, h2⟩⟩
  | dt h1 h2 => exact ⟨_, rfl, (vis h1).1, .dT _, True.intro, (vis h1).2, .inr ⟨_, rfl, h2⟩⟩
end
end DS
end
section
set_option Elab.async false
set_option linter.all false
set_option maxRecDepth 100000
namespace DS
open PySem PySem.Spec PyProof.Rows L2
variable [Tbls]
def keysD : D → Option (List D)
  | .dict ((.none, _) :: _) => none
  | .dict es => some (es.map (·.1))
  | _ => none
def iDk (f : FE) : FA := fun ρ => o1 (f ρ) keysD
theorem keysD_some {d : D} {ds : List D} (h : keysD d = some ds) : ∃ es, d = .dict es ∧ ds = es.map (·.1) ∧ ∀ k r, es = k :: r → k.1 ≠ .none := by
  unfold keysD at h
  split at h
  · cases h
  · rename_i es hne
    refine ⟨es, rfl, (Option.some.inj h).symm, fun k r e z => ?_⟩
    subst e
    obtain ⟨k1, k2⟩ := k
    simp only at z
    subst z
    exact hne _ _ rfl
  · cases h
section
variable {K : PySem.W.Frag} {H : Hp}
theorem R.key (k : Key) : R K H (kV k) (keyD k) := by
  cases k with
  | inl i => exact .int i
  | inr x => exact .str x
theorem RA.keys : ∀ (k : List Key), RA K H (k.map kV) (k.map keyD)
  | [] => .nil
  | k :: r => .cons (R.key k) (RA.keys r)
theorem RK.keys : ∀ {kvs : List (Key × V)} {es : List (D × D)}, RK K H kvs es → es.map (·.1) = kvs.map fun p => keyD p.1
  | _, _, .nil => rfl
  | _, _, .cons _ t => by rw [List.map_cons, List.map_cons, RK.keys t]
theorem RT.keys : ∀ {kvs : List (List Key × V)} {es : List (D × D)}, RT K H kvs es → es.map (·.1) = kvs.map fun p => .tuple (p.1.map keyD)
  | _, _, .nil => rfl
  | _, _, .cons _ t => by rw [List.map_cons, List.map_cons, RT.keys t]
theorem walks_dk {G : Hp} {B : List Addr} {a : Addr} {od : Obj} {kvs : List (Key × V)} {ds : List D} (h : G a = some (.frz od (.dK kvs))) (e : ds = kvs.map fun p => keyD p.1) : Walks K G B (Itk a od kvs) ds where
  go := fun i H hi s => ⟨s _ _ h, by rw [e, List.length_map] at hi; exact hi⟩
  stop := fun H s => ⟨s _ _ h, by rw [e, List.length_map]; exact Nat.le_refl _⟩
  yld := fun i H x H' d hd s y => by
    obtain ⟨rfl, k, v, hk, rfl⟩ := y
    refine ⟨Same.refl _, fun B' _ _ => ?_⟩
    rw [e, List.getElem?_map, hk] at hd
    cases (Option.some.inj hd)
    exact R.key k
theorem walks_dt {G : Hp} {B : List Addr} {a : Addr} {od : Obj} {kvs : List (List Key × V)} {ds : List D} (h : G a = some (.frz od (.dT kvs))) (e : ds = kvs.map fun p => .tuple (p.1.map keyD)) : Walks K G B (Itkt a od kvs) ds where
  go := fun i H hi s => ⟨s _ _ h, by rw [e, List.length_map] at hi; exact hi⟩
  stop := fun H s => ⟨s _ _ h, by rw [e, List.length_map]; exact Nat.le_refl _⟩
  yld := fun i H x H' d hd s y => by
    obtain ⟨rfl, k, v, q, hk, rfl, hq⟩ := y
    refine ⟨Same.refl _, fun B' ok _ => ?_⟩
    rw [e, List.getElem?_map, hk] at hd
    cases (Option.some.inj hd)
    refine .tup (xs := k.map kV) ?_ (RA.keys k)
    rw [hid_out fun z => ?_]
    · exact hq
    · obtain ⟨o, h1, h2⟩ := ok q z
      rw [hq] at h1; cases h1; cases h2
theorem hti_dict {m : Nat} {B : List Addr} {L : Nat → Nat} {ds : List D} {σ : St} {ρ : PEnv} {i : Nat} {a : Addr} {od : Obj} {u : HO} (g : Good K B L σ H ρ) (hL : L i ≤ 0) (hf : iDk (eVar i) ρ = some ds) (hv : σ[i]? = some (some (.ref a))) (hfz : H a = some (.frz od u))
    (Rr : It → Hp → Prop) (hR : ∀ J H1, Same H H1 → Walks K (gOf m B H1) B J ds → Rr J H1) : iKeys (tVar i) σ H Rr := by
  obtain ⟨d, h1, h2⟩ := o1_some hf
  obtain ⟨es, rfl, rfl, hn⟩ := keysD_some h2
  have hρ : ρ[i]? = some (some (.dict es)) := by
    unfold eVar at h1
    split at h1
    · rename_i x hx
      cases (Option.some.inj h1)
      exact hx
    · cases h1
  obtain ⟨v, e1, r⟩ := g.slot i _ hρ
  rw [hv] at e1
  cases e1
  have e0 : L i = 0 := by omega
  rw [e0] at r
  have r := r.r
  refine ⟨.ref a, hv, a, od, rfl, ?_⟩
  have gof : ∀ {w : HO}, a ∉ B → H a = some w → gOf m B H a = some w := fun {w} hb hw => by
    cases m with
    | zero => show hid B H a = _; rw [hid_out hb]; exact hw
    | succ m => exact hw
  cases r with
  | frz _ _ => exact absurd rfl (hn _ _ rfl)
  | rng _ => exact absurd rfl (hn _ _ rfl)
  | @dk a kvs es hr rk =>
    rcases hr with hr | ⟨o, hr⟩
    · have := (hid_some hr).2
      rw [hfz] at this
      cases this
    · obtain ⟨_, hr⟩ := hid_some hr
      have nb : a ∉ B := fun z => by
        obtain ⟨o, h1, h2⟩ := g.ok a z
        rw [hfz] at h1; cases h1; cases h2
      rw [hfz] at hr
      cases hr
      exact .inl ⟨kvs, hfz, hR _ H (Same.refl H) (walks_dk (gof nb hfz) rk.keys)⟩
  | @dt a kvs es hr rk =>
    rcases hr with hr | ⟨o, hr⟩
    · have := (hid_some hr).2
      rw [hfz] at this
      cases this
    · obtain ⟨_, hr⟩ := hid_some hr
      have nb : a ∉ B := fun z => by
        obtain ⟨o, h1, h2⟩ := g.ok a z
        rw [hfz] at h1; cases h1; cases h2
      rw [hfz] at hr
      cases hr
      exact .inr ⟨kvs, hfz, hR _ H (Same.refl H) (walks_dt (gof nb hfz) rk.keys)⟩
end
section
variable {X : Cx} {K : PySem.W.Frag} {κ : Mo}
def lockE (E : Ends) (d : Addr) (od : Obj) (u : HO) : Ends := ⟨fun σ' H' => H' d = some (.frz od u) ∧ E.nx σ' (upd H' d u), fun v H' => H' d = some (.frz od u) ∧ E.rt v (upd H' d u), fun σ' H' => H' d = some (.frz od u) ∧ E.bk σ' (upd H' d u), fun σ' H' => H' d = some (.frz od u) ∧ E.ct σ' (upd H' d u)⟩
theorem GS.lock {B0 B : List Addr} {G : Hp} {O : Nat → List Addr} {σ : St} {H : Hp} {ρ : PEnv} {L : List Nat} {d : Addr} {od : Obj} {u : HO} (g : GoodS K B0 G O B σ H ρ L) (hB : d ∉ B) (hd : H d = some u) (hu : IsDk u) :
    ∃ G', (∀ σ' H' s', GS K B0 G' σ' H' s' → H' d = some (.frz od u) ∧ GS K B0 G σ' (upd H' d u) s') ∧ (∀ H', Same G' H' → H' d = some (.frz od u) ∧ Same G (upd H' d u)) ∧ GS K B0 G' σ (upd H d (.frz od u)) (ρ, L) := by
  let H_f : Hp := upd H d (.frz od u)
  let C1 : List Addr := B.filter fun a => decide (a ∉ B0)
  have inC : ∀ a, a ∈ C1 ↔ a ∈ B ∧ a ∉ B0 := fun a => by simp [C1]
  have dC : d ∉ C1 := fun z => hB ((inC d).mp z).1
  let G' : Hp := hid C1 H_f
  have hGd : G' d = some (.frz od u) := by
    show hid C1 H_f d = _
    rw [hid_out dC]
    exact upd_same
  have inO : ∀ a, a ∈ C1 → G a = none := fun a h => by
    obtain ⟨z1, z2⟩ := (inC a).mp h
    rcases (g.memB a).mp z1 with h | ⟨i, h⟩
    · exact absurd h z2
    · exact g.gO i a h
  have G'_ne : ∀ a, a ≠ d → a ∉ C1 → G' a = H a := fun a h1 h2 => by
    show hid C1 H_f a = _
    rw [hid_out h2]
    exact upd_ne h1
  have hs : ∀ H', Same G' H' → H' d = some (.frz od u) ∧ Same G (upd H' d u) := fun H' s => by
    have hf : H' d = some (.frz od u) := s _ _ hGd
    refine ⟨hf, fun a o e n => ?_, fun p hp t => tabN_upd hf rfl (s.tab p hp (tabN_hid.mpr (tabN_upd hd (mut_plain hu.mutO) (g.same.tab p hp t)))), fun b ps e => ?_⟩
    · have eH := g.same.get _ _ e n
      by_cases ea : a = d
      · subst ea
        rw [hd] at eH
        cases eH
        exact upd_same
      · rw [upd_ne ea]
        refine s.get a o ?_ n
        rw [G'_ne a ea fun z => by rw [inO a z] at e; cases e]
        exact eH
    · obtain ⟨ps', eH⟩ := g.same.tbl b ps e
      have eb : b ≠ d := fun z => by
        rw [z, hd] at eH
        cases eH
        exact hu.elim
      rw [upd_ne eb]
      exact s.tbl b ps' (by rw [G'_ne b eb fun z => by rw [inO b z] at e; cases e]; exact eH)
  refine ⟨G', ?_, hs, ?_⟩
  · rintro σ' H' s' ⟨O2, B2, g2⟩
    obtain ⟨e1, e2⟩ := hs H' g2.same
    have hd2 : d ∉ B2 := fun z => by
      obtain ⟨o, h1, h2⟩ := g2.ok d z
      rw [e1] at h1; cases h1; cases h2
    refine ⟨e1, O2, B2, g2.memB, fun a ha => ?_, e2, g.g0, fun i a h => ?_, g2.nd, g2.dj, g2.len, g2.lenL, fun i e h => ?_, g2.tabs.upd e1 rfl⟩
    · obtain ⟨o, h1, h2⟩ := g2.ok a ha
      exact ⟨o, by rw [upd_ne fun z => hd2 (by rw [← z]; exact ha)]; exact h1, h2⟩
    · have hn := g2.gO i a h
      cases eg : G a with
      | none => rfl
      | some o =>
        exfalso
        have eH := g.same.trk a (by rw [eg]; simp)
        by_cases q : a ∈ C1
        · rw [inO a q] at eg; cases eg
        · by_cases ea : a = d
          · subst ea
            rw [hGd] at hn; cases hn
          · rw [G'_ne a ea q] at hn
            exact eH hn
    · obtain ⟨v, h1, h2⟩ := g2.slot i e h
      exact ⟨v, h1, h2.unlock hd2 e1⟩
  · refine ⟨O, B, g.memB, g.ok.lock hB, same_unhid, fun a ha => ?_, fun i a h => ?_, g.nd, g.dj, g.len, g.lenL, fun i e h => ?_, g.tabs.upd hd (mut_plain hu.mutO)⟩
    · intro z
      have hx := g.same.trk a (g.g0 a ha)
      by_cases ea : a = d
      · subst ea
        rw [hGd] at z; cases z
      · rw [G'_ne a ea fun q => ((inC a).mp q).2 ha] at z
        exact hx z
    · have ha : a ∈ B := (g.memB a).mpr (.inr ⟨i, h⟩)
      exact (g.ok.lock hB).hid ha ((inC a).mpr ⟨ha, fun z => g.g0 a z (g.gO i a h)⟩)
    · obtain ⟨v, h1, h2⟩ := g.slot i e h
      exact ⟨v, h1, h2.lock hB hd hu fun z => hB ((g.memB d).mpr (.inr ⟨i, z⟩))⟩
theorem Fin.lock {B0 : List Addr} {G G' : Hp} {E : Ends} {d : Addr} {od : Obj} {u : HO} {o : Out} (hg : ∀ σ' H' s', GS K B0 G' σ' H' s' → H' d = some (.frz od u) ∧ GS K B0 G σ' (upd H' d u) s') (hs : ∀ H', Same G' H' → H' d = some (.frz od u) ∧ Same G (upd H' d u)) (h0 : d ∉ B0) (q : Fin K B0 G E o) :
    Fin K B0 G' (lockE E d od u) o := by
  cases o with
  | stuck => exact q
  | next s => exact fun σ' H' z => let ⟨e, z'⟩ := hg σ' H' s z; ⟨e, q σ' _ z'⟩
  | brk s => exact fun σ' H' z => let ⟨e, z'⟩ := hg σ' H' s z; ⟨e, q σ' _ z'⟩
  | cont s => exact fun σ' H' z => let ⟨e, z'⟩ := hg σ' H' s z; ⟨e, q σ' _ z'⟩
  | ret x =>
    intro v H' s r
    obtain ⟨e, s'⟩ := hs H' s
    refine ⟨e, q v _ s' ?_⟩
    rw [hid_upd h0]
    exact r.unlock (by rw [hid_out h0]; exact e)
theorem PS.either {st : Stmt} {t t' : TS} (h : PS X st t) (h' : PS X st t') : PS X st (fun E σ H => t E σ H ∨ t' E σ H) :=
  ⟨fun pins s σ H D I q => q.elim (h.run pins s σ H D I) (h'.run pins s σ H D I)⟩
theorem PE.either {e : Expr} {t t' : TE} (h : PE X e t) (h' : PE X e t') : PE X e (fun σ H Q => t σ H Q ∨ t' σ H Q) :=
  ⟨fun pins s σ H Q I q => q.elim (h.run pins s σ H Q I) (h'.run pins s σ H Q I)⟩
theorem ss_forD (i : Nat) {tg : Expr} {x : Str} {p : Pos} {body : List Stmt} {pos : Pos} {t : Tg} {fb : FS} (hp : PassesOwn (model X.prog X.w) X.A X.env X.xe) (hc : X.calm = true) (hx : PE X (.Name x p) (tVar i)) (hg : PG X tg (tG K t)) (hb : PSs X body (tS K fb))
    (hs : ∀ y, foldedSetIterable (.Name x p) X.env y = pure y := by intro _; rfl) : PS X (.For tg (.Name x p) body [] pos) (tS K (sFor (iDk (eVar i)) [(i, 0)] t fb)) :=
  (PS.either (ps_lock (ps_for hp hc (pi_keys hx) hg hb hs)) (ps_for hp hc (pi_keys hx) hg hb hs)).imp fun E σ H ⟨B0, G, s, hs, q⟩ => by
    have q0 := q
    unfold sFor at q
    split at q
    · exact q.elim
    · rename_i ds hds
      obtain ⟨O, B, g0⟩ := hs
      obtain ⟨O', B', g, _⟩ := g0.demote [(i, 0)]
      have hL : lv (demote [(i, 0)] s.2) i ≤ 0 := demote_ok [(i, 0)] s.2 (i, 0) List.mem_cons_self
      obtain ⟨d, h1, h2⟩ := o1_some hds
      obtain ⟨es, rfl, rfl, hn⟩ := keysD_some h2
      obtain ⟨v, e1, r⟩ := g.good.slot i _ (eVar_some h1)
      rw [show lv (demote [(i, 0)] s.2) i = 0 by omega] at r
      obtain ⟨a, rfl, ha, u, hu, hr, _⟩ := dict_seen g.ok hn r.r
      have zero : ∀ {L : Nat → Nat}, EscOk [(i, 0)] L → L i ≤ 0 := fun es => es (i, 0) List.mem_cons_self
      rcases hr with hr | ⟨od, hr⟩
      · refine .inl ⟨a, u, hr, hu.mut, fun od => ?_⟩
        obtain ⟨G', k1, k2, k3⟩ := GS.lock (od := od) g ha hr hu
        refine for_core (c := [(i, 0)]) (fi := iDk (eVar i)) k3 (E := lockE E a od u) (G := G') ?_ fun B L ds g es hf Rr hR => hti_dict g (zero es) hf e1 upd_same Rr hR
        have h0 : a ∉ B0 := fun z => ha ((g.memB a).mpr (.inl z))
        refine Fin.lock k1 k2 h0 ?_
        have e2 : sFor (iDk (eVar i)) [(i, 0)] t fb (s.1, demote [(i, 0)] s.2) = sFor (iDk (eVar i)) [(i, 0)] t fb s := by
          unfold sFor
          have : demote [(i, 0)] (demote [(i, 0)] s.2) = demote [(i, 0)] s.2 := by
            show (if lv (demote [(i, 0)] s.2) i ≤ 0 then demote [(i, 0)] s.2 else _) = _
            rw [if_pos hL]
          rw [this]
        rw [e2]
        exact q0
      · exact .inr (for_core (c := [(i, 0)]) (fi := iDk (eVar i)) ⟨O, B, g0⟩ q0 fun B L ds g es hf Rr hR => hti_dict g (zero es) hf e1 hr Rr hR)
end
end DS
end
section
set_option Elab.async false
set_option linter.all false
set_option maxRecDepth 100000
namespace DS
open PySem PySem.Spec PyProof.Rows L2
variable [Tbls]
def keyOf : D → Option Key
  | .int i => some (.inl i)
  | .str x => some (.inr x)
  | _ => none
def keysOf : List D → Option (List Key)
  | [] => some []
  | d :: ds => match keyOf d, keysOf ds with
    | some k, some ks => some (k :: ks)
    | _, _ => none
def keyK : D → Option (Key ⊕ List Key)
  | .tuple ds => (keysOf ds).map .inr
  | d => (keyOf d).map .inl
def isT : D → Bool
  | .tuple _ => true
  | _ => false
def dFind (es : List (D × D)) (k : D) : Option D := (es.find? fun p => PyData.eqv p.1 k).map (·.2)
def putD (es : List (D × D)) (k v : D) : List (D × D) := if (es.any fun p => PyData.eqv p.1 k) = true then es.map fun p => if PyData.eqv p.1 k = true then (p.1, v) else p else es ++ [(k, v)]
def kindOk : List (D × D) → D → Bool
  | [], k => (keyK k).isSome
  | p :: _, k => (keyK k).isSome && !noneD p.1 && (isT p.1 == isT k)
def dGetD : D → D → Option D
  | .dict es, k => if kindOk es k = true then dFind es k else none
  | _, _ => none
def dInD : D → D → Option Bool
  | k, .dict es => if kindOk es k = true then some (dFind es k).isSome else none
  | _, _ => none
def dNotInD (k d : D) : Option Bool := o1 (dInD k d) fun b => some (!b)
theorem keyOf_some {d : D} {k : Key} (h : keyOf d = some k) : d = keyD k := by
  cases d <;> simp [keyOf] at h <;> subst h <;> rfl
theorem keysOf_some : ∀ {ds : List D} {ks : List Key}, keysOf ds = some ks → ds = ks.map keyD
  | [], ks, h => by simp [keysOf] at h; subst h; rfl
  | d :: ds, ks, h => by
    unfold keysOf at h
    split at h
    · rename_i k ks' h1 h2
      cases (Option.some.inj h)
      rw [List.map_cons, ← keyOf_some h1, ← keysOf_some h2]
    · cases h
theorem eqv_key (a b : Key) : PyData.eqv (keyD a) (keyD b) = decide (a = b) := by
  cases a with
  | inl i => cases b with
    | inl j => simp [keyD, PyData.eqv]; rw [Bool.eq_iff_iff]; simp
    | inr y => simp [keyD, PyData.eqv]
  | inr x => cases b with
    | inl j => simp [keyD, PyData.eqv]
    | inr y => simp [keyD, PyData.eqv]; rw [Bool.eq_iff_iff]; simp
theorem eqv_keys : ∀ (a b : List Key), PyData.eqv (.tuple (a.map keyD)) (.tuple (b.map keyD)) = decide (a = b) := by
  have go : ∀ (a b : List Key), PyData.eqvAll (a.map keyD) (b.map keyD) = decide (a = b) := by
    intro a
    induction a with
    | nil => intro b; cases b <;> simp [PyData.eqvAll]
    | cons x a ih =>
      intro b
      cases b with
      | nil => simp [PyData.eqvAll]
      | cons y b =>
        simp only [List.map_cons, PyData.eqvAll, eqv_key, ih]
        rw [Bool.eq_iff_iff]; simp
  intro a b
  rw [← go]
  simp [PyData.eqv]
section
variable {K : PySem.W.Frag} {H : Hp}
theorem RA.key_inv : ∀ {ks : List Key} {xs : List V}, RA K H xs (ks.map keyD) → xs = ks.map kV
  | [], _, .nil => rfl
  | k :: ks, _, .cons h t => by
    rw [RA.key_inv t, List.map_cons]
    cases k with
    | inl i => rw [h.int']; rfl
    | inr x => rw [h.str']; rfl
theorem key_is {y : V} {k : D} (h : R K H y k) (hk : (keyK k).isSome = true) : (∃ kk : Key, k = keyD kk ∧ y = kV kk ∧ isT k = false) ∨ ∃ (ks : List Key) (b : Addr), k = .tuple (ks.map keyD) ∧ y = .ref b ∧ H b = some (.tup (ks.map kV)) ∧ isT k = true := by
  cases k with
  | int i => exact .inl ⟨.inl i, rfl, h.int', rfl⟩
  | str x => exact .inl ⟨.inr x, rfl, h.str', rfl⟩
  | tuple ds =>
    have hk : ((keysOf ds).map Sum.inr : Option (Key ⊕ List Key)).isSome = true := hk
    cases e : keysOf ds with
    | none => rw [e] at hk; cases hk
    | some ks =>
      have e := keysOf_some e
      subst e
      cases h with
      | tup h1 h2 =>
        have := h2.key_inv
        subst this
        exact .inr ⟨ks, _, rfl, rfl, h1, rfl⟩
  | none => simp [keyK, keyOf] at hk
  | bool b => simp [keyK, keyOf] at hk
  | list ds => simp [keyK, keyOf] at hk
  | dict es => simp [keyK, keyOf] at hk
theorem RK.find : ∀ {kvs : List (Key × V)} {es : List (D × D)} (k : Key), RK K H kvs es → (valV kvs k = none ∧ dFind es (keyD k) = none) ∨ ∃ v d, valV kvs k = some v ∧ dFind es (keyD k) = some d ∧ R K H v d
  | _, _, k, .nil => .inl ⟨rfl, rfl⟩
  | (a, v) :: kvs, _, k, .cons (d := d) (ds := es) h t => by
    by_cases e : a = k
    · refine .inr ⟨v, d, valV_pos e, ?_, h⟩
      unfold dFind
      rw [List.find?_cons_of_pos (by rw [eqv_key]; exact decide_eq_true e)]
      rfl
    · rw [valV_neg e]
      have : dFind ((keyD a, d) :: es) (keyD k) = dFind es (keyD k) := by
        unfold dFind
        rw [List.find?_cons_of_neg (by rw [eqv_key]; simpa using e)]
      rw [this]
      exact RK.find k t
theorem RT.find : ∀ {kvs : List (List Key × V)} {es : List (D × D)} (k : List Key), RT K H kvs es → (valV kvs k = none ∧ dFind es (.tuple (k.map keyD)) = none) ∨ ∃ v d, valV kvs k = some v ∧ dFind es (.tuple (k.map keyD)) = some d ∧ R K H v d
  | _, _, k, .nil => .inl ⟨rfl, rfl⟩
  | (a, v) :: kvs, _, k, .cons (d := d) (ds := es) h t => by
    by_cases e : a = k
    · refine .inr ⟨v, d, valV_pos e, ?_, h⟩
      unfold dFind
      rw [List.find?_cons_of_pos (by rw [eqv_keys]; exact decide_eq_true e)]
      rfl
    · rw [valV_neg e]
      have : dFind ((.tuple (a.map keyD), d) :: es) (.tuple (k.map keyD)) = dFind es (.tuple (k.map keyD)) := by
        unfold dFind
        rw [List.find?_cons_of_neg (by rw [eqv_keys]; simpa using e)]
      rw [this]
      exact RT.find k t
theorem RK.head {kvs : List (Key × V)} {p : D × D} {es : List (D × D)} (h : RK K H kvs (p :: es)) : isT p.1 = false := by
  cases h with
  | @cons k _ _ _ _ _ _ => cases k <;> rfl
theorem RT.head {kvs : List (List Key × V)} {p : D × D} {es : List (D × D)} (h : RT K H kvs (p :: es)) : isT p.1 = true := by
  cases h with
  | cons _ _ => rfl
theorem RK.nil_inv {kvs : List (Key × V)} (h : RK K H kvs []) : kvs = [] := by cases h; rfl
theorem RT.nil_inv {kvs : List (List Key × V)} (h : RT K H kvs []) : kvs = [] := by cases h; rfl
theorem dict_open {v : V} {es : List (D × D)} (hn : ∀ k r, es = k :: r → noneD k.1 = false) (h : R K H v (.dict es)) : ∃ a, v = .ref a ∧ ((∃ kvs, Rd H a (.dK kvs) ∧ RK K H kvs es) ∨ ∃ kvs, Rd H a (.dT kvs) ∧ RT K H kvs es) := by
  cases h with
  | frz _ _ => exact absurd (hn _ _ rfl) (by simp [noneD])
  | rng _ => exact absurd (hn _ _ rfl) (by simp [noneD])
  | dk h1 h2 => exact ⟨_, rfl, .inl ⟨_, h1, h2⟩⟩
  | dt h1 h2 => exact ⟨_, rfl, .inr ⟨_, h1, h2⟩⟩
theorem kind_none {es : List (D × D)} {k : D} (h : kindOk es k = true) : (keyK k).isSome = true ∧ (∀ p r, es = p :: r → noneD p.1 = false) ∧ ∀ p r, es = p :: r → isT p.1 = isT k := by
  cases es with
  | nil => exact ⟨h, fun _ _ e => (by cases e), fun _ _ e => (by cases e)⟩
  | cons p es =>
    simp only [kindOk, Bool.and_eq_true, Bool.not_eq_true', beq_iff_eq] at h
    exact ⟨h.1.1, fun _ _ e => (by cases e; exact h.1.2), fun _ _ e => (by cases e; exact h.2)⟩
end
def DGet' (H : Hp) (a : Addr) (y : V) (o : Option V) : Prop := DGet H a y o ∨ (o = none ∧ ((Rd H a (.dK []) ∧ ∃ (ks : List Key) (b : Addr), y = .ref b ∧ H b = some (.tup (ks.map kV))) ∨ (Rd H a (.dT []) ∧ ∃ kk : Key, y = kV kk)))
section
variable {K : PySem.W.Frag} {H : Hp}
theorem get_ok {v y : V} {es : List (D × D)} {k : D} (hv : R K H v (.dict es)) (hy : R K H y k) (hk : kindOk es k = true) : ∃ a o, v = .ref a ∧ DGet' H a y o ∧ o.isSome = (dFind es k).isSome ∧ ∀ d, dFind es k = some d → ∃ z, o = some z ∧ R K H z d ∧ DGet H a y o := by
  obtain ⟨k1, k2, k3⟩ := kind_none hk
  obtain ⟨a, rfl, h⟩ := dict_open k2 hv
  rcases key_is hy k1 with ⟨kk, rfl, rfl, ht⟩ | ⟨ks, b, rfl, rfl, hb, ht⟩
  · rcases h with ⟨kvs, h1, h2⟩ | ⟨kvs, h1, h2⟩
    · have g : DGet H a (kV kk) (valV kvs kk) := .inl ⟨kvs, kk, h1, rfl, rfl⟩
      rcases h2.find kk with ⟨e1, e2⟩ | ⟨z, d, e1, e2, r⟩
      · exact ⟨a, _, rfl, .inl g, by rw [e1, e2]; rfl, fun d e => by rw [e2] at e; cases e⟩
      · exact ⟨a, _, rfl, .inl g, by rw [e1, e2]; rfl, fun d' e => by rw [e2] at e; cases e; exact ⟨z, e1, r, g⟩⟩
    · cases es with
      | nil =>
        have := h2.nil_inv
        subst this
        exact ⟨a, none, rfl, .inr ⟨rfl, .inr ⟨h1, kk, rfl⟩⟩, rfl, fun d e => by cases e⟩
      | cons p es =>
        have := h2.head
        rw [k3 _ _ rfl, ht] at this
        cases this
  · rcases h with ⟨kvs, h1, h2⟩ | ⟨kvs, h1, h2⟩
    · cases es with
      | nil =>
        have := h2.nil_inv
        subst this
        exact ⟨a, none, rfl, .inr ⟨rfl, .inl ⟨h1, ks, b, rfl, hb⟩⟩, rfl, fun d e => by cases e⟩
      | cons p es =>
        have := h2.head
        rw [k3 _ _ rfl, ht] at this
        cases this
    · have g : DGet H a (.ref b) (valV kvs ks) := .inr ⟨kvs, ks, b, h1, rfl, hb, rfl⟩
      rcases h2.find ks with ⟨e1, e2⟩ | ⟨z, d, e1, e2, r⟩
      · exact ⟨a, _, rfl, .inl g, by rw [e1, e2]; rfl, fun d e => by rw [e2] at e; cases e⟩
      · exact ⟨a, _, rfl, .inl g, by rw [e1, e2]; rfl, fun d' e => by rw [e2] at e; cases e; exact ⟨z, e1, r, g⟩⟩
end
section
variable {P : Program} {w : World} {H : Hp} {h : Heap} {a : Addr}
theorem nil_K_T (ok : HOk P w H h) (e : Rd H a (.dK [])) : (a == sysModules) = false ∧ h.DictOfH (tupleKind (mixKind P w)) a [] := by
  obtain ⟨_, hd, vs, rel, o, es, ep, h1, h2, h3, _, pr, _⟩ := dk_rd ok e
  cases rel
  have : es.toList = [] := by
    cases q : es.toList with
    | nil => rfl
    | cons x xs => rw [q] at pr; exact absurd pr.length (by simp)
  exact ⟨hd, o, es, ep, h1, h2, h3, by rw [this]; rfl, (fun x hx => by simp at hx), List.nodup_nil⟩
theorem nil_T_K (ok : HOk P w H h) (e : Rd H a (.dT [])) : (a == sysModules) = false ∧ h.DictOf (mixKind P w) a [] := by
  obtain ⟨_, hd, xs, rel, o, es, ep, h1, h2, h3, h4, _, _⟩ := dt_rd ok e
  cases rel
  have h5 : es = #[] := by
    apply Array.ext'
    simpa using h4
  subst h5
  refine ⟨hd, o, #[], ep, h1, h2, h3, ?_, ?_, List.nodup_nil⟩
  · intro en hen
    simp at hen
  · first | exact .nil | trivial | exact List.Forall₂.nil
end
end DS
end
section
set_option Elab.async false
set_option linter.all false
set_option maxRecDepth 100000
namespace DS
open PySem PySem.Spec PyProof.Rows L2
variable [Tbls]
section
variable {X : Cx} {K : PySem.W.Frag} {κ : Mo}
def rNotInDk : R2 := fun x y H Q => ∃ a o, y = .ref a ∧ DGet' H a x o ∧ Q (.bl (!o.isSome)) H
theorem op_notInDk (hu : X.A.units + 1 < cLine) : OpR X (compareOp .NotIn) rNotInDk := by
  intro pins s σ H x y v u Q I rx ry h
  obtain ⟨a, o, rfl, g, q⟩ := h
  obtain rfl : u = Value.ref a := ry
  rcases g with g | ⟨rfl, g⟩
  · exact d_notIn hu I g rx fun s3 I3 => ⟨.bl (!o.isSome), H, I3, rfl, q⟩
  · rcases g with ⟨e, ks, b, rfl, hb⟩ | ⟨e, kk, rfl⟩
    · cases (show v = Value.ref b from rx)
      obtain ⟨hd, dd⟩ := nil_K_T I.hok e
      exact wpAny_notIn_heap (tupleKind_room_in1 hu) (key_of I.hok hb) hd dd ⟨.bl true, H, I.tok _, rfl, q⟩
    · obtain ⟨hd, dd⟩ := nil_T_K I.hok e
      exact wpAny_notIn_of (kV_is rx) hd dd.mapOf ⟨.bl true, H, I.tok _, rfl, q⟩
theorem oc_notInDk : OpC K rNotInDk dNotInD := by
  intro x y dx dy b H Q rx ry h q
  unfold dNotInD at h
  obtain ⟨b', h1, h2⟩ := o1_some h
  cases (Option.some.inj h2)
  unfold dInD at h1
  split at h1
  · rename_i es
    obtain ⟨hk, rfl⟩ := ite_some h1
    obtain ⟨a, o, rfl, g, e, _⟩ := get_ok ry rx hk
    exact ⟨a, o, rfl, g, by rw [e]; exact q⟩
  · cases h1
theorem qe_dget {a b : Expr} {fa fb : FE} {ca cb : Esc} {pos : Pos} {m : Nat} (hu : X.A.units + 1 < cLine) (ha : PE X a (tD K (.br 1) fa ca)) (hb : PE X b (tD K (.br 1) fb cb)) (hs : NoSl b) (hX : X.K = K := by rfl) :
    PE X (.Subscript a b pos) (tD K (.br m) (eOp dGetD fa fb) ca) := (pe_dget hu ha hb hs).imp fun σ H Q ⟨B, L, ρ, d, g, es, hf, q⟩ => by
  obtain ⟨dx, dy, h1, h2, h3⟩ := o2_some hf
  refine ⟨B, L, ρ, dx, g, es, h1, fun x H1 s1 p1 => ⟨[], _, ρ, dy, (g.mono s1).zero, .zero, h2, fun y H2 s2 p2 => ?_⟩⟩
  have p1 : RL K B H2 1 x dx := RL.mono s2 (same_hid s2) p1
  unfold dGetD at h3
  split at h3
  · rename_i es' _
    obtain ⟨hk, hd⟩ : kindOk es' dy = true ∧ dFind es' dy = some d := by
      split at h3
      · rename_i hk; exact ⟨hk, h3⟩
      · cases h3
    obtain ⟨a, o, rfl, g1, e, hz⟩ := get_ok p1.open (RL.r0 p2) hk
    obtain ⟨z, rfl, rz, g2⟩ := hz d hd
    refine ⟨a, z, rfl, g2, ?_⟩
    refine q z H2 (s1.trans s2) ?_
    obtain ⟨k1, k2, k3⟩ := kind_none hk
    have hv : ∃ a', V.ref a = .ref a' ∧ ((∃ kvs, Rd H2 a' (.dK kvs) ∧ RK K (hid B H2) kvs es') ∨ ∃ kvs, Rd H2 a' (.dT kvs) ∧ RT K (hid B H2) kvs es') := by
      cases p1 with
      | z r =>
        obtain ⟨a', e', h⟩ := dict_open k2 r
        refine ⟨a', e', ?_⟩
        rcases h with ⟨kvs, h1, h2⟩ | ⟨kvs, h1, h2⟩
        · exact .inl ⟨kvs, rd_mono same_unhid h1, h2⟩
        · exact .inr ⟨kvs, rd_mono same_unhid h1, h2⟩
      | dk h1 h2 => exact ⟨_, rfl, .inl ⟨_, .inl h1, h2⟩⟩
      | dt h1 h2 => exact ⟨_, rfl, .inr ⟨_, .inl h1, h2⟩⟩
    obtain ⟨a', e', hv⟩ := hv
    cases e'
    have one : ∀ {u w : HO}, IsDk u → IsDk w → Rd H2 a u → Rd H2 a w → u = w := fun {u w} hu hw h h' => by
      rcases h with h | ⟨o, h⟩ <;> rcases h' with h' | ⟨o', h'⟩ <;> rw [h] at h' <;> cases h'
      · rfl
      · exact hu.elim
      · exact hw.elim
      · rfl
    rcases g2 with ⟨kvs, kk, e1, e2, e3⟩ | ⟨kvs, ks, b, e1, e2, e3, e4⟩
    · rcases hv with ⟨kvs', w1, w2⟩ | ⟨kvs', w1, w2⟩
      · cases one (u := .dK kvs) (w := .dK kvs') True.intro True.intro e1 w1
        subst e2
        rcases key_is (RL.r0 p2) k1 with ⟨kk', rfl, hy, _⟩ | ⟨ks, b, rfl, hy, _, _⟩
        · cases kV_inj hy
          rcases w2.find kk with ⟨f1, f2⟩ | ⟨z', d', f1, f2, r⟩
          · rw [f1] at e3; cases e3
          · rw [f1] at e3; cases e3
            rw [hd] at f2; cases f2
            exact .z r
        · cases kk <;> cases hy
      · have := one (u := .dK kvs) (w := .dT kvs') True.intro True.intro e1 w1
        cases this
    · rcases hv with ⟨kvs', w1, w2⟩ | ⟨kvs', w1, w2⟩
      · have := one (u := .dT kvs) (w := .dK kvs') True.intro True.intro e1 w1
        cases this
      · cases one (u := .dT kvs) (w := .dT kvs') True.intro True.intro e1 w1
        subst e2
        rcases key_is (RL.r0 p2) k1 with ⟨kk', rfl, hy, _⟩ | ⟨ks', b', rfl, hy, hb', _⟩
        · cases kk' <;> cases hy
        · cases hy
          rw [e3] at hb'
          have ek : ks = ks' := kVs_inj (HO.tup.inj (Option.some.inj hb'))
          subst ek
          rcases w2.find ks with ⟨f1, f2⟩ | ⟨z', d', f1, f2, r⟩
          · rw [f1] at e4; cases e4
          · rw [f1] at e4; cases e4
            rw [hd] at f2; cases f2
            exact .z r
  · cases h3
theorem qe_lcD (i : Nat) {elt tg : Expr} {x : Str} {p : Pos} {ifs : List Expr} {scope : Scope} {own : List (Str × Nat)} {pos : Pos} {ce : Esc} {t : Tg} {ft : FT} {fe : FE} (hc : X.calm = true) (hN : X.N.Nodup) (hx : PE X (.Name x p) (tVar i)) (ok : BlkOk X.N X.env.scope scope own)
    (hg : ∀ (s : Shared) (H : Hp) (C : Addr) (cl : List (Str × Addr)) (fp : List Addr), PG (X.blk s H scope (compEnvC scope cl C X.env) fp) tg (tG K t)) (ht : ∀ (s : Shared) (H : Hp) (C : Addr) (cl : List (Str × Addr)) (fp : List Addr), PTs (X.blk s H scope (compEnvC scope cl C X.env) fp) ifs (tT K ft))
    (he : ∀ (s : Shared) (H : Hp) (C : Addr) (cl : List (Str × Addr)) (fp : List Addr), PE (X.blk s H scope (compEnvC scope cl C X.env) fp) elt (tD K (.br 0) fe ce)) (hv : t.ix.all ((own.map (·.2)).contains ·) = true := by rfl) (hκ : κ.one = true := by rfl) (hs : ∀ y, foldedSetIterable (.Name x p) X.env y = pure y := by intro _; rfl) :
    PE X (.ListComp elt [⟨tg, .Name x p, ifs, 0⟩] scope pos) (tD K κ (eLc (iDk (eVar i)) t ft fe (own.map (·.2))) ([(i, 0)] ++ ce)) :=
  (PE.either (pe_lock (pe_lc hc hN (pi_keys hx) ok hg ht he hs)) (pe_lc hc hN (pi_keys hx) ok hg ht he hs)).imp fun σ H Q ⟨B, L, ρ, d, g, es, hf, q⟩ => by
    obtain ⟨ds, h1, h2⟩ := o1_some hf
    obtain ⟨dd, h3, h4⟩ := o1_some h1
    obtain ⟨es', rfl, rfl, hn⟩ := keysD_some h4
    have hL : L i ≤ 0 := es.left (i, 0) List.mem_cons_self
    obtain ⟨v, e1, r⟩ := g.slot i _ (eVar_some h3)
    rw [show L i = 0 by omega] at r
    obtain ⟨a, rfl, ha, u, hu, hr, _⟩ := dict_seen g.ok hn r.r
    rcases hr with hr | ⟨od, hr⟩
    · refine .inl ⟨a, u, hr, hu.mut, fun od => ?_⟩
      have g' := g.lock (od := od) ha hr hu
      refine lc_core (m := 1) rfl hv hκ σ _ _ B L ρ d g' es hf (fun w H' s p => ?_) fun ds Rr h1 hR => hti_dict g' hL h1 e1 upd_same Rr hR
      obtain ⟨b1, b2⟩ := same_back s hr hu
      exact ⟨b1, q w _ b2 (Post.unlock ha hr b1 p)⟩
    · exact .inr (lc_core (m := 1) rfl hv hκ σ H Q B L ρ d g es hf q fun ds Rr h1 hR => hti_dict g hL h1 e1 hr Rr hR)
end
end DS
end
section
set_option Elab.async false
set_option linter.all false
set_option maxRecDepth 100000
namespace DS
open PySem PySem.Spec PyProof.Rows L2
variable [Tbls]
section
variable {K : PySem.W.Frag} {H : Hp}
theorem RK.any : ∀ {kvs : List (Key × V)} {es : List (D × D)} (k : Key), RK K H kvs es → (es.any fun p => PyData.eqv p.1 (keyD k)) = kvs.any fun p => decide (p.1 = k)
  | _, _, _, .nil => rfl
  | (a, v) :: kvs, _, k, .cons _ t => by
    rw [List.any_cons, List.any_cons, RK.any k t, eqv_key]
theorem RT.any : ∀ {kvs : List (List Key × V)} {es : List (D × D)} (k : List Key), RT K H kvs es → (es.any fun p => PyData.eqv p.1 (.tuple (k.map keyD))) = kvs.any fun p => decide (p.1 = k)
  | _, _, _, .nil => rfl
  | (a, v) :: kvs, _, k, .cons _ t => by
    rw [List.any_cons, List.any_cons, RT.any k t, eqv_keys]
theorem RK.map {z : V} {d : D} (r : R K H z d) (k : Key) : ∀ {kvs : List (Key × V)} {es : List (D × D)}, RK K H kvs es → RK K H (kvs.map fun p => if p.1 = k then (p.1, z) else p) (es.map fun p => if PyData.eqv p.1 (keyD k) = true then (p.1, d) else p)
  | _, _, .nil => .nil
  | (a, v) :: kvs, _, .cons (d := e) h t => by
    rw [List.map_cons, List.map_cons]
    by_cases q : a = k
    · rw [if_pos q, if_pos (by rw [eqv_key]; exact decide_eq_true q)]
      exact .cons r (RK.map r k t)
    · rw [if_neg q, if_neg (by rw [eqv_key]; simpa using q)]
      exact .cons h (RK.map r k t)
theorem RT.map {z : V} {d : D} (r : R K H z d) (k : List Key) : ∀ {kvs : List (List Key × V)} {es : List (D × D)}, RT K H kvs es → RT K H (kvs.map fun p => if p.1 = k then (p.1, z) else p) (es.map fun p => if PyData.eqv p.1 (.tuple (k.map keyD)) = true then (p.1, d) else p)
  | _, _, .nil => .nil
  | (a, v) :: kvs, _, .cons (d := e) h t => by
    rw [List.map_cons, List.map_cons]
    by_cases q : a = k
    · rw [if_pos q, if_pos (by rw [eqv_keys]; exact decide_eq_true q)]
      exact .cons r (RT.map r k t)
    · rw [if_neg q, if_neg (by rw [eqv_keys]; simpa using q)]
      exact .cons h (RT.map r k t)
theorem RK.snoc {z : V} {d : D} (r : R K H z d) (k : Key) : ∀ {kvs : List (Key × V)} {es : List (D × D)}, RK K H kvs es → RK K H (kvs ++ [(k, z)]) (es ++ [(keyD k, d)])
  | _, _, .nil => .cons r .nil
  | _, _, .cons h t => .cons h (RK.snoc r k t)
theorem RT.snoc {z : V} {d : D} (r : R K H z d) (k : List Key) : ∀ {kvs : List (List Key × V)} {es : List (D × D)}, RT K H kvs es → RT K H (kvs ++ [(k, z)]) (es ++ [(.tuple (k.map keyD), d)])
  | _, _, .nil => .cons r .nil
  | _, _, .cons h t => .cons h (RT.snoc r k t)
theorem RK.put {z : V} {d : D} {kvs : List (Key × V)} {es : List (D × D)} (h : RK K H kvs es) (r : R K H z d) (k : Key) : RK K H (putK kvs k z) (putD es (keyD k) d) := by
  unfold putK putD
  rw [h.any k]
  split
  · exact h.map r k
  · exact h.snoc r k
theorem RT.put {z : V} {d : D} {kvs : List (List Key × V)} {es : List (D × D)} (h : RT K H kvs es) (r : R K H z d) (k : List Key) : RT K H (putK kvs k z) (putD es (.tuple (k.map keyD)) d) := by
  unfold putK putD
  rw [h.any k]
  split
  · exact h.map r k
  · exact h.snoc r k
theorem RK.length : ∀ {kvs : List (Key × V)} {es : List (D × D)}, RK K H kvs es → kvs.length = es.length
  | _, _, .nil => rfl
  | _, _, .cons _ t => congrArg (· + 1) (RK.length t)
theorem RT.length : ∀ {kvs : List (List Key × V)} {es : List (D × D)}, RT K H kvs es → kvs.length = es.length
  | _, _, .nil => rfl
  | _, _, .cons _ t => congrArg (· + 1) (RT.length t)
def Dk (K : PySem.W.Frag) (H : Hp) (u : HO) (es : List (D × D)) : Prop := (∃ kvs, u = .dK kvs ∧ RK K H kvs es) ∨ ∃ kvs, u = .dT kvs ∧ RT K H kvs es
end
section
variable {K : PySem.W.Frag}
theorem GoodS.writeD {B0 B : List Addr} {G H : Hp} {O : Nat → List Addr} {σ : St} {ρ : PEnv} {L : List Nat} {i : Nat} {es : List (D × D)} (g : GoodS K B0 G O B σ H ρ L) (hd : ρ[i]? = some (some (.dict es))) (hl : lv L i = 1) (ht : isTop (.dict es) = true) :
    ∃ a u, σ[i]? = some (some (.ref a)) ∧ H a = some u ∧ Dk K (hid B H) u es ∧ ∀ u' es', isTop (.dict es') = true → Dk K (hid B H) u' es' → GS K B0 G σ (upd H a u') (ρ.set i (some (.dict es')), L) := by
  obtain ⟨v, h1, h2⟩ := g.slot i _ hd
  rw [hl] at h2
  generalize hoi : O i = oi at h2
  have fin : ∀ {a : Addr} {u : HO}, oi = [a] → v = .ref a → H a = some u → Dk K (hid B H) u es → ∃ a u, σ[i]? = some (some (.ref a)) ∧ H a = some u ∧ Dk K (hid B H) u es ∧ ∀ u' es', isTop (.dict es') = true → Dk K (hid B H) u' es' → GS K B0 G σ (upd H a u') (ρ.set i (some (.dict es')), L) := by
    rintro a u rfl rfl e dk
    have aB : a ∈ B := (g.memB a).mpr (.inr ⟨i, by rw [hoi]; exact List.mem_cons_self⟩)
    refine ⟨a, u, h1, e, dk, fun u' es' ht' r => ?_⟩
    have hm0 : mutO u = true := by
      rcases dk with ⟨_, rfl, _⟩ | ⟨_, rfl, _⟩ <;> rfl
    have hsame : Same (hid B H) (hid B (upd H a u')) := same_hidU aB e hm0
    have hm : mutO u' = true := by
      rcases r with ⟨_, rfl, _⟩ | ⟨_, rfl, _⟩ <;> rfl
    refine ⟨O, B, g.memB, fun b hb => ?_, same_set g.same (g.gO i a (by rw [hoi]; exact List.mem_cons_self)) e hm0, g.g0, g.gO, g.nd, g.dj, by rw [List.length_set, g.len], by rw [List.length_set, g.lenL], fun j d h => ?_, g.tabs.upd e (mut_plain hm0)⟩
    · by_cases hba : b = a
      · rw [hba]; exact ⟨_, upd_same, hm⟩
      · rw [upd_ne hba]; exact g.ok b hb
    · by_cases hj : j = i
      · subst hj
        have hi : j < ρ.length := (List.getElem?_eq_some_iff.mp hd).1
        simp only [List.getElem?_set_self hi] at h
        cases h
        refine ⟨.ref a, h1, ?_⟩
        rw [hoi]
        show RO K B _ (lv L j) _ _ _
        rw [hl]
        rcases r with ⟨kvs, rfl, r⟩ | ⟨kvs, rfl, r⟩
        · exact .dk ht' upd_same (r.mono hsame)
        · exact .dt ht' upd_same (r.mono hsame)
      · simp only [List.getElem?_set_ne (Ne.symm hj)] at h
        obtain ⟨w, h3, h4⟩ := g.slot j d h
        refine ⟨w, h3, h4.mono_aux hsame fun b hb => upd_ne fun z => ?_⟩
        exact g.dj j i hj b hb (by rw [hoi, z]; exact List.mem_cons_self)
  cases h2 with
  | z h _ =>
    rcases h with h | h
    · cases h
    · rw [ht] at h; cases h
  | dk _ e rk => exact fin rfl rfl e (.inl ⟨_, rfl, rk⟩)
  | dt _ e rk => exact fin rfl rfl e (.inr ⟨_, rfl, rk⟩)
end
def rSetD : V → V → V → Hp → (Hp → Prop) → Prop := fun o i v H Q => ∃ a, o = .ref a ∧ ((∃ H', DPut H a i v H' ∧ Q H') ∨ (H a = some (.dK []) ∧ ∃ (ks : List Key) (b : Addr), i = .ref b ∧ H b = some (.tup (ks.map kV)) ∧ Q (upd H a (.dT [(ks, v)]))) ∨ (H a = some (.dT []) ∧ ∃ kk : Key, i = kV kk ∧ Q (upd H a (.dK [(kk, v)]))))
section
variable {X : Cx} {K : PySem.W.Frag} {κ : Mo}
theorem set_dict (hu : X.A.units + 1 < cLine) : PSet X rSetD := by
  intro pins s σ H o i v ov iv u Q I ro ri rv h
  obtain ⟨a, rfl, h⟩ := h
  obtain rfl : ov = Value.ref a := ro
  rcases h with ⟨H', g, q⟩ | ⟨e, ks, b, rfl, hb, q⟩ | ⟨e, kk, rfl, q⟩
  · exact d_setItem hu I g ri rv fun s' I' => ⟨H', I', q⟩
  · cases (show iv = Value.ref b from ri)
    obtain ⟨hd, dd⟩ := nil_K_T I.hok (.inl e)
    refine wpAny_setItem_heap (hsz := by rw [sizeLine_eq]; simp) (tupleKind_room_in1 hu) (key_of I.hok hb) dd fun h' dd' hs => ⟨_, ?_, q⟩
    obtain ⟨q', es, ep, hq, h2, h3, h4, _, h5⟩ := dd'
    have rel : KT (upd H a (.dT [(ks, v)])) [(ks, v)] (storedH [] ks b u) := by
      refine .cons ⟨rfl, ?_, rv⟩ .nil
      rw [upd_ne (ne_of hb e (fun z => nomatch z))]
      exact hb
    exact d_write I (by rw [e]; exact True.intro) hs ⟨q', hq⟩ ⟨by rw [sizeLine_eq]; simp, hd, _, rel, q', es, ep, hq, h2, h3, h4, h5⟩
  · obtain ⟨hd, dd⟩ := nil_T_K I.hok (.inl e)
    refine wpAny_setItem_pairs (hsz := by rw [sizeLine_eq]; simp) (kV_is ri) dd fun h' dd' hs => ⟨_, ?_, q⟩
    have he : ∃ q, h'.get? a = some q := let ⟨q, _, _, hq, _⟩ := dd'; ⟨q, hq⟩
    exact d_write I (by rw [e]; exact True.intro) hs he (dk_new (by rw [sizeLine_eq]; simp) hd (KV.put .nil kk rv) dd')
def sPutD (i : Nat) (j f : FE) : FS := fun s => match f s.1, eVar i s.1, j s.1 with
  | some d, some (.dict es), some k => if (flat d && kindOk es k && decide (es.length < sz) && decide (lv s.2 i = 1)) = true then .next (s.1.set i (some (.dict (putD es k d))), s.2) else .stuck
  | _, _, _ => .stuck
theorem putD_top {es : List (D × D)} {k d : D} (hk : kindOk es k = true) : isTop (.dict (putD es k d)) = true := by
  obtain ⟨k1, k2, k3⟩ := kind_none hk
  have top : ∀ l : List (D × D), (∀ p r, l = p :: r → noneD p.1 = false) → isTop (.dict l) = true := fun l h => by
    cases l with
    | nil => rfl
    | cons p r =>
      obtain ⟨a, b⟩ := p
      have := h _ _ rfl
      cases a <;> first | rfl | simp [noneD] at this
  have hkn : noneD k = false := by cases k <;> simp [keyK, keyOf, noneD] at k1 ⊢
  refine top _ fun p r e => ?_
  unfold putD at e
  split at e
  · cases es with
    | nil => cases e
    | cons q es =>
      rw [List.map_cons] at e
      have := k2 _ _ rfl
      injection e with e1 e2
      rw [← e1]
      split <;> exact this
  · cases es with
    | nil => injection e with e1 e2; rw [← e1]; exact hkn
    | cons q es =>
      injection e with e1 e2
      rw [← e1]
      exact k2 _ _ rfl
theorem dict_top {es : List (D × D)} {k : D} (hk : kindOk es k = true) : isTop (.dict es) = true := by
  obtain ⟨k1, k2, k3⟩ := kind_none hk
  cases es with
  | nil => rfl
  | cons p r =>
    obtain ⟨a, b⟩ := p
    have := k2 _ _ rfl
    cases a <;> first | rfl | simp [noneD] at this
theorem putD_ok {i : Nat} {j f : FE} {c cj : Esc} : ∀ E σ H, tS K (sPutD i j f) E σ H → tAsg (tD K (.br 0) f c) (gSub (tVar i) (tD K (.br 1) j cj) rSetD) E σ H := fun E σ H ⟨B0, G, s, hs, q⟩ => by
  unfold sPutD at q
  split at q
  · rename_i d es k hd hi hk
    have hi := eVar_some hi
    split at q
    · rename_i hc
      simp only [Bool.and_eq_true, decide_eq_true_eq] at hc
      obtain ⟨⟨⟨hfl, hkd⟩, hz⟩, hl⟩ := hc
      obtain ⟨k1, k2, k3⟩ := kind_none hkd
      obtain ⟨O, B, g⟩ := hs
      refine ⟨[], _, s.1, d, g.good.zero, .zero, hd, fun v H1 s1 p1 => ?_⟩
      obtain ⟨a, u, h1, h2, h3, _⟩ := (g.mono s1).writeD hi hl (dict_top hkd)
      refine ⟨.ref a, h1, [], _, s.1, _, (g.mono s1).good.zero, .zero, hk, fun w H2 s2 p2 => ?_⟩
      obtain ⟨a', u', h1', h2', h3', h4'⟩ := ((g.mono s1).mono s2).writeD hi hl (dict_top hkd)
      rw [h1] at h1'
      cases h1'
      have rv := ((RL.r0 p1).mono s2).hidF (((g.ok.mono s1).mono s2).noTup) hfl
      have hz' : es.length < sizeLine := by rw [sz_eq]; exact hz
      refine ⟨a, rfl, ?_⟩
      rcases key_is (RL.r0 p2) k1 with ⟨kk, rfl, rfl, ht⟩ | ⟨ks, b, rfl, rfl, hb, ht⟩
      · rcases h3' with ⟨kvs, rfl, rk⟩ | ⟨kvs, rfl, rk⟩
        · exact .inl ⟨_, .inl ⟨kvs, kk, h2', rfl, by rw [rk.length]; exact hz', rfl⟩, q _ _ (h4' _ _ (putD_top hkd) (.inl ⟨_, rfl, rk.put rv kk⟩))⟩
        · cases es with
          | nil =>
            have := rk.nil_inv
            subst this
            exact .inr (.inr ⟨h2', kk, rfl, q _ _ (h4' _ _ (putD_top hkd) (.inl ⟨_, rfl, .cons rv .nil⟩))⟩)
          | cons p r =>
            have := rk.head
            rw [k3 _ _ rfl, ht] at this
            cases this
      · rcases h3' with ⟨kvs, rfl, rk⟩ | ⟨kvs, rfl, rk⟩
        · cases es with
          | nil =>
            have := rk.nil_inv
            subst this
            exact .inr (.inl ⟨h2', ks, b, rfl, hb, q _ _ (h4' _ _ (putD_top hkd) (.inr ⟨_, rfl, .cons rv .nil⟩))⟩)
          | cons p r =>
            have := rk.head
            rw [k3 _ _ rfl, ht] at this
            cases this
        · exact .inl ⟨_, .inr ⟨kvs, ks, b, h2', rfl, hb, by rw [rk.length]; exact hz', rfl⟩, q _ _ (h4' _ _ (putD_top hkd) (.inr ⟨_, rfl, rk.put rv ks⟩))⟩
    · exact q.elim
  · exact q.elim
theorem ss_putD (i : Nat) {x : Str} {e ix : Expr} {j f : FE} {c cj : Esc} {pos p p2 : Pos} (ps : PS X (.Assign [.Subscript (.Name x p) ix p2] e pos) (tAsg (tD K (.br 0) f c) (gSub (tVar i) (tD K (.br 1) j cj) rSetD))) :
    PS X (.Assign [.Subscript (.Name x p) ix p2] e pos) (tS K (sPutD i j f)) := ps.imp putD_ok
theorem Post.newD {B : List Addr} {H0 H' : Hp} {p : Addr} {u : HO} {es : List (D × D)} (t : Trk B H0) (hn : H0 p = none) (h : H' p = some u) (ht : isTop (.dict es) = true) (r : Dk K (hid (p :: B) H') u es) (hκ : κ.one = true) : Post K B H0 H' κ (.ref p) (.dict es) := by
  have f : Post K B H0 H' .fr (.ref p) (.dict es) := by
    refine ⟨[p], by simpa using hn, by simp, ?_⟩
    rcases r with ⟨kvs, rfl, r⟩ | ⟨kvs, rfl, r⟩
    · exact .dk ht h r
    · exact .dt ht h r
  cases κ with
  | br m => exact f.weak t
  | fr => exact f
  | fr2 => cases hκ
def eD0 : FE := fun _ => some (.dict [])
theorem qe_d0 {pos : Pos} (hκ : κ.one = true := by rfl) : PE X (.Dict [] [] pos) (tD K κ eD0 []) := (pe_dnewK).imp fun σ H Q ⟨B, L, ρ, d, g, es, hf, q⟩ => fun p hp => by
  cases (Option.some.inj hf)
  exact q _ _ (same_upd hp) (Post.newD g.ok.trk hp upd_same rfl (.inl ⟨[], rfl, .nil⟩) hκ)
def tDisp1 (tk tv : TE) : TE := fun σ H Q => ∀ p, H p = none → tPairs [(tk, tv)] σ (upd H p (.dK [])) fun ps H2 => H2 p = some (.dK []) ∧ ∃ x y, ps = [(x, y)] ∧ ((∃ kk : Key, x = kV kk ∧ Q (.ref p) (upd H2 p (.dK [(kk, y)]))) ∨ ∃ (ks : List Key) (b : Addr), x = .ref b ∧ H2 b = some (.tup (ks.map kV)) ∧ Q (.ref p) (upd H2 p (.dT [(ks, y)])))
theorem pe_disp1 {k v : Expr} {tk tv : TE} {pos : Pos} (hu : X.A.units + 1 < cLine) (hk : PE X k tk) (hv : PE X v tv) : PE X (.Dict [some k] [v] pos) (tDisp1 tk tv) := by
  refine ⟨fun pins s σ H Q I q => ?_⟩
  have hn := I.hok.fresh (Nat.le_refl s.heap.objs.size)
  have I1 := I.laid (a := s.heap.objs.size) (o := .dK []) (h' := s.heap.push { cls := .type "dict", data := .dict #[] }) (t' := s.toks) (fun _ _ q => Heap.get?_push_of_some _ q) (Nat.le_refl _) (dk_empty s.heap I.big)
  refine wpAny_Dict_any rfl rfl (by simp) (by simp) (thn ((pps_cons (pos := pos) hk hv (pps_nil (X := X) (pos := pos))).run pins _ σ _ _ I1 (q _ hn)) fun ws s2 ⟨ps, H2, I2, rel, e, x, y, ep, h⟩ => ?_)
  subst ep
  obtain ⟨u, w, rfl, ru, rw'⟩ : ∃ u w, ws = [(u, w)] ∧ L2.RelV x u ∧ L2.RelV y w := by
    cases rel with
    | cons r0 r1 => cases r1; exact ⟨_, _, rfl, r0.1, r0.2⟩
  rcases h with ⟨kk, rfl, q2⟩ | ⟨ks, b, rfl, hb, q2⟩
  · obtain ⟨z, hd, vs0, r0, dd⟩ := dk_of I2.hok e
    cases r0
    refine wpAny_storeAll (knd := mixKind X.prog X.w) [(u, w)] [(kk, w)] [] s2 _ ⟨kV_is ru, rfl, True.intro⟩ dd (by rw [sizeLine_eq]; simp) fun h' dd' hs => ⟨.ref s.heap.objs.size, _, ?_, show L2.RelV (.ref _) _ from rfl, q2⟩
    have he : ∃ q, h'.get? s.heap.objs.size = some q := let ⟨q, _, _, hq, _⟩ := dd'; ⟨q, hq⟩
    exact d_write I2 (by rw [e]; exact True.intro) hs he (dk_new (by rw [sizeLine_eq]; simp) hd (KV.put .nil kk rw') dd')
  · cases (show u = Value.ref b from ru)
    obtain ⟨hd, dd⟩ := nil_K_T I2.hok (.inl e)
    show wpAny _ _ (forIn [(Value.ref b, w)] PUnit.unit _) _ _ _
    rw [List.forIn_cons]
    refine wpAny_bind (wpAny_bind (wpAny_dictSet_heap (knd := tupleKind (mixKind X.prog X.w)) (hsz := by rw [sizeLine_eq]; simp) (show X.A.units < cLine by omega) (key_of I2.hok hb) dd fun h' dd' hs => wpAny_pure ?_))
    show wpAny _ _ (forIn ([] : List (Value × Value)) PUnit.unit _) _ _ _
    rw [List.forIn_nil]
    refine wpAny_pure ⟨.ref s.heap.objs.size, _, ?_, show L2.RelV (.ref _) _ from rfl, q2⟩
    obtain ⟨q', es, ep, hq, h2, h3, h4, _, h5⟩ := dd'
    have rel : KT (upd H2 s.heap.objs.size (.dT [(ks, y)])) [(ks, y)] (storedH [] ks b w) := by
      refine .cons ⟨rfl, ?_, rw'⟩ .nil
      rw [upd_ne (ne_of hb e (fun z => nomatch z))]
      exact hb
    exact d_write I2 (by rw [e]; exact True.intro) hs ⟨q', hq⟩ ⟨by rw [sizeLine_eq]; simp, hd, _, rel, q', es, ep, hq, h2, h3, h4, h5⟩
def dD1 (k v : D) : Option D := if ((keyK k).isSome && flat v) = true then some (.dict [(k, v)]) else none
theorem qe_d1 {k v : Expr} {fk fv : FE} {ck cv : Esc} {pos : Pos} (hu : X.A.units + 1 < cLine) (hk : PE X k (tD K (.br 1) fk ck)) (hv : PE X v (tD K (.br 1) fv cv)) (hκ : κ.one = true := by rfl) : PE X (.Dict [some k] [v] pos) (tD K κ (eOp dD1 fk fv) []) := (pe_disp1 hu hk hv).imp fun σ H Q ⟨B, L, ρ, d, g, es, hf, q⟩ => fun p hp => by
  obtain ⟨dx, dy, h1, h2, h3⟩ := o2_some hf
  obtain ⟨hc, rfl⟩ := ite_some h3
  simp only [Bool.and_eq_true] at hc
  have s0 : Same H (upd H p (.dK [])) := same_upd hp
  refine ⟨[], _, ρ, dx, (g.mono s0).zero, .zero, h1, fun x H1 s1 p1 => ?_⟩
  refine ⟨[], _, ρ, dy, ((g.mono s0).mono s1).zero, .zero, h2, fun y H2 s2 p2 => ?_⟩
  have e2 : H2 p = some (.dK []) := s2 _ _ (s1 _ _ upd_same)
  have rx : R K H2 x dx := (RL.r0 p1).mono s2
  have ry : R K H2 y dy := RL.r0 p2
  have top : isTop (.dict [(dx, dy)]) = true := by
    have := hc.1
    cases dx <;> first | rfl | simp [keyK, keyOf] at this
  have s02 : Same H H2 := (s0.trans s1).trans s2
  have ok2 : Ok (p :: B) H2 := (g.ok.mono s02).cons e2 rfl
  have hp2 : ∀ u, Same (hid (p :: B) H2) (hid (p :: B) (upd H2 p u)) := fun u => same_hidU List.mem_cons_self e2 rfl
  have hs : ∀ u, Same H (upd H2 p u) := fun u => same_set s02 hp e2 rfl
  have ry' : ∀ u, R K (hid (p :: B) (upd H2 p u)) y dy := fun u => (R.hidF ok2.noTup ry hc.2).mono (hp2 u)
  refine ⟨e2, x, y, rfl, ?_⟩
  rcases key_is rx hc.1 with ⟨kk, rfl, rfl, _⟩ | ⟨ks, b, rfl, rfl, hb, _⟩
  · exact .inl ⟨kk, rfl, q _ _ (hs _) (Post.newD g.ok.trk hp upd_same top (.inl ⟨_, rfl, .cons (ry' _) .nil⟩) hκ)⟩
  · exact .inr ⟨ks, b, rfl, hb, q _ _ (hs _) (Post.newD g.ok.trk hp upd_same top (.inr ⟨_, rfl, .cons (ry' _) .nil⟩) hκ)⟩
end
end DS
end
section
set_option Elab.async false
set_option linter.all false
set_option maxRecDepth 100000
namespace DS
open PySem PySem.Spec PyProof.Rows L2
variable [Tbls]
section
variable {X : Cx} {K : PySem.W.Frag} {κ : Mo}
end
end DS
end
section
set_option Elab.async false
set_option linter.all false
set_option maxRecDepth 100000
set_option maxHeartbeats 1000000
namespace DS
open PySem PySem.Spec PyProof.Rows L2
variable [Tbls]
section
variable {X : Cx} {K : PySem.W.Frag} {κ : Mo} {a b : Expr} {fa fb : FE} {ca cb : Esc} {pos : Pos}
end
def sParFF (i j : Nat) (f g : FE) (c : Esc) : FS := fun s => match f s.1, g s.1 with
  | some d, some e => .next ((s.1.set i (some d)).set j (some e), ((demote c s.2).set i 1).set j 1)
  | _, _ => .stuck
section
variable {X : Cx} {K : PySem.W.Frag}
end
end DS
end
section
set_option Elab.async false
set_option linter.all false
set_option maxRecDepth 100000
set_option maxHeartbeats 1000000
namespace DS
open PySem PySem.Spec PyProof.Rows L2
variable [Tbls]
section
variable {K : PySem.W.Frag} {B B' : List Addr} {H H' : Hp}
theorem ROA.mono_aux (eh : Same (hid B H) (hid B' H')) {l : Nat} : ∀ {xs : List V} {os : List (List Addr)} {ds : List D}, ROA K B H l os xs ds → (∀ a ∈ os.flatten, H' a = H a) → ROA K B' H' l os xs ds
  | [], _, _, h, _ => by cases h; exact .nil
  | x :: xs, _, _, h, hb => by
    cases h with
    | @cons _ o os v d vs ds hr t =>
      exact .cons (hr.mono_aux eh fun a q => hb a (by rw [List.flatten_cons]; exact List.mem_append_left _ q)) (ROA.mono_aux eh t fun a q => hb a (by rw [List.flatten_cons]; exact List.mem_append_right _ q))
theorem ROA.append {l : Nat} : ∀ {xs : List V} {os : List (List Addr)} {ds : List D} {o : List Addr} {v : V} {d : D}, ROA K B H l os xs ds → RO K B H l o v d → ROA K B H l (os ++ [o]) (xs ++ [v]) (ds ++ [d])
  | [], _, _, _, _, _, h, r => by cases h; exact .cons r .nil
  | x :: xs, _, _, _, _, _, h, r => by
    cases h with
    | cons hr t => exact .cons hr (ROA.append t r)
theorem ROA.len {l : Nat} : ∀ {xs : List V} {os : List (List Addr)} {ds : List D}, ROA K B H l os xs ds → xs.length = ds.length
  | [], _, _, h => by cases h; rfl
  | x :: xs, _, _, h => by
    cases h with
    | cons hr t => rw [List.length_cons, List.length_cons, ROA.len t]
theorem ROA.mut {l : Nat} : ∀ {xs : List V} {os : List (List Addr)} {ds : List D}, ROA K B H l os xs ds → Ok os.flatten H
  | [], _, _, h => by cases h; exact Ok.nil
  | x :: xs, _, _, h => by
    cases h with
    | cons hr t => rw [List.flatten_cons]; exact hr.mut_aux.append (ROA.mut t)
theorem RO.one {o : List Addr} {v : V} {ds : List D} (h : RO K B H 1 o v (.list ds)) : ∃ a xs, o = [a] ∧ v = .ref a ∧ H a = some (.lst xs) ∧ RA K (hid B H) xs ds := by
  cases h with
  | z h _ => rcases h with h | h <;> cases h
  | @l _ a os xs _ e ra =>
    have h1 : ∀ {xs : List V} {os : List (List Addr)} {ds : List D}, ROA K B H 0 os xs ds → os.flatten = [] ∧ RA K (hid B H) xs ds := by
      intro xs
      induction xs with
      | nil => intro os ds h; cases h; exact ⟨rfl, .nil⟩
      | cons x xs ih =>
        intro os ds h
        cases h with
        | cons hr t =>
          obtain ⟨a1, a2⟩ := ih t
          cases hr with
          | z _ r => exact ⟨by rw [List.flatten_cons, a1]; rfl, .cons r a2⟩
    obtain ⟨a1, a2⟩ := h1 ra
    exact ⟨a, xs, by rw [a1], rfl, e, a2⟩
theorem ROA.write : ∀ {xs : List V} {os : List (List Addr)} {ds : List D} {n : Nat} {es : List D}, ROA K B H 1 os xs ds → os.flatten.Nodup → (∀ a ∈ os.flatten, a ∈ B) → ds[n]? = some (.list es) →
    ∃ a ys, xs[n]? = some (.ref a) ∧ a ∈ os.flatten ∧ H a = some (.lst ys) ∧ RA K (hid B H) ys es ∧ ∀ ys' es', RA K (hid B H) ys' es' → ROA K B (upd H a (.lst ys')) 1 os xs (ds.set n (.list es'))
  | [], _, _, n, _, h, _, _, hn => by cases h; simp at hn
  | x :: xs, _, _, 0, es, h, nd, hB, hn => by
    cases h with
    | @cons _ o os v d vs ds hr t =>
      simp at hn
      subst hn
      obtain ⟨a, ys, rfl, rfl, e, ra⟩ := hr.one
      rw [List.flatten_cons] at nd hB ⊢
      have aB : a ∈ B := hB a (by simp)
      have hsame : ∀ u, Same (hid B H) (hid B (upd H a u)) := fun u => same_hidU aB e rfl
      refine ⟨a, ys, rfl, by simp, e, ra, fun ys' es' r => ?_⟩
      rw [List.set_cons_zero]
      have nd' : a ∉ os.flatten := by
        rw [List.nodup_append] at nd
        intro z
        exact nd.2.2 a (by simp) a z rfl
      exact .cons (RO.l1 upd_same (r.mono (hsame _))) (ROA.mono_aux (hsame _) t fun b hb => upd_ne fun z => nd' (by rw [← z]; exact hb))
  | x :: xs, _, _, n + 1, es, h, nd, hB, hn => by
    cases h with
    | @cons _ o os v d vs ds hr t =>
      rw [List.flatten_cons] at nd hB ⊢
      rw [List.nodup_append] at nd
      obtain ⟨a, ys, h1, h2, h3, h4, h5⟩ := ROA.write (n := n) t nd.2.1 (fun a q => hB a (List.mem_append_right _ q)) (by simpa using hn)
      have aB : a ∈ B := hB a (List.mem_append_right _ h2)
      refine ⟨a, ys, by simpa using h1, List.mem_append_right _ h2, h3, h4, fun ys' es' r => ?_⟩
      rw [List.set_cons_succ]
      exact .cons (hr.mono_aux (same_hidU aB h3 rfl) fun b hb => upd_ne fun z => nd.2.2 b hb a h2 z) (h5 ys' es' r)
end
section
variable {X : Cx} {K : PySem.W.Frag}
end
section
variable {X : Cx} {K : PySem.W.Frag}
end
end DS
end
section
set_option Elab.async false
set_option linter.all false
set_option maxRecDepth 100000
set_option maxHeartbeats 1000000
namespace DS
open PySem PySem.Spec PyProof.Rows L2
variable [Tbls]
section
variable {prog : Program} {w : World} {A : Around} {E : Value → Shared → Prop} {s : Shared}
end
def dRev : D → Option D
  | .list ds => some (.list ds.reverse)
  | .tuple ds => some (.tuple ds.reverse)
  | _ => none
def eRev (f : FE) : FE := fun ρ => o1 (f ρ) dRev
@[simp] theorem eRev_a (f : FE) (ρ : PEnv) : eRev f ρ = o1 (f ρ) dRev := id rfl
@[simp] theorem dRev_l (ds : List D) : dRev (.list ds) = some (.list ds.reverse) := id rfl
@[simp] theorem dRev_t (ds : List D) : dRev (.tuple ds) = some (.tuple ds.reverse) := id rfl
end DS
end
section
set_option Elab.async false
set_option linter.all false
set_option maxRecDepth 100000
set_option maxHeartbeats 1000000
namespace PySem.W
open PySem PySem.Calls PyProof.Rows
section
variable {prog : Program} {w : World} {A : Around} {E : Value → Shared → Prop} {s : Shared} {a kS : Addr} {b : Bool} {vs : List Value} {keys : Array Value} {e e1 : Nat} {P : PySem.Fin → Shared → Prop} {kz : List PyData}
end
end PySem.W
namespace DS
open PySem PySem.Spec PyProof.Rows L2 PySem.W PySem.Calls
variable [Tbls]
section
variable {X : Cx} {pins : List (Addr × Obj)} {σ : L2.St} {H : Hp} {s : Shared}
structure Fresh (X : Cx) (pins : List (Addr × Obj)) (a : Addr) : Prop where
  nl : a ≠ X.env.locals
  nf : a ∉ X.fs
  sz : X.s_0.heap.objs.size ≤ a
  nc : ∀ x c, X.env.cells.lookup x = some c → c ≠ a
  np : ∀ p ∈ X.pn ++ pins, p.1 ≠ a
theorem Fresh.nil {a : Addr} (f : Fresh X pins a) : ∀ p ∈ X.pn ++ ([] : List (Addr × Obj)), p.1 ≠ a := fun p hp => f.np p (List.mem_append_left _ (by simpa using hp))
end
def keyLs (F : Fn) : List D → Option (List D)
  | [] => some []
  | d :: ds => match F [d], keyLs F ds with
    | some k, some ks => some (k :: ks)
    | _, _ => none
def dSortK (F : Fn) : D → Option D
  | .list ds => match keyLs F ds with
    | some ks => if allCmp ks = true then some (.list (((ds.zip ks).mergeSort (fun u v => leD u.2 v.2)).map (·.1))) else none
    | none => none
  | _ => none
def eSortK (F : Fn) (f : FE) : FE := fun ρ => o1 (f ρ) (dSortK F)
@[simp] theorem eSortK_a (F : Fn) (f : FE) (ρ : PEnv) : eSortK F f ρ = o1 (f ρ) (dSortK F) := id rfl
section
variable {X : Cx} {K : PySem.W.Frag}
end
section
variable {X : Cx} {K : PySem.W.Frag} {κ : Mo} {x y : Str} {p pos kpos py : Pos} {e : Expr} {f : FE} {c : Esc}
end
end DS
end
section
set_option Elab.async false
set_option linter.all false
set_option maxRecDepth 100000
set_option maxHeartbeats 1000000
namespace DS
open PySem PySem.Spec PyProof.Rows L2
variable [Tbls]
abbrev Row := List (Nat × Bool × FE)
def rowVals : Row → PEnv → Option (List D)
  | [], _ => some []
  | (_, own, f) :: r, ρ => match f ρ with
    | none => none
    | some d => if (own || flat d) = true then (match rowVals r ρ with
      | none => none
      | some ds => some (d :: ds)) else none
def setsL (L : List Nat) (l : List (Nat × Bool)) : List Nat := l.foldl (fun L p => L.set p.1 (if p.2 = true then 1 else 0)) L
def tRow (K : PySem.W.Frag) : List (Bool × FE × Esc) → TA
  | [] => tNil
  | (own, f, c) :: r => tCons (tD K (if own = true then .fr else .br 0) f c) (tRow K r)
def escRow : List (Bool × FE × Esc) → Esc
  | [] => []
  | (own, _, c) :: r => (if own = true then c else []) ++ escRow r
section
variable {X : Cx} {K : PySem.W.Frag}
end
def rowV (is : List Nat) (rs : List (Bool × FE × Esc)) : Row := (is.zip rs).map fun p => (p.1, p.2.1, p.2.2.1)
section
variable {K : PySem.W.Frag} {B0 : List Addr} {G : Hp} {σ : St} {ρ : PEnv} {L : List Nat}
theorem setsL_snoc (L : List Nat) (l : List (Nat × Bool)) (p : Nat × Bool) : setsL L (l ++ [p]) = (setsL L l).set p.1 (if p.2 = true then 1 else 0) := by
  unfold setsL; rw [List.foldl_append]; rfl
theorem setsD_snoc (ρ : PEnv) (l : List (Nat × D)) (p : Nat × D) : setsD ρ (l ++ [p]) = (setsD ρ l).set p.1 (some p.2) := by
  unfold setsD; rw [List.foldl_append]; rfl
theorem setsV_snoc (σ : St) (l : List (Nat × V)) (p : Nat × V) : setsV σ (l ++ [p]) = (setsV σ l).set p.1 (some p.2) := by
  unfold setsV; rw [List.foldl_append]; rfl
theorem row_ok : ∀ (rs : List (Bool × FE × Esc)) (is js : List Nat) (vs : List V) (ds0 ds : List D) (ow : List Bool) (B : List Addr) (H : Hp) (Q : List V → Hp → Prop), is.length = rs.length → js.length = vs.length → js.length = ds0.length → js.length = ow.length →
    Good K B (lv L) σ H ρ → EscOk (escRow rs) (lv L) → rowVals (rowV is rs) ρ = some ds →
    (∃ O' B', GoodS K B0 G O' B' (setsV σ (js.zip vs)) H (setsD ρ (js.zip ds0)) (setsL L (js.zip ow)) ∧ ∀ a ∈ B', a ∈ B) →
    (∀ ws H', (js ++ is).length = (vs ++ ws).length → ws.length = rs.length → (∃ O' B', GoodS K B0 G O' B' (setsV σ ((js ++ is).zip (vs ++ ws))) H' (setsD ρ ((js ++ is).zip (ds0 ++ ds))) (setsL L ((js ++ is).zip (ow ++ rs.map (·.1))))) → Q ws H') → tRow K rs σ H Q
  | [], [], js, vs, ds0, ds, ow, B, H, Q, _, h1, h2, h3, gd, es, hv, ⟨O', B', g, _⟩, q => by
    cases (Option.some.inj hv)
    refine q [] H (by simpa using h1) rfl ⟨O', B', ?_⟩
    simpa using g
  | [], _ :: _, _, _, _, _, _, _, _, _, h, _, _, _, _, _, _, _, _ => by simp at h
  | _ :: _, [], _, _, _, _, _, _, _, _, h, _, _, _, _, _, _, _, _ => by simp at h
  | (own, f, c) :: rs, i :: is, js, vs, ds0, ds, ow, B, H, Q, hl, h1, h2, h3, gd, es, hv, ⟨O', B', g, hB⟩, q => by
    unfold rowV at hv
    simp only [List.zip_cons_cons, List.map_cons] at hv
    unfold rowVals at hv
    split at hv
    · cases hv
    · rename_i d hd
      split at hv
      · rename_i hfl
        split at hv
        · cases hv
        · rename_i ds' hv'
          cases (Option.some.inj hv)
          have z1 : ∀ w : V, (js ++ [i]).zip (vs ++ [w]) = js.zip vs ++ [(i, w)] := fun w => by rw [List.zip_append h1]; rfl
          have z2 : (js ++ [i]).zip (ds0 ++ [d]) = js.zip ds0 ++ [(i, d)] := by rw [List.zip_append h2]; rfl
          have z3 : (js ++ [i]).zip (ow ++ [own]) = js.zip ow ++ [(i, own)] := by rw [List.zip_append h3]; rfl
          have next : ∀ (v : V) (H1 : Hp) (B1 : List Addr), Good K B1 (lv L) σ H1 ρ → (∃ O'' B'', GoodS K B0 G O'' B'' (setsV σ (js.zip vs ++ [(i, v)])) H1 (setsD ρ (js.zip ds0 ++ [(i, d)])) (setsL L (js.zip ow ++ [(i, own)])) ∧ ∀ a ∈ B'', a ∈ B1) → tRow K rs σ H1 fun ws H' => Q (v :: ws) H' := fun v H1 B1 g1 hg => by
            refine row_ok rs is (js ++ [i]) (vs ++ [v]) (ds0 ++ [d]) ds' (ow ++ [own]) B1 H1 _ (by simpa using hl) (by simp [h1]) (by simp [h2]) (by simp [h3]) g1 es.right hv' (by rw [z1, z2, z3]; exact hg) fun ws H' a1 a2 a3 => ?_
            refine q (v :: ws) H' (by simpa [List.append_assoc, Nat.add_comm, Nat.add_left_comm] using a1) (by simp [a2]) ?_
            simpa [List.append_assoc] using a3
          cases own with
          | true =>
            have es1 : EscOk c (lv L) := fun p hp => es p (by unfold escRow; simp [hp])
            refine ⟨B, lv L, ρ, d, gd, es1, hd, fun v H1 e1 p1 => ?_⟩
            obtain ⟨o, hn, nd, ro⟩ := p1
            have sw : Same (hid B H) (hid (o ++ B) H1) := same_hidW e1 fun a h => (List.mem_append.mp h).elim (fun h => .inr (hn a h)) .inl
            have gd2 : Good K (o ++ B) (lv L) σ H1 ρ := ⟨(ro.mut_aux).append (gd.ok.mono e1), gd.len, fun k x h => let ⟨w, h1, h2⟩ := gd.slot k x h; ⟨w, h1, h2.mono e1 sw⟩, e1.tb gd.tabs⟩
            refine next v H1 (o ++ B) gd2 ?_
            have ro3 : RO K (o ++ B') H1 1 o v d := ro.mono_aux (same_hidW (Same.refl H1) fun a h => .inl ((List.mem_append.mp h).elim (fun h => List.mem_append_left _ h) fun h => List.mem_append_right _ (hB a h))) fun _ _ => rfl
            obtain ⟨O2, B2, g2, hB2⟩ := g.assign (i := i) e1 hn nd ro3
            refine ⟨O2, B2, by rw [setsV_snoc, setsD_snoc, setsL_snoc]; exact g2, fun a ha => (List.mem_append.mp (hB2 a ha)).elim (fun h => List.mem_append_left _ h) fun h => List.mem_append_right _ (hB a h)⟩
          | false =>
            have hfd : flat d = true := by simpa using hfl
            refine ⟨[], _, ρ, d, gd.zero, .zero, hd, fun v H1 e1 p1 => ?_⟩
            refine next v H1 B (gd.mono e1) ?_
            obtain ⟨O2, B2, g2, hB2⟩ := (g.mono e1).assign0 (i := i) ((RL.r0 p1).hidF (g.mono e1).ok.noTup hfd)
            exact ⟨O2, B2, by rw [setsV_snoc, setsD_snoc, setsL_snoc]; exact g2, fun a ha => hB a (hB2 a ha)⟩
      · cases hv
end
section
variable {X : Cx} {K : PySem.W.Frag}
end
section
variable {X : Cx} {K : PySem.W.Frag} {κ : Mo} {a b : Expr} {fa fb : FE} {ca cb : Esc} {pos : Pos}
end
end DS
end
section
end
section
set_option Elab.async false
set_option linter.all false
set_option maxRecDepth 100000
namespace DS
open PySem PySem.Spec PyProof.Rows L2
variable [Tbls]
section
variable {X : Cx} {K : PySem.W.Frag} {pos : Pos}
end
end DS
end
section
set_option Elab.async false
set_option linter.all false
set_option maxRecDepth 100000
set_option maxHeartbeats 1000000
namespace DS
open PySem PySem.Spec PyProof.Rows L2
variable [Tbls]
section
variable {X : Cx} {K : PySem.W.Frag} {κ : Mo} {p p2 pos pos2 : Pos} {e : Expr} {fs : FA} {c : Esc} {x y : Str}
end
end DS
end
section
set_option Elab.async false
set_option linter.all false
set_option maxRecDepth 100000
set_option maxHeartbeats 1000000
namespace PySem.W
open PySem PySem.Calls PyProof.Rows
section
variable {prog : Program} {w : World} {A : Around} {E : Value → Shared → Prop} {s : Shared} {β : Type} {vs : List Value} {bs : List β} {enc : β → PyData} {R : Value → β → Prop}
end
end PySem.W
namespace DS
open PySem PySem.Spec PyProof.Rows L2
variable [Tbls]
section
variable {X : Cx} {K : PySem.W.Frag}
end
end DS
end
section
set_option Elab.async false
set_option linter.all false
set_option maxRecDepth 100000
set_option maxHeartbeats 1000000
namespace HT
open PySem PySem.Spec PyProof.Rows L2
section
variable {prog : Program} {w : World} {A : Around} {E : Value → Shared → Prop} {s : Shared}
end
end HT
namespace DS
open PySem PySem.Spec PyProof.Rows L2
variable [Tbls]
section
variable {X : Cx} {K : PySem.W.Frag}
end
end DS
end
section
set_option Elab.async false
set_option linter.all false
set_option maxRecDepth 100000
set_option maxHeartbeats 1000000
namespace DS
open PySem PySem.Spec PyProof.Rows L2
variable [Tbls]
section
variable {K : PySem.W.Frag} {m : Nat}
end
def iRevS (f : FE) : FA := fun ρ => o1 (f ρ) fun d => o1 (seqOf d) fun ds => some ds.reverse
section
variable {X : Cx} {K : PySem.W.Frag} {p pos : Pos} {tg e : Expr} {f : FE} {c : Esc} {m : Nat}
end
def dGet3 : D → D → D → Option D
  | .dict es, k, z => if kindOk es k = true ∧ flat ((dFind es k).getD z) = true then some ((dFind es k).getD z) else none
  | _, _, _ => none
def eGet (f g h : FE) : FE := fun ρ => match f ρ, g ρ, h ρ with
  | some d, some k, some z => dGet3 d k z
  | _, _, _ => none
def tDGetA (td ty tx : TE) : TE := fun σ H Q => td σ H fun x H1 => ∃ a, x = .ref a ∧ IsD H1 a ∧ ty σ H1 fun y H2 => tx σ H2 fun z H3 => ∃ o, DGet' H3 a y o ∧ Q (o.getD z) H3
section
variable {X : Cx} {pins : List (Addr × Obj)} {σ : St} {H : Hp} {s : Shared} {a : Addr} {y d : V} {u r : Value} {o : Option V} {A : Around} {E : Value → Shared → Prop}
theorem d_getA {Q : Value → Shared → Prop} (hu : A.units + 1 < cLine) (I : Inv X pins σ H s) (g : DGet' H a y o) (ry : RelV y u) (rd : RelV d r) (h : ∀ w' s', Inv X pins σ H s' → RelV (o.getD d) w' → Q w' s') :
    wpAny (model X.prog X.w) A (call (.builtin "dict.get") [.ref a, u, r]) Q E s := by
  rcases g with g | ⟨rfl, g⟩
  · exact d_get2 hu I g ry rd h
  · rcases g with ⟨e, ks, b, rfl, hb⟩ | ⟨e, kk, rfl⟩
    · cases (show u = Value.ref b from ry)
      obtain ⟨ns, da⟩ := nil_K_T I.hok e
      exact call_meetsIn PySem.F.slot_dict_get da.typeIs PySem.F.entry_dict_get (PySem.F.args_dict_get_3 _ _ _) (meetsH_dict_get_default (tupleKind (mixKind X.prog X.w)) a b ns r) ⟨tupleKind_room_in1 hu, ks, [], key_of I.hok hb, da, h _ _ (I.tok _) rd⟩
    · obtain ⟨ns, da⟩ := nil_T_K I.hok e
      exact call_meetsIn PySem.F.slot_dict_get da.typeIs PySem.F.entry_dict_get (PySem.F.args_dict_get_3 _ _ _) (meets_dict_get_default (mixKind X.prog X.w) a (kV_is ry) ns r) ⟨_, da.mapOf, h _ _ (I.tok _) rd⟩
end
section
variable {X : Cx} {K : PySem.W.Frag} {e1 e2 e3 : Expr} {ap cp : Pos} {td ty tx : TE}
theorem pe_dgetA (hu : X.A.units + 1 < cLine) (p1 : PE X e1 td) (p2 : PE X e2 ty) (p3 : PE X e3 tx) (m : M2 X e1 "get" ap e2 e3 cp) : PE X (.Call (.Attribute e1 "get" ap) [e2, e3] [] cp) (tDGetA td ty tx) := by
  refine ⟨fun pins s σ H Q I h => wpAny_Call_method m.base m.few m.line PySem.F.plainAttrs_dict PySem.F.slot_dict_get PySem.F.type_dict_get (thn (p1.run pins s σ H _ I h) fun w1 t1 ⟨x, H1, I1, rx, a, ex, isd, k1⟩ => ?_)⟩
  subst ex
  obtain rfl : w1 = Value.ref a := rx
  obtain ⟨y1, y2, _⟩ := isD_at I1 isd
  refine ⟨y1, y2, ?_⟩
  rw [m.trees]
  exact Calls.callWith_builtin rfl (Calls.evalArgs_plain (Calls.spliced_cons (thn (p2.run pins t1 σ H1 _ I1 k1) fun w2 t2 ⟨y, H2, I2, r2, k2⟩ => Calls.spliced_cons (thn (p3.run pins t2 σ H2 _ I2 k2) fun w3 t3 ⟨z, H3, I3, r3, o, g, k3⟩ => Calls.spliced_nil (d_getA hu I3 g r2 r3 fun w4 t4 I4 r4 => ⟨_, H3, I4, r4, k3⟩)))))
theorem dict_isD {H : Hp} {v : V} {es : List (D × D)} {k : D} (hk : kindOk es k = true) (h : R K H v (.dict es)) : ∃ a, v = .ref a ∧ IsD H a := by
  obtain ⟨_, k2, _⟩ := kind_none hk
  obtain ⟨a, rfl, q⟩ := dict_open k2 h
  rcases q with ⟨kvs, q, _⟩ | ⟨kvs, q, _⟩
  · exact ⟨a, rfl, .inl ⟨kvs, q⟩⟩
  · exact ⟨a, rfl, .inr ⟨kvs, q⟩⟩
theorem qe_get3 {fa fb fc : FE} {ca cb cc : Esc} {κ : Mo} (hu : X.A.units + 1 < cLine) (ha : PE X e1 (tD K (.br 1) fa ca)) (hb : PE X e2 (tD K (.br 1) fb cb)) (hc : PE X e3 (tD K (.br 1) fc cc)) (m : M2 X e1 "get" ap e2 e3 cp) : PE X (.Call (.Attribute e1 "get" ap) [e2, e3] [] cp) (tD K κ (eGet fa fb fc) []) := (pe_dgetA hu ha hb hc m).imp fun σ H Q ⟨B, L, ρ, d, g, es, hf, q⟩ => by
  unfold eGet at hf
  split at hf
  · rename_i x y z h1 h2 h3
    unfold dGet3 at hf
    split at hf
    · rename_i es0
      split at hf
      · rename_i hk
        obtain ⟨hk, hfl⟩ := hk
        cases (Option.some.inj hf)
        refine ⟨[], _, ρ, _, g.zero, .zero, h1, fun v1 H1 s1 p1 => ?_⟩
        obtain ⟨a, rfl, isd⟩ := dict_isD hk (RL.r0 p1)
        refine ⟨a, rfl, isd, [], _, ρ, _, (g.mono s1).zero, .zero, h2, fun v2 H2 s2 p2 => ⟨[], _, ρ, _, ((g.mono s1).mono s2).zero, .zero, h3, fun v3 H3 s3 p3 => ?_⟩⟩
        have r1 := ((RL.r0 p1).mono s2).mono s3
        have r2 := (RL.r0 p2).mono s3
        obtain ⟨a', o, ea, g1, e, hz⟩ := get_ok r1 r2 hk
        cases ea
        refine ⟨o, g1, q _ H3 ((s1.trans s2).trans s3) ?_⟩
        have hB := ((((g.mono s1).mono s2).mono s3).ok).noTup
        suffices rr : R K H3 (o.getD v3) ((dFind es0 y).getD z) from Post.of_flat (rr.hidF hB hfl) (flat_top hfl)
        cases ed : dFind es0 y with
        | none =>
          rw [ed] at e
          have : o = none := by
            cases o with
            | none => rfl
            | some _ => cases e
          subst this
          exact RL.r0 p3
        | some d0 =>
          obtain ⟨z0, rfl, rz, _⟩ := hz d0 ed
          exact rz
      · cases hf
    · cases hf
  · cases hf
end
end DS
end
section
set_option Elab.async false
set_option linter.all false
set_option maxRecDepth 100000
set_option maxHeartbeats 1000000
namespace DS
open PySem PySem.Spec PyProof.Rows L2
variable [Tbls]
theorem up_uniq : ∀ {a b : List Int}, a.Pairwise (· ≤ ·) → b.Pairwise (· ≤ ·) → a.Perm b → a = b
  | [], b, _, _, p => by rw [List.nil_perm.mp p]
  | x :: a, [], _, _, p => absurd p.length_eq (by simp)
  | x :: a, y :: b, ha, hb, p => by
    obtain ⟨a1, a2⟩ := List.pairwise_cons.mp ha
    obtain ⟨b1, b2⟩ := List.pairwise_cons.mp hb
    have e : x = y := by
      have h1 : y ≤ x := by
        rcases List.mem_cons.mp (p.mem_iff.mp (.head _)) with q | q
        · omega
        · exact b1 x q
      have h2 : x ≤ y := by
        rcases List.mem_cons.mp (p.mem_iff.mpr (.head _)) with q | q
        · omega
        · exact a1 y q
      omega
    subst e
    rw [up_uniq a2 b2 (List.Perm.cons_inv p)]
section
variable {K : PySem.W.Frag}
end
end DS
end
section
set_option Elab.async false
set_option linter.all false
set_option maxRecDepth 100000
set_option maxHeartbeats 1000000
namespace DS
open PySem PySem.Spec PyProof.Rows L2 LamX
variable [Tbls]
structure LamF where
  qual : Str
  params : Arguments
  body : Expr
  scope : Scope
  cl : List (Str × Addr)
  c : Addr
def LamO (f : Addr) (F : LamF) : HO := .ext fun h => ∃ pm ctv, h.get? f = some (PySem.W.kla_obj "<lambda>" F.qual F.params F.body F.scope F.cl pm F.c ctv)
instance (f : Addr) (F : LamF) : NotT (LamO f F) := ⟨rfl⟩
instance (c : Addr) (q : Str) : NotT (CodeO c q) := ⟨rfl⟩
section
variable {X : Cx} {pins : List (Addr × Obj)} {σ : L2.St} {H : Hp} {s : Shared}
end
section
variable {X : Cx} {pins : List (Addr × Obj)} {σ : L2.St} {H : Hp} {s : Shared} {scope : Scope} {x : Str} {i : Nat} {v : V} {u : Value} {f c' : Addr} {A : Around}
end
end DS
end
section
set_option Elab.async false
set_option linter.all false
set_option maxRecDepth 100000
set_option maxHeartbeats 1000000
namespace DS
open PySem PySem.Spec PyProof.Rows L2 PySem.W PySem.Calls LamX
variable [Tbls]
theorem sorted_collect {prog : Program} {w : World} {A : Around} {E : Value → Shared → Prop} {s : Shared} {l : Addr} {kw : List (Str × Value)} {Q : Value → Shared → Prop} (Pi : List Value → Prop)
    (ha1 : argsOk "sorted" ⟨[.ref l], kw⟩) (ha2 : ∀ x, argsOk "list.sort" ⟨[.ref x], kw⟩)
    (col : ∀ (Q' : List Value → Shared → Prop) (E' : Value → Shared → Prop), (∀ (its : List Value) (h' : Heap) (tk : Nat), Pi its → (∀ b o, s.heap.get? b = some o → h'.get? b = some o) → Q' its { s with heap := h', toks := tk }) → wpAny (model prog w) A.in1 (collect (.ref l)) Q' E' s)
    (small : ∀ its, Pi its → its.length ≤ sizeLine)
    (body : ∀ (its : List Value) (h' : Heap) (tk : Nat) (E' : Value → Shared → Prop), Pi its → (∀ b o, s.heap.get? b = some o → h'.get? b = some o) →
      wpAny (model prog w) A.in1.in1 (Builtin.«list.sort» ⟨[.ref h'.objs.size], kw⟩) (fun f s' => f = .done (.ret .none) ∧ Q (.ref h'.objs.size) s') E' { s with heap := h'.push (seqObj "list" its.toArray 0), toks := tk }) :
    wpAny (model prog w) A (call (.builtin "sorted") [.ref l] kw) Q E s := by
  refine call_function_entry_kw kind_sorted plain_sorted entry_sorted ha1 ?_
  unfold Builtin.«sorted»
  refine wpAny_bind (m := checkCount "sorted" 1 1 _) (wpAny_pure ?_)
  refine wpAny_bind (col _ _ fun its h' tk pi hk => ?_)
  show wpAny _ _ _ _ _ { s with heap := h', toks := tk }
  refine wpAny_bind (wpAny_newList ?_ (small its pi))
  have at_ : (h'.push (seqObj "list" its.toArray 0)).get? h'.objs.size = some (seqObj "list" its.toArray 0) := Heap.get?_push_size _ rfl
  refine wpAny_bind (wpAny_holding (wpAny_call_entry_kw slot_list_sort ⟨_, at_, rfl⟩ entry_list_sort ?body (ha2 _)))
  case body =>
    show wpAny (model prog w) A.in1.in1 (Builtin.«list.sort» ⟨[.ref h'.objs.size], kw⟩) _ _ _
    refine wpAny_mono (body its h' tk _ pi hk) (fun f s' hf => ?_) fun _ _ e => e
    obtain ⟨rfl, hq⟩ := hf
    exact ⟨_, rfl, wpAny_pure ⟨_, rfl, hq⟩⟩
section
variable {X : Cx} {pins : List (Addr × Obj)} {σ : L2.St} {H : Hp} {s : Shared}
def Coll (K : PySem.W.Frag) (H : Hp) (a : Addr) (xs : List V) : Prop := SqL K H a xs ∨ SqT K H a xs ∨ ∃ lo hi, H a = some (.rng lo hi) ∧ rngOk lo hi = true ∧ (hi - lo).toNat ≤ sz ∧ xs = (List.range (hi - lo).toNat).map fun k : Nat => V.int (lo + k)
theorem Coll.mono {K : PySem.W.Frag} {H H' : Hp} {a : Addr} {xs : List V} (e : Same H H') (h : Coll K H a xs) : Coll K H' a xs := by
  rcases h with h | h | ⟨lo, hi, h, r⟩
  · exact .inl (e.seq h)
  · exact .inr (.inl (seqT_mono e h))
  · exact .inr (.inr ⟨lo, hi, e _ _ h, r⟩)
theorem Coll.col {a : Addr} {xs : List V} {Q' : List Value → Shared → Prop} {E' : Value → Shared → Prop} (I : Inv X pins σ H s) (hd : X.A.handled = none) (hs : Coll X.K H a xs)
    (h : ∀ (its : List Value) (h' : Heap) (tk : Nat), (Vals xs its ∧ its.length ≤ sizeLine) → (∀ b o, s.heap.get? b = some o → h'.get? b = some o) → Q' its { s with heap := h', toks := tk }) : wpAny (model X.prog X.w) X.A.in1 (collect (.ref a)) Q' E' s := by
  rcases hs with hs | hs | ⟨lo, hi, hs, r1, r2, rfl⟩
  · obtain ⟨its, rv, hl, hz⟩ := I.list hs
    have hvl := rv.length
    obtain ⟨o, n, e1, e2, e3, e4⟩ := hl
    refine wpAny_collect_seq a (.inl rfl) e1 e2 e4 (fun h' hk => ?_) (by simpa [hvl] using hz)
    have := h its h' s.toks ⟨rv, by rw [← hvl]; exact hz⟩ hk
    simpa using this
  · obtain ⟨its, rv, hl, hz⟩ := I.tuple hs
    have hvl := rv.length
    obtain ⟨o, e1, e2, n, e4⟩ := hl
    refine wpAny_collect_seq a (.inr rfl) e1 e2 e4 (fun h' hk => ?_) (by simpa [hvl] using hz)
    have := h its h' s.toks ⟨rv, by rw [← hvl]; exact hz⟩ hk
    simpa using this
  · obtain ⟨t, u, v, e⟩ := I.hok a _ hs
    obtain ⟨b1, b2, b3, b4⟩ := rngOk_ok r1
    refine collect_range (n := (hi - lo).toNat) (c := 1) hd e (small_one b1 b2 b3 b4) (rangeSize_nat lo hi) r2 fun h' tk acc hk items => ?_
    refine h acc.toList h' tk ⟨vals_rg items, by rw [Array.length_toList, items.1]; exact r2⟩ hk
end
def keyLL (i : Nat) (fb : FE) (ρ : PEnv) : List D → Option (List D)
  | [] => some []
  | d :: ds => match fb (ρ.set i (some d)), keyLL i fb ρ ds with
    | some k, some ks => some (k :: ks)
    | _, _ => none
def collD : D → Option (List D)
  | .list ds => some ds
  | .tuple ds => some ds
  | .dict [(.none, .tuple [.int lo, .int hi])] => if (rngOk lo hi && decide ((hi - lo).toNat ≤ sz)) = true then some (rngD lo (hi - lo).toNat) else none
  | _ => none
theorem coll_of {K : PySem.W.Frag} {B : List Addr} {H : Hp} {v : V} {d : D} {ds : List D} (h : RL K B H 1 v d) (e : collD d = some ds) : ∃ a xs, v = .ref a ∧ Coll K H a xs ∧ RA K (hid B H) xs ds := by
  unfold collD at e
  split at e
  · cases (Option.some.inj e)
    obtain ⟨a, xs, e1, e2, e3⟩ := h.list1
    exact ⟨a, xs, e1, .inl (SqL.of e2), e3⟩
  · cases (Option.some.inj e)
    obtain ⟨a, xs, e1, e2, _, e3⟩ := h.tup
    exact ⟨a, xs, e1, .inr (.inl e2), e3⟩
  · rename_i lo hi
    obtain ⟨hc, e0⟩ := ite_some e
    subst e0
    rw [Bool.and_eq_true, decide_eq_true_eq] at hc
    obtain ⟨a, e1, e2⟩ := RL.rng (lo := lo) (hi := hi) h
    refine ⟨a, _, e1, .inr (.inr ⟨lo, hi, (hid_some e2).2, hc.1, hc.2, rfl⟩), RA.of_get (by simp [rngD]) fun i x d e1 e2 => ?_⟩
    unfold rngD at e2
    rw [List.getElem?_map] at e1 e2
    rcases hk : (List.range (hi - lo).toNat)[i]? with _ | k
    · rw [hk] at e1; cases e1
    · rw [hk] at e1 e2
      cases (Option.some.inj e1)
      cases (Option.some.inj e2)
      exact .int _
  · cases e
section
variable {X : Cx}
def rSortC (K : PySem.W.Frag) : List V → Hp → VK → Prop := fun vs H Q => ∃ a xs ds, vs = [.ref a] ∧ Coll K H a xs ∧ DpAll K H xs ds ∧ xs.length = ds.length ∧ allCmp ds = true ∧ ∀ p, H p = none → Q (.ref p) (upd H p (.lst (((xs.zip ds).mergeSort (fun u v => leD u.2 v.2)).map (·.1))))
theorem cr_sortedC (hc : X.calm = true) (hu : X.A.units + 64 < cLine) : CallR X (.builtin "sorted") (rSortC X.K) := by
  intro pins s σ H vs us Q I r h
  obtain ⟨a, xs, ds, rfl, hs, dp, hlen, ok, q⟩ := h
  obtain ⟨f1, f2, f3⟩ := allCmp_facts ok
  rw [Vals.ref1 r]
  show wpAny _ _ (call (.builtin "sorted") [.ref a] []) _ _ _
  have zz : (xs.zip ds).map (fun b : V × D => b.2) = ds := zip_snd hlen
  refine sorted_collect (fun its => Vals xs its ∧ its.length ≤ sizeLine) (args_sorted1 _) (fun _ => args_list_sort _) (fun Q' E' h => hs.col I (I.ok.hd hc) h) (fun _ h => h.2) fun its h' tk E' pi hk => ?_
  obtain ⟨rv, hz⟩ := pi
  have J : Inv X pins σ H { s with heap := h', toks := tk } := I.kept (t' := tk) hk
  have ho : (h'.push (seqObj "list" its.toArray 0)).get? h'.objs.size = some (seqObj "list" its.toArray 0) := Heap.get?_push_size _ rfl
  have old : ∀ {c : Addr} {o : Obj}, h'.get? c = some o → (sortingHeap (h'.push (seqObj "list" its.toArray 0)) h'.objs.size its).get? c = some o := fun {c o} q => sortingHeap_old (Nat.ne_of_lt (Heap.lt_size q)) (Heap.get?_push_of_some _ q)
  obtain ⟨as, ra⟩ := Dp.readsAll J _ _ _ dp rv
  have er : EachIs (fun u (b : V × D) => RelV b.1 u) its (xs.zip ds) := each_zip rv.length.symm hlen fun i u x e1 e2 => by
    obtain ⟨u', e3, r3⟩ := rv.get e2
    rw [e1] at e3
    cases e3
    exact r3
  have er' : EachIs (fun v (b : V × D) => ∃ as, Reads (sortingHeap (h'.push (seqObj "list" its.toArray 0)) h'.objs.size its) v b.2 as) its (xs.zip ds) := (each_reads ra hlen).mono fun _ _ ⟨as, r⟩ => ⟨as, PyProof.Rows.Reads.keeps (fun c o q => old q) r⟩
  have hal : AllAlike ((xs.zip ds).map fun b : V × D => b.2) := by rw [zz]; exact f3.1
  have hu2 : ∀ b, b ∈ xs.zip ds → X.A.units + 2 + b.2.depth < cLine := fun b hb => by
    have : b.2 ∈ ds := (List.of_mem_zip hb).2
    have := depth_mem this
    omega
  refine list_sort_vals (s := { s with heap := h'.push (seqObj "list" its.toArray 0), toks := tk }) ho (SortsAt.any (s := { s with heap := sortingHeap (h'.push (seqObj "list" its.toArray 0)) h'.objs.size its, toks := tk }) (each_map (R := fun v d => ∃ as, Reads (sortingHeap (h'.push (seqObj "list" its.toArray 0)) h'.objs.size its) v d as) (fun b : V × D => b.2) er') hal (by rw [zz]; exact f3.2) (bound_map (enc := fun b : V × D => b.2) hu2)) hz ⟨rfl, ?_⟩
  have hol := sortVals_length (κ := dataKind (sortingHeap (h'.push (seqObj "list" its.toArray 0)) h'.objs.size its) ((xs.zip ds).map fun b : V × D => b.2)) (vs := its) (ks := its) false rfl
  have hE := sortVals_data (R := fun u (b : V × D) => RelV b.1 u) (enc := fun b : V × D => b.2) false er er' hal
  obtain ⟨ep, he'⟩ := PyProof.Rows.sortedHeap_at (vs := its) (out := (sortVals (dataKind (sortingHeap (h'.push (seqObj "list" its.toArray 0)) h'.objs.size its) ((xs.zip ds).map fun b : V × D => b.2)) false its its).toArray) ho
  have hv := each_vals hE
  have hn : H h'.objs.size = none := J.hok.fresh (Nat.le_refl _)
  have hp : h'.get? h'.objs.size = none := by
    cases q' : h'.get? h'.objs.size with
    | none => rfl
    | some o => exact absurd (Heap.lt_size q') (Nat.lt_irrefl _)
  refine ⟨.ref h'.objs.size, upd H h'.objs.size (.lst (((xs.zip ds).mergeSort (fun u v => leD u.2 v.2)).map (·.1))), J.laidN (t' := tk) (fun b o q' => ?_) hp hn ⟨?_, _, ep, hv, he'⟩, rfl, q _ hn⟩
  · have lt := Heap.lt_size q'
    show (sortedHeap _ _ _ _).get? b = some o
    rw [PyProof.Rows.sortedHeap_old (Nat.ne_of_lt lt) (by rw [size_push']; exact Nat.lt_succ_of_lt lt)]
    exact Heap.get?_push_of_some _ q'
  · rw [List.length_map, List.length_mergeSort, List.length_zip, ← hlen, Nat.min_self]
    have := rv.length
    omega
end
def dSortC (d : D) : Option D := match collD d with
  | some ds => dSorted (.list ds)
  | none => none
@[simp] theorem dSortC_list (ds : List D) : dSortC (.list ds) = dSorted (.list ds) := rfl
@[simp] theorem dSortC_tuple (ds : List D) : dSortC (.tuple ds) = dSorted (.list ds) := rfl
theorem cd_sortC {K : PySem.W.Frag} : CallD K (rSortC K) (d1 dSortC) := by
  intro B vs ds d H Q ok hl r h q
  obtain ⟨x, rfl, h'⟩ := d1_some h
  obtain ⟨v, rfl, rv⟩ := one_of hl r
  unfold dSortC at h'
  split at h'
  · rename_i es hcd
    unfold dSorted at h'
    obtain ⟨hc, e⟩ := ite_some h'
    subst e
    obtain ⟨p, ys, rfl, h1, h2⟩ := coll_of rv hcd
    have h3 := h2.mono same_unhid
    refine ⟨p, ys, es, rfl, h1, RA.toDp h3 (allCmp_facts hc).1, h2.length, hc, fun l hn => q _ _ (same_upd hn) fun κ hκ => Post.new ok.trk hn upd_same (h2.sorted.mono (same_hidC hn)) hκ⟩
  · cases h'
def dSortL (i : Nat) (fb : FE) (ρ : PEnv) (d : D) : Option D := match collD d with
  | some ds => (match keyLL i fb ρ ds with
    | some ks => if allCmp ks = true then some (.list (((ds.zip ks).mergeSort (fun u v => leD u.2 v.2)).map (·.1))) else none
    | none => none)
  | none => none
def eSortL (i : Nat) (fb : FE) (f : FE) : FE := fun ρ => o1 (f ρ) (dSortL i fb ρ)
section
variable {X : Cx} {K : PySem.W.Frag} {κ : Mo} {x y : Str} {p pos lpos kpos : Pos} {e : Expr} {f fb : FE} {c cb : Esc} {cc P : Addr} {params : Arguments} {body : Expr} {scope : Scope} {i k : Nat}
end
section
variable {P : Program} {w : World} {K : PySem.W.Frag} {mg : Str → Option Value} {base : Heap}
end
end DS
end
section
set_option Elab.async false
set_option linter.all false
namespace DS
open PySem
section
variable {α β γ : Type} {ρ : PEnv} {d e : D} {s : S}
@[simp] theorem o1_s (a : α) (g : α → Option γ) : o1 (some a) g = g a := id rfl
@[simp] theorem o1_n (g : α → Option γ) : o1 none g = none := id rfl
@[simp] theorem o2_ss (a : α) (b : β) (g : α → β → Option γ) : o2 (some a) (some b) g = g a b := id rfl
@[simp] theorem o2_n (y : Option β) (g : α → β → Option γ) : o2 none y g = none := id rfl
@[simp] theorem eC_a (d : D) (ρ : PEnv) : eC d ρ = some d := id rfl
@[simp] theorem eVar_0 (d : D) (ρ : PEnv) : eVar 0 (some d :: ρ) = some d := id rfl
@[simp] theorem eVar_s (n : Nat) (x : Option D) (ρ : PEnv) : eVar (n + 1) (x :: ρ) = eVar n ρ := id rfl
@[simp] theorem aNil_a (ρ : PEnv) : aNil ρ = some [] := id rfl
@[simp] theorem aCons_a (f : FE) (r : FA) (ρ : PEnv) : aCons f r ρ = o2 (f ρ) (r ρ) fun d ds => some (d :: ds) := id rfl
@[simp] theorem eOp_a (op : D → D → Option D) (f g : FE) (ρ : PEnv) : eOp op f g ρ = o2 (f ρ) (g ρ) op := id rfl
@[simp] theorem eUn_a (op : D → Option D) (f : FE) (ρ : PEnv) : eUn op f ρ = o1 (f ρ) op := id rfl
@[simp] theorem eIx_a (f g : FE) (ρ : PEnv) : eIx f g ρ = o2 (f ρ) (g ρ) dIx := id rfl
@[simp] theorem eCB_a (op : List D → Option D) (fs : FA) (ρ : PEnv) : eCB op fs ρ = o1 (fs ρ) op := id rfl
@[simp] theorem eB_a (f : FT) (ρ : PEnv) : eB f ρ = o1 (f ρ) fun b => some (.bool b) := id rfl
@[simp] theorem tCmp_a (op : D → D → Option Bool) (f g : FE) (ρ : PEnv) : tCmp op f g ρ = o2 (f ρ) (g ρ) op := id rfl
@[simp] theorem tTru_a (f : FE) (ρ : PEnv) : tTru f ρ = o1 (f ρ) dTru := id rfl
@[simp] theorem tNotD_a (f : FT) (ρ : PEnv) : tNotD f ρ = o1 (f ρ) fun b => some !b := id rfl
@[simp] theorem tIsND_a (f : FE) (ρ : PEnv) : tIsND f ρ = o1 (f ρ) fun d => some (isNon d) := id rfl
@[simp] theorem tNotND_a (f : FE) (ρ : PEnv) : tNotND f ρ = o1 (f ρ) fun d => some (!isNon d) := id rfl
@[simp] theorem eIsN_a (f : FE) (ρ : PEnv) : eIsN f ρ = o1 (f ρ) fun d => some (.bool (isNon d)) := id rfl
@[simp] theorem eNotN_a (f : FE) (ρ : PEnv) : eNotN f ρ = o1 (f ρ) fun d => some (.bool (!isNon d)) := id rfl
@[simp] theorem tTrue_a (ρ : PEnv) : tTrue ρ = some true := id rfl
@[simp] theorem eIsi_a (n : String) (f : FE) (ρ : PEnv) : eIsi n f ρ = o1 (f ρ) fun d => o1 (isTy d n) fun b => some (.bool b) := id rfl
@[simp] theorem iSeq_a (f : FE) (ρ : PEnv) : iSeq f ρ = o1 (f ρ) seqOf := id rfl
@[simp] theorem seqOf_l (ds : List D) : seqOf (.list ds) = some ds := id rfl
@[simp] theorem seqOf_t (ds : List D) : seqOf (.tuple ds) = some ds := id rfl
@[simp] theorem d1_1 (op : D → Option D) (x : D) : d1 op [x] = op x := id rfl
@[simp] theorem d2_2 (op : D → D → Option D) (x y : D) : d2 op [x, y] = op x y := id rfl
@[simp] theorem dLen_l (ds : List D) : dLen (.list ds) = some (.int ds.length) := id rfl
@[simp] theorem dLen_t (ds : List D) : dLen (.tuple ds) = some (.int ds.length) := id rfl
@[simp] theorem dInt_i (i : Int) : dInt (.int i) = some (.int i) := id rfl
@[simp] theorem dInt_b (b : Bool) : dInt (.bool b) = some (.int (if b then 1 else 0)) := id rfl
@[simp] theorem dTuple_l (ds : List D) : dTuple (.list ds) = some (.tuple ds) := id rfl
@[simp] theorem dTuple_t (ds : List D) : dTuple (.tuple ds) = some (.tuple ds) := id rfl
@[simp] theorem dList_l (ds : List D) : dList (.list ds) = some (.list ds) := id rfl
@[simp] theorem dList_t (ds : List D) : dList (.tuple ds) = some (.list ds) := id rfl
@[simp] theorem dAdd_i (i j : Int) : dAdd (.int i) (.int j) = some (.int (i + j)) := id rfl
@[simp] theorem dAddI_i (i j : Int) : dAddI (.int i) (.int j) = some (.int (i + j)) := id rfl
@[simp] theorem dSub_i (i j : Int) : dSub (.int i) (.int j) = some (.int (i - j)) := id rfl
@[simp] theorem dNeg_i (i : Int) : dNeg (.int i) = some (.int (-i)) := id rfl
@[simp] theorem dLt_i (i j : Int) : dLt (.int i) (.int j) = some (decide (i < j)) := id rfl
@[simp] theorem dLe_i (i j : Int) : dLe (.int i) (.int j) = some (decide (i ≤ j)) := id rfl
@[simp] theorem dGt_i (i j : Int) : dGt (.int i) (.int j) = some (decide (j < i)) := id rfl
@[simp] theorem dGe_i (i j : Int) : dGe (.int i) (.int j) = some (decide (j ≤ i)) := id rfl
@[simp] theorem dEq_i (i j : Int) : dEq (.int i) (.int j) = some (decide (i = j)) := by
  unfold dEq
  rw [if_pos (by rfl)]
  simp [PyData.eqv]
  rfl
@[simp] theorem dNe_i (i j : Int) : dNe (.int i) (.int j) = some (!decide (i = j)) := by
  unfold dNe
  rw [if_pos (by rfl)]
  simp [PyData.eqv]
  rfl
@[simp] theorem dTru_b (b : Bool) : dTru (.bool b) = some b := id rfl
@[simp] theorem dTru_i (i : Int) : dTru (.int i) = some (i != 0) := id rfl
@[simp] theorem dTru_l (ds : List D) : dTru (.list ds) = some !ds.isEmpty := id rfl
@[simp] theorem dTru_t (ds : List D) : dTru (.tuple ds) = some !ds.isEmpty := id rfl
@[simp] theorem dTru_n : dTru .none = some false := id rfl
@[simp] theorem isNon_n : isNon .none = true := id rfl
@[simp] theorem isNon_b (b : Bool) : isNon (.bool b) = false := id rfl
@[simp] theorem isNon_i (b : Int) : isNon (.int b) = false := id rfl
@[simp] theorem isNon_s (b : Str) : isNon (.str b) = false := id rfl
@[simp] theorem isNon_l (b : List D) : isNon (.list b) = false := id rfl
@[simp] theorem isNon_t (b : List D) : isNon (.tuple b) = false := id rfl
theorem dMul_i {i j : Int} (h : mulOk i j = true) : dMul (.int i) (.int j) = some (.int (i * j)) := by
  show (if mulOk i j = true then _ else _) = _
  rw [if_pos h]
theorem dFdiv_i {i j : Int} (h : fdivOk j = true) : dFdiv (.int i) (.int j) = some (.int (i / j)) := by
  show (if fdivOk j = true then _ else _) = _
  rw [if_pos h]
theorem dMod_i {i j : Int} (h : 0 < j) : dMod (.int i) (.int j) = some (.int (i % j)) := by
  show (if 0 < j then _ else _) = _
  rw [if_pos h]
theorem mulOk_l {i j : Int} (h : i.natAbs < 18446744073709551616) : mulOk i j = true := by
  simp [mulOk, h]
theorem mulOk_r {i j : Int} (h : j.natAbs < 18446744073709551616) : mulOk i j = true := by
  simp [mulOk, h]
theorem log2_le_of_lt {a : Nat} {n : Nat} (h : a < 2 ^ n) (hn : 0 < n) : a.log2 < n := by
  by_cases ha : a = 0
  · subst ha; simpa using hn
  · exact (Nat.log2_lt ha).mpr h
theorem mulOk_big {i j : Int} {m n : Nat} (hi : i.natAbs < 2 ^ m) (hj : j.natAbs < 2 ^ n) (hm : 0 < m) (hn : 0 < n) (h : m + n ≤ 1000000) : mulOk i j = true := by
  have h1 := log2_le_of_lt hi hm
  have h2 := log2_le_of_lt hj hn
  unfold mulOk
  rw [Bool.or_eq_true]
  right
  exact decide_eq_true (by omega)
theorem fdivOk_of {j : Int} {n : Nat} (h0 : 0 < j) (hj : j.natAbs < 2 ^ n) (hn : 0 < n) (h : n ≤ 9000) : fdivOk j = true := by
  have h1 := log2_le_of_lt hj hn
  unfold fdivOk
  rw [Bool.and_eq_true]
  exact ⟨decide_eq_true h0, decide_eq_true (by omega)⟩
@[simp] theorem sNil_a (s : S) : sNil s = .next s := id rfl
@[simp] theorem sRet_a (f : FE) (s : S) : sRet f s = match f s.1 with | none => .stuck | some d => .ret d := id rfl
theorem sSeq_next {f g : FS} {s s' : S} (h : f s = .next s') : sSeq f g s = g s' := by
  unfold sSeq; rw [h]
theorem sSeq_ret {f g : FS} {s : S} {d : D} (h : f s = .ret d) : sSeq f g s = .ret d := by
  unfold sSeq; rw [h]
theorem sSet_next {i l : Nat} {f : FE} {c : Esc} {s : S} {d : D} (h : f s.1 = some d) : sSet i l f c s = if flat d = true then .next (s.1.set i (some d), s.2.set i 0) else .next (s.1.set i (some d), (demote c s.2).set i l) := by
  unfold sSet; rw [h]
theorem sIf_t {c : FT} {f g : FS} {s : S} (h : c s.1 = some true) : sIf c f g s = f s := by
  unfold sIf; rw [h]
theorem sIf_f {c : FT} {f g : FS} {s : S} (h : c s.1 = some false) : sIf c f g s = g s := by
  unfold sIf; rw [h]
end
section
variable {ρ : PEnv} {F : Fn} {f1 f2 f3 f4 f5 f6 : FE}
@[simp] theorem eCall_1 : eCall 1 F (aCons f1 aNil) ρ = o1 (f1 ρ) fun x => F [x] := by
  unfold eCall aCons aNil; cases f1 ρ <;> rfl
@[simp] theorem eCall_2 : eCall 2 F (aCons f1 (aCons f2 aNil)) ρ = o1 (f1 ρ) fun x => o1 (f2 ρ) fun y => F [x, y] := by
  unfold eCall aCons aNil; cases f1 ρ <;> cases f2 ρ <;> rfl
@[simp] theorem eCall_3 : eCall 3 F (aCons f1 (aCons f2 (aCons f3 aNil))) ρ = o1 (f1 ρ) fun x => o1 (f2 ρ) fun y => o1 (f3 ρ) fun z => F [x, y, z] := by
  unfold eCall aCons aNil; cases f1 ρ <;> cases f2 ρ <;> cases f3 ρ <;> rfl
@[simp] theorem eCall_4 : eCall 4 F (aCons f1 (aCons f2 (aCons f3 (aCons f4 aNil)))) ρ = o1 (f1 ρ) fun x => o1 (f2 ρ) fun y => o1 (f3 ρ) fun z => o1 (f4 ρ) fun u => F [x, y, z, u] := by
  unfold eCall aCons aNil; cases f1 ρ <;> cases f2 ρ <;> cases f3 ρ <;> cases f4 ρ <;> rfl
@[simp] theorem eCall_5 : eCall 5 F (aCons f1 (aCons f2 (aCons f3 (aCons f4 (aCons f5 aNil))))) ρ = o1 (f1 ρ) fun x => o1 (f2 ρ) fun y => o1 (f3 ρ) fun z => o1 (f4 ρ) fun u => o1 (f5 ρ) fun v => F [x, y, z, u, v] := by
  unfold eCall aCons aNil; cases f1 ρ <;> cases f2 ρ <;> cases f3 ρ <;> cases f4 ρ <;> cases f5 ρ <;> rfl
@[simp] theorem eCall_6 : eCall 6 F (aCons f1 (aCons f2 (aCons f3 (aCons f4 (aCons f5 (aCons f6 aNil)))))) ρ = o1 (f1 ρ) fun x => o1 (f2 ρ) fun y => o1 (f3 ρ) fun z => o1 (f4 ρ) fun u => o1 (f5 ρ) fun v => o1 (f6 ρ) fun w => F [x, y, z, u, v, w] := by
  unfold eCall aCons aNil; cases f1 ρ <;> cases f2 ρ <;> cases f3 ρ <;> cases f4 ρ <;> cases f5 ρ <;> cases f6 ρ <;> rfl
@[simp] theorem eCall_7 {f7 : FE} : eCall 7 F (aCons f1 (aCons f2 (aCons f3 (aCons f4 (aCons f5 (aCons f6 (aCons f7 aNil))))))) ρ = o1 (f1 ρ) fun x => o1 (f2 ρ) fun y => o1 (f3 ρ) fun z => o1 (f4 ρ) fun u => o1 (f5 ρ) fun v => o1 (f6 ρ) fun w => o1 (f7 ρ) fun t => F [x, y, z, u, v, w, t] := by
  unfold eCall aCons aNil; cases f1 ρ <;> cases f2 ρ <;> cases f3 ρ <;> cases f4 ρ <;> cases f5 ρ <;> cases f6 ρ <;> cases f7 ρ <;> rfl
end
theorem sRet_ok {f : FE} {s : S} {d : D} (h : f s.1 = some d) : sRet f s = .ret d := by
  unfold sRet; rw [h]
theorem dfun_ret {N n : Nat} {body : FS} {ds : List D} {d : D} (ρ : PEnv) (L : List Nat) (hn : ds.length = n) (hρ : ds.map some ++ List.replicate (N - n) none = ρ) (hL : List.replicate N 0 = L) (h : body (ρ, L) = .ret d) : dfun N n body ds = some d := by
  unfold dfun
  rw [if_pos hn, hρ, hL, h]
theorem sSet_flat {i l : Nat} {f : FE} {c : Esc} {ρ : PEnv} {L : List Nat} {d : D} (h : f ρ = some d) (hd : flat d = true) : sSet i l f c (ρ, L) = .next (ρ.set i (some d), L.set i 0) := by
  rw [sSet_next (s := (ρ, L)) h, if_pos hd]
end DS
end
section
set_option Elab.async false
set_option linter.all false
set_option maxRecDepth 10000
namespace Lib
open DS PySem
def den_divisor : Fn := dfun 2 2 (sSeq (sPar 0 1 (eCB (d1 dAbs) (aCons (eVar 0) aNil)) (eCB (d1 dAbs) (aCons (eVar 1) aNil)) ([] ++ []))
  (sSeq (sWhile 100000 (tCmp dGt (eVar 1) (eC (.int 0)))
  (sPar 0 1 (eVar 1) (eOp dMod (eVar 0) (eVar 1)) ([(1, 0)] ++ ([(0, 1)] ++ [(1, 1)]))))
  (sRet (eVar 0))))
def den_lowest : Fn := dfun 3 2 (sSeq (sSet 2 0 (eIfD (tCmp dGt (eVar 1) (eC (.int 0))) (eCall 2 den_divisor (aCons (eVar 0) (aCons (eVar 1) aNil))) (eUn dNeg (eCall 2 den_divisor (aCons (eVar 0) (aCons (eVar 1) aNil))))) (([(0, 0)] ++ ([(1, 0)] ++ [])) ++ []))
  (sRet (eTup (aCons (eOp dFdiv (eVar 0) (eVar 2)) (aCons (eOp dFdiv (eVar 1) (eVar 2)) aNil)))))
def den_plus : Fn := dfun 2 2 (sRet (eCall 2 den_lowest (aCons (eOp dAdd (eOp dMul (eIx (eVar 0) (eC (.int 0))) (eIx (eVar 1) (eC (.int 1)))) (eOp dMul (eIx (eVar 1) (eC (.int 0))) (eIx (eVar 0) (eC (.int 1))))) (aCons (eOp dMul (eIx (eVar 0) (eC (.int 1))) (eIx (eVar 1) (eC (.int 1)))) aNil))))
def den_minus : Fn := dfun 2 2 (sRet (eCall 2 den_lowest (aCons (eOp dSub (eOp dMul (eIx (eVar 0) (eC (.int 0))) (eIx (eVar 1) (eC (.int 1)))) (eOp dMul (eIx (eVar 1) (eC (.int 0))) (eIx (eVar 0) (eC (.int 1))))) (aCons (eOp dMul (eIx (eVar 0) (eC (.int 1))) (eIx (eVar 1) (eC (.int 1)))) aNil))))
def den_is_less : Fn := dfun 2 2 (sRet (eB (tCmp dLt (eOp dMul (eIx (eVar 0) (eC (.int 0))) (eIx (eVar 1) (eC (.int 1)))) (eOp dMul (eIx (eVar 1) (eC (.int 0))) (eIx (eVar 0) (eC (.int 1)))))))
def den_total : Fn := dfun 3 1 (sSeq (sSet 1 0 (eTup (aCons (eC (.int 0)) (aCons (eC (.int 1)) aNil))) ([] ++ ([] ++ [])))
  (sSeq (sFor (iSeq (eVar 0)) [(0, 0)] (.nm 2)
  (sSet 1 0 (eCall 2 den_plus (aCons (eVar 1) (aCons (eVar 2) aNil))) ([(1, 0)] ++ ([(2, 0)] ++ []))))
  (sRet (eVar 1))))
def den__law_mixed : Fn := dfun 6 2 (sSeq (sSet 2 0 (eC (.int 0)) [])
  (sSeq (sIf (tCmp dGt (eCB (d1 dLen) (aCons (eVar 0) aNil)) (eC (.int 0)))
  (sSet 2 0 (eIx (eVar 0) (eOp dMod (eVar 1) (eCB (d1 dLen) (aCons (eVar 0) aNil)))) [(0, 1)])
  sNil)
  (sSeq (sSet 3 0 (eOp dMod (eCB (d1 dInt) (aCons (eOp dAdd (eOp dAdd (eOp dMul (eVar 2) (eC (.int 48271))) (eOp dMul (eVar 1) (eC (.int 69621)))) (eC (.int 8191))) aNil)) (eC (.int 2147483647))) ([] ++ []))
  (sSeq (sSet 4 0 (eOp dMod (eCB (d1 dInt) (aCons (eOp dAdd (eOp dAdd (eOp dMul (eVar 3) (eVar 3)) (eOp dFdiv (eVar 3) (eC (.int 7)))) (eOp dMul (eVar 1) (eC (.int 16807)))) aNil)) (eC (.int 2147483629))) ([] ++ []))
  (sSeq (sSet 5 0 (eOp dMod (eCB (d1 dInt) (aCons (eOp dAdd (eOp dAdd (eOp dMul (eVar 4) (eVar 4)) (eOp dFdiv (eVar 4) (eC (.int 11)))) (eC (.int 40692))) aNil)) (eC (.int 2147483563))) ([] ++ []))
  (sRet (eOp dMod (eOp dFdiv (eVar 5) (eC (.int 5))) (eC (.int 1000003)))))))))
def den__law_row : Fn := dfun 5 2 (sSeq (sSet 2 0 (eC (.int 0)) [])
  (sSeq (sIf (tAndD (tCmp dGt (eCB (d1 dLen) (aCons (eVar 0) aNil)) (eC (.int 0))) (tCmp dGe (eIx (eVar 0) (eC (.int 0))) (eOp dPow (eC (.int 10)) (eC (.int 18)))))
  (sSet 2 0 (eIx (eVar 0) (eC (.int 0))) [(0, 1)])
  sNil)
  (sSeq (sSet 3 1 (eLst aNil) [])
  (sSeq (sFor (iRange1 (eVar 1)) [] (.nm 4)
  (sIf (tCmp dGt (eVar 2) (eC (.int 0)))
  (sSeq (sApp 3 (eOp dMod (eCB (d1 dInt) (aCons (eVar 2) aNil)) (eC (.int 1000))) ([] ++ []))
  (sSet 2 0 (eOp dFdiv (eVar 2) (eC (.int 1000))) ([(2, 1)] ++ [])))
  (sApp 3 (eCall 2 den__law_mixed (aCons (eVar 0) (aCons (eVar 4) aNil))) ([(0, 0)] ++ ([(4, 0)] ++ [])))))
  (sRet (eVar 3))))))
def den__law_is_int : Fn := dfun 1 1 (sRet (eAndD (eIsi "int" (eVar 0)) (eB (tNotD (tTru (eIsi "bool" (eVar 0)))))))
def den__law_like : Nat → Fn
  | 0 => fun _ => none
  | n + 1 => dfun 3 2 (sSeq (sIf (tIsND (eVar 1))
  (sRet (eIsN (eVar 0)))
  sNil)
  (sSeq (sIf (tTru (eIsi "bool" (eVar 1)))
  (sRet (eAndD (eIsi "bool" (eVar 0)) (eB (tCmp dEq (eVar 0) (eVar 1)))))
  sNil)
  (sSeq (sIf (tTru (eIsi "tuple" (eVar 1)))
  (sSeq (sIf (tOrD (tNotD (tTru (eIsi "tuple" (eVar 0)))) (tCmp dNe (eCB (d1 dLen) (aCons (eVar 0) aNil)) (eCB (d1 dLen) (aCons (eVar 1) aNil))))
  (sRet (eC (.bool false)))
  sNil)
  (sRet (eCB (d1 dAll) (aCons (eLc (iRange1 (eCB (d1 dLen) (aCons (eVar 1) aNil))) (.nm 2) tTrue (eCall 2 (den__law_like n) (aCons (eIx (eVar 0) (eVar 2)) (aCons (eIx (eVar 1) (eVar 2)) aNil))) [2]) aNil))))
  sNil)
  (sSeq (sIf (tTru (eIsi "str" (eVar 1)))
  (sRet (eAndD (eIsi "str" (eVar 0)) (eB (tCmp dEq (eVar 0) (eVar 1)))))
  sNil)
  (sRet (eAndD (eCall 1 den__law_is_int (aCons (eVar 0) aNil)) (eB (tCmp dEq (eVar 0) (eVar 1)))))))))
def den__law_common : Fn := dfun 2 2 (sSeq (sPar 0 1 (eCB (d1 dAbs) (aCons (eVar 0) aNil)) (eCB (d1 dAbs) (aCons (eVar 1) aNil)) ([] ++ []))
  (sSeq (sWhile 100000 (tCmp dGt (eVar 1) (eC (.int 0)))
  (sPar 0 1 (eVar 1) (eOp dMod (eCB (d1 dInt) (aCons (eVar 0) aNil)) (eVar 1)) ([(1, 0)] ++ ([] ++ [(1, 1)]))))
  (sRet (eVar 0))))
def den__law_ratio : Fn := dfun 3 2 (sSeq (sSet 2 0 (eCall 2 den__law_common (aCons (eVar 0) (aCons (eVar 1) aNil))) ([(0, 0)] ++ ([(1, 0)] ++ [])))
  (sSeq (sIf (tCmp dLt (eVar 1) (eC (.int 0)))
  (sSet 2 0 (eUn dNeg (eVar 2)) [])
  sNil)
  (sRet (eTup (aCons (eOp dFdiv (eVar 0) (eVar 2)) (aCons (eOp dFdiv (eVar 1) (eVar 2)) aNil))))))
end Lib
end
section
set_option Elab.async false
set_option linter.all false
set_option maxRecDepth 10000
namespace Lib
open DS PySem
def rt (q : Rat) : D := .tuple [.int q.num, .int q.den]
def Sm (n : Nat) (q : Rat) : Prop := q.num.natAbs < 2 ^ n ∧ q.den < 2 ^ n
theorem gcd_step (n : Nat) (a b : Int) (L : List Nat) (hb : 0 < b) : ∃ L', whGo (tCmp dGt (eVar 1) (eC (.int 0))) (sPar 0 1 (eVar 1) (eOp dMod (eVar 0) (eVar 1)) ([(1, 0)] ++ ([(0, 1)] ++ [(1, 1)]))) (n + 1) ([some (.int a), some (.int b)], L) =
    whGo (tCmp dGt (eVar 1) (eC (.int 0))) (sPar 0 1 (eVar 1) (eOp dMod (eVar 0) (eVar 1)) ([(1, 0)] ++ ([(0, 1)] ++ [(1, 1)]))) n ([some (.int b), some (.int (a % b))], L') := by
  rw [whGo]
  simp [hb, sPar, dMod_i hb, flat]
  exact ⟨_, rfl⟩
theorem gcd_end (n : Nat) (a : Int) (L : List Nat) : whGo (tCmp dGt (eVar 1) (eC (.int 0))) (sPar 0 1 (eVar 1) (eOp dMod (eVar 0) (eVar 1)) ([(1, 0)] ++ ([(0, 1)] ++ [(1, 1)]))) (n + 1) ([some (.int a), some (.int 0)], L) = .next ([some (.int a), some (.int 0)], L) := by
  rw [whGo]
  simp
theorem mod2_lt {b r : Int} (hr : 0 < r) (hrb : r < b) : 2 * (b % r) < b := by
  have h1 := Int.emod_lt_of_pos b hr
  have h2 := Int.emod_nonneg b (by omega : r ≠ 0)
  by_cases h : 2 * r ≤ b
  · omega
  · have : b % r = b - r := by
      have e := Int.emod_add_mul_ediv b r
      have hq : b / r = 1 := by
        apply Int.le_antisymm
        · have : b / r < 2 := Int.ediv_lt_of_lt_mul hr (by omega)
          omega
        · exact (Int.le_ediv_iff_mul_le hr).mpr (by omega)
      rw [hq] at e
      omega
    omega
theorem gcd_mod (a b : Int) : Int.gcd a b = Int.gcd b (a % b) := by
  rw [Int.gcd_comm a b]
  conv => lhs; rw [← Int.emod_add_mul_ediv a b, Int.mul_comm]
  exact Int.gcd_add_mul_right_right b (a % b) (a / b)
theorem gcd_go : ∀ (k n : Nat) (a b : Int) (L : List Nat), 0 ≤ a → 0 ≤ b → b < 2 ^ k → 2 * k + 1 ≤ n → ∃ L', whGo (tCmp dGt (eVar 1) (eC (.int 0))) (sPar 0 1 (eVar 1) (eOp dMod (eVar 0) (eVar 1)) ([(1, 0)] ++ ([(0, 1)] ++ [(1, 1)]))) n ([some (.int a), some (.int b)], L) = .next ([some (.int (Int.gcd a b)), some (.int 0)], L')
  | 0, n + 1, a, b, L, ha, hb, hk, hn => by
    have e : b = 0 := by simpa using (show b < 1 by simpa using hk) |> fun h => (by omega : b = 0)
    subst e
    rw [gcd_end]
    exact ⟨L, by simp [Int.natAbs_of_nonneg ha]⟩
  | k + 1, n + 3, a, b, L, ha, hb, hk, hn => by
    by_cases h0 : b = 0
    · subst h0
      rw [gcd_end]
      exact ⟨L, by simp [Int.natAbs_of_nonneg ha]⟩
    · have hb' : 0 < b := by omega
      obtain ⟨L1, e1⟩ := gcd_step (n + 2) a b L hb'
      rw [e1]
      have hr0 := Int.emod_nonneg a (by omega : b ≠ 0)
      have hr1 := Int.emod_lt_of_pos a hb'
      have g1 : Int.gcd a b = Int.gcd b (a % b) := gcd_mod a b
      by_cases h1 : a % b = 0
      · rw [h1] at g1 ⊢
        rw [gcd_end]
        exact ⟨L1, by rw [g1]; simp [Int.natAbs_of_nonneg hb]⟩
      · obtain ⟨L2, e2⟩ := gcd_step (n + 1) b (a % b) L1 (by omega)
        rw [e2]
        have hm := mod2_lt (b := b) (r := a % b) (by omega) hr1
        have hlt : b % (a % b) < 2 ^ k := by
          have : (2 : Int) ^ (k + 1) = 2 * 2 ^ k := by rw [Int.pow_succ]; omega
          omega
        obtain ⟨L3, e3⟩ := gcd_go k (n + 1) (a % b) (b % (a % b)) L2 hr0 (Int.emod_nonneg b h1) hlt (by omega)
        rw [e3]
        refine ⟨L3, ?_⟩
        rw [g1, gcd_mod b (a % b)]
theorem divisor_ok {a b : Int} {k : Nat} (hb : b.natAbs < 2 ^ k) (hk : k ≤ 40000) : den_divisor [.int a, .int b] = some (.int (Int.gcd a b)) := by
  have habs : ∀ x : Int, (if x < 0 then -x else x) = (x.natAbs : Int) := fun x => by split <;> omega
  unfold den_divisor dfun
  simp only [List.length_cons, List.length_nil, Nat.zero_add, Nat.reduceAdd, if_true, List.map_cons, List.map_nil]
  rw [sSeq_next (s' := ([some (.int a.natAbs), some (.int b.natAbs)], [0, 0])) (by simp [sPar, dAbs, flat, habs])]
  obtain ⟨L, e⟩ := gcd_go k 100000 a.natAbs b.natAbs [0, 0] (by omega) (by omega) (by
    have := Int.ofNat_lt.mpr hb
    simpa using this) (by omega)
  rw [sSeq_next (s' := ([some (.int (Int.gcd a b)), some (.int 0)], L)) (by
    unfold sWhile
    rw [e]
    simp [Int.gcd_eq_natAbs_gcd_natAbs])]
  simp
theorem lowest_ok {a b : Int} {k : Nat} (hb0 : 0 < b) (hb : b.natAbs < 2 ^ k) (hk : k ≤ 8999) : den_lowest [.int a, .int b] = some (rt (Rat.divInt a b)) := by
  have hg : (Int.gcd a b) ≠ 0 := fun h => by
    have := (Int.gcd_eq_zero_iff.mp h).2
    omega
  have hgb : Int.gcd a b ≤ b.natAbs := Nat.le_of_dvd (by omega) (Int.gcd_eq_natAbs_gcd_natAbs a b ▸ Nat.gcd_dvd_right _ _)
  have hnum : (Rat.divInt a b).num = a / (Int.gcd a b : Int) := by rw [Rat.num_divInt, Int.gcd_comm, Int.sign_eq_one_of_pos hb0, Int.one_mul]
  have hden : (Rat.divInt a b).den = b.natAbs / Int.gcd a b := by rw [Rat.den_divInt, if_neg (by omega), Int.gcd_comm]
  have hfd : fdivOk (Int.gcd a b : Int) = true := fdivOk_of (n := k + 1) (by omega) (by
    rw [Nat.pow_succ]
    have e : ((Int.gcd a b : Nat) : Int).natAbs = Int.gcd a b := by omega
    rw [e]; omega) (by omega) (by omega)
  unfold den_lowest dfun
  simp only [List.length_cons, List.length_nil, Nat.zero_add, Nat.reduceAdd, if_true, List.map_cons, List.map_nil]
  rw [sSeq_next (s' := ([some (.int a), some (.int b), some (.int (Int.gcd a b))], [0, 0, 0])) (by
    rw [sSet_next (d := .int (Int.gcd a b)) (by simp [eIfD, hb0, eCall, divisor_ok hb (by omega : k ≤ 40000)])]
    simp [flat])]
  have eb : b / (Int.gcd a b : Int) = ((b.natAbs / Int.gcd a b : Nat) : Int) := by
    rw [Int.natCast_ediv]
    congr 1
    omega
  simp only [sRet_a, eTup, aCons_a, eOp_a, eVar_0, eVar_s, o2_ss, o1_s, dFdiv_i hfd, aNil_a, rt, hnum, hden, eb]
  rfl
theorem Sm.mono {m n : Nat} {q : Rat} (h : Sm m q) (hmn : m ≤ n) : Sm n q :=
  ⟨Nat.lt_of_lt_of_le h.1 (Nat.pow_le_pow_right (by omega) hmn), Nat.lt_of_lt_of_le h.2 (Nat.pow_le_pow_right (by omega) hmn)⟩
theorem natAbs_mul_lt {x y : Int} {m n : Nat} (hx : x.natAbs < 2 ^ m) (hy : y.natAbs < 2 ^ n) : (x * y).natAbs < 2 ^ (m + n) := by
  rw [Int.natAbs_mul, Nat.pow_add]
  exact Nat.mul_lt_mul'' hx hy
theorem natAbs_add_lt {x y : Int} {m : Nat} (hx : x.natAbs < 2 ^ m) (hy : y.natAbs < 2 ^ m) : (x + y).natAbs < 2 ^ (m + 1) := by
  rw [Nat.pow_succ]; omega
theorem natAbs_sub_lt {x y : Int} {m : Nat} (hx : x.natAbs < 2 ^ m) (hy : y.natAbs < 2 ^ m) : (x - y).natAbs < 2 ^ (m + 1) := by
  rw [Nat.pow_succ]; omega
theorem Sm.divInt {a b : Int} {m n : Nat} (hb : 0 < b) (ha : a.natAbs < 2 ^ m) (hb' : b.natAbs < 2 ^ m) : Sm m (Rat.divInt a b) := by
  have hg : 0 < Int.gcd a b := Nat.pos_of_ne_zero fun h => by
    have := (Int.gcd_eq_zero_iff.mp h).2
    omega
  have hnum : (Rat.divInt a b).num = a / (Int.gcd a b : Int) := by rw [Rat.num_divInt, Int.gcd_comm, Int.sign_eq_one_of_pos hb, Int.one_mul]
  have hden : (Rat.divInt a b).den = b.natAbs / Int.gcd a b := by rw [Rat.den_divInt, if_neg (by omega), Int.gcd_comm]
  constructor
  · rw [hnum]
    have hd : (Int.gcd a b : Int) ∣ a := Int.gcd_dvd_left _ _
    rw [Int.natAbs_ediv_of_dvd hd]
    have e : ((Int.gcd a b : Nat) : Int).natAbs = Int.gcd a b := by omega
    rw [e]
    exact Nat.lt_of_le_of_lt (Nat.div_le_self _ _) ha
  · rw [hden]
    exact Nat.lt_of_le_of_lt (Nat.div_le_self _ _) hb'
theorem den_pos (q : Rat) : (0 : Int) < q.den := by
  have := q.den_nz
  omega
theorem atI_0 {x : D} {r : List D} : L2.atI (x :: r) 0 = some x := by
  have : L2.atI (x :: r) ((0 : Nat) : Int) = some x := L2.atI_nat rfl
  simpa using this
theorem atI_1 {x y : D} {r : List D} : L2.atI (x :: y :: r) 1 = some y := by
  have : L2.atI (x :: y :: r) ((1 : Nat) : Int) = some y := L2.atI_nat rfl
  simpa using this
theorem rt_0 (q : Rat) : dIx (rt q) (.int 0) = some (.int q.num) := atI_0
theorem rt_1 (q : Rat) : dIx (rt q) (.int 1) = some (.int q.den) := atI_1
theorem plus_ok {p q : Rat} {m n : Nat} (hp : Sm m p) (hq : Sm n q) (h0 : 0 < m) (h1 : 0 < n) (h : m + n ≤ 8000) : den_plus [rt p, rt q] = some (rt (p + q)) ∧ Sm (m + n + 1) (p + q) := by
  have e : p + q = Rat.divInt (p.num * q.den + q.num * p.den) (p.den * q.den) := by
    conv => lhs; rw [← Rat.num_divInt_den p, ← Rat.num_divInt_den q]
    exact Rat.divInt_add_divInt _ _ (by have := den_pos p; omega) (by have := den_pos q; omega)
  have hd : (0 : Int) < p.den * q.den := Int.mul_pos (den_pos p) (den_pos q)
  have c1 : (p.num * q.den).natAbs < 2 ^ (m + n) := natAbs_mul_lt hp.1 (by simpa using hq.2)
  have c2 : (q.num * p.den).natAbs < 2 ^ (m + n) := by
    rw [Nat.add_comm]
    exact natAbs_mul_lt hq.1 (by simpa using hp.2)
  have b1 := natAbs_add_lt c1 c2
  have b2 : ((p.den : Int) * q.den).natAbs < 2 ^ (m + n) := natAbs_mul_lt (by simpa using hp.2) (by simpa using hq.2)
  have b2' : ((p.den : Int) * q.den).natAbs < 2 ^ (m + n + 1) := Nat.lt_of_lt_of_le b2 (Nat.pow_le_pow_right (by omega) (by omega))
  have m1 : mulOk p.num q.den = true := mulOk_big (m := m) (n := n) hp.1 (by simpa using hq.2) h0 h1 (by omega)
  have m2 : mulOk q.num p.den = true := mulOk_big (m := n) (n := m) hq.1 (by simpa using hp.2) h1 h0 (by omega)
  have m3 : mulOk (p.den : Int) q.den = true := mulOk_big (m := m) (n := n) (by simpa using hp.2) (by simpa using hq.2) h0 h1 (by omega)
  refine ⟨?_, by rw [e]; exact Sm.divInt (n := n) hd b1 b2'⟩
  have hl := lowest_ok (a := p.num * q.den + q.num * p.den) hd b2 (by omega)
  rw [← e] at hl
  simp [den_plus, dfun, eCall, rt_0, rt_1, dMul_i m1, dMul_i m2, dMul_i m3, hl]
theorem minus_ok {p q : Rat} {m n : Nat} (hp : Sm m p) (hq : Sm n q) (h0 : 0 < m) (h1 : 0 < n) (h : m + n ≤ 8000) : den_minus [rt p, rt q] = some (rt (p - q)) ∧ Sm (m + n + 1) (p - q) := by
  have e : p - q = Rat.divInt (p.num * q.den - q.num * p.den) (p.den * q.den) := by
    conv => lhs; rw [← Rat.num_divInt_den p, ← Rat.num_divInt_den q]
    exact Rat.divInt_sub_divInt _ _ (by have := den_pos p; omega) (by have := den_pos q; omega)
  have hd : (0 : Int) < p.den * q.den := Int.mul_pos (den_pos p) (den_pos q)
  have c1 : (p.num * q.den).natAbs < 2 ^ (m + n) := natAbs_mul_lt hp.1 (by simpa using hq.2)
  have c2 : (q.num * p.den).natAbs < 2 ^ (m + n) := by
    rw [Nat.add_comm]
    exact natAbs_mul_lt hq.1 (by simpa using hp.2)
  have b1 := natAbs_sub_lt c1 c2
  have b2 : ((p.den : Int) * q.den).natAbs < 2 ^ (m + n) := natAbs_mul_lt (by simpa using hp.2) (by simpa using hq.2)
  have b2' : ((p.den : Int) * q.den).natAbs < 2 ^ (m + n + 1) := Nat.lt_of_lt_of_le b2 (Nat.pow_le_pow_right (by omega) (by omega))
  have m1 : mulOk p.num q.den = true := mulOk_big (m := m) (n := n) hp.1 (by simpa using hq.2) h0 h1 (by omega)
  have m2 : mulOk q.num p.den = true := mulOk_big (m := n) (n := m) hq.1 (by simpa using hp.2) h1 h0 (by omega)
  have m3 : mulOk (p.den : Int) q.den = true := mulOk_big (m := m) (n := n) (by simpa using hp.2) (by simpa using hq.2) h0 h1 (by omega)
  refine ⟨?_, by rw [e]; exact Sm.divInt (n := n) hd b1 b2'⟩
  have hl := lowest_ok (a := p.num * q.den - q.num * p.den) hd b2 (by omega)
  rw [← e] at hl
  simp [den_minus, dfun, eCall, rt_0, rt_1, dMul_i m1, dMul_i m2, dMul_i m3, hl]
theorem is_less_ok {p q : Rat} {m n : Nat} (hp : Sm m p) (hq : Sm n q) (h0 : 0 < m) (h1 : 0 < n) (h : m + n ≤ 8000) : den_is_less [rt p, rt q] = some (.bool (decide (p < q))) := by
  have m1 : mulOk p.num q.den = true := mulOk_big (m := m) (n := n) hp.1 (by simpa using hq.2) h0 h1 (by omega)
  have m2 : mulOk q.num p.den = true := mulOk_big (m := n) (n := m) hq.1 (by simpa using hp.2) h1 h0 (by omega)
  simp [den_is_less, dfun, rt_0, rt_1, dMul_i m1, dMul_i m2, Rat.lt_iff]
end Lib
end
section
set_option Elab.async false
set_option linter.all false
set_option maxRecDepth 10000
namespace Lib
open DS PySem
theorem scr_len (ns : List Int) : dLen (scr ns) = some (.int ns.length) := by
  simp [scr, dLen]
theorem atI_map {ns : List Int} {i : Int} (h0 : 0 ≤ i) (h1 : i < ns.length) : ∃ x, L2.atI (ns.map PyData.int) i = some (.int x) := by
  obtain ⟨j, rfl⟩ : ∃ j : Nat, i = (j : Int) := ⟨i.toNat, by omega⟩
  have hj : j < ns.length := by omega
  exact ⟨ns[j], L2.atI_nat (by simp [hj])⟩
theorem scr_ix {ns : List Int} {i : Int} (h0 : 0 ≤ i) (h1 : i < ns.length) : ∃ x, dIx (scr ns) (.int i) = some (.int x) := by
  show ∃ x, L2.atI (ns.map PyData.int) i = some (.int x)
  exact atI_map h0 h1
theorem natAbs_emod_lt {a b : Int} (hb : 0 < b) : (a % b).natAbs < b.natAbs := by
  have h1 := Int.emod_lt_of_pos a hb
  have h2 := Int.emod_nonneg a (by omega : b ≠ 0)
  omega
theorem mixed_ok (ns : List Int) (k : Int) : ∃ v, 0 ≤ v ∧ den__law_mixed [scr ns, .int k] = some (.int v) := by
  have tail : ∀ (cell : Int) (L : List Nat), ∃ v, 0 ≤ v ∧ (sSeq (sSet 3 0 (eOp dMod (eCB (d1 dInt) (aCons (eOp dAdd (eOp dAdd (eOp dMul (eVar 2) (eC (.int 48271))) (eOp dMul (eVar 1) (eC (.int 69621)))) (eC (.int 8191))) aNil)) (eC (.int 2147483647))) ([] ++ []))
      (sSeq (sSet 4 0 (eOp dMod (eCB (d1 dInt) (aCons (eOp dAdd (eOp dAdd (eOp dMul (eVar 3) (eVar 3)) (eOp dFdiv (eVar 3) (eC (.int 7)))) (eOp dMul (eVar 1) (eC (.int 16807)))) aNil)) (eC (.int 2147483629))) ([] ++ []))
      (sSeq (sSet 5 0 (eOp dMod (eCB (d1 dInt) (aCons (eOp dAdd (eOp dAdd (eOp dMul (eVar 4) (eVar 4)) (eOp dFdiv (eVar 4) (eC (.int 11)))) (eC (.int 40692))) aNil)) (eC (.int 2147483563))) ([] ++ []))
      (sRet (eOp dMod (eOp dFdiv (eVar 5) (eC (.int 5))) (eC (.int 1000003))))))) ([some (scr ns), some (.int k), some (.int cell), none, none, none], L) = .ret (.int v) := by
    intro cell L
    generalize hf : (cell * 48271 + k * 69621 + 8191) % 2147483647 = first
    have f1 : first.natAbs < 18446744073709551616 := by
      have := natAbs_emod_lt (a := cell * 48271 + k * 69621 + 8191) (b := 2147483647) (by omega)
      rw [hf] at this
      omega
    generalize hs : (first * first + first / 7 + k * 16807) % 2147483629 = second
    have s1 : second.natAbs < 18446744073709551616 := by
      have := natAbs_emod_lt (a := first * first + first / 7 + k * 16807) (b := 2147483629) (by omega)
      rw [hs] at this
      omega
    have k1 : ∀ i : Int, mulOk i 48271 = true := fun i => mulOk_r (by decide)
    have k2 : ∀ i : Int, mulOk i 69621 = true := fun i => mulOk_r (by decide)
    have k3 : ∀ i : Int, mulOk i 16807 = true := fun i => mulOk_r (by decide)
    have d7 : fdivOk 7 = true := by decide
    have d11 : fdivOk 11 = true := by decide
    have d5 : fdivOk 5 = true := by decide
    rw [sSeq_next (s' := ([some (scr ns), some (.int k), some (.int cell), some (.int first), none, none], L.set 3 0)) (by
      rw [sSet_next (d := .int first) (by simp [dMul_i (k1 _), dMul_i (k2 _), dMod, hf])]
      simp [flat])]
    rw [sSeq_next (s' := ([some (scr ns), some (.int k), some (.int cell), some (.int first), some (.int second), none], (L.set 3 0).set 4 0)) (by
      rw [sSet_next (d := .int second) (by simp [dMul_i (mulOk_l f1), dMul_i (k3 _), dFdiv_i d7, dMod, hs])]
      simp [flat])]
    rw [sSeq_next (s' := ([some (scr ns), some (.int k), some (.int cell), some (.int first), some (.int second), some (.int ((second * second + second / 11 + 40692) % 2147483563))], ((L.set 3 0).set 4 0).set 5 0)) (by
      rw [sSet_next (d := .int ((second * second + second / 11 + 40692) % 2147483563)) (by simp [dMul_i (mulOk_l s1), dFdiv_i d11, dMod])]
      simp [flat])]
    refine ⟨(second * second + second / 11 + 40692) % 2147483563 / 5 % 1000003, Int.emod_nonneg _ (by decide), ?_⟩
    simp [dFdiv_i d5, dMod]
  unfold den__law_mixed dfun
  simp only [List.length_cons, List.length_nil, Nat.zero_add, Nat.reduceAdd, if_true, List.map_cons, List.map_nil]
  rw [sSeq_next (s' := ([some (scr ns), some (.int k), some (.int 0), none, none, none], [0, 0, 0, 0, 0, 0])) (by simp [sSet, flat])]
  by_cases h : ns = []
  · rw [sSeq_next (s' := ([some (scr ns), some (.int k), some (.int 0), none, none, none], [0, 0, 0, 0, 0, 0])) (by
      rw [sIf_f (by simp [scr_len, h])]
      rfl)]
    obtain ⟨v, h0, e⟩ := tail 0 [0, 0, 0, 0, 0, 0]
    exact ⟨v, h0, by rw [e]⟩
  · have hl : (0 : Int) < ns.length := by
      have := List.length_pos_iff.mpr h
      omega
    obtain ⟨x, hx⟩ := scr_ix (ns := ns) (i := k % (ns.length : Int)) (Int.emod_nonneg _ (by omega)) (Int.emod_lt_of_pos _ hl)
    rw [sSeq_next (s' := ([some (scr ns), some (.int k), some (.int x), none, none, none], [0, 0, 0, 0, 0, 0])) (by
      rw [sIf_t (by simp [scr_len]; omega)]
      rw [sSet_next (d := .int x) (by simp [scr_len, dMod_i hl, hx])]
      simp [flat])]
    obtain ⟨v, h0, e⟩ := tail x [0, 0, 0, 0, 0, 0]
    exact ⟨v, h0, by rw [e]⟩
end Lib
end
section
set_option Elab.async false
set_option linter.all false
set_option maxRecDepth 10000
namespace Lib
open DS PySem
theorem for_inv {t : Tg} {body : FS} (P : Nat → S → Prop) : ∀ (ds : List D) (k0 : Nat) (s : S), P k0 s →
    (∀ k d s, ds[k]? = some d → P (k0 + k) s → ∃ l s', t.go d = some l ∧ body (setsD s.1 l, zeros s.2 l) = .next s' ∧ P (k0 + k + 1) s') →
    ∃ s', forGo t body ds s = .next s' ∧ P (k0 + ds.length) s'
  | [], k0, s, h, _ => ⟨s, rfl, h⟩
  | d :: ds, k0, s, h, st => by
    obtain ⟨l, s', e1, e2, h'⟩ := st 0 d s rfl h
    obtain ⟨s2, e3, h2⟩ := for_inv P ds (k0 + 1) s' h' (fun k d' s'' hd hp => by
      have := st (k + 1) d' s'' (by simpa using hd)
      have a1 : k0 + (k + 1) = k0 + 1 + k := by omega
      rw [a1] at this
      exact this hp)
    refine ⟨s2, ?_, ?_⟩
    · unfold forGo
      rw [e1]
      show (match body (setsD s.1 l, zeros s.2 l) with
        | .next s' => forGo t body ds s'
        | .cont s' => forGo t body ds s'
        | .brk s' => .next s'
        | .ret d => .ret d
        | .stuck => .stuck) = _
      rw [e2]
      exact e3
    · have a1 : k0 + (d :: ds).length = k0 + 1 + ds.length := by simp; omega
      rw [a1]; exact h2
theorem rng_get {lo : Int} {n k : Nat} {d : D} (h : (rngD lo n)[k]? = some d) : k < n ∧ d = .int (lo + k) := by
  have hk : k < n := by
    have := (List.getElem?_eq_some_iff.mp h).1
    simpa [rngD] using this
  refine ⟨hk, ?_⟩
  unfold rngD at h
  rw [List.getElem?_map, List.getElem?_range hk] at h
  exact (Option.some.inj h).symm
theorem rng_len {lo : Int} {n : Nat} : (rngD lo n).length = n := by simp [rngD]
theorem for_rng {i : Nat} {body : FS} {n : Nat} {lo : Int} (P : Nat → S → Prop) (s : S) (h0 : P 0 s)
    (st : ∀ (k : Nat) (s : S), k < n → P k s → ∃ s', body (s.1.set i (some (.int (lo + k))), s.2.set i 0) = .next s' ∧ P (k + 1) s') :
    ∃ s', forGo (.nm i) body (rngD lo n) s = .next s' ∧ P n s' := by
  obtain ⟨s', e, h⟩ := for_inv (t := .nm i) (body := body) P (rngD lo n) 0 s h0 (fun k d s hd hp => by
    obtain ⟨hk, rfl⟩ := rng_get hd
    rw [Nat.zero_add] at hp ⊢
    obtain ⟨s', e, h'⟩ := st k s hk hp
    exact ⟨[(i, .int (lo + k))], s', by simp [Tg.go], e, h'⟩)
  rw [Nat.zero_add, rng_len] at h
  exact ⟨s', e, h⟩
theorem range1_ok {f : FE} {ρ : PEnv} {n : Nat} (h : f ρ = some (.int n)) (hn : n < 4611686018427387904) : iRange1 f ρ = some (rngD 0 n) := by
  unfold iRange1
  rw [h, o1_s]
  have : rngOk 0 (n : Int) = true := by
    unfold rngOk
    simp only [Bool.and_eq_true, decide_eq_true_eq]
    omega
  show (if rngOk 0 (n : Int) = true then some (rngD 0 (n : Int).toNat) else none) = _
  rw [if_pos this]
  rfl
theorem sFor_go {fi : FA} {c : Esc} {t : Tg} {body : FS} {s : S} {ds : List D} (h : fi s.1 = some ds) : sFor fi c t body s = forGo t body ds (s.1, demote c s.2) := by
  unfold sFor; rw [h]
theorem lc_rng {i : Nat} {fe : FE} {ρ : PEnv} {n : Nat} {lo : Int} {g : Nat → D} (h : ∀ k : Nat, k < n → fe (ρ.set i (some (.int (lo + k)))) = some (g k)) : lcGo (.nm i) tTrue fe ρ (rngD lo n) = some ((List.range n).map g) := by
  unfold rngD
  have go : ∀ (l : List Nat), (∀ k ∈ l, k < n) → lcGo (.nm i) tTrue fe ρ (l.map fun (k : Nat) => .int (lo + (k : Int))) = some (l.map g) := by
    intro l hl
    induction l with
    | nil => rfl
    | cons k l ih =>
      have e := h k (hl k (.head _))
      have ih' := ih fun k' hk => hl k' (.tail _ hk)
      unfold lcGo
      simp only [List.map_cons, Tg.go, tTrue_a]
      show (match fe (ρ.set i (some (.int (lo + k)))) with
        | none => none
        | some y => match lcGo (.nm i) tTrue fe ρ (l.map fun (k : Nat) => .int (lo + (k : Int))) with
          | none => none
          | some ys => some (y :: ys)) = _
      rw [e, ih']
  exact go (List.range n) fun k hk => List.mem_range.mp hk
theorem eLc_rng {f : FE} {i : Nat} {fe : FE} {vs : List Nat} {ρ : PEnv} {n : Nat} {g : Nat → D} (hf : f ρ = some (.int n)) (hn : n ≤ 16777216) (h : ∀ k : Nat, k < n → fe ((wipeD ρ vs).set i (some (.int k))) = some (g k)) :
    eLc (iRange1 f) (.nm i) tTrue fe vs ρ = some (.list ((List.range n).map g)) := by
  unfold eLc
  rw [range1_ok hf (by omega), o1_s]
  have : (rngD 0 n).length ≤ sz := by rw [rng_len]; exact hn
  rw [if_pos this, lc_rng (g := g) (fun k hk => by rw [Int.zero_add]; exact h k hk), o1_s]
def Nats (ds : List D) : Prop := ∀ d ∈ ds, ∃ v : Int, 0 ≤ v ∧ d = .int v
theorem Nats.snoc {ds : List D} {v : Int} (h : Nats ds) (hv : 0 ≤ v) : Nats (ds ++ [.int v]) := fun d hd => by
  rcases List.mem_append.mp hd with h1 | h1
  · exact h d h1
  · simp at h1; exact ⟨v, hv, h1⟩
theorem sApp_flat {i : Nat} {f : FE} {c : Esc} {ρ : PEnv} {L : List Nat} {d : D} {ds : List D} (h : f ρ = some d) (hd : flat d = true) (hi : eVar i ρ = some (.list ds)) (hl : ds.length < 16777216) (hL : lv L i = 1) : sApp i f c (ρ, L) = .next (ρ.set i (some (.list (ds ++ [d]))), L) := by
  unfold sApp
  simp only [h, hi]
  have : ds.length < sz := hl
  rw [if_pos this, if_pos hd, if_pos hL]
theorem row_ok (ns : List Int) (many : Nat) (hm : many ≤ 1000000) : ∃ ds, ds.length = many ∧ Nats ds ∧ den__law_row [scr ns, .int many] = some (.list ds) := by
  have head : ∃ (big : Int) , (sIf (tAndD (tCmp dGt (eCB (d1 dLen) (aCons (eVar 0) aNil)) (eC (.int 0))) (tCmp dGe (eIx (eVar 0) (eC (.int 0))) (eOp dPow (eC (.int 10)) (eC (.int 18)))))
      (sSet 2 0 (eIx (eVar 0) (eC (.int 0))) [(0, 1)]) sNil) ([some (scr ns), some (.int many), some (.int 0), none, none], [0, 0, 0, 0, 0]) = .next ([some (scr ns), some (.int many), some (.int big), none, none], [0, 0, 0, 0, 0]) := by
    by_cases h : ns = []
    · exact ⟨0, by rw [sIf_f (by simp [tAndD, scr_len, h])]; rfl⟩
    · have hl : (0 : Int) < ns.length := by
        have := List.length_pos_iff.mpr h
        omega
      obtain ⟨x, hx⟩ := scr_ix (ns := ns) (i := 0) (by omega) hl
      have hl' : 0 < ns.length := by omega
      have hp : dPow (.int 10) (.int 18) = some (.int 1000000000000000000) := by
        show (if powOk 10 18 = true then some (PyData.int ((10 : Int) ^ (18 : Int).toNat)) else none) = _
        rw [if_pos (by decide)]
        rfl
      by_cases hb : 1000000000000000000 ≤ x
      · refine ⟨x, ?_⟩
        rw [sIf_t (by simp [tAndD, scr_len, hx, hp, hb, hl'])]
        rw [sSet_next (d := .int x) (by simp [hx])]
        simp [flat]
      · refine ⟨0, ?_⟩
        rw [sIf_f (by simp [tAndD, scr_len, hx, hp, hb, hl'])]
        rfl
  obtain ⟨big, hbig⟩ := head
  unfold den__law_row dfun
  simp only [List.length_cons, List.length_nil, Nat.zero_add, Nat.reduceAdd, if_true, List.map_cons, List.map_nil]
  rw [sSeq_next (s' := ([some (scr ns), some (.int many), some (.int 0), none, none], [0, 0, 0, 0, 0])) (by simp [sSet, flat])]
  rw [sSeq_next hbig]
  rw [sSeq_next (s' := ([some (scr ns), some (.int many), some (.int big), some (.list []), none], [0, 0, 0, 1, 0])) (by simp [sSet, flat, eLst, sz, demote])]
  have loop := for_rng (i := 4) (n := many) (lo := 0) (body := sIf (tCmp dGt (eVar 2) (eC (.int 0)))
    (sSeq (sApp 3 (eOp dMod (eCB (d1 dInt) (aCons (eVar 2) aNil)) (eC (.int 1000))) ([] ++ []))
    (sSet 2 0 (eOp dFdiv (eVar 2) (eC (.int 1000))) ([(2, 1)] ++ [])))
    (sApp 3 (eCall 2 den__law_mixed (aCons (eVar 0) (aCons (eVar 4) aNil))) ([(0, 0)] ++ ([(4, 0)] ++ []))))
    (fun k s => ∃ (big : Int) (ds : List D) (x : Option D), s = ([some (scr ns), some (.int many), some (.int big), some (.list ds), x], [0, 0, 0, 1, 0]) ∧ ds.length = k ∧ Nats ds)
    ([some (scr ns), some (.int many), some (.int big), some (.list []), none], [0, 0, 0, 1, 0]) ⟨big, [], none, rfl, rfl, fun d hd => by simp at hd⟩
    (by
      rintro k _ hk ⟨big, ds, x, rfl, hl, hn⟩
      by_cases hb : 0 < big
      · refine ⟨_, ?_, big / 1000, ds ++ [.int (big % 1000)], some (.int (0 + k)), rfl, by simp [hl], hn.snoc (Int.emod_nonneg _ (by decide))⟩
        rw [sIf_t (by simp [hb])]
        rw [sSeq_next (sApp_flat (d := .int (big % 1000)) (ds := ds) (by simp [dMod]) (by rfl) (by simp) (by omega) (by rfl))]
        rw [sSet_next (d := .int (big / 1000)) (by simp [dFdiv_i (j := 1000) (by decide)])]
        simp [flat]
      · obtain ⟨v, hv, e⟩ := mixed_ok ns (0 + k)
        refine ⟨_, ?_, big, ds ++ [.int v], some (.int (0 + k)), rfl, by simp [hl], hn.snoc hv⟩
        rw [sIf_f (by simp [hb])]
        rw [sApp_flat (d := .int v) (ds := ds) (by simpa [eCall] using e) (by rfl) (by simp) (by omega) (by rfl)]
        rfl)
  obtain ⟨s', e, big', ds, x, rfl, hl, hn⟩ := loop
  rw [sSeq_next (s' := ([some (scr ns), some (.int many), some (.int big'), some (.list ds), x], [0, 0, 0, 1, 0])) (by
    rw [sFor_go (range1_ok (n := many) (by simp) (by omega))]
    exact e)]
  exact ⟨ds, hl, hn, by simp⟩
theorem map_ix {n j : Nat} {g : Nat → D} (h : j < n) : dIx (.list ((List.range n).map g)) (.int j) = some (g j) := by
  show L2.atI ((List.range n).map g) (j : Int) = some (g j)
  exact L2.atI_nat (by simp [h])
theorem row_fn (ns : List Int) (many : Nat) (hm : many ≤ 1000000) : ∃ r : Nat → Int, (∀ k, 0 ≤ r k) ∧ den__law_row [scr ns, .int many] = some (.list ((List.range many).map fun k => .int (r k))) := by
  obtain ⟨ds, hl, hn, e⟩ := row_ok ns many hm
  have h : ∀ k : Nat, ∃ v : Int, 0 ≤ v ∧ (k < ds.length → ds[k]? = some (.int v)) := fun k => by
    by_cases hk : k < ds.length
    · obtain ⟨v, h0, h1⟩ := hn ds[k] (List.getElem_mem hk)
      exact ⟨v, h0, fun _ => by rw [List.getElem?_eq_getElem hk, h1]⟩
    · exact ⟨0, Int.le_refl _, fun h => absurd h hk⟩
  refine ⟨fun k => (h k).choose, fun k => (h k).choose_spec.1, ?_⟩
  rw [e]
  congr 2
  refine List.ext_getElem? fun k => ?_
  by_cases hk : k < many
  · rw [(h k).choose_spec.2 (by omega)]
    simp [hk]
  · rw [List.getElem?_eq_none (by omega), List.getElem?_eq_none (by simp; omega)]
end Lib
end
section
set_option Elab.async false
set_option linter.all false
set_option maxRecDepth 10000
namespace Lib
open DS PySem
@[simp] theorem ty_bool_bool (b : Bool) : isTy (.bool b) "bool" = some true := by
  show L2.kitB "bool" "bool" = _
  decide +kernel
@[simp] theorem ty_bool_int (b : Bool) : isTy (.bool b) "int" = some true := by
  show L2.kitB "bool" "int" = _
  decide +kernel
@[simp] theorem ty_bool_str (b : Bool) : isTy (.bool b) "str" = some false := by
  show L2.kitB "bool" "str" = _
  decide +kernel
@[simp] theorem ty_bool_list (b : Bool) : isTy (.bool b) "list" = some false := by
  show L2.kitB "bool" "list" = _
  decide +kernel
@[simp] theorem ty_bool_tuple (b : Bool) : isTy (.bool b) "tuple" = some false := by
  show L2.kitB "bool" "tuple" = _
  decide +kernel
@[simp] theorem ty_int_bool (i : Int) : isTy (.int i) "bool" = some false := by
  show L2.kitB "int" "bool" = _
  decide +kernel
@[simp] theorem ty_int_int (i : Int) : isTy (.int i) "int" = some true := by
  show L2.kitB "int" "int" = _
  decide +kernel
@[simp] theorem ty_int_str (i : Int) : isTy (.int i) "str" = some false := by
  show L2.kitB "int" "str" = _
  decide +kernel
@[simp] theorem ty_int_list (i : Int) : isTy (.int i) "list" = some false := by
  show L2.kitB "int" "list" = _
  decide +kernel
@[simp] theorem ty_int_tuple (i : Int) : isTy (.int i) "tuple" = some false := by
  show L2.kitB "int" "tuple" = _
  decide +kernel
@[simp] theorem ty_str_bool (s : Str) : isTy (.str s) "bool" = some false := by
  show L2.kitB "str" "bool" = _
  decide +kernel
@[simp] theorem ty_str_int (s : Str) : isTy (.str s) "int" = some false := by
  show L2.kitB "str" "int" = _
  decide +kernel
@[simp] theorem ty_str_str (s : Str) : isTy (.str s) "str" = some true := by
  show L2.kitB "str" "str" = _
  decide +kernel
@[simp] theorem ty_str_list (s : Str) : isTy (.str s) "list" = some false := by
  show L2.kitB "str" "list" = _
  decide +kernel
@[simp] theorem ty_str_tuple (s : Str) : isTy (.str s) "tuple" = some false := by
  show L2.kitB "str" "tuple" = _
  decide +kernel
@[simp] theorem ty_list_bool (l : List D) : isTy (.list l) "bool" = some false := by
  show L2.kitB "list" "bool" = _
  decide +kernel
@[simp] theorem ty_list_int (l : List D) : isTy (.list l) "int" = some false := by
  show L2.kitB "list" "int" = _
  decide +kernel
@[simp] theorem ty_list_str (l : List D) : isTy (.list l) "str" = some false := by
  show L2.kitB "list" "str" = _
  decide +kernel
@[simp] theorem ty_list_list (l : List D) : isTy (.list l) "list" = some true := by
  show L2.kitB "list" "list" = _
  decide +kernel
@[simp] theorem ty_list_tuple (l : List D) : isTy (.list l) "tuple" = some false := by
  show L2.kitB "list" "tuple" = _
  decide +kernel
@[simp] theorem ty_tuple_bool (l : List D) : isTy (.tuple l) "bool" = some false := by
  show L2.kitB "tuple" "bool" = _
  decide +kernel
@[simp] theorem ty_tuple_int (l : List D) : isTy (.tuple l) "int" = some false := by
  show L2.kitB "tuple" "int" = _
  decide +kernel
@[simp] theorem ty_tuple_str (l : List D) : isTy (.tuple l) "str" = some false := by
  show L2.kitB "tuple" "str" = _
  decide +kernel
@[simp] theorem ty_tuple_list (l : List D) : isTy (.tuple l) "list" = some false := by
  show L2.kitB "tuple" "list" = _
  decide +kernel
@[simp] theorem ty_tuple_tuple (l : List D) : isTy (.tuple l) "tuple" = some true := by
  show L2.kitB "tuple" "tuple" = _
  decide +kernel
@[simp] theorem ty_NoneType_bool  : isTy (.none) "bool" = some false := by
  show L2.kitB "NoneType" "bool" = _
  decide +kernel
@[simp] theorem ty_NoneType_int  : isTy (.none) "int" = some false := by
  show L2.kitB "NoneType" "int" = _
  decide +kernel
@[simp] theorem ty_NoneType_str  : isTy (.none) "str" = some false := by
  show L2.kitB "NoneType" "str" = _
  decide +kernel
@[simp] theorem ty_NoneType_list  : isTy (.none) "list" = some false := by
  show L2.kitB "NoneType" "list" = _
  decide +kernel
@[simp] theorem ty_NoneType_tuple  : isTy (.none) "tuple" = some false := by
  show L2.kitB "NoneType" "tuple" = _
  decide +kernel
def pl : Nat → D → Bool
  | 0, _ => false
  | _ + 1, .none => true
  | _ + 1, .bool _ => true
  | _ + 1, .int _ => true
  | _ + 1, .str s => SeqAt.shaped (.str s)
  | n + 1, .tuple ds => decide (ds.length ≤ 1000000) && ds.all (pl n)
  | _ + 1, _ => false
theorem is_int_ok (i : Int) : den__law_is_int [.int i] = some (.bool true) := by
  simp [den__law_is_int, dfun, eAndD]
theorem dEq_str (s : Str) (h : SeqAt.shaped (.str s) = true) : dEq (.str s) (.str s) = some true := by
  unfold dEq
  rw [if_pos (by simp [h])]
  simp [PyData.eqv]
theorem all_true {α : Type} (l : List α) : dAll (.list (l.map fun _ => .bool true)) = some (.bool true) := by
  have : ∀ l : List α, bools (l.map fun _ => PyData.bool true) = some (l.map fun _ => true) := by
    intro l
    induction l with
    | nil => rfl
    | cons a l ih => simp [bools, ih]
  simp [dAll, this]
theorem like_eq (n : Nat) : den__law_like (n + 1) = dfun 3 2 (sSeq (sIf (tIsND (eVar 1))
  (sRet (eIsN (eVar 0)))
  sNil)
  (sSeq (sIf (tTru (eIsi "bool" (eVar 1)))
  (sRet (eAndD (eIsi "bool" (eVar 0)) (eB (tCmp dEq (eVar 0) (eVar 1)))))
  sNil)
  (sSeq (sIf (tTru (eIsi "tuple" (eVar 1)))
  (sSeq (sIf (tOrD (tNotD (tTru (eIsi "tuple" (eVar 0)))) (tCmp dNe (eCB (d1 dLen) (aCons (eVar 0) aNil)) (eCB (d1 dLen) (aCons (eVar 1) aNil))))
  (sRet (eC (.bool false)))
  sNil)
  (sRet (eCB (d1 dAll) (aCons (eLc (iRange1 (eCB (d1 dLen) (aCons (eVar 1) aNil))) (.nm 2) tTrue (eCall 2 (den__law_like n) (aCons (eIx (eVar 0) (eVar 2)) (aCons (eIx (eVar 1) (eVar 2)) aNil))) [2]) aNil))))
  sNil)
  (sSeq (sIf (tTru (eIsi "str" (eVar 1)))
  (sRet (eAndD (eIsi "str" (eVar 0)) (eB (tCmp dEq (eVar 0) (eVar 1)))))
  sNil)
  (sRet (eAndD (eCall 1 den__law_is_int (aCons (eVar 0) aNil)) (eB (tCmp dEq (eVar 0) (eVar 1)))))))) ) := by rw [den__law_like]
theorem like_a2 (n) (ds : List D) (hc : eLc (iRange1 (eCB (d1 dLen) (aCons (eVar 1) aNil))) (.nm 2) tTrue (eCall 2 (den__law_like n) (aCons (eIx (eVar 0) (eVar 2)) (aCons (eIx (eVar 1) (eVar 2)) aNil))) [2] [some (.tuple ds), some (.tuple ds), none] = some (.list ((List.range ds.length).map fun _ => .bool true))) : (eCB (d1 dAll) (aCons (eLc (iRange1 (eCB (d1 dLen) (aCons (eVar 1) aNil))) (.nm 2) tTrue (eCall 2 (den__law_like n) (aCons (eIx (eVar 0) (eVar 2)) (aCons (eIx (eVar 1) (eVar 2)) aNil))) [2]) aNil)) [some (.tuple ds), some (.tuple ds), none] = some (.bool true) := by
  have ha := all_true (List.range ds.length)
  simp [hc, ha]
theorem like_a3 (ds : List D) : tOrD (tNotD (tTru (eIsi "tuple" (eVar 0)))) (tCmp dNe (eCB (d1 dLen) (aCons (eVar 0) aNil)) (eCB (d1 dLen) (aCons (eVar 1) aNil))) [some (.tuple ds), some (.tuple ds), none] = some false := by
  simp [tOrD]
theorem like_a4 (ds : List D) : (sIf (tTru (eIsi "bool" (eVar 1))) (sRet (eAndD (eIsi "bool" (eVar 0)) (eB (tCmp dEq (eVar 0) (eVar 1))))) sNil) ([some (.tuple ds), some (.tuple ds), none], [0, 0, 0]) = .next ([some (.tuple ds), some (.tuple ds), none], [0, 0, 0]) := by
  rw [sIf_f (by simp)]
  rfl
theorem like_a5 (n) (ds : List D) (hc : eLc (iRange1 (eCB (d1 dLen) (aCons (eVar 1) aNil))) (.nm 2) tTrue (eCall 2 (den__law_like n) (aCons (eIx (eVar 0) (eVar 2)) (aCons (eIx (eVar 1) (eVar 2)) aNil))) [2] [some (.tuple ds), some (.tuple ds), none] = some (.list ((List.range ds.length).map fun _ => .bool true))) : sRet (eCB (d1 dAll) (aCons (eLc (iRange1 (eCB (d1 dLen) (aCons (eVar 1) aNil))) (.nm 2) tTrue (eCall 2 (den__law_like n) (aCons (eIx (eVar 0) (eVar 2)) (aCons (eIx (eVar 1) (eVar 2)) aNil))) [2]) aNil)) ([some (.tuple ds), some (.tuple ds), none], [0, 0, 0]) = .ret (.bool true) := sRet_ok (like_a2 n ds hc)
theorem like_a6 (ds : List D) : (sIf (tOrD (tNotD (tTru (eIsi "tuple" (eVar 0)))) (tCmp dNe (eCB (d1 dLen) (aCons (eVar 0) aNil)) (eCB (d1 dLen) (aCons (eVar 1) aNil))))
  (sRet (eC (.bool false)))
  sNil) ([some (.tuple ds), some (.tuple ds), none], [0, 0, 0]) = .next ([some (.tuple ds), some (.tuple ds), none], [0, 0, 0]) := by
  rw [sIf_f (s := ([some (.tuple ds), some (.tuple ds), none], [0, 0, 0])) (like_a3 ds)]
  rfl
theorem like_tup {n : Nat} (ih : ∀ d, pl n d = true → den__law_like n [d, d] = some (.bool true)) {ds : List D} (h : pl (n + 1) (.tuple ds) = true) : den__law_like (n + 1) [.tuple ds, .tuple ds] = some (.bool true) := by
  simp only [pl, Bool.and_eq_true, decide_eq_true_eq, List.all_eq_true] at h
  have hc : eLc (iRange1 (eCB (d1 dLen) (aCons (eVar 1) aNil))) (.nm 2) tTrue (eCall 2 (den__law_like n) (aCons (eIx (eVar 0) (eVar 2)) (aCons (eIx (eVar 1) (eVar 2)) aNil))) [2] [some (.tuple ds), some (.tuple ds), none] = some (.list ((List.range ds.length).map fun _ => .bool true)) := by
    refine eLc_rng (n := ds.length) (by simp) (by omega) fun k hk => ?_
    have e : L2.atI ds (k : Int) = some ds[k] := L2.atI_nat (by simp [hk])
    have e' : dIx (.tuple ds) (.int k) = some ds[k] := e
    simp [wipeD, eCall, e', ih ds[k] (h.2 _ (List.getElem_mem hk))]
  rw [like_eq]
  unfold dfun
  simp only [List.length_cons, List.length_nil, Nat.zero_add, Nat.reduceAdd, if_true, List.map_cons, List.map_nil]
  rw [sSeq_next (s' := ([some (.tuple ds), some (.tuple ds), none], [0, 0, 0])) (by
    rw [sIf_f (by simp)]
    rfl)]
  rw [sSeq_next (like_a4 ds)]
  rw [sSeq_ret (d := .bool true) (by
    rw [sIf_t (by simp)]
    rw [sSeq_next (s' := ([some (.tuple ds), some (.tuple ds), none], [0, 0, 0])) (like_a6 ds)]
    exact like_a5 n ds hc)]
theorem like_ok (n : Nat) : ∀ (d : D), pl n d = true → den__law_like n [d, d] = some (.bool true) := by
  induction n with
  | zero => intro d h; cases h
  | succ n ih =>
    intro d h
    cases d with
    | none => simp [den__law_like, dfun, sSeq, sIf]
    | bool b => cases b <;> simp [den__law_like, dfun, sSeq, sIf, eAndD] <;> rfl
    | int i => simp [den__law_like, dfun, sSeq, sIf, eAndD, eCall, is_int_ok]
    | str s => simp [den__law_like, dfun, sSeq, sIf, eAndD, dEq_str s h]
    | tuple ds => exact like_tup ih h
    | list ds => cases h
    | dict ds => cases h
theorem lgcd_go : ∀ (k n : Nat) (a b : Int) (L : List Nat), 0 ≤ a → 0 ≤ b → b < 2 ^ k → 2 * k + 1 ≤ n → ∃ L', whGo (tCmp dGt (eVar 1) (eC (.int 0))) (sPar 0 1 (eVar 1) (eOp dMod (eCB (d1 dInt) (aCons (eVar 0) aNil)) (eVar 1)) ([(1, 0)] ++ ([] ++ [(1, 1)]))) n ([some (.int a), some (.int b)], L) = .next ([some (.int (Int.gcd a b)), some (.int 0)], L') := by
  have same : ∀ (n : Nat) (a b : Int) (L : List Nat), whGo (tCmp dGt (eVar 1) (eC (.int 0))) (sPar 0 1 (eVar 1) (eOp dMod (eCB (d1 dInt) (aCons (eVar 0) aNil)) (eVar 1)) ([(1, 0)] ++ ([] ++ [(1, 1)]))) n ([some (.int a), some (.int b)], L) = whGo (tCmp dGt (eVar 1) (eC (.int 0))) (sPar 0 1 (eVar 1) (eOp dMod (eVar 0) (eVar 1)) ([(1, 0)] ++ ([(0, 1)] ++ [(1, 1)]))) n ([some (.int a), some (.int b)], L) := by
    intro n
    induction n with
    | zero => intros; rfl
    | succ n ih =>
      intro a b L
      by_cases hb : 0 < b
      · rw [whGo, whGo]
        simp only [List.append_nil, List.nil_append, List.cons_append] at ih ⊢
        simp [hb, sPar, dMod_i hb, flat, ih]
      · rw [whGo, whGo]
        simp [hb]
  intro k n a b L h0 h1 h2 h3
  rw [same]
  exact gcd_go k n a b L h0 h1 h2 h3
theorem common_ok {a b : Int} {k : Nat} (hb : b.natAbs < 2 ^ k) (hk : k ≤ 40000) : den__law_common [.int a, .int b] = some (.int (Int.gcd a b)) := by
  have habs : ∀ x : Int, (if x < 0 then -x else x) = (x.natAbs : Int) := fun x => by split <;> omega
  unfold den__law_common dfun
  simp only [List.length_cons, List.length_nil, Nat.zero_add, Nat.reduceAdd, if_true, List.map_cons, List.map_nil]
  rw [sSeq_next (s' := ([some (.int a.natAbs), some (.int b.natAbs)], [0, 0])) (by simp [sPar, dAbs, flat, habs])]
  obtain ⟨L, e⟩ := lgcd_go k 100000 a.natAbs b.natAbs [0, 0] (by omega) (by omega) (by
    have := Int.ofNat_lt.mpr hb
    simpa using this) (by omega)
  rw [sSeq_next (s' := ([some (.int (Int.gcd a b)), some (.int 0)], L)) (by
    unfold sWhile
    rw [e]
    simp [Int.gcd_eq_natAbs_gcd_natAbs])]
  simp
theorem ratio_ok {a b : Int} {k : Nat} (hb0 : 0 < b) (hb : b.natAbs < 2 ^ k) (hk : k ≤ 8999) : den__law_ratio [.int a, .int b] = some (rt (Rat.divInt a b)) := by
  have hg : (Int.gcd a b) ≠ 0 := fun h => by
    have := (Int.gcd_eq_zero_iff.mp h).2
    omega
  have hgb : Int.gcd a b ≤ b.natAbs := Nat.le_of_dvd (by omega) (Int.gcd_eq_natAbs_gcd_natAbs a b ▸ Nat.gcd_dvd_right _ _)
  have hnum : (Rat.divInt a b).num = a / (Int.gcd a b : Int) := by rw [Rat.num_divInt, Int.gcd_comm, Int.sign_eq_one_of_pos hb0, Int.one_mul]
  have hden : (Rat.divInt a b).den = b.natAbs / Int.gcd a b := by rw [Rat.den_divInt, if_neg (by omega), Int.gcd_comm]
  have hfd : fdivOk (Int.gcd a b : Int) = true := fdivOk_of (n := k + 1) (by omega) (by
    rw [Nat.pow_succ]
    have e : ((Int.gcd a b : Nat) : Int).natAbs = Int.gcd a b := by omega
    rw [e]; omega) (by omega) (by omega)
  unfold den__law_ratio dfun
  simp only [List.length_cons, List.length_nil, Nat.zero_add, Nat.reduceAdd, if_true, List.map_cons, List.map_nil]
  rw [sSeq_next (s' := ([some (.int a), some (.int b), some (.int (Int.gcd a b))], [0, 0, 0])) (by
    rw [sSet_next (d := .int (Int.gcd a b)) (by simp [eCall, common_ok hb (by omega : k ≤ 40000)])]
    simp [flat])]
  rw [sSeq_next (s' := ([some (.int a), some (.int b), some (.int (Int.gcd a b))], [0, 0, 0])) (by
    rw [sIf_f (by simp; omega)]
    simp)]
  have eb : b / (Int.gcd a b : Int) = ((b.natAbs / Int.gcd a b : Nat) : Int) := by
    rw [Int.natCast_ediv]
    congr 1
    omega
  simp only [sRet_a, eTup, aCons_a, eOp_a, eVar_0, eVar_s, o2_ss, o1_s, dFdiv_i hfd, aNil_a, rt, hnum, hden, eb]
  rfl
end Lib
end
section
set_option Elab.async false
set_option linter.all false
set_option maxRecDepth 10000
namespace Lib
open DS PySem
def C : Nat → Nat → Nat
  | _, 0 => 1
  | 0, _ + 1 => 0
  | n + 1, k + 1 => C n k + C n (k + 1)
def rsum (g : Nat → Int) : Nat → Int
  | 0 => 0
  | m + 1 => rsum g m + g m
def V (p : Rat) : Nat → Nat → Rat
  | 0, _ => 1
  | _ + 1, 0 => 0
  | a + 1, b + 1 => p * V p a (b + 1) + (1 - p) * V p (a + 1) b
end Lib
end
section
set_option Elab.async false
set_option linter.all false
set_option maxRecDepth 10000
namespace Lib
open DS PySem
theorem Sm.one {m : Nat} (h : 0 < m) : Sm m 1 := ⟨by show 1 < 2 ^ m; exact Nat.one_lt_two_pow (by omega), by show 1 < 2 ^ m; exact Nat.one_lt_two_pow (by omega)⟩
theorem Sm.zero {m : Nat} (h : 0 < m) : Sm m 0 := ⟨by show 0 < 2 ^ m; exact Nat.two_pow_pos m, by show 1 < 2 ^ m; exact Nat.one_lt_two_pow (by omega)⟩
theorem flat_rt (q : Rat) : flat (rt q) = true := rfl
theorem total_go {m : Nat} (hm : 0 < m) (x0 : Option D) : ∀ (ts : List Rat) (k : Nat) (q : Rat) (y : Option D) (L : List Nat), (∀ t ∈ ts, Sm m t) → 0 < k → Sm k q → k + ts.length * (m + 1) ≤ 7000 →
    ∃ y' L', forGo (.nm 2) (sSet 1 0 (eCall 2 den_plus (aCons (eVar 1) (aCons (eVar 2) aNil))) ([(1, 0)] ++ ([(2, 0)] ++ []))) (ts.map rt) ([x0, some (rt q), y], L) = .next ([x0, some (rt (ts.foldl (· + ·) q)), y'], L') ∧ Sm (k + ts.length * (m + 1)) (ts.foldl (· + ·) q)
  | [], k, q, y, L, _, hk, hq, _ => ⟨y, L, rfl, by simpa using hq⟩
  | t :: ts, k, q, y, L, ht, hk, hq, hb => by
    have hl : (t :: ts).length * (m + 1) = ts.length * (m + 1) + (m + 1) := by rw [List.length_cons, Nat.succ_mul]
    have p := plus_ok hq (ht t (.head _)) hk hm (by omega)
    obtain ⟨y', L', e, s⟩ := total_go hm x0 ts (k + m + 1) (q + t) (some (rt t)) ((L.set 2 0).set 1 0) (fun t' h => ht t' (.tail _ h)) (by omega) p.2 (by omega)
    refine ⟨y', L', ?_, ?_⟩
    · unfold forGo
      have hs : sSet 1 0 (eCall 2 den_plus (aCons (eVar 1) (aCons (eVar 2) aNil))) ([(1, 0)] ++ ([(2, 0)] ++ [])) ([x0, some (rt q), some (rt t)], L.set 2 0) = .next ([x0, some (rt (q + t)), some (rt t)], (L.set 2 0).set 1 0) := by
        rw [sSet_next (d := rt (q + t)) (by simp only [eCall_2, eVar_0, eVar_s, o1_s, p.1])]
        rw [if_pos (flat_rt _)]
        rfl
      simp only [List.map_cons, Tg.go]
      show (match sSet 1 0 (eCall 2 den_plus (aCons (eVar 1) (aCons (eVar 2) aNil))) ([(1, 0)] ++ ([(2, 0)] ++ [])) ([x0, some (rt q), some (rt t)], L.set 2 0) with
        | .next s' => forGo (.nm 2) (sSet 1 0 (eCall 2 den_plus (aCons (eVar 1) (aCons (eVar 2) aNil))) ([(1, 0)] ++ ([(2, 0)] ++ []))) (ts.map rt) s'
        | .cont s' => forGo (.nm 2) (sSet 1 0 (eCall 2 den_plus (aCons (eVar 1) (aCons (eVar 2) aNil))) ([(1, 0)] ++ ([(2, 0)] ++ []))) (ts.map rt) s'
        | .brk s' => .next s'
        | .ret d => .ret d
        | .stuck => .stuck) = _
      rw [hs]
      exact e
    · rw [hl]
      have e2 : k + (ts.length * (m + 1) + (m + 1)) = k + m + 1 + ts.length * (m + 1) := by omega
      rw [e2]
      exact s
theorem total_ok {m : Nat} {ts : List Rat} (hm : 0 < m) (ht : ∀ t ∈ ts, Sm m t) (hb : 1 + ts.length * (m + 1) ≤ 7000) :
    den_total [.list (ts.map rt)] = some (rt (ts.foldl (· + ·) 0)) ∧ Sm (1 + ts.length * (m + 1)) (ts.foldl (· + ·) 0) := by
  obtain ⟨y', L', e, s⟩ := total_go hm (some (.list (ts.map rt))) ts 1 0 none [0, 0, 0] ht (by omega) (Sm.zero (by omega)) hb
  refine ⟨?_, s⟩
  unfold den_total dfun
  simp only [List.length_cons, List.length_nil, Nat.zero_add, Nat.reduceAdd, if_true, List.map_cons, List.map_nil]
  rw [sSeq_next (s' := ([some (.list (ts.map rt)), some (rt 0), none], [0, 0, 0])) (by
    rw [sSet_next (d := rt 0) (by simp [eTup, sz]; rfl)]
    rfl)]
  rw [sSeq_next (s' := _) (by
    rw [sFor_go (ds := ts.map rt) (by simp)]
    exact e)]
  rw [sRet_ok (d := rt (ts.foldl (· + ·) 0)) (by simp)]
theorem intsD_map (l : List Int) : intsD (l.map PyData.int) = some l := by
  induction l with
  | nil => rfl
  | cons a l ih => simp [intsD, ih]
theorem dSum_ok (l : List Int) : dSum (.list (l.map PyData.int)) = some (.int l.sum) := by
  simp [dSum, intsD_map]
end Lib
end
section
set_option Elab.async false
set_option linter.all false
namespace Lib
def llt : List Nat → List Nat → Bool
  | [], [] => false
  | [], _ :: _ => true
  | _ :: _, [] => false
  | x :: xs, y :: ys => if x = y then llt xs ys else decide (x < y)
theorem llt_irrefl : ∀ o, llt o o = false
  | [] => rfl
  | x :: xs => by simp [llt, llt_irrefl xs]
theorem llt_trans : ∀ {a b c}, llt a b = true → llt b c = true → llt a c = true
  | [], [], _, h, _ => by cases h
  | [], _ :: _, [], _, h => by cases h
  | [], _ :: _, _ :: _, _, _ => rfl
  | _ :: _, [], _, h, _ => by cases h
  | _ :: _, _ :: _, [], _, h => by cases h
  | x :: xs, y :: ys, z :: zs, h, h' => by
    unfold llt at h h' ⊢
    split at h
    · rename_i e; subst e
      split at h'
      · rename_i e; subst e; rw [if_pos rfl]; exact llt_trans h h'
      · rename_i e; rw [if_neg e]; exact h'
    · split at h'
      · rename_i e; subst e; rename_i e; rw [if_neg e]; exact h
      · have h1 := of_decide_eq_true h
        have h2 := of_decide_eq_true h'
        rw [if_neg (by omega)]
        exact decide_eq_true (by omega)
theorem llt_tri : ∀ (a b : List Nat), llt a b = false → llt b a = false → a = b
  | [], [], _, _ => rfl
  | [], _ :: _, h, _ => by cases h
  | _ :: _, [], _, h => by cases h
  | x :: xs, y :: ys, h, h' => by
    unfold llt at h h'
    by_cases e : x = y
    · subst e
      rw [if_pos rfl] at h h'
      rw [llt_tri xs ys h h']
    · rw [if_neg e] at h
      rw [if_neg (fun q => e q.symm)] at h'
      have h1 := of_decide_eq_false h
      have h2 := of_decide_eq_false h'
      omega
theorem llt_app_l : ∀ {a b : List Nat} (x y : List Nat), a.length = b.length → llt a b = true → llt (a ++ x) (b ++ y) = true
  | [], [], _, _, _, h => by cases h
  | [], _ :: _, _, _, h, _ => by simp at h
  | _ :: _, [], _, _, h, _ => by simp at h
  | p :: a, q :: b, x, y, hl, h => by
    unfold llt at h
    show llt (p :: (a ++ x)) (q :: (b ++ y)) = true
    unfold llt
    split at h
    · rename_i e; rw [if_pos e]; exact llt_app_l x y (by simpa using hl) h
    · rename_i e; rw [if_neg e]; exact h
theorem llt_app_r : ∀ (a : List Nat) {x y : List Nat}, llt x y = true → llt (a ++ x) (a ++ y) = true
  | [], _, _, h => h
  | p :: a, x, y, h => by
    show llt (p :: (a ++ x)) (p :: (a ++ y)) = true
    unfold llt
    rw [if_pos rfl]
    exact llt_app_r a h
def grow (n : Nat) (rows : List (List Nat)) : List (List Nat) := rows.flatMap fun row => ((List.range n).filter fun i => !row.contains i).map fun i => row ++ [i]
def ords (n : Nat) : Nat → List (List Nat)
  | 0 => [[]]
  | k + 1 => grow n (ords n k)
theorem mem_grow {n : Nat} {rows : List (List Nat)} {o : List Nat} : o ∈ grow n rows ↔ ∃ row ∈ rows, ∃ i, i < n ∧ i ∉ row ∧ o = row ++ [i] := by
  unfold grow
  simp only [List.mem_flatMap, List.mem_map, List.mem_filter, List.mem_range, Bool.not_eq_true', List.contains_eq_mem, decide_eq_false_iff_not]
  constructor
  · rintro ⟨row, h, i, ⟨h1, h2⟩, rfl⟩; exact ⟨row, h, i, h1, h2, rfl⟩
  · rintro ⟨row, h, i, h1, h2, rfl⟩; exact ⟨row, h, i, ⟨h1, h2⟩, rfl⟩
structure IsRow (n k : Nat) (o : List Nat) : Prop where
  len : o.length = k
  nd : o.Nodup
  lt : ∀ x ∈ o, x < n
theorem mem_ords {n : Nat} : ∀ {k : Nat} {o : List Nat}, o ∈ ords n k ↔ IsRow n k o
  | 0, o => by
    constructor
    · intro h
      have : o = [] := by simpa [ords] using h
      subst this
      exact ⟨rfl, List.nodup_nil, by simp⟩
    · intro h
      have := h.len
      have : o = [] := List.length_eq_zero_iff.mp this
      simp [ords, this]
  | k + 1, o => by
    show o ∈ grow n (ords n k) ↔ _
    rw [mem_grow]
    constructor
    · rintro ⟨row, h, i, hi, hn, rfl⟩
      have r := mem_ords.mp h
      refine ⟨by simp [r.len], ?_, ?_⟩
      · rw [List.nodup_append]
        refine ⟨r.nd, by simp, ?_⟩
        intro a ha b hb
        simp at hb
        subst hb
        intro e; subst e; exact hn ha
      · intro x hx
        rcases List.mem_append.mp hx with h1 | h1
        · exact r.lt x h1
        · simp at h1; omega
    · intro h
      have hl := h.len
      have hne : o ≠ [] := by intro e; subst e; simp at hl
      have e := List.dropLast_concat_getLast hne
      have nd := h.nd
      rw [← e, List.nodup_append] at nd
      refine ⟨o.dropLast, mem_ords.mpr ⟨by simp [hl], nd.1, fun x hx => h.lt x ((List.dropLast_sublist o).subset hx)⟩, o.getLast hne, h.lt _ (List.getLast_mem hne), ?_, e.symm⟩
      intro hm
      exact nd.2.2 _ hm _ (.head _) rfl
theorem ords_sorted (n : Nat) : ∀ k, (ords n k).Pairwise fun a b => llt a b = true
  | 0 => by simp [ords]
  | k + 1 => by
    show (grow n (ords n k)).Pairwise _
    unfold grow
    rw [List.pairwise_flatMap]
    refine ⟨?_, ?_⟩
    · intro row _
      rw [List.pairwise_map]
      refine List.Pairwise.imp ?_ ((List.pairwise_lt_range (n := n)).filter _)
      intro a b hab
      refine llt_app_r row ?_
      unfold llt
      rw [if_neg (by omega)]
      exact decide_eq_true hab
    · refine List.Pairwise.imp_of_mem ?_ (ords_sorted n k)
      intro a b ha hb hab x hx y hy
      simp only [List.mem_map] at hx hy
      obtain ⟨i, _, rfl⟩ := hx
      obtain ⟨j, _, rfl⟩ := hy
      exact llt_app_l _ _ (by rw [(mem_ords.mp ha).len, (mem_ords.mp hb).len]) hab
theorem range_row (n : Nat) : IsRow n n (List.range n) := ⟨by simp, List.nodup_range, by simp⟩
theorem IsRow.perm {n : Nat} {o : List Nat} (h : IsRow n n o) : o.Perm (List.range n) := by
  have p1 : ((List.range n).filter fun i => o.contains i).Perm o := by
    refine (List.perm_ext_iff_of_nodup (List.nodup_range.filter _) h.nd).mpr ?_
    intro a
    simp only [List.mem_filter, List.mem_range, List.contains_eq_mem, decide_eq_true_eq]
    exact ⟨fun h => h.2, fun ha => ⟨h.lt a ha, ha⟩⟩
  have p2 := List.filter_append_perm (fun i => o.contains i) (List.range n)
  have hl := p2.length_eq
  have l1 := p1.length_eq
  rw [h.len] at l1
  rw [List.length_append, l1, List.length_range] at hl
  have e : ((List.range n).filter fun i => !o.contains i) = [] := List.length_eq_zero_iff.mp (by omega)
  rw [e, List.append_nil] at p2
  exact p1.symm.trans p2
theorem ords_len : ∀ n, n ≤ 6 → (ords n n).length ≤ 720 := by
  intro n hn
  have : ∀ n, n < 7 → (ords n n).length ≤ 720 := by decide +kernel
  exact this n (by omega)
theorem ords_ne (n : Nat) : ords n n ≠ [] := List.ne_nil_of_mem (mem_ords.mpr (range_row n))
def fmin {α : Type} (lt : α → α → Bool) (x : α) (xs : List α) : α := xs.foldl (fun a y => if lt y a = true then y else a) x
theorem fmin_map {α β : Type} {lt : α → α → Bool} {lt' : β → β → Bool} (f : α → β) : ∀ (xs : List α) (x : α), (∀ a b, lt' (f a) (f b) = lt a b) → fmin lt' (f x) (xs.map f) = f (fmin lt x xs)
  | [], x, _ => rfl
  | y :: ys, x, h => by
    show fmin lt' (if lt' (f y) (f x) = true then f y else f x) (ys.map f) = f (fmin lt (if lt y x = true then y else x) ys)
    rw [h, ← fmin_map f ys _ h]
    cases lt y x <;> rfl
theorem fmin_mem {α : Type} (lt : α → α → Bool) : ∀ (xs : List α) (x : α), fmin lt x xs ∈ x :: xs
  | [], x => .head _
  | y :: ys, x => by
    have := fmin_mem lt ys (if lt y x = true then y else x)
    show fmin lt (if lt y x = true then y else x) ys ∈ _
    rcases List.mem_cons.mp this with e | e
    · rw [e]; split
      · exact .tail _ (.head _)
      · exact .head _
    · exact .tail _ (.tail _ e)
end Lib
end
section
set_option Elab.async false
set_option linter.all false
namespace Lib
end Lib
end
section
set_option Elab.async false
set_option linter.all false
namespace Lib
abbrev K3 := Int × Nat × Nat
def ofold {α : Type} (lt : α → α → Bool) (b : Option α) (l : List α) : Option α := l.foldl (fun b y => match b with | none => some y | some x => if lt y x = true then some y else some x) b
theorem ofold_some {α : Type} (lt : α → α → Bool) : ∀ (l : List α) (x : α), ofold lt (some x) l = some (fmin lt x l)
  | [], _ => rfl
  | y :: l, x => by
    show ofold lt (if lt y x = true then some y else some x) l = some (fmin lt (if lt y x = true then y else x) l)
    rw [← ofold_some]
    cases lt y x <;> rfl
theorem ofold_cons {α : Type} (lt : α → α → Bool) (x : α) (l : List α) : ofold lt none (x :: l) = some (fmin lt x l) := ofold_some lt l x
theorem ofold_app {α : Type} (lt : α → α → Bool) (b : Option α) (l l' : List α) : ofold lt b (l ++ l') = ofold lt (ofold lt b l) l' := List.foldl_append
theorem ofold_one {α : Type} (lt : α → α → Bool) (b : Option α) (y : α) : ofold lt b [y] = (match b with | none => some y | some x => if lt y x = true then some y else some x) := rfl
def exch (o : List Nat) (i j : Nat) : List Nat := (o.set i (o.getD j 0)).set j (o.getD i 0)
def key (c : List Nat → Int) (o : List Nat) (i j : Nat) : K3 := (c (exch o i j), i, j)
end Lib
end
section
set_option Elab.async false
set_option linter.all false
set_option maxRecDepth 10000
namespace Lib
open DS PySem
theorem sSet_deep {i l : Nat} {f : FE} {c : Esc} {ρ : PEnv} {L : List Nat} {d : D} (h : f ρ = some d) (hd : flat d = false) : sSet i l f c (ρ, L) = .next (ρ.set i (some d), (demote c L).set i l) := by
  rw [sSet_next (s := (ρ, L)) h, if_neg (by rw [hd]; decide)]
theorem sFor_at {fi : FA} {c : Esc} {t : Tg} {body : FS} {ρ : PEnv} {L : List Nat} {ds : List D} (h : fi ρ = some ds) : sFor fi c t body (ρ, L) = forGo t body ds (ρ, demote c L) := sFor_go (s := (ρ, L)) h
theorem sIf_tt {c : FT} {f g : FS} {ρ : PEnv} {L : List Nat} (h : c ρ = some true) : sIf c f g (ρ, L) = f (ρ, L) := sIf_t (s := (ρ, L)) h
theorem sIf_ff {c : FT} {f g : FS} {ρ : PEnv} {L : List Nat} (h : c ρ = some false) : sIf c f g (ρ, L) = g (ρ, L) := sIf_f (s := (ρ, L)) h
theorem tOr_t {f g : FT} {ρ : PEnv} (h : f ρ = some true) : tOrD f g ρ = some true := by
  unfold tOrD; rw [h]
theorem tOr_f {f g : FT} {ρ : PEnv} (h : f ρ = some false) : tOrD f g ρ = g ρ := by
  unfold tOrD; rw [h]
theorem flat_list (ds : List D) : flat (.list ds) = false := by simp [flat]
theorem sExt_ok {i : Nat} {f : FE} {c : Esc} {ρ : PEnv} {L : List Nat} {es ds : List D} (h : f ρ = some (.list es)) (hi : eVar i ρ = some (.list ds)) (hl : ds.length + es.length ≤ 16777216) (hL : lv (demote c L) i = 1) : sExt i f c (ρ, L) = .next (ρ.set i (some (.list (ds ++ es))), demote c L) := by
  unfold sExt
  simp only [h, hi]
  have : ds.length + es.length ≤ sz := hl
  rw [if_pos ⟨this, hL⟩]
theorem lc_of {α : Type} {t : Tg} {fe : FE} {ρ : PEnv} (h g : α → D) : ∀ {l : List α}, (∀ a ∈ l, ∃ m, t.go (h a) = some m ∧ fe (setsD ρ m) = some (g a)) → lcGo t tTrue fe ρ (l.map h) = some (l.map g)
  | [], _ => rfl
  | a :: l, hh => by
    obtain ⟨m, e1, e2⟩ := hh a (.head _)
    have ih := lc_of h g (l := l) fun d' hd => hh d' (.tail _ hd)
    simp only [List.map_cons]
    unfold lcGo
    rw [e1]
    simp only [tTrue_a, e2, ih]
theorem eLc_of {α : Type} {fi : FA} {t : Tg} {fe : FE} {vs : List Nat} {ρ : PEnv} (h g : α → D) {l : List α} (hi : fi ρ = some (l.map h)) (hl : l.length ≤ 16777216) (hg : ∀ a ∈ l, ∃ m, t.go (h a) = some m ∧ fe (setsD (wipeD ρ vs) m) = some (g a)) :
    eLc fi t tTrue fe vs ρ = some (.list (l.map g)) := by
  unfold eLc
  rw [hi, o1_s]
  have : (l.map h).length ≤ sz := by rw [List.length_map]; exact hl
  rw [if_pos this, lc_of h g hg, o1_s]
theorem lc_if {α : Type} {t : Tg} {ft : FT} {fe : FE} {ρ : PEnv} (h g : α → D) (p : α → Bool) : ∀ {l : List α}, (∀ a ∈ l, ∃ m, t.go (h a) = some m ∧ ft (setsD ρ m) = some (p a) ∧ (p a = true → fe (setsD ρ m) = some (g a))) → lcGo t ft fe ρ (l.map h) = some ((l.filter p).map g)
  | [], _ => rfl
  | a :: l, hh => by
    obtain ⟨m, e1, e2, e3⟩ := hh a (.head _)
    have ih := lc_if h g p (l := l) fun d' hd => hh d' (.tail _ hd)
    simp only [List.map_cons]
    unfold lcGo
    rw [e1]
    cases hp : p a with
    | true => simp only [e2, hp, e3 hp, ih, List.filter_cons_of_pos, List.map_cons]
    | false => simp only [e2, hp, ih, List.filter_cons_of_neg, Bool.false_eq_true, not_false_eq_true]
theorem eLc_if {α : Type} {fi : FA} {t : Tg} {ft : FT} {fe : FE} {vs : List Nat} {ρ : PEnv} (h g : α → D) (p : α → Bool) {l : List α} (hi : fi ρ = some (l.map h)) (hl : l.length ≤ 16777216) (hg : ∀ a ∈ l, ∃ m, t.go (h a) = some m ∧ ft (setsD (wipeD ρ vs) m) = some (p a) ∧ (p a = true → fe (setsD (wipeD ρ vs) m) = some (g a))) :
    eLc fi t ft fe vs ρ = some (.list ((l.filter p).map g)) := by
  unfold eLc
  rw [hi, o1_s]
  have : (l.map h).length ≤ sz := by rw [List.length_map]; exact hl
  rw [if_pos this, lc_if h g p hg, o1_s]
theorem lc2_of {α : Type} {t : Tg} {inner : PEnv → Option (List D)} {ρ : PEnv} (h : α → D) (g : α → List D) : ∀ {l : List α}, (∀ a ∈ l, ∃ m, t.go (h a) = some m ∧ inner (setsD ρ m) = some (g a)) → lc2Go t tTrue inner ρ (l.map h) = some (l.flatMap g)
  | [], _ => rfl
  | a :: l, hh => by
    obtain ⟨m, e1, e2⟩ := hh a (.head _)
    have ih := lc2_of h g (l := l) fun d' hd => hh d' (.tail _ hd)
    simp only [List.map_cons]
    unfold lc2Go
    rw [e1]
    simp only [tTrue_a, e2, ih, List.flatMap_cons]
theorem eLc2_of {α : Type} {fi fi1 : FA} {t t1 : Tg} {ft1 : FT} {fe : FE} {vs vs1 : List Nat} {ρ : PEnv} (h : α → D) (g : α → List D) {l : List α} (hi : fi ρ = some (l.map h)) (hg : ∀ a ∈ l, ∃ m, t.go (h a) = some m ∧ inLc fi1 t1 ft1 fe vs1 (setsD (wipeD ρ vs) m) = some (g a)) (hl : (l.flatMap g).length ≤ 16777216) :
    eLc2 fi t tTrue fi1 t1 ft1 fe vs vs1 ρ = some (.list (l.flatMap g)) := by
  unfold eLc2
  rw [hi, o1_s, lc2_of h g hg, o1_s]
  have : (l.flatMap g).length ≤ sz := hl
  rw [if_pos this]
theorem inLc_if {α : Type} {fi : FA} {t : Tg} {ft : FT} {fe : FE} {vs : List Nat} {ρ : PEnv} (h g : α → D) (p : α → Bool) {l : List α} (hi : fi ρ = some (l.map h)) (hg : ∀ a ∈ l, ∃ m, t.go (h a) = some m ∧ ft (setsD (wipeD ρ vs) m) = some (p a) ∧ (p a = true → fe (setsD (wipeD ρ vs) m) = some (g a))) :
    inLc fi t ft fe vs ρ = some ((l.filter p).map g) := by
  unfold inLc
  rw [hi, o1_s, lc_if h g p hg]
def nat (k : Nat) : D := .int (k : Int)
theorem rngD_0 (n : Nat) : rngD 0 n = (List.range n).map nat := by
  unfold rngD nat
  simp
theorem range1_nat {f : FE} {ρ : PEnv} {n : Nat} (h : f ρ = some (.int n)) (hn : n < 4611686018427387904) : iRange1 f ρ = some ((List.range n).map nat) := by
  rw [range1_ok h hn, rngD_0]
def nt (o : List Nat) : D := .tuple (o.map nat)
@[simp] theorem nt_len (o : List Nat) : dLen (nt o) = some (.int o.length) := by simp [nt]
theorem nt_flat (o : List Nat) : flat (nt o) = true := by
  have : ∀ o : List Nat, flats (o.map nat) = true := by
    intro o
    induction o with
    | nil => rfl
    | cons a o ih => simpa [flats, nat, flat] using ih
  simpa [nt, flat] using this o
theorem atI_mp {α : Type} {xs : List α} {f : α → D} {j : Nat} (h : j < xs.length) : L2.atI (xs.map f) (j : Int) = some (f xs[j]) := L2.atI_nat (by simp [h])
theorem nt_ix {o : List Nat} {i : Nat} (h : i < o.length) : dIx (nt o) (.int i) = some (nat (o.getD i 0)) := by
  show L2.atI (o.map nat) (i : Int) = _
  rw [atI_mp h]
  simp [List.getD_eq_getElem?_getD, List.getElem?_eq_getElem h]
theorem eqv_nat (i j : Nat) : PyData.eqv (nat i) (nat j) = decide (i = j) := by
  simp only [nat, PyData.eqv]
  rw [Bool.eq_iff_iff]
  simp
  omega
theorem nt_in (i : Nat) (o : List Nat) : dIn (nat i) (nt o) = some (o.contains i) := by
  have h : (o.map nat).all scal1 = true := by
    rw [List.all_eq_true]
    intro x hx
    obtain ⟨k, _, rfl⟩ := List.mem_map.mp hx
    rfl
  show (if (scal1 (nat i) && (o.map nat).all scal1) = true then _ else _) = _
  rw [if_pos (by rw [h]; rfl)]
  congr 1
  rw [List.any_map]
  induction o with
  | nil => rfl
  | cons a o ih =>
    have h' : (o.map nat).all scal1 = true := by
      rw [List.all_eq_true] at h ⊢
      exact fun x hx => h x (.tail _ hx)
    rw [List.any_cons, ih h', List.contains_cons]
    congr 1
    show PyData.eqv (nat a) (nat i) = (i == a)
    rw [eqv_nat]
    by_cases e : a = i
    · subst e; simp
    · have : ¬ i = a := fun q => e q.symm
      simp [e, this]
theorem nt_notin (i : Nat) (o : List Nat) : dNotIn (nat i) (nt o) = some (!o.contains i) := by
  unfold dNotIn
  rw [nt_in, o1_s]
theorem nt_snoc {o : List Nat} {i : Nat} (h : o.length < 16777216) : dAdd (nt o) (.tuple [nat i]) = some (nt (o ++ [i])) := by
  show (if (o.map nat).length + 1 ≤ sz then _ else _) = _
  rw [if_pos (by rw [List.length_map]; exact h)]
  simp [nt]
def trow (n : Nat) (f : Nat → Int) : D := .tuple ((List.range n).map fun v => .int (f v))
def tb (n : Nat) (W : Nat → Nat → Int) : D := .tuple ((List.range n).map fun u => trow n (W u))
@[simp] theorem trow_len (n : Nat) (f : Nat → Int) : dLen (trow n f) = some (.int n) := by simp [trow]
@[simp] theorem tb_len (n : Nat) (W : Nat → Nat → Int) : dLen (tb n W) = some (.int n) := by simp [tb]
theorem trow_ix {n v : Nat} {f : Nat → Int} (h : v < n) : dIx (trow n f) (.int v) = some (.int (f v)) := by
  show L2.atI ((List.range n).map _) (v : Int) = _
  rw [atI_mp (by simpa using h)]
  simp
theorem trow_flat (n : Nat) (f : Nat → Int) : flat (trow n f) = true := by
  have : ∀ o : List Nat, flats (o.map fun v => PyData.int (f v)) = true := by
    intro o
    induction o with
    | nil => rfl
    | cons a o ih => simpa [flats, flat] using ih
  simpa [trow, flat] using this (List.range n)
theorem tb_flat (n : Nat) (W : Nat → Nat → Int) : flat (tb n W) = true := by
  have : ∀ o : List Nat, flats (o.map fun u => trow n (W u)) = true := by
    intro o
    induction o with
    | nil => rfl
    | cons a o ih => simpa [flats, trow_flat] using ih
  simpa [tb, flat] using this (List.range n)
theorem rsum_list (g : Nat → Int) : ∀ n, ((List.range n).map g).sum = rsum g n
  | 0 => rfl
  | n + 1 => by
    rw [List.range_succ, List.map_append, List.sum_append, rsum_list g n]
    simp [rsum]
theorem enum_map {α : Type} (h : α → D) (l : List α) (d : α) : enumD (l.map h) = (List.range l.length).map fun p => .tuple [nat p, h (l.getD p d)] := by
  unfold enumD
  refine List.ext_getElem? fun k => ?_
  by_cases hk : k < l.length
  · simp [hk, nat, List.getD_eq_getElem?_getD]
  · rw [List.getElem?_eq_none (by simp; omega), List.getElem?_eq_none (by simp; omega)]
theorem allCmp_map {α : Type} {h : α → D} {l : List α} (h1 : ∀ a ∈ l, (h a).canLay0 = true) (h2 : ∀ a ∈ l, (h a).depth ≤ 60) (h3 : ∀ a ∈ l, noneD (h a) = false) (h4 : ∀ a ∈ l, ∀ b ∈ l, PySem.W.alike (h a) (h b) = true) : allCmp (l.map h) = true := by
  have c1 : ∀ l : List α, (∀ a ∈ l, (h a).canLay0 = true) → PyData.canLayAll0 (l.map h) = true := by
    intro l
    induction l with
    | nil => intro _; rfl
    | cons a l ih => intro q; simp [PyData.canLayAll0, q a (.head _), ih fun b hb => q b (.tail _ hb)]
  have c2 : ∀ l : List α, (∀ a ∈ l, (h a).depth ≤ 60) → PyData.depthAll (l.map h) ≤ 60 := by
    intro l
    induction l with
    | nil => intro _; simp [PyData.depthAll]
    | cons a l ih =>
      intro q
      have := q a (.head _)
      have := ih fun b hb => q b (.tail _ hb)
      simp only [List.map_cons, PyData.depthAll]
      omega
  unfold allCmp
  simp only [Bool.and_eq_true, decide_eq_true_eq, List.all_eq_true, List.mem_map]
  refine ⟨⟨c1 l h1, c2 l h2⟩, ?_⟩
  rintro x ⟨a, ha, rfl⟩
  refine ⟨by rw [h3 a ha]; rfl, ?_⟩
  rintro y ⟨b, hb, rfl⟩
  exact h4 a ha b hb
theorem minD_fmin {α : Type} {lt : α → α → Bool} (h : α → D) (x : α) (xs : List α) (e : ∀ a b, PySem.W.dataLt (h a) (h b) = lt a b) : PySem.W.minD (h x) (xs.map h) = h (fmin lt x xs) := fmin_map (lt' := PySem.W.dataLt) h xs x e
theorem min_list {α : Type} {lt : α → α → Bool} {h : α → D} {x : α} {xs : List α} (ok : allCmp ((x :: xs).map h) = true) (fl : ∀ a, flat (h a) = true) (e : ∀ a b, PySem.W.dataLt (h a) (h b) = lt a b) : dMin1 (.list ((x :: xs).map h)) = some (h (fmin lt x xs)) := by
  have m := minD_fmin h x xs e
  show bestOf PySem.W.minD (h x :: xs.map h) = _
  unfold bestOf
  simp only [m]
  have ok' : allCmp (h x :: xs.map h) = true := ok
  rw [if_pos (by rw [ok', fl]; rfl)]
def rowLt (xs ys : List D) : Bool := PySem.W.dataLt (.tuple xs) (.tuple ys)
theorem rowLt_int (x y : Int) (xs ys : List D) : rowLt (.int x :: xs) (.int y :: ys) = if x = y then rowLt xs ys else decide (x < y) := by
  unfold rowLt
  rw [PySem.W.dataLt_tuple, PySem.W.dataLt_cons (by simp [PySem.W.alike]), PySem.W.dataLt_int, PySem.W.dataLt_tuple]
  by_cases h : x = y
  · rw [if_pos h, if_pos (by simp [PyData.eqv, h])]
  · rw [if_neg h, if_neg (by simp [PyData.eqv, h])]
theorem rowLt_nil : rowLt [] [] = false := by
  unfold rowLt; rw [PySem.W.dataLt_tuple]; exact PyProof.Rows.lex_irrefl _
theorem dataLt_nt (a b : List Nat) : PySem.W.dataLt (nt a) (nt b) = llt a b := by
  have : ∀ a b : List Nat, rowLt (a.map nat) (b.map nat) = llt a b := by
    intro a
    induction a with
    | nil =>
      intro b
      cases b with
      | nil => exact rowLt_nil
      | cons y b => unfold rowLt; rw [PySem.W.dataLt_tuple]; rfl
    | cons x a ih =>
      intro b
      cases b with
      | nil => unfold rowLt; rw [PySem.W.dataLt_tuple]; rfl
      | cons y b =>
        show rowLt (.int x :: a.map nat) (.int y :: b.map nat) = _
        rw [rowLt_int, ih, llt]
        by_cases h : x = y
        · rw [if_pos h, if_pos (by omega)]
        · rw [if_neg h, if_neg (by omega), decide_eq_decide]; omega
  exact this a b
theorem rowLt_one (x y : D) (h : PySem.W.alike x y = true) (h' : PyData.eqv x y = true → PySem.W.dataLt x y = false) : rowLt [x] [y] = PySem.W.dataLt x y := by
  unfold rowLt
  rw [PySem.W.dataLt_tuple, PySem.W.dataLt_cons h]
  split
  · rename_i e
    rw [h' e]; exact PyProof.Rows.lex_irrefl _
  · rfl
theorem alike_nats : ∀ a b : List Nat, PySem.W.alikeAll (a.map nat) (b.map nat) = true
  | [], _ => by rw [List.map_nil, PySem.W.alikeAll]
  | _ :: _, [] => by rw [List.map_nil, List.map_cons, PySem.W.alikeAll]
  | x :: a, y :: b => by rw [List.map_cons, List.map_cons, PySem.W.alikeAll, alike_nats a b]; simp [nat, PySem.W.alike]
theorem alike_nt (a b : List Nat) : PySem.W.alike (nt a) (nt b) = true := by
  unfold nt
  rw [PySem.W.alike]
  exact alike_nats a b
theorem lay_nats : ∀ a : List Nat, PyData.canLayAll0 (a.map nat) = true
  | [] => rfl
  | _ :: a => by simp [PyData.canLayAll0, nat, PyData.canLay0, lay_nats a]
theorem depth_nats : ∀ a : List Nat, PyData.depthAll (a.map nat) ≤ 1
  | [] => by simp [PyData.depthAll]
  | _ :: a => by
    have := depth_nats a
    simp only [List.map_cons, PyData.depthAll, nat, PyData.depth]
    omega
theorem lay_nt (a : List Nat) : (nt a).canLay0 = true := by
  unfold nt
  rw [PyData.canLay0]
  exact lay_nats a
theorem depth_nt (a : List Nat) : (nt a).depth ≤ 2 := by
  have := depth_nats a
  unfold nt
  simp only [PyData.depth]
  omega
end Lib
end
section
set_option Elab.async false
set_option linter.all false
set_option maxRecDepth 10000
namespace Lib
open DS PySem
@[irreducible] def WP (f : FS) (s : S) (N : S → Prop) (R : D → Prop) (B C : S → Prop) : Prop := match f s with
  | .stuck => False
  | .next s' => N s'
  | .ret d => R d
  | .brk s' => B s'
  | .cont s' => C s'
abbrev No : S → Prop := fun _ => False
section
variable {N B C : S → Prop} {R : D → Prop} {ρ : PEnv} {L : List Nat} {s : S} {f g h fe : FE} {a b body : FS} {c : Esc} {d e d' : D} {i j k l n : Nat}
theorem dfun_wp {N n : Nat} {ds : List D} (hn : ds.length = n) (h : WP body (ds.map some ++ List.replicate (N - n) none, List.replicate N 0) No (fun x => x = d) No No) : dfun N n body ds = some d := by
  unfold dfun
  rw [if_pos hn]
  unfold WP at h
  split at h <;> first | exact h.elim | (rename_i q; rw [q]; rw [h])
theorem wp_imp {N' B' C' : S → Prop} {R' : D → Prop} (h : WP a s N R B C) (hN : ∀ s, N s → N' s) (hR : ∀ d, R d → R' d) (hB : ∀ s, B s → B' s) (hC : ∀ s, C s → C' s) : WP a s N' R' B' C' := by
  unfold WP at h ⊢
  split <;> rename_i q <;> rw [q] at h
  · exact h
  · exact hN _ h
  · exact hR _ h
  · exact hB _ h
  · exact hC _ h
theorem wp_seq (h : WP a s (fun s' => WP b s' N R B C) R B C) : WP (sSeq a b) s N R B C := by
  unfold WP sSeq at *
  split at h <;> rename_i q <;> simp only [q] <;> exact h
theorem wp_nil (h : N s) : WP sNil s N R B C := by
  unfold WP
  exact h
theorem wp_ret (h : f ρ = some d) (q : R d) : WP (sRet f) (ρ, L) N R B C := by
  unfold WP
  rw [sRet_ok (s := (ρ, L)) h]
  exact q
theorem wp_set (h : f ρ = some d) (hd : flat d = true) (q : N (ρ.set i (some d), L.set i 0)) : WP (sSet i l f c) (ρ, L) N R B C := by
  unfold WP
  rw [sSet_flat h hd]
  exact q
theorem wp_setD (h : f ρ = some d) (hd : flat d = false) (q : N (ρ.set i (some d), (demote c L).set i l)) : WP (sSet i l f c) (ρ, L) N R B C := by
  unfold WP
  rw [sSet_next (s := (ρ, L)) h, if_neg (by simp [hd])]
  exact q
theorem wp_tup {t : Tg} {m : List (Nat × D)} (h : f ρ = some d) (ht : t.go d = some m) (hd : flat d = true) (q : N (setsD ρ m, zeros L m)) : WP (sTup t f c) (ρ, L) N R B C := by
  unfold WP sTup
  simp only [h, ht, hd, if_true]
  exact q
theorem wp_app {ds : List D} (h : f ρ = some d) (hi : eVar i ρ = some (.list ds)) (hd : flat d = true) (hl : ds.length < 16777216) (hL : lv L i = 1) (q : N (ρ.set i (some (.list (ds ++ [d]))), L)) : WP (sApp i f c) (ρ, L) N R B C := by
  unfold WP
  rw [sApp_flat h hd hi hl hL]
  exact q
theorem wp_put {ds : List D} {x : Int} {m : Nat} {jj : FE} (h : f ρ = some d) (hi : eVar i ρ = some (.list ds)) (hj : jj ρ = some (.int x)) (hm : L2.ixN ds.length x = some m) (hd : flat d = true) (hL : lv L i = 1) (q : N (ρ.set i (some (.list (ds.set m d))), L)) : WP (sPut i jj f c) (ρ, L) N R B C := by
  unfold WP sPut
  simp only [h, hi, hj, hm, hd, hL, if_true]
  exact q
theorem wp_if {ct : FT} {t : Bool} (h : ct ρ = some t) (q1 : t = true → WP a (ρ, L) N R B C) (q2 : t = false → WP b (ρ, L) N R B C) : WP (sIf ct a b) (ρ, L) N R B C := by
  cases t with
  | true =>
    unfold WP
    rw [sIf_t (s := (ρ, L)) h]
    have := q1 rfl
    unfold WP at this
    exact this
  | false =>
    unfold WP
    rw [sIf_f (s := (ρ, L)) h]
    have := q2 rfl
    unfold WP at this
    exact this
theorem wp_ift {ct : FT} (h : ct ρ = some true) (q : WP a (ρ, L) N R B C) : WP (sIf ct a b) (ρ, L) N R B C := wp_if h (fun _ => q) (fun z => by cases z)
theorem wp_iff {ct : FT} (h : ct ρ = some false) (q : WP b (ρ, L) N R B C) : WP (sIf ct a b) (ρ, L) N R B C := wp_if h (fun z => by cases z) (fun _ => q)
theorem wp_pass {ct : FT} (h : ct ρ = some false) (q : N (ρ, L)) : WP (sIf ct a sNil) (ρ, L) N R B C := wp_iff h (wp_nil q)
theorem wp_for {fi : FA} {t : Tg} {ds : List D} (P : Nat → S → Prop) (hi : fi ρ = some ds) (h0 : P 0 (ρ, demote c L))
    (st : ∀ k d s, ds[k]? = some d → P k s → ∃ m, t.go d = some m ∧ WP body (setsD s.1 m, zeros s.2 m) (P (k + 1)) R N (P (k + 1))) (hN : ∀ s, P ds.length s → N s) : WP (sFor fi c t body) (ρ, L) N R B C := by
  unfold WP
  rw [sFor_go (s := (ρ, L)) hi]
  have go : ∀ (es : List D) (k : Nat) (s : S), (∀ i d, es[i]? = some d → ds[k + i]? = some d) → k + es.length = ds.length → P k s → (match forGo t body es s with
      | .stuck => False
      | .next s' => N s'
      | .ret d => R d
      | .brk s' => B s'
      | .cont s' => C s') := by
    intro es
    induction es with
    | nil =>
      intro k s _ hl hp
      have e : k = ds.length := by simpa using hl
      rw [e] at hp
      exact hN s hp
    | cons x es ih =>
      intro k s he hl hp
      obtain ⟨m, e1, w⟩ := st k x s (by simpa using he 0 x rfl) hp
      have next : ∀ s', P (k + 1) s' → _ := fun s' h => ih (k + 1) s' (fun i d hd => by
        have := he (i + 1) d (by simpa using hd)
        rw [← this]
        congr 1
        omega) (by rw [List.length_cons] at hl; omega) h
      unfold forGo
      rw [e1]
      unfold WP at w
      show (match (match body (setsD s.1 m, zeros s.2 m) with
        | .next s' => forGo t body es s'
        | .cont s' => forGo t body es s'
        | .brk s' => .next s'
        | .ret d => .ret d
        | .stuck => .stuck) with
        | .stuck => False
        | .next s' => N s'
        | .ret d => R d
        | .brk s' => B s'
        | .cont s' => C s')
      split at w <;> rename_i q <;> simp only [q]
      · exact w
      · exact next _ w
      · exact w
      · exact w
      · exact next _ w
  exact go ds 0 _ (fun i d h => by simpa using h) (by simp) h0
end
def setsO (ρ : PEnv) (l : List (Nat × D)) : PEnv := l.foldl (fun ρ p => ρ.set p.1 (some p.2)) ρ
def setsJ (ρ : PEnv) (J : List Nat) (xs : Nat → Option D) : PEnv := J.foldl (fun ρ j => ρ.set j (xs j)) ρ
def stt (ρ : PEnv) (J : List Nat) (A : List (Nat × D)) (xs : Nat → Option D) : PEnv := setsO (setsJ ρ J xs) A
theorem set_self {ρ : PEnv} {j : Nat} : ρ.set j (ρ.getD j none) = ρ := by
  refine List.ext_getElem? fun k => ?_
  by_cases h : j = k
  · subst h
    by_cases hj : j < ρ.length
    · rw [List.getElem?_set_self hj, List.getD_eq_getElem?_getD, List.getElem?_eq_getElem hj]; rfl
    · rw [List.getElem?_eq_none (by simpa using hj), List.getElem?_eq_none (by omega)]
  · rw [List.getElem?_set_ne h]
theorem setsJ_self {ρ : PEnv} : ∀ {J : List Nat}, setsJ ρ J (fun j => ρ.getD j none) = ρ
  | [] => rfl
  | j :: J => by
    unfold setsJ
    rw [List.foldl_cons, set_self]
    exact setsJ_self (J := J)
theorem setsO_self {ρ : PEnv} : ∀ {A : List (Nat × D)}, (∀ p ∈ A, ρ[p.1]? = some (some p.2)) → setsO ρ A = ρ
  | [], _ => rfl
  | p :: A, h => by
    unfold setsO
    rw [List.foldl_cons]
    have e : ρ.set p.1 (some p.2) = ρ := by
      have := h p (.head _)
      have q := set_self (ρ := ρ) (j := p.1)
      rw [List.getD_eq_getElem?_getD, this] at q
      exact q
    rw [e]
    exact setsO_self (A := A) fun q hq => h q (.tail _ hq)
theorem stt_self {ρ : PEnv} {J : List Nat} {A : List (Nat × D)} (h : ∀ p ∈ A, ρ[p.1]? = some (some p.2)) : ρ = stt ρ J A fun j => ρ.getD j none := by
  unfold stt
  rw [setsJ_self, setsO_self h]
section
variable {N B C : S → Prop} {R : D → Prop} {ρ : PEnv} {L L' : List Nat} {body : FS} {c : Esc}
def Cl (ρ : PEnv) (J : List Nat) (A : List (Nat × D)) (L : List Nat) (s : S) : Prop := ∃ xs, s = (stt ρ J A xs, L)
theorem cl {ρ ρ' : PEnv} {J : List Nat} {A : List (Nat × D)} {L : List Nat} (h : ρ' = stt ρ J A fun j => ρ'.getD j none) : Cl ρ J A L (ρ', L) := ⟨_, by rw [← h]⟩
theorem wp_forV {fi : FA} {t : Tg} {ds : List D} (J : List Nat) (A : Nat → List (Nat × D)) (hi : fi ρ = some ds) (h0 : ∀ p ∈ A 0, ρ[p.1]? = some (some p.2))
    (st : ∀ k d xs, ds[k]? = some d → ∃ m, t.go d = some m ∧ WP body (setsD (stt ρ J (A k) xs) m, zeros (demote c L) m) (Cl ρ J (A (k + 1)) (demote c L)) R N (Cl ρ J (A (k + 1)) (demote c L)))
    (hN : ∀ xs, N (stt ρ J (A ds.length) xs, demote c L)) : WP (sFor fi c t body) (ρ, L) N R B C := by
  refine wp_for (P := fun k s' => ∃ xs, s' = (stt ρ J (A k) xs, demote c L)) hi ⟨_, by rw [← stt_self h0]⟩ (fun k d s hd hp => ?_) fun s ⟨xs, e⟩ => by rw [e]; exact hN xs
  obtain ⟨xs, rfl⟩ := hp
  exact st k d xs hd
theorem wp_forN {f : FE} {i n : Nat} (J : List Nat) (A : Nat → List (Nat × D)) (hf : f ρ = some (.int n)) (hn : n < 4611686018427387904) (h0 : ∀ p ∈ A 0, ρ[p.1]? = some (some p.2))
    (st : ∀ k xs, k < n → WP body ((stt ρ J (A k) xs).set i (some (nat k)), (demote c L).set i 0) (Cl ρ J (A (k + 1)) (demote c L)) R N (Cl ρ J (A (k + 1)) (demote c L)))
    (hN : ∀ xs, N (stt ρ J (A n) xs, demote c L)) : WP (sFor (iRange1 f) c (.nm i) body) (ρ, L) N R B C := by
  refine wp_forV (ds := (List.range n).map nat) J A (range1_nat hf hn) h0 (fun k d xs hd => ?_) fun xs => by rw [List.length_map, List.length_range]; exact hN xs
  rw [List.getElem?_map] at hd
  obtain ⟨k', hk, rfl⟩ := Option.map_eq_some_iff.mp hd
  obtain ⟨hlt, e⟩ := List.getElem?_eq_some_iff.mp hk
  rw [List.getElem_range] at e
  subst e
  refine ⟨[(i, nat k)], rfl, ?_⟩
  exact st k xs (by simpa using hlt)
theorem wp_forL {α : Type} {fi : FA} {t : Tg} {h : α → D} {l : List α} (J : List Nat) (A : Nat → List (Nat × D)) (hi : fi ρ = some (l.map h)) (h0 : ∀ p ∈ A 0, ρ[p.1]? = some (some p.2))
    (st : ∀ k a xs, l[k]? = some a → ∃ m, t.go (h a) = some m ∧ WP body (setsD (stt ρ J (A k) xs) m, zeros (demote c L) m) (Cl ρ J (A (k + 1)) (demote c L)) R N (Cl ρ J (A (k + 1)) (demote c L)))
    (hN : ∀ xs, N (stt ρ J (A l.length) xs, demote c L)) : WP (sFor fi c t body) (ρ, L) N R B C := by
  refine wp_forV (ds := l.map h) J A hi h0 (fun k d xs hd => ?_) fun xs => by rw [List.length_map]; exact hN xs
  rw [List.getElem?_map] at hd
  obtain ⟨a, ha, rfl⟩ := Option.map_eq_some_iff.mp hd
  exact st k a xs ha
end
end Lib
end
section
set_option Elab.async false
set_option linter.all false
namespace Lib
def stp (i : Nat) (F : List (List Nat)) : List (List Nat) := [[]] ++ F.map (i :: ·) ++ F.filter fun x => !x.isEmpty
def asl : Nat → Nat → List (List Nat)
  | _, 0 => [[]]
  | i, k + 1 => stp i (asl (i + 1) k)
def aset (n : Nat) : List (List Nat) := asl 0 n
structure Asc (i j : Nat) (x : List Nat) : Prop where
  up : x.Pairwise (· < ·)
  mem : ∀ a ∈ x, i ≤ a ∧ a < j
theorem mem_asl : ∀ {k i : Nat} {x : List Nat}, x ∈ asl i k ↔ Asc i (i + k) x
  | 0, i, x => by
    simp only [asl, List.mem_singleton, Nat.add_zero]
    constructor
    · rintro rfl; exact ⟨.nil, by simp⟩
    · rintro ⟨_, h⟩
      cases x with
      | nil => rfl
      | cons a x =>
        have := h a (.head _)
        omega
  | k + 1, i, x => by
    simp only [asl, stp, List.mem_append, List.mem_singleton, List.mem_map, List.mem_filter]
    constructor
    · rintro ((rfl | ⟨y, hy, rfl⟩) | ⟨hx, _⟩)
      · exact ⟨.nil, by simp⟩
      · have q := mem_asl.mp hy
        refine ⟨List.pairwise_cons.mpr ⟨fun a ha => ?_, q.up⟩, fun a ha => ?_⟩
        · have := q.mem a ha; omega
        · rcases List.mem_cons.mp ha with rfl | ha
          · omega
          · have := q.mem a ha; omega
      · have q := mem_asl.mp hx
        exact ⟨q.up, fun a ha => by have := q.mem a ha; omega⟩
    · rintro ⟨u, m⟩
      cases x with
      | nil => exact .inl (.inl rfl)
      | cons a x =>
        obtain ⟨u1, u2⟩ := List.pairwise_cons.mp u
        have ma := m a (.head _)
        by_cases e : a = i
        · subst e
          refine .inl (.inr ⟨x, mem_asl.mpr ⟨u2, fun b hb => ?_⟩, rfl⟩)
          have := u1 b hb
          have := m b (.tail _ hb)
          omega
        · refine .inr ⟨mem_asl.mpr ⟨u, fun b hb => ?_⟩, rfl⟩
          have mb := m b hb
          rcases List.mem_cons.mp hb with rfl | hb
          · omega
          · have := u1 b hb
            omega
theorem asl_sorted : ∀ (k i : Nat), (asl i k).Pairwise fun a b => llt a b = true
  | 0, i => by simp [asl]
  | k + 1, i => by
    have ih := asl_sorted k (i + 1)
    simp only [asl, stp]
    rw [List.append_assoc, List.singleton_append, List.pairwise_cons, List.pairwise_append]
    refine ⟨fun b hb => ?_, ?_, ?_, ?_⟩
    · rcases List.mem_append.mp hb with h | h
      · obtain ⟨y, _, rfl⟩ := List.mem_map.mp h; rfl
      · have := (List.mem_filter.mp h).2
        cases b with
        | nil => simp at this
        | cons a b => rfl
    · rw [List.pairwise_map]
      exact ih.imp fun h => by unfold llt; rw [if_pos rfl]; exact h
    · exact ih.filter _
    · intro a ha b hb
      obtain ⟨y, _, rfl⟩ := List.mem_map.mp ha
      obtain ⟨h1, h2⟩ := List.mem_filter.mp hb
      cases b with
      | nil => simp at h2
      | cons c b =>
        have := (mem_asl.mp h1).mem c (.head _)
        unfold llt
        rw [if_neg (by omega)]
        exact decide_eq_true (by omega)
theorem mem_aset {n : Nat} {x : List Nat} : x ∈ aset n ↔ Asc 0 n x := by
  unfold aset
  rw [mem_asl, Nat.zero_add]
theorem aset_sorted (n : Nat) : (aset n).Pairwise fun a b => llt a b = true := asl_sorted n 0
theorem llt_nodup {l : List (List Nat)} (h : l.Pairwise fun a b => llt a b = true) : l.Nodup := h.imp fun {a b} q e => by
  subst e
  rw [llt_irrefl] at q
  cases q
theorem aset_nodup (n : Nat) : (aset n).Nodup := llt_nodup (aset_sorted n)
def lset : Nat → List (List Nat)
  | 0 => [[]]
  | n + 1 => lset n ++ (lset n).map (· ++ [n])
theorem lset_len : ∀ n, (lset n).length = 2 ^ n
  | 0 => rfl
  | n + 1 => by
    have := lset_len n
    simp only [lset, List.length_append, List.length_map, Nat.pow_succ]
    omega
theorem asc_snoc {n : Nat} {x : List Nat} : Asc 0 (n + 1) x ↔ Asc 0 n x ∨ ∃ y, Asc 0 n y ∧ x = y ++ [n] := by
  constructor
  · rintro ⟨u, m⟩
    by_cases h : n ∈ x
    · obtain ⟨y, z, rfl⟩ := List.append_of_mem h
      rw [List.pairwise_append] at u
      have z0 : z = [] := by
        cases z with
        | nil => rfl
        | cons c z =>
          have h1 := (List.pairwise_cons.mp u.2.1).1 c (.head _)
          have := m c (by simp)
          omega
      subst z0
      refine .inr ⟨y, ⟨u.1, fun a ha => ⟨Nat.zero_le _, u.2.2 a ha n (.head _)⟩⟩, rfl⟩
    · refine .inl ⟨u, fun a ha => ?_⟩
      have := m a ha
      have : a ≠ n := fun e => h (e ▸ ha)
      omega
  · rintro (⟨u, m⟩ | ⟨y, ⟨u, m⟩, rfl⟩)
    · exact ⟨u, fun a ha => by have := m a ha; omega⟩
    · refine ⟨List.pairwise_append.mpr ⟨u, by simp, fun a ha b hb => ?_⟩, fun a ha => ?_⟩
      · rw [List.mem_singleton] at hb
        subst hb
        exact (m a ha).2
      · rcases List.mem_append.mp ha with h | h
        · have := m a h; omega
        · rw [List.mem_singleton] at h
          omega
theorem mem_lset : ∀ {n : Nat} {x : List Nat}, x ∈ lset n ↔ Asc 0 n x
  | 0, x => by
    simp only [lset, List.mem_singleton]
    constructor
    · rintro rfl; exact ⟨.nil, by simp⟩
    · rintro ⟨_, h⟩
      cases x with
      | nil => rfl
      | cons a x =>
        have := h a (.head _)
        omega
  | n + 1, x => by
    rw [asc_snoc]
    simp only [lset, List.mem_append, List.mem_map]
    rw [mem_lset (n := n)]
    constructor
    · rintro (h | ⟨y, hy, rfl⟩)
      · exact .inl h
      · exact .inr ⟨y, mem_lset.mp hy, rfl⟩
    · rintro (h | ⟨y, hy, rfl⟩)
      · exact .inl h
      · exact .inr ⟨y, mem_lset.mpr hy, rfl⟩
theorem lset_nodup : ∀ n, (lset n).Nodup
  | 0 => by simp [lset]
  | n + 1 => by
    have ih := lset_nodup n
    simp only [lset]
    rw [List.nodup_append]
    refine ⟨ih, ?_, fun a ha b hb e => ?_⟩
    · exact List.Pairwise.map _ (fun a b (h : a ≠ b) => fun e => h (List.append_cancel_right e)) ih
    · obtain ⟨y, _, rfl⟩ := List.mem_map.mp hb
      subst e
      have := (mem_lset.mp ha).mem n (by simp)
      omega
theorem lset_perm (n : Nat) : (lset n).Perm (aset n) := (List.perm_ext_iff_of_nodup (lset_nodup n) (aset_nodup n)).mpr fun a => by rw [mem_lset, mem_aset]
def lle (a b : List Nat) : Bool := !llt b a
theorem lle_total (a b : List Nat) : (lle a b || lle b a) = true := by
  unfold lle
  cases h1 : llt b a with
  | false => rfl
  | true =>
    cases h2 : llt a b with
    | false => rfl
    | true =>
      have := llt_trans h1 h2
      rw [llt_irrefl] at this
      cases this
theorem lle_anti {a b : List Nat} (h : lle a b = true) (h' : lle b a = true) : a = b := by
  unfold lle at h h'
  exact llt_tri a b (by simpa using h') (by simpa using h)
theorem llt_lle {a b : List Nat} (h : llt a b = true) : lle a b = true := by
  unfold lle
  cases h2 : llt b a with
  | false => rfl
  | true =>
    have := llt_trans h h2
    rw [llt_irrefl] at this
    cases this
theorem lle_trans {a b c : List Nat} (h : lle a b = true) (h' : lle b c = true) : lle a c = true := by
  by_cases e1 : a = b
  · subst e1; exact h'
  · by_cases e2 : b = c
    · subst e2; exact h
    · have l1 : llt a b = true := by
        cases q : llt a b with
        | true => rfl
        | false => exact absurd (llt_tri a b q (by unfold lle at h; simpa using h)) e1
      have l2 : llt b c = true := by
        cases q : llt b c with
        | true => rfl
        | false => exact absurd (llt_tri b c q (by unfold lle at h'; simpa using h')) e2
      exact llt_lle (llt_trans l1 l2)
theorem sort_eq {l l' : List (List Nat)} (p : l.Perm l') (s : l'.Pairwise fun a b => llt a b = true) : l.mergeSort lle = l' :=
  List.Perm.eq_of_pairwise (le := fun a b => lle a b = true) (fun a b _ _ h h' => lle_anti h h') (List.pairwise_mergeSort (le := lle) (fun a b c h h' => lle_trans h h') (fun a b => lle_total a b) l) (s.imp fun h => llt_lle h) ((List.mergeSort_perm l lle).trans p)
end Lib
end
section
set_option Elab.async false
set_option linter.all false
set_option maxRecDepth 10000
namespace Lib
open DS PySem
def den_all_orders : Fn := dfun 5 1 (sSeq (sSet 1 0 (eLst (aCons (eTup aNil) aNil)) ([] ++ []))
  (sSeq (sFor (iRange1 (eVar 0)) [] (.nm 2)
  (sSet 1 0 (eLc2 (iSeq (eVar 1)) (.nm 3) tTrue (iRange1 (eVar 0)) (.nm 4) (tCmp dNotIn (eVar 4) (eVar 3)) (eOp dAdd (eVar 3) (eTup (aCons (eVar 4) aNil))) [3, 4] [4]) ([(1, 1)] ++ ([] ++ ([(3, 1)] ++ ([(4, 0)] ++ []))))))
  (sRet (eVar 1))))
def den__law_orders : Fn := dfun 6 1 (sSeq (sSet 1 0 (eLst (aCons (eTup aNil) aNil)) ([] ++ []))
  (sSeq (sFor (iRange1 (eVar 0)) [] (.nm 2)
  (sSeq (sSet 3 1 (eLst aNil) [])
  (sSeq (sFor (iSeq (eVar 1)) [(1, 0)] (.nm 4)
  (sExt 3 (eLc (iRange1 (eVar 0)) (.nm 5) (tCmp dNotIn (eVar 5) (eVar 4)) (eOp dAdd (eVar 4) (eTup (aCons (eVar 5) aNil))) [5]) ([] ++ ([(4, 1)] ++ ([(5, 0)] ++ [])))))
  (sSet 1 0 (eVar 3) [(3, 0)]))))
  (sRet (eVar 1))))
def ol (rows : List (List Nat)) : D := .list (rows.map nt)
theorem ords_len' {n k : Nat} (hn : n ≤ 6) (hk : k ≤ n) : (ords n k).length ≤ 720 := by
  have : ∀ n, n < 7 → ∀ k, k < n + 1 → (ords n k).length ≤ 720 := by decide +kernel
  exact this n (by omega) k (by omega)
theorem grow_map (n : Nat) (rows : List (List Nat)) : (rows.flatMap fun row => ((List.range n).filter fun i => !row.contains i).map fun i => nt (row ++ [i])) = (grow n rows).map nt := by
  unfold grow
  rw [List.map_flatMap]
  simp only [List.map_map, Function.comp_def]
theorem all_orders_ok {n : Nat} (hn : n ≤ 6) : den_all_orders [.int n] = some (ol (ords n n)) := by
  refine dfun_ret [some (.int n), none, none, none, none] [0, 0, 0, 0, 0] rfl rfl rfl ?_
  rw [sSeq_next (s' := ([some (.int n), some (ol (ords n 0)), none, none, none], [0, 0, 0, 0, 0])) (by rfl)]
  obtain ⟨s', e, x, rfl⟩ := for_rng (i := 2) (n := n) (lo := 0) (body := sSet 1 0 (eLc2 (iSeq (eVar 1)) (.nm 3) tTrue (iRange1 (eVar 0)) (.nm 4) (tCmp dNotIn (eVar 4) (eVar 3)) (eOp dAdd (eVar 3) (eTup (aCons (eVar 4) aNil))) [3, 4] [4]) ([(1, 1)] ++ ([] ++ ([(3, 1)] ++ ([(4, 0)] ++ [])))))
    (fun k s => ∃ x, s = ([some (.int n), some (ol (ords n k)), x, none, none], [0, 0, 0, 0, 0])) _ ⟨none, rfl⟩ (by
      rintro k _ hk ⟨x, rfl⟩
      have l1 := ords_len' (n := n) (k := k + 1) hn (by omega)
      have hl : eLc2 (iSeq (eVar 1)) (.nm 3) tTrue (iRange1 (eVar 0)) (.nm 4) (tCmp dNotIn (eVar 4) (eVar 3)) (eOp dAdd (eVar 3) (eTup (aCons (eVar 4) aNil))) [3, 4] [4] [some (.int n), some (ol (ords n k)), some (.int (0 + k)), none, none] = some (ol (ords n (k + 1))) := by
        rw [eLc2_of nt (fun row => ((List.range n).filter fun i => !row.contains i).map fun i => nt (row ++ [i])) (l := ords n k) rfl]
        · rw [grow_map]; rfl
        · intro row hr
          refine ⟨_, rfl, ?_⟩
          refine inLc_if nat (fun i => nt (row ++ [i])) (fun i => !row.contains i) (range1_nat rfl (by omega)) ?_
          intro i hi
          refine ⟨_, rfl, nt_notin i row, fun _ => ?_⟩
          have hl := (mem_ords.mp hr).len
          exact nt_snoc (by omega)
        · rw [grow_map, List.length_map]
          show (ords n (k + 1)).length ≤ _
          omega
      refine ⟨_, ?_, some (.int (0 + k)), rfl⟩
      rw [sSet_next hl]
      rfl)
  rw [sSeq_next (s' := ([some (.int n), some (ol (ords n n)), x, none, none], [0, 0, 0, 0, 0])) (by
    rw [sFor_go (range1_ok (n := n) rfl (by omega))]
    exact e)]
  exact sRet_ok rfl
theorem ords_succ (n k : Nat) : grow n (ords n k) = ords n (k + 1) := rfl
theorem grow_take {n : Nat} {rows : List (List Nat)} {row : List Nat} {j : Nat} (h : rows[j]? = some row) : grow n (rows.take (j + 1)) = grow n (rows.take j) ++ ((List.range n).filter fun i => !row.contains i).map fun i => row ++ [i] := by
  rw [List.take_add_one, h]
  unfold grow
  simp
theorem grow_take_len (n : Nat) (rows : List (List Nat)) (j : Nat) : (grow n (rows.take j)).length ≤ (grow n rows).length := by
  conv => rhs; rw [← List.take_append_drop j rows]
  unfold grow
  rw [List.flatMap_append, List.length_append]
  omega
theorem law_orders_in {n k : Nat} (hn : n ≤ 6) (hk : k < n) (x2 x4 : Option D) : ∃ y, sFor (iSeq (eVar 1)) [(1, 0)] (.nm 4)
  (sExt 3 (eLc (iRange1 (eVar 0)) (.nm 5) (tCmp dNotIn (eVar 5) (eVar 4)) (eOp dAdd (eVar 4) (eTup (aCons (eVar 5) aNil))) [5]) ([] ++ ([(4, 1)] ++ ([(5, 0)] ++ [])))) ([some (.int n), some (ol (ords n k)), x2, some (.list []), x4, none], [0, 0, 0, 1, 0, 0]) = .next ([some (.int n), some (ol (ords n k)), x2, some (ol (ords n (k + 1))), y, none], [0, 0, 0, 1, 0, 0]) := by
  have l1 := ords_len' (n := n) (k := k + 1) hn (by omega)
  obtain ⟨s', e, y, rfl⟩ := for_inv (t := .nm 4) (body := sExt 3 (eLc (iRange1 (eVar 0)) (.nm 5) (tCmp dNotIn (eVar 5) (eVar 4)) (eOp dAdd (eVar 4) (eTup (aCons (eVar 5) aNil))) [5]) ([] ++ ([(4, 1)] ++ ([(5, 0)] ++ []))))
    (fun j s => ∃ y, s = ([some (.int n), some (ol (ords n k)), x2, some (ol (grow n ((ords n k).take j))), y, none], [0, 0, 0, 1, 0, 0])) ((ords n k).map nt) 0 ([some (.int n), some (ol (ords n k)), x2, some (.list []), x4, none], [0, 0, 0, 1, 0, 0]) ⟨x4, by rw [List.take_zero]; rfl⟩ (by
      rintro j d _ hd ⟨y, rfl⟩
      rw [List.getElem?_map] at hd
      obtain ⟨row, hr, rfl⟩ := Option.map_eq_some_iff.mp hd
      have hl := (mem_ords.mp (List.mem_of_getElem? hr)).len
      rw [Nat.zero_add]
      have hc : eLc (iRange1 (eVar 0)) (.nm 5) (tCmp dNotIn (eVar 5) (eVar 4)) (eOp dAdd (eVar 4) (eTup (aCons (eVar 5) aNil))) [5] [some (.int n), some (ol (ords n k)), x2, some (ol (grow n ((ords n k).take j))), some (nt row), none] = some (.list (((List.range n).filter fun i => !row.contains i).map fun i => nt (row ++ [i]))) := by
        refine eLc_if nat (fun i => nt (row ++ [i])) (fun i => !row.contains i) (range1_nat rfl (by omega)) (by rw [List.length_range]; omega) ?_
        intro i hi
        exact ⟨_, rfl, nt_notin i row, fun _ => nt_snoc (by omega)⟩
      have eg := grow_take (n := n) hr
      have lg := Nat.le_trans (grow_take_len n (ords n k) (j + 1)) l1
      rw [eg, List.length_append, List.length_map] at lg
      refine ⟨[(4, nt row)], _, rfl, ?_, some (nt row), rfl⟩
      show sExt 3 _ _ ([some (.int n), some (ol (ords n k)), x2, some (ol (grow n ((ords n k).take j))), some (nt row), none], [0, 0, 0, 1, 0, 0]) = _
      rw [sExt_ok (ds := (grow n ((ords n k).take j)).map nt) hc rfl (by rw [List.length_map, List.length_map]; omega) rfl, eg]
      have e4 : ol (grow n (List.take j (ords n k)) ++ List.map (fun i => row ++ [i]) (List.filter (fun i => !row.contains i) (List.range n))) = .list (List.map nt (grow n (List.take j (ords n k))) ++ List.map (fun i => nt (row ++ [i])) (List.filter (fun i => !row.contains i) (List.range n))) := by
        unfold ol
        rw [List.map_append, List.map_map]
        rfl
      rw [e4]
      rfl)
  refine ⟨y, ?_⟩
  rw [sFor_go (ds := (ords n k).map nt) rfl]
  rw [Nat.zero_add, List.length_map, List.take_length, ords_succ] at e
  exact e
theorem law_orders_ok {n : Nat} (hn : n ≤ 6) : den__law_orders [.int n] = some (ol (ords n n)) := by
  refine dfun_ret [some (.int n), none, none, none, none, none] [0, 0, 0, 0, 0, 0] rfl rfl rfl ?_
  rw [sSeq_next (s' := ([some (.int n), some (ol (ords n 0)), none, none, none, none], [0, 0, 0, 0, 0, 0])) (by rfl)]
  obtain ⟨s', e, x2, x3, x4, rfl⟩ := for_rng (i := 2) (n := n) (lo := 0) (body := (sSeq (sSet 3 1 (eLst aNil) [])
  (sSeq (sFor (iSeq (eVar 1)) [(1, 0)] (.nm 4)
  (sExt 3 (eLc (iRange1 (eVar 0)) (.nm 5) (tCmp dNotIn (eVar 5) (eVar 4)) (eOp dAdd (eVar 4) (eTup (aCons (eVar 5) aNil))) [5]) ([] ++ ([(4, 1)] ++ ([(5, 0)] ++ [])))))
  (sSet 1 0 (eVar 3) [(3, 0)]))))
    (fun k s => ∃ x2 x3 x4, s = ([some (.int n), some (ol (ords n k)), x2, x3, x4, none], [0, 0, 0, 0, 0, 0])) _ ⟨none, none, none, rfl⟩ (by
      rintro k _ hk ⟨x2, x3, x4, rfl⟩
      obtain ⟨y, e⟩ := law_orders_in hn hk (some (.int (0 + k))) x4
      refine ⟨_, ?_, some (.int (0 + k)), some (ol (ords n (k + 1))), y, rfl⟩
      rw [sSeq_next (s' := ([some (.int n), some (ol (ords n k)), some (.int (0 + k)), some (.list []), x4, none], [0, 0, 0, 1, 0, 0])) (by rfl)]
      rw [sSeq_next e]
      rw [sSet_next (d := ol (ords n (k + 1))) (by rfl), if_neg (by simp [ol, flat])]
      rfl)
  rw [sSeq_next (s' := ([some (.int n), some (ol (ords n n)), x2, x3, x4, none], [0, 0, 0, 0, 0, 0])) (by
    rw [sFor_go (range1_ok (n := n) rfl (by omega))]
    exact e)]
  exact sRet_ok rfl
end Lib
end
section
set_option Elab.async false
set_option linter.all false
set_option maxRecDepth 10000
namespace Lib
open DS PySem
def den_all_sets : Fn := dfun 4 1 (sSeq (sSet 1 0 (eLst (aCons (eTup aNil) aNil)) ([] ++ []))
  (sSeq (sFor (iRange3 (eOp dSub (eVar 0) (eC (.int 1))) (eUn dNeg (eC (.int 1))) (eUn dNeg (eC (.int 1)))) [] (.nm 2)
  (sSet 1 0 (eOp dAdd (eOp dAdd (eLst (aCons (eTup aNil) aNil)) (eLc (iSeq (eVar 1)) (.nm 3) tTrue (eOp dAdd (eTup (aCons (eVar 2) aNil)) (eVar 3)) [3])) (eLc (iSeq (eVar 1)) (.nm 3) (tTru (eVar 3)) (eVar 3) [3])) ((([] ++ []) ++ ([(1, 1)] ++ (([(2, 0)] ++ []) ++ [(3, 1)]))) ++ ([(1, 1)] ++ [(3, 0)]))))
  (sRet (eVar 1))))
def den__law_sets : Fn := dfun 4 1 (sSeq (sSet 1 0 (eLst (aCons (eTup aNil) aNil)) ([] ++ []))
  (sSeq (sFor (iRange1 (eVar 0)) [] (.nm 2)
  (sSet 1 0 (eOp dAdd (eVar 1) (eLc (iSeq (eVar 1)) (.nm 3) tTrue (eOp dAdd (eVar 3) (eTup (aCons (eVar 2) aNil))) [3])) ([(1, 1)] ++ ([(1, 1)] ++ ([(3, 1)] ++ ([(2, 0)] ++ []))))))
  (sRet (eCB (d1 dSorted) (aCons (eVar 1) aNil)))))
def rl (l : List (List Nat)) : D := .list (l.map nt)
theorem dAdd_ll {xs ys : List D} (h : xs.length + ys.length ≤ 16777216) : dAdd (.list xs) (.list ys) = some (.list (xs ++ ys)) := by
  show (if xs.length + ys.length ≤ sz then _ else _) = _
  rw [if_pos (show _ ≤ sz from h)]
theorem eTup_1 {f : FE} {ρ : PEnv} {x : D} (h : f ρ = some x) : eTup (aCons f aNil) ρ = some (.tuple [x]) := by
  unfold eTup; rw [aCons_a, h, aNil_a]; rfl
theorem eTup_2 {f g : FE} {ρ : PEnv} {x y : D} (h : f ρ = some x) (h' : g ρ = some y) : eTup (aCons f (aCons g aNil)) ρ = some (.tuple [x, y]) := by
  unfold eTup; rw [aCons_a, aCons_a, h, h', aNil_a]; rfl
theorem eTup_3 {f g k : FE} {ρ : PEnv} {x y z : D} (h : f ρ = some x) (h' : g ρ = some y) (h'' : k ρ = some z) : eTup (aCons f (aCons g (aCons k aNil))) ρ = some (.tuple [x, y, z]) := by
  unfold eTup; rw [aCons_a, aCons_a, aCons_a, h, h', h'', aNil_a]; rfl
theorem eLst_1 {f : FE} {ρ : PEnv} {x : D} (h : f ρ = some x) : eLst (aCons f aNil) ρ = some (.list [x]) := by
  unfold eLst; rw [aCons_a, h, aNil_a]; rfl
theorem asc_len {i k : Nat} {x : List Nat} (h : Asc i (i + k) x) : x.length ≤ k := by
  have p : x.Nodup := h.up.imp fun h => by omega
  have s : x ⊆ (List.range k).map (· + i) := fun a ha => by
    have := h.mem a ha
    exact List.mem_map.mpr ⟨a - i, List.mem_range.mpr (by omega), by omega⟩
  have := p.length_le_of_subset s
  simpa using this
theorem allCmp_nt (l : List (List Nat)) : allCmp (l.map nt) = true := allCmp_map (fun a _ => lay_nt a) (fun a _ => by have := depth_nt a; omega) (fun a _ => rfl) fun a _ b _ => alike_nt a b
theorem leD_nt (a b : List Nat) : leD (nt a) (nt b) = lle a b := by
  unfold leD lle
  rw [dataLt_nt]
theorem dSorted_nt (l : List (List Nat)) : dSorted (rl l) = some (rl (l.mergeSort lle)) := by
  show (if allCmp (l.map nt) = true then some (PyData.list ((l.map nt).mergeSort leD)) else none) = _
  rw [if_pos (allCmp_nt l), ← PySem.W.sort_maps (r := lle) (s := leD) nt fun a _ b _ => (leD_nt a b).symm]
  rfl
theorem dSorted_eq {l l' : List (List Nat)} (p : l.Perm l') (s : l'.Pairwise fun a b => llt a b = true) : dSorted (rl l) = some (rl l') := by
  rw [dSorted_nt, sort_eq p s]
theorem law_sets_ok {n : Nat} (hn : n ≤ 20) : den__law_sets [.int n] = some (rl (aset n)) := by
  refine dfun_wp rfl ?_
  simp only [List.map_cons, List.map_nil, List.replicate_succ, List.replicate_zero, List.nil_append, List.cons_append, List.append_nil, Nat.reduceSub, Nat.reduceAdd, setsD, zeros, stt, setsO, setsJ, List.foldl_cons, List.foldl_nil, List.set_cons_zero, List.set_cons_succ, demote]
  refine wp_seq ?_
  refine wp_setD (d := rl [[]]) ?_ ?_ ?_
  · exact eLst_1 (x := nt []) rfl
  · rfl
  simp only [List.map_cons, List.map_nil, List.replicate_succ, List.replicate_zero, List.nil_append, List.cons_append, List.append_nil, Nat.reduceSub, Nat.reduceAdd, setsD, zeros, stt, setsO, setsJ, List.foldl_cons, List.foldl_nil, List.set_cons_zero, List.set_cons_succ, demote]
  refine wp_seq ?_
  refine wp_forN (n := n) [2] (fun k => [(1, rl (lset k))]) ?_ ?_ (fun p hp => ?_) (fun k xs hk => ?_) fun xs => ?_
  · rfl
  · omega
  · simp only [List.mem_singleton] at hp
    subst hp
    rfl
  · simp only [List.map_cons, List.map_nil, List.replicate_succ, List.replicate_zero, List.nil_append, List.cons_append, List.append_nil, Nat.reduceSub, Nat.reduceAdd, setsD, zeros, stt, setsO, setsJ, List.foldl_cons, List.foldl_nil, List.set_cons_zero, List.set_cons_succ, demote]
    have hlen := lset_len k
    have hlen2 := lset_len (k + 1)
    have h20 : 2 ^ (k + 1) ≤ 2 ^ 20 := Nat.pow_le_pow_right (by omega) (by omega)
    have h20' : 2 ^ k ≤ 2 ^ 20 := Nat.pow_le_pow_right (by omega) (by omega)
    have c1 := fun x3 => eLc_of (fi := iSeq (eVar 1)) (t := .nm 3) (vs := [3]) (fe := eOp dAdd (eVar 3) (eTup (aCons (eVar 2) aNil))) (ρ := [some (.int n), some (rl (lset k)), some (nat k), x3]) nt (fun x => nt (x ++ [k])) (l := lset k) (by (first | rfl | (simp only [eOp_a, eUn_a, eCB_a, aCons_a, aNil_a, eIx_a, eC_a, eVar_0, eVar_s, o2_ss, o1_s, d1_1, d2_2, eB_a, tCmp_a, tTru_a, tNotD_a, tIsND_a, tNotND_a, eIsN_a, eNotN_a, tTrue_a, iSeq_a, seqOf_l, seqOf_t, dAdd_i, dAddI_i, dSub_i, dNeg_i, dLt_i, dLe_i, dGt_i, dGe_i, dEq_i, dNe_i, dTru_b, dTru_i, dTru_l, dTru_t, dTru_n, isNon_n, isNon_b, isNon_i, isNon_s, isNon_l, isNon_t, dLen_l, dLen_t, dInt_i, dInt_b, dTuple_l, dTuple_t, dList_l, dList_t, eCall_1, eCall_2, eCall_3, eCall_4, eCall_5, eCall_6, eCall_7] <;> rfl))) (by omega) (fun x hx => ⟨[(3, nt x)], rfl, by
      have := asc_len (by have := mem_lset.mp hx; rw [← Nat.zero_add k] at this; exact this)
      rw [eOp_a, eTup_1 (x := nat k) rfl]
      exact nt_snoc (by omega)⟩)
    refine wp_setD (d := rl (lset (k + 1))) ?_ rfl ?_
    · rw [eOp_a, c1]
      refine Eq.trans (dAdd_ll ?_) ?_
      · simp; omega
      · simp [rl, lset]
    · simp only [List.map_cons, List.map_nil, List.replicate_succ, List.replicate_zero, List.nil_append, List.cons_append, List.append_nil, Nat.reduceSub, Nat.reduceAdd, setsD, zeros, stt, setsO, setsJ, List.foldl_cons, List.foldl_nil, List.set_cons_zero, List.set_cons_succ, demote]
      exact cl rfl
  · simp only [List.map_cons, List.map_nil, List.replicate_succ, List.replicate_zero, List.nil_append, List.cons_append, List.append_nil, Nat.reduceSub, Nat.reduceAdd, setsD, zeros, stt, setsO, setsJ, List.foldl_cons, List.foldl_nil, List.set_cons_zero, List.set_cons_succ, demote]
    refine wp_ret (d := rl (aset n)) ?_ rfl
    rw [eCB_a, aCons_a, aNil_a]
    show dSorted (rl (lset n)) = _
    exact dSorted_eq (lset_perm n) (aset_sorted n)
end Lib
end
section
set_option Elab.async false
set_option linter.all false
namespace Lib
theorem Int.lt_or_le (a b : Int) : a < b ∨ b ≤ a := by omega
def shr (n : Nat) : Nat → List (List Nat)
  | 0 => [[]]
  | k + 1 => (shr n k).flatMap fun row => (List.range n).map fun i => row ++ [i]
structure IsShr (n m : Nat) (s : List Nat) : Prop where
  len : s.length = m
  lt : ∀ x ∈ s, x < n
theorem mem_shr {n : Nat} : ∀ {k : Nat} {o : List Nat}, o ∈ shr n k ↔ IsShr n k o
  | 0, o => by
    constructor
    · intro h
      have : o = [] := by simpa [shr] using h
      subst this
      exact ⟨rfl, by simp⟩
    · intro h
      have : o = [] := List.length_eq_zero_iff.mp h.len
      simp [shr, this]
  | k + 1, o => by
    show o ∈ (shr n k).flatMap _ ↔ _
    simp only [List.mem_flatMap, List.mem_map, List.mem_range]
    constructor
    · rintro ⟨row, h, i, hi, rfl⟩
      have r := mem_shr.mp h
      refine ⟨by simp [r.len], ?_⟩
      intro x hx
      rcases List.mem_append.mp hx with h1 | h1
      · exact r.lt x h1
      · simp at h1; omega
    · intro h
      have hl := h.len
      have hne : o ≠ [] := by intro e; subst e; simp at hl
      have e := List.dropLast_concat_getLast hne
      exact ⟨o.dropLast, mem_shr.mpr ⟨by simp [hl], fun x hx => h.lt x ((List.dropLast_sublist o).subset hx)⟩, o.getLast hne, h.lt _ (List.getLast_mem hne), e⟩
theorem shr_len (n : Nat) : ∀ k, (shr n k).length = n ^ k
  | 0 => rfl
  | k + 1 => by
    have : ∀ l : List (List Nat), (l.flatMap fun row => (List.range n).map fun i => row ++ [i]).length = l.length * n := by
      intro l
      induction l with
      | nil => simp
      | cons a l ih => rw [List.flatMap_cons, List.length_append, ih, List.length_map, List.length_range, List.length_cons, Nat.succ_mul, Nat.add_comm]
    show ((shr n k).flatMap _).length = _
    rw [this, shr_len n k, Nat.pow_succ]
def pw (f : Nat → Int) (m : Nat) (s : List Nat) (p : Nat) : List Int := ((List.range m).filter fun k => decide (s.getD k 0 = p)).map f
def sw (f : Nat → Int) (m : Nat) (s : List Nat) (p : Nat) : Int := rsum (fun k => if s.getD k 0 = p then f k else 0) m
theorem sw_sum (f : Nat → Int) (s : List Nat) (p : Nat) : ∀ m, (pw f m s p).sum = sw f m s p
  | 0 => rfl
  | m + 1 => by
    have ih := sw_sum f s p m
    unfold pw at ih ⊢
    rw [List.range_succ, List.filter_append, List.map_append, List.sum_append, ih]
    show _ = sw f m s p + (if s.getD m 0 = p then f m else 0)
    congr 1
    by_cases h : s.getD m 0 = p
    · rw [if_pos h, List.filter_cons_of_pos (by exact decide_eq_true h)]; simp
    · rw [if_neg h, List.filter_cons_of_neg (by simpa using h)]; simp
def imax (x : Int) (xs : List Int) : Int := xs.foldl (fun a y => if a < y then y else a) x
def rprod (g : Nat → Int) : Nat → Int
  | 0 => 1
  | n + 1 => rprod g n * g n
def npr (W : Nat → Nat → Int) (n m : Nat) (s : List Nat) : Int := rprod (fun p => sw (W p) m s p) n
end Lib
end
section
set_option Elab.async false
set_option linter.all false
set_option maxRecDepth 10000
namespace Lib
open DS PySem
def den__law_worth : Fn := dfun 4 3 (sRet (eCB (d1 dSum) (aCons (eLc (iRange1 (eCB (d1 dLen) (aCons (eVar 0) aNil))) (.nm 3) (tCmp dEq (eIx (eVar 1) (eVar 3)) (eVar 2)) (eIx (eVar 0) (eVar 3)) [3]) aNil)))
theorem dEq_nat (a b : Nat) : dEq (nat a) (nat b) = some (decide (a = b)) := by
  show dEq (.int (a : Int)) (.int (b : Int)) = _
  rw [dEq_i]
  congr 1
  rw [decide_eq_decide]; omega
def tbr (n m : Nat) (W : Nat → Nat → Int) : D := .tuple ((List.range n).map fun u => trow m (W u))
@[simp] theorem tbr_len (n m : Nat) (W : Nat → Nat → Int) : dLen (tbr n m W) = some (.int n) := by simp [tbr]
theorem tbr_ix {n m u : Nat} {W : Nat → Nat → Int} (h : u < n) : dIx (tbr n m W) (.int u) = some (trow m (W u)) := by
  show L2.atI ((List.range n).map _) (u : Int) = _
  rw [atI_mp (by simpa using h)]
  simp
section
variable {m : Nat} {f : Nat → Int} {s : List Nat}
theorem lworth_ok (hm : m ≤ 100) (hs : s.length = m) (p : Nat) : den__law_worth [trow m f, nt s, nat p] = some (.int (sw f m s p)) := by
  refine dfun_ret [some (trow m f), some (nt s), some (nat p), none] [0, 0, 0, 0] rfl rfl rfl ?_
  refine sRet_ok ?_
  have hl : (eCB (d1 dLen) (aCons (eVar 0) aNil)) [some (trow m f), some (nt s), some (nat p), none] = some (.int m) := by simp
  have hc := eLc_if (t := .nm 3) (ft := tCmp dEq (eIx (eVar 1) (eVar 3)) (eVar 2)) (fe := eIx (eVar 0) (eVar 3)) (vs := [3]) nat (fun k => .int (f k)) (fun k => decide (s.getD k 0 = p)) (l := List.range m) (range1_nat hl (by omega)) (by rw [List.length_range]; omega) (by
    intro k hk
    have hk := List.mem_range.mp hk
    have e1 := nt_ix (o := s) (i := k) (by omega)
    have e2 := trow_ix (f := f) hk
    refine ⟨[(3, nat k)], rfl, ?_, fun _ => ?_⟩
    · show o2 (dIx (nt s) (.int k)) (some (nat p)) dEq = _
      rw [e1, o2_ss, dEq_nat]
    · exact e2)
  have e : ((List.range m).filter fun k => decide (s.getD k 0 = p)).map (fun k => PyData.int (f k)) = (pw f m s p).map PyData.int := by
    unfold pw
    rw [List.map_map]
    rfl
  rw [eCB_a, aCons_a, hc, aNil_a, o2_ss, o1_s, d1_1, e, dSum_ok, sw_sum]
end
section
variable {n m : Nat} {W : Nat → Nat → Int} {s : List Nat}
end
end Lib
end
section
set_option Elab.async false
set_option linter.all false
set_option maxRecDepth 10000
namespace Lib
open DS PySem
section
variable {n m : Nat} {W : Nat → Nat → Int} {s : List Nat}
theorem bools_map (l : List Bool) : bools (l.map PyData.bool) = some l := by
  induction l with
  | nil => rfl
  | cons a l ih => simp [bools, ih]
theorem dAll_ok (l : List Bool) : dAll (.list (l.map PyData.bool)) = some (.bool (l.all id)) := by
  simp [dAll, bools_map]
end
end Lib
end
section
set_option Elab.async false
set_option linter.all false
set_option maxRecDepth 10000
namespace Lib
open DS PySem
def den__law_sharings : Fn := dfun 7 2 (sSeq (sSet 2 0 (eLst (aCons (eTup aNil) aNil)) ([] ++ []))
  (sSeq (sFor (iRange1 (eVar 1)) [] (.nm 3)
  (sSeq (sSet 4 1 (eLst aNil) [])
  (sSeq (sFor (iSeq (eVar 2)) [(2, 0)] (.nm 5)
  (sExt 4 (eLc (iRange1 (eVar 0)) (.nm 6) tTrue (eOp dAdd (eVar 5) (eTup (aCons (eVar 6) aNil))) [6]) ([] ++ ([(5, 1)] ++ ([(6, 0)] ++ [])))))
  (sSet 2 0 (eVar 4) [(4, 0)]))))
  (sRet (eVar 2))))
def den__law_best : Fn := dfun 5 1 (sSeq (sSet 1 0 (eC .none) [])
  (sSeq (sFor (iSeq (eCall 2 den__law_sharings (aCons (eCB (d1 dLen) (aCons (eVar 0) aNil)) (aCons (eCB (d1 dLen) (aCons (eIx (eVar 0) (eC (.int 0))) aNil)) aNil)))) ([] ++ ([] ++ [])) (.nm 2)
  (sSeq (sSet 3 0 (eC (.int 1)) [])
  (sSeq (sFor (iRange1 (eCB (d1 dLen) (aCons (eVar 0) aNil))) [] (.nm 4)
  (sSet 3 0 (eOp dMul (eVar 3) (eCall 3 den__law_worth (aCons (eIx (eVar 0) (eVar 4)) (aCons (eVar 2) (aCons (eVar 4) aNil))))) ([(3, 1)] ++ ([(0, 1)] ++ ([(2, 0)] ++ ([(4, 0)] ++ []))))))
  (sIf (tOrD (tIsND (eVar 1)) (tCmp dGt (eVar 3) (eIx (eVar 1) (eC (.int 0)))))
  (sSet 1 0 (eTup (aCons (eVar 3) (aCons (eVar 2) aNil))) ([(3, 0)] ++ ([(2, 0)] ++ [])))
  sNil))))
  (sRet (eIx (eVar 1) (eC (.int 1))))))
def shl (rows : List (List Nat)) : D := .list (rows.map nt)
theorem shr_succ (n k : Nat) : ((shr n k).flatMap fun row => (List.range n).map fun i => row ++ [i]) = shr n (k + 1) := rfl
theorem shr_small {n k m : Nat} (h : n ^ m ≤ 3000) (h1 : 1 ≤ n) (hk : k ≤ m) : (shr n k).length ≤ 3000 := by
  rw [shr_len]
  exact Nat.le_trans (Nat.pow_le_pow_right h1 hk) h
theorem law_shr_in {n k m : Nat} (h : n ^ m ≤ 3000) (h1 : 1 ≤ n) (hn : n ≤ 1000) (hk : k < m) (hm : m ≤ 1000) (v1 x3 x5 : Option D) : ∃ y, sFor (iSeq (eVar 2)) [(2, 0)] (.nm 5)
  (sExt 4 (eLc (iRange1 (eVar 0)) (.nm 6) tTrue (eOp dAdd (eVar 5) (eTup (aCons (eVar 6) aNil))) [6]) ([] ++ ([(5, 1)] ++ ([(6, 0)] ++ [])))) ([some (.int n), v1, some (shl (shr n k)), x3, some (.list []), x5, none], [0, 0, 0, 0, 1, 0, 0]) = .next ([some (.int n), v1, some (shl (shr n k)), x3, some (shl (shr n (k + 1))), y, none], [0, 0, 0, 0, 1, 0, 0]) := by
  have l1 := shr_small (n := n) (k := k + 1) h h1 (by omega)
  obtain ⟨s', e, y, rfl⟩ := for_inv (t := .nm 5) (body := (sExt 4 (eLc (iRange1 (eVar 0)) (.nm 6) tTrue (eOp dAdd (eVar 5) (eTup (aCons (eVar 6) aNil))) [6]) ([] ++ ([(5, 1)] ++ ([(6, 0)] ++ [])))))
    (fun j s => ∃ y, s = ([some (.int n), v1, some (shl (shr n k)), x3, some (shl (((shr n k).take j).flatMap fun row => (List.range n).map fun i => row ++ [i])), y, none], [0, 0, 0, 0, 1, 0, 0])) ((shr n k).map nt) 0 ([some (.int n), v1, some (shl (shr n k)), x3, some (.list []), x5, none], [0, 0, 0, 0, 1, 0, 0]) ⟨x5, by rw [List.take_zero]; rfl⟩ (by
      rintro j d _ hd ⟨y, rfl⟩
      rw [List.getElem?_map] at hd
      obtain ⟨row, hr, rfl⟩ := Option.map_eq_some_iff.mp hd
      have hl := (mem_shr.mp (List.mem_of_getElem? hr)).len
      rw [Nat.zero_add]
      have hc : eLc (iRange1 (eVar 0)) (.nm 6) tTrue (eOp dAdd (eVar 5) (eTup (aCons (eVar 6) aNil))) [6] [some (.int n), v1, some (shl (shr n k)), x3, some (shl (((shr n k).take j).flatMap fun row => (List.range n).map fun i => row ++ [i])), some (nt row), none] = some (.list ((List.range n).map fun i => nt (row ++ [i]))) := by
        refine eLc_of nat (fun i => nt (row ++ [i])) (range1_nat rfl (by omega)) (by rw [List.length_range]; omega) ?_
        intro i hi
        exact ⟨_, rfl, nt_snoc (by omega)⟩
      have eg : ((shr n k).take (j + 1)).flatMap (fun row => (List.range n).map fun i => row ++ [i]) = ((shr n k).take j).flatMap (fun row => (List.range n).map fun i => row ++ [i]) ++ (List.range n).map fun i => row ++ [i] := by
        rw [List.take_add_one, hr]
        simp
      have lg : (((shr n k).take (j + 1)).flatMap (fun row => (List.range n).map fun i => row ++ [i])).length ≤ 3000 := by
        refine Nat.le_trans ?_ l1
        show _ ≤ ((shr n k).flatMap fun row => (List.range n).map fun i => row ++ [i]).length
        conv => rhs; rw [← List.take_append_drop (j + 1) (shr n k)]
        rw [List.flatMap_append, List.length_append]
        omega
      rw [eg, List.length_append, List.length_map] at lg
      refine ⟨[(5, nt row)], _, rfl, ?_, some (nt row), rfl⟩
      show sExt 4 _ _ ([some (.int n), v1, some (shl (shr n k)), x3, some (shl (((shr n k).take j).flatMap fun row => (List.range n).map fun i => row ++ [i])), some (nt row), none], [0, 0, 0, 0, 1, 0, 0]) = _
      rw [sExt_ok (ds := (((shr n k).take j).flatMap fun row => (List.range n).map fun i => row ++ [i]).map nt) hc rfl (by rw [List.length_map, List.length_map]; omega) rfl, eg]
      have e4 : shl (((shr n k).take j).flatMap (fun row => (List.range n).map fun i => row ++ [i]) ++ (List.range n).map fun i => row ++ [i]) = .list ((((shr n k).take j).flatMap fun row => (List.range n).map fun i => row ++ [i]).map nt ++ (List.range n).map fun i => nt (row ++ [i])) := by
        unfold shl
        rw [List.map_append, List.map_map]
        rfl
      rw [e4]
      rfl)
  refine ⟨y, ?_⟩
  rw [sFor_at (ds := (shr n k).map nt) rfl]
  rw [Nat.zero_add, List.length_map, List.take_length, shr_succ] at e
  exact e
theorem law_shr_ok {n m : Nat} (h : n ^ m ≤ 3000) (h1 : 1 ≤ n) (hn : n ≤ 1000) (hm : m ≤ 1000) : den__law_sharings [.int n, .int m] = some (shl (shr n m)) := by
  refine dfun_ret [some (.int n), some (.int m), none, none, none, none, none] [0, 0, 0, 0, 0, 0, 0] rfl rfl rfl ?_
  rw [sSeq_next (s' := ([some (.int n), some (.int m), some (shl (shr n 0)), none, none, none, none], [0, 0, 0, 0, 0, 0, 0])) (by rfl)]
  obtain ⟨s', e, x3, x4, x5, rfl⟩ := for_rng (i := 3) (n := m) (lo := 0) (body := (sSeq (sSet 4 1 (eLst aNil) [])
  (sSeq (sFor (iSeq (eVar 2)) [(2, 0)] (.nm 5)
  (sExt 4 (eLc (iRange1 (eVar 0)) (.nm 6) tTrue (eOp dAdd (eVar 5) (eTup (aCons (eVar 6) aNil))) [6]) ([] ++ ([(5, 1)] ++ ([(6, 0)] ++ [])))))
  (sSet 2 0 (eVar 4) [(4, 0)]))))
    (fun k s => ∃ x3 x4 x5, s = ([some (.int n), some (.int m), some (shl (shr n k)), x3, x4, x5, none], [0, 0, 0, 0, 0, 0, 0])) _ ⟨none, none, none, rfl⟩ (by
      rintro k _ hk ⟨x3, x4, x5, rfl⟩
      obtain ⟨y, e⟩ := law_shr_in h h1 hn hk hm (some (.int m)) (some (.int (0 + k))) x5
      refine ⟨_, ?_, some (.int (0 + k)), some (shl (shr n (k + 1))), y, rfl⟩
      rw [sSeq_next (s' := ([some (.int n), some (.int m), some (shl (shr n k)), some (.int (0 + k)), some (.list []), x5, none], [0, 0, 0, 0, 1, 0, 0])) (by rfl)]
      rw [sSeq_next e]
      rw [sSet_deep (d := shl (shr n (k + 1))) (by rfl) (flat_list _)]
      rfl)
  rw [sSeq_next (s' := ([some (.int n), some (.int m), some (shl (shr n m)), x3, x4, x5, none], [0, 0, 0, 0, 0, 0, 0])) (by
    rw [sFor_at (range1_ok (n := m) rfl (by omega))]
    exact e)]
  exact sRet_ok rfl
end Lib
end
section
set_option Elab.async false
set_option linter.all false
set_option maxRecDepth 10000
namespace Lib
open DS PySem
def cog (c : List Nat → Int) (o : List Nat) : D := .tuple [.int (c o), nt o]
theorem cog_flat (c : List Nat → Int) (o : List Nat) : flat (cog c o) = true := by
  have := nt_flat o
  simp [cog, flat, flats, this]
def bgD (c : List Nat → Int) : Option (List Nat) → D
  | none => .none
  | some o => cog c o
def gtc (c : List Nat → Int) (a b : List Nat) : Bool := decide (c b < c a)
def more (c : List Nat → Int) (b : Option (List Nat)) (o : List Nat) : Bool := match b with
  | none => true
  | some b => gtc c o b
theorem more_test {c : List Nat → Int} {b : Option (List Nat)} {o : List Nat} {ρ : PEnv} {i j : Nat} (hi : eVar i ρ = some (bgD c b)) (hj : eVar j ρ = some (.int (c o))) :
    tOrD (tIsND (eVar i)) (tCmp dGt (eVar j) (eIx (eVar i) (eC (.int 0)))) ρ = some (more c b o) := by
  cases b with
  | none => exact tOr_t (by rw [tIsND_a, hi, o1_s]; rfl)
  | some b =>
    have nn : isNon (cog c b) = false := rfl
    have ix : dIx (cog c b) (.int 0) = some (.int (c b)) := rfl
    rw [tOr_f (by rw [tIsND_a, hi, o1_s]; exact congrArg some nn), tCmp_a, eIx_a, hi, hj, eC_a, o2_ss]
    show o2 (some (PyData.int (c o))) (dIx (cog c b) (.int 0)) dGt = _
    rw [ix, o2_ss, dGt_i]
    rfl
theorem more_one {c : List Nat → Int} {b : Option (List Nat)} {o : List Nat} : ofold (gtc c) b [o] = if more c b o = true then some o else b := by
  rw [ofold_one]
  cases b with
  | none => rfl
  | some b => show (if gtc c o b = true then some o else some b) = _; rfl
def bestG (c : List Nat → Int) (n m : Nat) : List Nat := match shr n m with
  | [] => []
  | x :: xs => fmin (gtc c) x xs
theorem shr_ne {n m : Nat} (h : 1 ≤ n) : shr n m ≠ [] := List.ne_nil_of_mem (mem_shr.mpr (⟨List.length_replicate, fun x hx => by
  have := List.eq_of_mem_replicate hx
  omega⟩ : IsShr n m (List.replicate m 0)))
theorem bestG_all (c : List Nat → Int) {n m : Nat} (h : 1 ≤ n) : ofold (gtc c) none (shr n m) = some (bestG c n m) := by
  unfold bestG
  cases e : shr n m with
  | nil => exact absurd e (shr_ne h)
  | cons x xs => exact ofold_cons _ x xs
theorem sw_le {f : Nat → Int} {s : List Nat} {p : Nat} (hf : ∀ k, 0 ≤ f k ∧ f k ≤ 20) : ∀ m : Nat, 0 ≤ sw f m s p ∧ sw f m s p ≤ 20 * m
  | 0 => ⟨Int.le_refl _, Int.le_refl _⟩
  | m + 1 => by
    have := sw_le (s := s) (p := p) hf m
    have h2 := hf m
    show 0 ≤ sw f m s p + (if s.getD m 0 = p then f m else 0) ∧ sw f m s p + (if s.getD m 0 = p then f m else 0) ≤ 20 * ((m + 1 : Nat) : Int)
    split <;> omega
section
variable {n m : Nat} {W : Nat → Nat → Int} {s : List Nat}
def sums (n : Nat) (W : Nat → Nat → Int) (s : List Nat) (k : Nat) : List Int := (List.range n).map fun p => sw (W p) k s p
def lbBody : FS := (sSeq (sSet 3 0 (eC (.int 1)) [])
  (sSeq (sFor (iRange1 (eCB (d1 dLen) (aCons (eVar 0) aNil))) [] (.nm 4)
  (sSet 3 0 (eOp dMul (eVar 3) (eCall 3 den__law_worth (aCons (eIx (eVar 0) (eVar 4)) (aCons (eVar 2) (aCons (eVar 4) aNil))))) ([(3, 1)] ++ ([(0, 1)] ++ ([(2, 0)] ++ ([(4, 0)] ++ []))))))
  (sIf (tOrD (tIsND (eVar 1)) (tCmp dGt (eVar 3) (eIx (eVar 1) (eC (.int 0)))))
  (sSet 1 0 (eTup (aCons (eVar 3) (aCons (eVar 2) aNil))) ([(3, 0)] ++ ([(2, 0)] ++ [])))
  sNil)))
theorem law_best_ok (h1 : 1 ≤ n) (hm1 : 1 ≤ m) (hn : n ≤ 100) (hm : m ≤ 100) (hs : n ^ m ≤ 3000) (hW : ∀ i k, 0 ≤ W i k ∧ W i k ≤ 20) : den__law_best [tbr n m W] = some (nt (bestG (npr W n m) n m)) := by
  refine dfun_ret [some (tbr n m W), none, none, none, none] [0, 0, 0, 0, 0] rfl rfl rfl ?_
  rw [sSeq_next (sSet_flat (d := .none) rfl rfl)]
  simp only [List.set_cons_zero, List.set_cons_succ]
  have hi : iSeq (eCall 2 den__law_sharings (aCons (eCB (d1 dLen) (aCons (eVar 0) aNil)) (aCons (eCB (d1 dLen) (aCons (eIx (eVar 0) (eC (.int 0))) aNil)) aNil))) [some (tbr n m W), some .none, none, none, none] = some ((shr n m).map nt) := by
    have ix := tbr_ix (n := n) (m := m) (W := W) (u := 0) (by omega)
    have ix' : dIx (tbr n m W) (.int 0) = some (trow m (W 0)) := ix
    simp only [iSeq_a, eCall_2, eCB_a, aCons_a, aNil_a, eIx_a, eC_a, eVar_0, o2_ss, o1_s, d1_1, ix', tbr_len, trow_len, law_shr_ok hs h1 (show n ≤ 1000 by omega) (show m ≤ 1000 by omega)]
    rfl
  obtain ⟨s', e, x2, x3, x4, rfl⟩ := for_inv (t := .nm 2) (body := lbBody)
    (fun j s => ∃ x2 x3 x4, s = ([some (tbr n m W), some (bgD (npr W n m) (ofold (gtc (npr W n m)) none ((shr n m).take j))), x2, x3, x4], [0, 0, 0, 0, 0])) ((shr n m).map nt) 0 ([some (tbr n m W), some .none, none, none, none], [0, 0, 0, 0, 0]) ⟨none, none, none, by rw [List.take_zero]; rfl⟩ (by
      rintro j d _ hd ⟨x2, x3, x4, rfl⟩
      rw [Nat.zero_add, List.getElem?_map] at *
      obtain ⟨o, ho, rfl⟩ := Option.map_eq_some_iff.mp hd
      have hr := mem_shr.mp (List.mem_of_getElem? ho)
      generalize hb : ofold (gtc (npr W n m)) none ((shr n m).take j) = b
      obtain ⟨s', e, x4', rfl⟩ := for_rng (i := 4) (n := n) (lo := 0) (body := (sSet 3 0 (eOp dMul (eVar 3) (eCall 3 den__law_worth (aCons (eIx (eVar 0) (eVar 4)) (aCons (eVar 2) (aCons (eVar 4) aNil))))) ([(3, 1)] ++ ([(0, 1)] ++ ([(2, 0)] ++ ([(4, 0)] ++ []))))))
        (fun p s' => ∃ x4, s' = ([some (tbr n m W), some (bgD (npr W n m) b), some (nt o), some (.int (rprod (fun p => sw (W p) m o p) p)), x4], [0, 0, 0, 0, 0])) ([some (tbr n m W), some (bgD (npr W n m) b), some (nt o), some (.int 1), x4], [0, 0, 0, 0, 0]) ⟨x4, rfl⟩ (by
          rintro p _ hp ⟨x4, rfl⟩
          rw [Int.zero_add]
          simp only [List.set_cons_zero, List.set_cons_succ]
          have e3 := tbr_ix (m := m) (W := W) hp
          have b := sw_le (s := o) (p := p) (hW p) m
          have mo : mulOk (rprod (fun p => sw (W p) m o p) p) (sw (W p) m o p) = true := mulOk_r (by omega)
          have lw := lworth_ok (f := W p) (s := o) hm hr.len p
          have lw' : den__law_worth [trow m (W p), nt o, .int p] = some (.int (sw (W p) m o p)) := lw
          refine ⟨_, sSet_flat (d := .int (rprod (fun p => sw (W p) m o p) p * sw (W p) m o p)) (by
            simp only [eOp_a, eCall_3, eIx_a, eVar_0, eVar_s, o1_s, o2_ss, e3, lw', dMul_i mo]) rfl, some (.int p), rfl⟩)
      have en : rprod (fun p => sw (W p) m o p) n = npr W n m o := rfl
      rw [en] at e
      refine ⟨[(2, nt o)], _, rfl, ?_, some (nt o), some (.int (npr W n m o)), x4', rfl⟩
      simp only [setsD, zeros, List.foldl_cons, List.foldl_nil, List.set_cons_zero, List.set_cons_succ]
      unfold lbBody
      rw [sSeq_next (sSet_flat (d := .int 1) rfl rfl)]
      simp only [List.set_cons_zero, List.set_cons_succ]
      rw [sSeq_next (by
        rw [sFor_at (range1_ok (n := n) (by simp) (by omega))]
        exact e)]
      have ht := more_test (c := npr W n m) (b := b) (o := o) (i := 1) (j := 3) (ρ := [some (tbr n m W), some (bgD (npr W n m) b), some (nt o), some (.int (npr W n m o)), x4']) rfl rfl
      have et : (shr n m).take (j + 1) = (shr n m).take j ++ [o] := by
        rw [List.take_add_one, ho]; rfl
      rw [et, ofold_app, hb, more_one]
      generalize hq : more (npr W n m) b o = q at ht ⊢
      cases q with
      | true =>
        rw [sIf_tt ht, sSet_flat (d := cog (npr W n m) o) rfl (cog_flat _ _)]
        rfl
      | false =>
        rw [sIf_ff ht]
        rfl)
  rw [Nat.zero_add, List.length_map, List.take_length, bestG_all _ h1] at e
  unfold lbBody at e
  rw [sSeq_next (by
    rw [sFor_at hi]
    exact e)]
  exact sRet_ok rfl
end
end Lib
end
section
set_option Elab.async false
set_option linter.all false
set_option maxRecDepth 10000
namespace Lib
open DS PySem
def k2 (c : Nat → Int) (k : Nat) : D := .tuple [.int (c k), nat k]
def lt2 (c : Nat → Int) (a b : Nat) : Bool := if c a = c b then decide (a < b) else decide (c a < c b)
section
variable {m : Nat} {f g : Nat → Int}
def two (f g : Nat → Int) : Nat → Nat → Int
  | 0 => f
  | _ + 1 => g
end
end Lib
end
section
set_option Elab.async false
set_option linter.all false
set_option maxRecDepth 10000
namespace Lib
open DS PySem
theorem IsRow.at {n : Nat} {o : List Nat} (h : IsRow n n o) {p : Nat} (hp : p < n) : o.getD p 0 < n := by
  have hp' : p < o.length := by rw [h.len]; exact hp
  rw [List.getD_eq_getElem?_getD, List.getElem?_eq_getElem hp']
  exact h.lt _ (List.getElem_mem hp')
end Lib
end
section
set_option Elab.async false
set_option linter.all false
set_option maxRecDepth 10000
namespace Lib
open DS PySem
theorem ixN_nat {n i : Nat} (h : i < n) : L2.ixN n (i : Int) = some i := by
  unfold L2.ixN
  rw [if_pos (by omega), if_pos (by omega)]
  simp
theorem sPut2_ok {i1 i2 : Nat} {j1 j2 f : FE} {ρ : PEnv} {L : List Nat} {a b : D} {ds : List D} {k1 k2 : Nat} (h : f ρ = some (.tuple [a, b])) (ha : flat a = true) (hb : flat b = true) (h1 : eVar i1 ρ = some (.list ds)) (g1 : j1 ρ = some (.int k1)) (l1 : k1 < ds.length) (hL : lv L i1 = 1)
    (h2 : eVar i2 (ρ.set i1 (some (.list (ds.set k1 a)))) = some (.list (ds.set k1 a))) (g2 : j2 (ρ.set i1 (some (.list (ds.set k1 a)))) = some (.int k2)) (l2 : k2 < ds.length) (hL2 : lv L i2 = 1) :
    sPut2 i1 j1 i2 j2 f (ρ, L) = .next ((ρ.set i1 (some (.list (ds.set k1 a)))).set i2 (some (.list ((ds.set k1 a).set k2 b))), L) := by
  unfold sPut2
  simp only [h, ha, hb, Bool.and_self, if_true]
  unfold sPutC
  simp only [h1, g1, ixN_nat l1, hL, if_true, h2, g2, List.length_set, ixN_nat l2, hL2]
def k3 (k : K3) : D := .tuple [.int k.1, nat k.2.1, nat k.2.2]
def pr (p : Nat × Nat) : D := .tuple [nat p.1, nat p.2]
section
variable {n : Nat} {W T : Nat → Nat → Int}
end
end Lib
end
section
set_option Elab.async false
set_option linter.all false
set_option maxRecDepth 10000
namespace Lib
open DS PySem
def k4 (o : List Nat) (k : K3) : D := .tuple [.int k.1, nat k.2.1, nat k.2.2, nt (exch o k.2.1 k.2.2)]
section
variable {n : Nat} {W T : Nat → Nat → Int}
end
end Lib
end
section
set_option Elab.async false
set_option linter.all false
set_option maxRecDepth 10000
namespace Lib
open DS PySem
end Lib
end
section
set_option Elab.async false
set_option linter.all false
set_option maxRecDepth 10000
namespace Lib
open DS PySem
def co (c : List Nat → Int) (o : List Nat) : D := .tuple [.int (c o), nt o]
def ltco (c : List Nat → Int) (a b : List Nat) : Bool := if c a = c b then llt a b else decide (c a < c b)
theorem dataLt_co (c : List Nat → Int) (a b : List Nat) : PySem.W.dataLt (co c a) (co c b) = ltco c a b := by
  show rowLt [.int (c a), nt a] [.int (c b), nt b] = _
  rw [rowLt_int]
  unfold ltco
  by_cases h : c a = c b
  · rw [if_pos h, if_pos h, rowLt_one _ _ (alike_nt _ _) (fun e => ?_), dataLt_nt]
    have : a = b := by
      have e' : PyData.eqv (.tuple (a.map nat)) (.tuple (b.map nat)) = true := e
      have go : ∀ a b : List Nat, PyData.eqvAll (a.map nat) (b.map nat) = true → a = b := by
        intro a
        induction a with
        | nil => intro b hb; cases b with
          | nil => rfl
          | cons y b => simp [PyData.eqvAll] at hb
        | cons x a ih => intro b hb; cases b with
          | nil => simp [PyData.eqvAll] at hb
          | cons y b =>
            simp only [List.map_cons, PyData.eqvAll, Bool.and_eq_true] at hb
            have h1 := hb.1
            rw [eqv_nat, decide_eq_true_eq] at h1
            rw [h1, ih b hb.2]
      exact go a b (by simpa [PyData.eqv] using e')
    subst this
    rw [dataLt_nt, llt_irrefl]
  · rw [if_neg h, if_neg h]
theorem allCmp_co (c : List Nat → Int) (l : List (List Nat)) : allCmp (l.map (co c)) = true := by
  refine allCmp_map ?_ ?_ ?_ ?_
  · intro a _
    have := lay_nt a
    simp [co, PyData.canLay0, PyData.canLayAll0, this]
  · intro a _
    have := depth_nt a
    simp only [co, PyData.depth, PyData.depthAll]
    omega
  · intro a _; rfl
  · intro a _ b _
    have := alike_nt a b
    simp [co, PySem.W.alike, PySem.W.alikeAll, this]
theorem co_flat (c : List Nat → Int) (o : List Nat) : flat (co c o) = true := by
  have := nt_flat o
  simp [co, flat, flats, this]
section
variable {n : Nat} {W T : Nat → Nat → Int}
end
def flt (n : Nat) (W : Nat → Nat → Int) : List Int := (List.range n).flatMap fun u => (List.range n).map (W u)
def up (l : List Int) : List Int := l.mergeSort fun a b => decide (a ≤ b)
def dn (l : List Int) : List Int := l.mergeSort fun a b => decide (b ≤ a)
theorem up_perm (l : List Int) : (up l).Perm l := List.mergeSort_perm _ _
theorem up_sorted (l : List Int) : (up l).Pairwise (· ≤ ·) := (List.pairwise_mergeSort (le := fun a b => decide (a ≤ b)) (fun a b c h h' => by
  have := of_decide_eq_true h; have := of_decide_eq_true h'; exact decide_eq_true (by omega)) (fun a b => by
  rw [Bool.or_eq_true]
  by_cases h : a ≤ b
  · exact .inl (decide_eq_true h)
  · exact .inr (decide_eq_true (by omega))) l).imp fun h => of_decide_eq_true h
theorem allCmp_ints (l : List Int) : allCmp (l.map PyData.int) = true := by
  refine allCmp_map ?_ ?_ ?_ ?_
  · intro a _; simp [PyData.canLay0]
  · intro a _; simp [PyData.depth]
  · intro a _; rfl
  · intro a _ b _; simp [PySem.W.alike]
theorem dSorted_ints (l : List Int) : dSorted (.list (l.map PyData.int)) = some (.list ((up l).map PyData.int)) := by
  show (if allCmp (l.map PyData.int) = true then some (PyData.list ((l.map PyData.int).mergeSort leD)) else none) = _
  rw [if_pos (allCmp_ints l)]
  congr 2
  refine (List.map_mergeSort fun a _ b _ => ?_).symm
  unfold leD
  rw [PySem.W.dataLt_int, ← decide_not, decide_eq_decide]
  omega
def bd (n : Nat) (W T : Nat → Nat → Int) : Int := (((up (flt n W)).zip (dn (flt n T))).map fun p => p.1 * p.2).sum
end Lib
end
section
set_option Elab.async false
set_option linter.all false
set_option maxRecDepth 10000
namespace Lib
open DS PySem
section
variable {n : Nat} {W T : Nat → Nat → Int}
end
end Lib
end
section
set_option Elab.async false
set_option linter.all false
set_option maxRecDepth 10000
namespace Lib
open DS PySem
section
variable {m : Nat} {T : Nat → Nat → Int} {F : Nat → Int}
end
end Lib
end
section
set_option Elab.async false
set_option linter.all false
set_option maxRecDepth 10000
namespace Lib
open DS PySem
section
variable {m : Nat} {T : Nat → Nat → Int} {F : Nat → Int}
end
end Lib
end
section
set_option Elab.async false
set_option linter.all false
namespace Lib
def ltl (c : List Nat → Int) (a b : List Nat) : Bool := if c a = c b then llt a b else decide (c a < c b)
theorem ltl_iff (c : List Nat → Int) (a b : List Nat) : ltl c a b = true ↔ c a < c b ∨ (c a = c b ∧ llt a b = true) := by
  unfold ltl
  split
  · rename_i h; simp [h]
  · rename_i h; simp only [decide_eq_true_eq]; constructor
    · exact .inl
    · rintro (h' | ⟨h', _⟩)
      · exact h'
      · exact absurd h' h
theorem ltl_tr (c : List Nat → Int) {a b d : List Nat} (h : ltl c a b = true) (h' : ltl c b d = true) : ltl c a d = true := by
  rw [ltl_iff] at *
  rcases h with h | ⟨h1, h2⟩ <;> rcases h' with h' | ⟨h1', h2'⟩
  · left; omega
  · left; omega
  · left; omega
  · right; exact ⟨by omega, llt_trans h2 h2'⟩
theorem ltl_ir (c : List Nat → Int) (a : List Nat) : ltl c a a = false := by
  unfold ltl
  rw [if_pos rfl, llt_irrefl]
theorem llt_co {a b : List Nat} (d : List Nat) (h : llt a b = true) : llt a d = true ∨ llt d b = true := by
  cases q : llt a d with
  | true => exact .inl rfl
  | false =>
    cases q' : llt d b with
    | true => exact .inr rfl
    | false =>
      cases r : llt d a with
      | true => rw [llt_trans r h] at q'; cases q'
      | false =>
        have := llt_tri _ _ q r
        subst this
        rw [h] at q'; cases q'
theorem ltl_co (c : List Nat → Int) {a b : List Nat} (d : List Nat) (h : ltl c a b = true) : ltl c a d = true ∨ ltl c d b = true := by
  rw [ltl_iff, ltl_iff]
  rw [ltl_iff] at h
  rcases h with h | ⟨h1, h2⟩
  · by_cases q : c a < c d
    · exact .inl (.inl q)
    · exact .inr (.inl (by omega))
  · by_cases q : c a < c d
    · exact .inl (.inl q)
    · by_cases q' : c a = c d
      · rcases llt_co d h2 with r | r
        · exact .inl (.inr ⟨q', r⟩)
        · exact .inr (.inr ⟨by omega, r⟩)
      · exact .inr (.inl (by omega))
theorem ltl_tri (c : List Nat → Int) {a b : List Nat} (h : ltl c a b = false) (h' : ltl c b a = false) : a = b := by
  have n1 : ¬ (c a < c b ∨ (c a = c b ∧ llt a b = true)) := fun q => by rw [(ltl_iff c a b).mpr q] at h; cases h
  have n2 : ¬ (c b < c a ∨ (c b = c a ∧ llt b a = true)) := fun q => by rw [(ltl_iff c b a).mpr q] at h'; cases h'
  have e : c a = c b := by
    rcases Int.lt_or_le (c a) (c b) with q | q
    · exact absurd (.inl q) n1
    · rcases Int.lt_or_le (c b) (c a) with q' | q'
      · exact absurd (.inl q') n2
      · omega
  refine llt_tri a b ?_ ?_
  · cases q : llt a b with
    | false => rfl
    | true => exact absurd (.inr ⟨e, q⟩) n1
  · cases q : llt b a with
    | false => rfl
    | true => exact absurd (.inr ⟨e.symm, q⟩) n2
def top (n : Nat) (W : Nat → Nat → Int) (m : Nat) (s : List Nat) : Int := imax 0 (sums n W s m)
abbrev AL := List (List Int × List Nat)
def aget (l : AL) (k : List Int) : Option (List Nat) := (l.find? fun p => decide (p.1 = k)).map (·.2)
section
variable {n : Nat} {f : Nat → Int}
def inc (L : List Int) (i : Nat) (x : Int) : List Int := L.set i (L.getD i 0 + x)
def rnd (n : Nat) (b : AL) (x : Int) : AL := (b.map (·.1)).flatMap fun L => (List.range n).map fun i => (inc L i x, (aget b L).getD [] ++ [i])
def lds (n : Nat) (f : Nat → Int) (s : List Nat) (k : Nat) : List Int := sums n (fun _ => f) s k
end
end Lib
end
section
set_option Elab.async false
set_option linter.all false
namespace Lib
def sg (f : Nat → Int) (c : List Nat) : Int := (c.map f).sum
def bstep (w : List Nat → Int) (ok : List Nat → Bool) (b : Int × List Nat) (c : List Nat) : Int × List Nat := if (ok c && decide (b.1 < w c)) = true then (w c, c) else b
def bst (w : List Nat → Int) (ok : List Nat → Bool) (l : List (List Nat)) : Int × List Nat := l.foldl (bstep w ok) (0, [])
theorem bst_snoc (w : List Nat → Int) (ok : List Nat → Bool) {l : List (List Nat)} {k : Nat} {c : List Nat} (h : l[k]? = some c) : bst w ok (l.take (k + 1)) = bstep w ok (bst w ok (l.take k)) c := by
  unfold bst
  rw [List.take_add_one, h, List.foldl_append]
  rfl
theorem aset_lt {n : Nat} {c : List Nat} (h : c ∈ aset n) : ∀ k ∈ c, k < n := fun k hk => ((mem_aset.mp h).mem k hk).2
theorem aset_le {n : Nat} {c : List Nat} (h : c ∈ aset n) : c.length ≤ n := by
  have p : c.Nodup := (mem_aset.mp h).up.imp fun h => by omega
  have := p.length_le_of_subset (l₂ := List.range n) fun a ha => List.mem_range.mpr (aset_lt h a ha)
  simpa using this
end Lib
end
section
set_option Elab.async false
set_option linter.all false
set_option maxRecDepth 10000
namespace K27
open DS PySem Lib
def den__law_sets : Fn := dfun 4 1 (sSeq (sSet 1 0 (eLst (aCons (eTup aNil) aNil)) ([] ++ []))
  (sSeq (sFor (iRange1 (eVar 0)) [] (.nm 2)
  (sSet 1 0 (eOp dAdd (eVar 1) (eLc (iSeq (eVar 1)) (.nm 3) tTrue (eOp dAdd (eVar 3) (eTup (aCons (eVar 2) aNil))) [3])) ([(1, 1)] ++ ([(1, 1)] ++ ([(3, 1)] ++ ([(2, 0)] ++ []))))))
  (sRet (eCB (d1 dSortC) (aCons (eVar 1) aNil)))))
theorem law_sets_ok {n : Nat} (hn : n ≤ 20) : den__law_sets [.int n] = some (rl (aset n)) := by
  refine dfun_wp rfl ?_
  simp only [List.map_cons, List.map_nil, List.replicate_succ, List.replicate_zero, List.nil_append, List.cons_append, List.append_nil, Nat.reduceSub, Nat.reduceAdd, setsD, zeros, stt, setsO, setsJ, List.foldl_cons, List.foldl_nil, List.set_cons_zero, List.set_cons_succ, demote]
  refine wp_seq ?_
  refine wp_setD (d := rl [[]]) ?_ ?_ ?_
  · exact eLst_1 (x := nt []) rfl
  · rfl
  simp only [List.map_cons, List.map_nil, List.replicate_succ, List.replicate_zero, List.nil_append, List.cons_append, List.append_nil, Nat.reduceSub, Nat.reduceAdd, setsD, zeros, stt, setsO, setsJ, List.foldl_cons, List.foldl_nil, List.set_cons_zero, List.set_cons_succ, demote]
  refine wp_seq ?_
  refine wp_forN (n := n) [2] (fun k => [(1, rl (lset k))]) ?_ ?_ (fun p hp => ?_) (fun k xs hk => ?_) fun xs => ?_
  · rfl
  · omega
  · simp only [List.mem_singleton] at hp
    subst hp
    rfl
  · simp only [List.map_cons, List.map_nil, List.replicate_succ, List.replicate_zero, List.nil_append, List.cons_append, List.append_nil, Nat.reduceSub, Nat.reduceAdd, setsD, zeros, stt, setsO, setsJ, List.foldl_cons, List.foldl_nil, List.set_cons_zero, List.set_cons_succ, demote]
    have hlen := lset_len k
    have hlen2 := lset_len (k + 1)
    have h20 : 2 ^ (k + 1) ≤ 2 ^ 20 := Nat.pow_le_pow_right (by omega) (by omega)
    have h20' : 2 ^ k ≤ 2 ^ 20 := Nat.pow_le_pow_right (by omega) (by omega)
    have c1 := fun x3 => eLc_of (fi := iSeq (eVar 1)) (t := .nm 3) (vs := [3]) (fe := eOp dAdd (eVar 3) (eTup (aCons (eVar 2) aNil))) (ρ := [some (.int n), some (rl (lset k)), some (nat k), x3]) nt (fun x => nt (x ++ [k])) (l := lset k) (by (first | rfl | (simp only [eOp_a, eUn_a, eCB_a, aCons_a, aNil_a, eIx_a, eC_a, eVar_0, eVar_s, o2_ss, o1_s, d1_1, d2_2, eB_a, tCmp_a, tTru_a, tNotD_a, tIsND_a, tNotND_a, eIsN_a, eNotN_a, tTrue_a, iSeq_a, seqOf_l, seqOf_t, dAdd_i, dAddI_i, dSub_i, dNeg_i, dLt_i, dLe_i, dGt_i, dGe_i, dEq_i, dNe_i, dTru_b, dTru_i, dTru_l, dTru_t, dTru_n, isNon_n, isNon_b, isNon_i, isNon_s, isNon_l, isNon_t, dLen_l, dLen_t, dInt_i, dInt_b, dTuple_l, dTuple_t, dList_l, dList_t, eCall_1, eCall_2, eCall_3, eCall_4, eCall_5, eCall_6, eCall_7] <;> rfl))) (by omega) (fun x hx => ⟨[(3, nt x)], rfl, by
      have := asc_len (by have := mem_lset.mp hx; rw [← Nat.zero_add k] at this; exact this)
      rw [eOp_a, eTup_1 (x := nat k) rfl]
      exact nt_snoc (by omega)⟩)
    refine wp_setD (d := rl (lset (k + 1))) ?_ rfl ?_
    · rw [eOp_a, c1]
      refine Eq.trans (dAdd_ll ?_) ?_
      · simp; omega
      · simp [rl, lset]
    · simp only [List.map_cons, List.map_nil, List.replicate_succ, List.replicate_zero, List.nil_append, List.cons_append, List.append_nil, Nat.reduceSub, Nat.reduceAdd, setsD, zeros, stt, setsO, setsJ, List.foldl_cons, List.foldl_nil, List.set_cons_zero, List.set_cons_succ, demote]
      exact cl rfl
  · simp only [List.map_cons, List.map_nil, List.replicate_succ, List.replicate_zero, List.nil_append, List.cons_append, List.append_nil, Nat.reduceSub, Nat.reduceAdd, setsD, zeros, stt, setsO, setsJ, List.foldl_cons, List.foldl_nil, List.set_cons_zero, List.set_cons_succ, demote]
    refine wp_ret (d := rl (aset n)) ?_ rfl
    rw [eCB_a, aCons_a, aNil_a]
    show dSortC (rl (lset n)) = _
    show dSorted (rl (lset n)) = _
    exact dSorted_eq (lset_perm n) (aset_sorted n)
theorem sum_of {fi : FA} {fe : FE} {j : Nat} {c : List Nat} {f : Nat → Int} {ρ : PEnv} (hi : fi ρ = some (c.map nat)) (hl : c.length ≤ 16777216) (h : ∀ k ∈ c, fe (((ρ.set j none).set j (some (nat k)))) = some (.int (f k))) : eCB (d1 dSum) (aCons (eLc fi (.nm j) tTrue fe [j]) aNil) ρ = some (.int (sg f c)) := by
  have e := eLc_of (t := .nm j) (fe := fe) (vs := [j]) nat (fun k => .int (f k)) hi hl fun k hk => ⟨[(j, nat k)], rfl, h k hk⟩
  have e2 : (c.map fun k => PyData.int (f k)) = (c.map f).map PyData.int := by rw [List.map_map]; rfl
  rw [eCB_a, aCons_a, e, aNil_a, o2_ss, o1_s, d1_1, e2, dSum_ok]
  rfl
theorem tAndD_b {f g : FT} {ρ : PEnv} {a b : Bool} (h : f ρ = some a) (h' : g ρ = some b) : tAndD f g ρ = some (a && b) := by
  unfold tAndD
  rw [h]
  cases a
  · rfl
  · exact h'
def bp (b : Int × List Nat) : D := .tuple [.int b.1, nt b.2]
theorem bp_flat (b : Int × List Nat) : flat (bp b) = true := co_flat (fun _ => b.1) b.2
theorem trow_n {n k : Nat} (f : Nat → Int) (h : k < n) : dIx (trow n f) (nat k) = some (.int (f k)) := trow_ix h
def den__law_best : Fn := dfun 8 4 (sSeq (sSet 4 0 (eTup (aCons (eC (.int 0)) (aCons (eTup aNil) aNil))) ([] ++ ([] ++ [])))
  (sSeq (sFor (iSeq (eCall 1 den__law_sets (aCons (eCB (d1 dLen) (aCons (eVar 0) aNil)) aNil))) ([] ++ []) (.nm 5)
  (sSeq (sSet 6 0 (eCB (d1 dSum) (aCons (eLc (iSeq (eVar 5)) (.nm 7) tTrue (eIx (eVar 1) (eVar 7)) [7]) aNil)) [])
  (sIf (tAndD (tCmp dGt (eVar 6) (eIx (eVar 4) (eC (.int 0)))) (tAndD (tCmp dLe (eCB (d1 dLen) (aCons (eVar 5) aNil)) (eVar 3)) (tCmp dLe (eCB (d1 dSum) (aCons (eLc (iSeq (eVar 5)) (.nm 7) tTrue (eIx (eVar 0) (eVar 7)) [7]) aNil)) (eVar 2))))
  (sSet 4 0 (eTup (aCons (eVar 6) (aCons (eVar 5) aNil))) ([(6, 0)] ++ ([(5, 0)] ++ [])))
  sNil)))
  (sRet (eVar 4))))
section
variable {n : Nat} {f w : Nat → Int}
def okB (f : Nat → Int) (room most : Int) (c : List Nat) : Bool := decide ((c.length : Int) ≤ most) && decide (sg f c ≤ room)
theorem law_best_ok (hn : n ≤ 20) (room most : Int) : den__law_best [trow n f, trow n w, .int room, .int most] = some (bp (bst (sg w) (okB f room most) (aset n))) := by
  refine dfun_wp rfl ?_
  simp only [List.map_cons, List.map_nil, List.replicate_succ, List.replicate_zero, List.nil_append, List.cons_append, List.append_nil, Nat.reduceSub, Nat.reduceAdd, setsD, zeros, stt, setsO, setsJ, List.foldl_cons, List.foldl_nil, List.set_cons_zero, List.set_cons_succ, demote]
  refine wp_seq (wp_set (d := bp (0, [])) (eTup_2 (x := .int 0) (y := nt []) rfl rfl) (bp_flat _) ?_)
  simp only [List.map_cons, List.map_nil, List.replicate_succ, List.replicate_zero, List.nil_append, List.cons_append, List.append_nil, Nat.reduceSub, Nat.reduceAdd, setsD, zeros, stt, setsO, setsJ, List.foldl_cons, List.foldl_nil, List.set_cons_zero, List.set_cons_succ, demote]
  refine wp_seq (wp_forL (α := List Nat) (h := nt) (l := aset n) [5, 6, 7] (fun k => [(4, bp (bst (sg w) (okB f room most) ((aset n).take k)))]) ?_ (fun p hp => ?_) (fun k c xs hc => ?_) fun xs => ?_)
  · simp only [iSeq_a, eCall_1, eCB_a, aCons_a, aNil_a, eVar_0, o2_ss, o1_s, d1_1, trow_len, law_sets_ok hn]
    rfl
  · simp only [List.mem_singleton] at hp
    subst hp
    rfl
  · have hm := List.mem_of_getElem? hc
    have hlt := aset_lt hm
    have hle := aset_le hm
    refine ⟨[(5, nt c)], rfl, ?_⟩
    simp only [List.map_cons, List.map_nil, List.replicate_succ, List.replicate_zero, List.nil_append, List.cons_append, List.append_nil, Nat.reduceSub, Nat.reduceAdd, setsD, zeros, stt, setsO, setsJ, List.foldl_cons, List.foldl_nil, List.set_cons_zero, List.set_cons_succ, demote]
    refine wp_seq (wp_set (d := .int (sg w c)) (sum_of (c := c) (by (first | rfl | (simp only [eOp_a, eUn_a, eCB_a, aCons_a, aNil_a, eIx_a, eC_a, eVar_0, eVar_s, o2_ss, o1_s, d1_1, d2_2, eB_a, tCmp_a, tTru_a, tNotD_a, tIsND_a, tNotND_a, eIsN_a, eNotN_a, tTrue_a, iSeq_a, seqOf_l, seqOf_t, dAdd_i, dAddI_i, dSub_i, dNeg_i, dLt_i, dLe_i, dGt_i, dGe_i, dEq_i, dNe_i, dTru_b, dTru_i, dTru_l, dTru_t, dTru_n, isNon_n, isNon_b, isNon_i, isNon_s, isNon_l, isNon_t, dLen_l, dLen_t, dInt_i, dInt_b, dTuple_l, dTuple_t, dList_l, dList_t, eCall_1, eCall_2, eCall_3, eCall_4, eCall_5, eCall_6, eCall_7, nt] <;> rfl))) (by omega) fun k hk => ?_) rfl ?_)
    · simp only [List.map_cons, List.map_nil, List.replicate_succ, List.replicate_zero, List.nil_append, List.cons_append, List.append_nil, Nat.reduceSub, Nat.reduceAdd, setsD, zeros, stt, setsO, setsJ, List.foldl_cons, List.foldl_nil, List.set_cons_zero, List.set_cons_succ, demote]
      (first | rfl | (simp only [eOp_a, eUn_a, eCB_a, aCons_a, aNil_a, eIx_a, eC_a, eVar_0, eVar_s, o2_ss, o1_s, d1_1, d2_2, eB_a, tCmp_a, tTru_a, tNotD_a, tIsND_a, tNotND_a, eIsN_a, eNotN_a, tTrue_a, iSeq_a, seqOf_l, seqOf_t, dAdd_i, dAddI_i, dSub_i, dNeg_i, dLt_i, dLe_i, dGt_i, dGe_i, dEq_i, dNe_i, dTru_b, dTru_i, dTru_l, dTru_t, dTru_n, isNon_n, isNon_b, isNon_i, isNon_s, isNon_l, isNon_t, dLen_l, dLen_t, dInt_i, dInt_b, dTuple_l, dTuple_t, dList_l, dList_t, eCall_1, eCall_2, eCall_3, eCall_4, eCall_5, eCall_6, eCall_7, trow_n _ (hlt k hk)] <;> rfl))
    simp only [List.map_cons, List.map_nil, List.replicate_succ, List.replicate_zero, List.nil_append, List.cons_append, List.append_nil, Nat.reduceSub, Nat.reduceAdd, setsD, zeros, stt, setsO, setsJ, List.foldl_cons, List.foldl_nil, List.set_cons_zero, List.set_cons_succ, demote]
    rw [bst_snoc _ _ hc]
    generalize bst (sg w) (okB f room most) ((aset n).take k) = b
    have t1 : tCmp dGt (eVar 6) (eIx (eVar 4) (eC (.int 0))) [some (trow n f), some (trow n w), some (.int room), some (.int most), some (bp b), some (nt c), some (.int (sg w c)), xs 7] = some (decide (sg w c > b.1)) := by
      have : dIx (bp b) (.int 0) = some (.int b.1) := rfl
      (first | rfl | (simp only [eOp_a, eUn_a, eCB_a, aCons_a, aNil_a, eIx_a, eC_a, eVar_0, eVar_s, o2_ss, o1_s, d1_1, d2_2, eB_a, tCmp_a, tTru_a, tNotD_a, tIsND_a, tNotND_a, eIsN_a, eNotN_a, tTrue_a, iSeq_a, seqOf_l, seqOf_t, dAdd_i, dAddI_i, dSub_i, dNeg_i, dLt_i, dLe_i, dGt_i, dGe_i, dEq_i, dNe_i, dTru_b, dTru_i, dTru_l, dTru_t, dTru_n, isNon_n, isNon_b, isNon_i, isNon_s, isNon_l, isNon_t, dLen_l, dLen_t, dInt_i, dInt_b, dTuple_l, dTuple_t, dList_l, dList_t, eCall_1, eCall_2, eCall_3, eCall_4, eCall_5, eCall_6, eCall_7, this] <;> rfl))
    have t2 : tCmp dLe (eCB (d1 dLen) (aCons (eVar 5) aNil)) (eVar 3) [some (trow n f), some (trow n w), some (.int room), some (.int most), some (bp b), some (nt c), some (.int (sg w c)), xs 7] = some (decide ((c.length : Int) ≤ most)) := by
      (first | rfl | (simp only [eOp_a, eUn_a, eCB_a, aCons_a, aNil_a, eIx_a, eC_a, eVar_0, eVar_s, o2_ss, o1_s, d1_1, d2_2, eB_a, tCmp_a, tTru_a, tNotD_a, tIsND_a, tNotND_a, eIsN_a, eNotN_a, tTrue_a, iSeq_a, seqOf_l, seqOf_t, dAdd_i, dAddI_i, dSub_i, dNeg_i, dLt_i, dLe_i, dGt_i, dGe_i, dEq_i, dNe_i, dTru_b, dTru_i, dTru_l, dTru_t, dTru_n, isNon_n, isNon_b, isNon_i, isNon_s, isNon_l, isNon_t, dLen_l, dLen_t, dInt_i, dInt_b, dTuple_l, dTuple_t, dList_l, dList_t, eCall_1, eCall_2, eCall_3, eCall_4, eCall_5, eCall_6, eCall_7, nt_len] <;> rfl))
    have t3 : tCmp dLe (eCB (d1 dSum) (aCons (eLc (iSeq (eVar 5)) (.nm 7) tTrue (eIx (eVar 0) (eVar 7)) [7]) aNil)) (eVar 2) [some (trow n f), some (trow n w), some (.int room), some (.int most), some (bp b), some (nt c), some (.int (sg w c)), xs 7] = some (decide (sg f c ≤ room)) := by
      rw [tCmp_a, sum_of (c := c) (f := f) (by (first | rfl | (simp only [eOp_a, eUn_a, eCB_a, aCons_a, aNil_a, eIx_a, eC_a, eVar_0, eVar_s, o2_ss, o1_s, d1_1, d2_2, eB_a, tCmp_a, tTru_a, tNotD_a, tIsND_a, tNotND_a, eIsN_a, eNotN_a, tTrue_a, iSeq_a, seqOf_l, seqOf_t, dAdd_i, dAddI_i, dSub_i, dNeg_i, dLt_i, dLe_i, dGt_i, dGe_i, dEq_i, dNe_i, dTru_b, dTru_i, dTru_l, dTru_t, dTru_n, isNon_n, isNon_b, isNon_i, isNon_s, isNon_l, isNon_t, dLen_l, dLen_t, dInt_i, dInt_b, dTuple_l, dTuple_t, dList_l, dList_t, eCall_1, eCall_2, eCall_3, eCall_4, eCall_5, eCall_6, eCall_7, nt] <;> rfl))) (by omega) fun k hk => (by
        simp only [List.map_cons, List.map_nil, List.replicate_succ, List.replicate_zero, List.nil_append, List.cons_append, List.append_nil, Nat.reduceSub, Nat.reduceAdd, setsD, zeros, stt, setsO, setsJ, List.foldl_cons, List.foldl_nil, List.set_cons_zero, List.set_cons_succ, demote]
        (first | rfl | (simp only [eOp_a, eUn_a, eCB_a, aCons_a, aNil_a, eIx_a, eC_a, eVar_0, eVar_s, o2_ss, o1_s, d1_1, d2_2, eB_a, tCmp_a, tTru_a, tNotD_a, tIsND_a, tNotND_a, eIsN_a, eNotN_a, tTrue_a, iSeq_a, seqOf_l, seqOf_t, dAdd_i, dAddI_i, dSub_i, dNeg_i, dLt_i, dLe_i, dGt_i, dGe_i, dEq_i, dNe_i, dTru_b, dTru_i, dTru_l, dTru_t, dTru_n, isNon_n, isNon_b, isNon_i, isNon_s, isNon_l, isNon_t, dLen_l, dLen_t, dInt_i, dInt_b, dTuple_l, dTuple_t, dList_l, dList_t, eCall_1, eCall_2, eCall_3, eCall_4, eCall_5, eCall_6, eCall_7, trow_n _ (hlt k hk)] <;> rfl)))]
      (first | rfl | (simp only [eOp_a, eUn_a, eCB_a, aCons_a, aNil_a, eIx_a, eC_a, eVar_0, eVar_s, o2_ss, o1_s, d1_1, d2_2, eB_a, tCmp_a, tTru_a, tNotD_a, tIsND_a, tNotND_a, eIsN_a, eNotN_a, tTrue_a, iSeq_a, seqOf_l, seqOf_t, dAdd_i, dAddI_i, dSub_i, dNeg_i, dLt_i, dLe_i, dGt_i, dGe_i, dEq_i, dNe_i, dTru_b, dTru_i, dTru_l, dTru_t, dTru_n, isNon_n, isNon_b, isNon_i, isNon_s, isNon_l, isNon_t, dLen_l, dLen_t, dInt_i, dInt_b, dTuple_l, dTuple_t, dList_l, dList_t, eCall_1, eCall_2, eCall_3, eCall_4, eCall_5, eCall_6, eCall_7] <;> rfl))
    refine wp_if (t := (okB f room most c && decide (b.1 < sg w c))) ?_ (fun ht => ?_) fun ht => ?_
    · unfold okB
      rw [tAndD_b t1 (tAndD_b t2 t3)]
      congr 1
      generalize decide ((c.length : Int) ≤ most) = p
      generalize decide (sg f c ≤ room) = q
      generalize decide (sg w c > b.1) = r
      cases p <;> cases q <;> cases r <;> rfl
    · refine wp_set (d := bp (sg w c, c)) (eTup_2 (x := .int (sg w c)) (y := nt c) rfl rfl) (bp_flat _) ?_
      simp only [List.map_cons, List.map_nil, List.replicate_succ, List.replicate_zero, List.nil_append, List.cons_append, List.append_nil, Nat.reduceSub, Nat.reduceAdd, setsD, zeros, stt, setsO, setsJ, List.foldl_cons, List.foldl_nil, List.set_cons_zero, List.set_cons_succ, demote]
      have : bstep (sg w) (okB f room most) b c = (sg w c, c) := if_pos ht
      rw [this]
      exact cl rfl
    · refine wp_nil ?_
      have : bstep (sg w) (okB f room most) b c = b := if_neg (by rw [ht]; simp)
      rw [this]
      exact cl rfl
  · simp only [List.map_cons, List.map_nil, List.replicate_succ, List.replicate_zero, List.nil_append, List.cons_append, List.append_nil, Nat.reduceSub, Nat.reduceAdd, setsD, zeros, stt, setsO, setsJ, List.foldl_cons, List.foldl_nil, List.set_cons_zero, List.set_cons_succ, demote]
    rw [List.take_length]
    exact wp_ret rfl rfl
end
end K27
end
section
set_option Elab.async false
set_option linter.all false
set_option maxRecDepth 10000
namespace Lib
open DS PySem
def den_best_sharing : Fn := dfun 9 2 (sSeq (sSet 2 0 (eOp dD1 (eOp dMulT (eTup (aCons (eC (.int 0)) aNil)) (eVar 1)) (eTup aNil)) [])
  (sSeq (sFor (iSeq (eVar 0)) [(0, 0)] (.nm 3)
  (sSeq (sSet 4 1 eD0 [])
  (sSeq (sFor (iDk (eVar 2)) [(2, 0)] (.nm 5)
  (sFor (iRange1 (eVar 1)) [] (.nm 6)
  (sSeq (sSet 7 0 (eOp dAdd (eOp dAdd (eSl (eVar 5) oNone (oSome (eVar 6))) (eTup (aCons (eOp dAdd (eIx (eVar 5) (eVar 6)) (eVar 3)) aNil))) (eSl (eVar 5) (oSome (eOp dAdd (eVar 6) (eC (.int 1)))) oNone)) (([(5, 1)] ++ (([(5, 2)] ++ [(3, 1)]) ++ [])) ++ [(5, 1)]))
  (sSeq (sSet 8 0 (eOp dAdd (eOp dGetD (eVar 2) (eVar 5)) (eTup (aCons (eVar 6) aNil))) ([(2, 1)] ++ ([(6, 0)] ++ [])))
  (sIf (tOrD (tCmp dNotInD (eVar 7) (eVar 4)) (tCmp dLt (eVar 8) (eOp dGetD (eVar 4) (eVar 7))))
  (sPutD 4 (eVar 7) (eVar 8))
  sNil)))))
  (sSet 2 0 (eVar 4) [(4, 0)]))))
  (sRet (eCB (d1 dMin1) (aCons (eLc (iDk (eVar 2)) (.nm 5) tTrue (eTup (aCons (eCB (d1 dMax1) (aCons (eVar 5) aNil)) (aCons (eOp dGetD (eVar 2) (eVar 5)) aNil))) [5]) aNil)))))
def it (l : List Int) : D := .tuple (l.map PyData.int)
def ddl (l : AL) : List (D × D) := l.map fun p => (it p.1, nt p.2)
def dd (l : AL) : D := .dict (ddl l)
theorem it_key (l : List Int) : it l = .tuple ((l.map (Sum.inl : Int → L2.Key)).map keyD) := by
  unfold it
  rw [List.map_map]
  rfl
theorem it_flat (l : List Int) : flat (it l) = true := by
  have : ∀ l : List Int, flats (l.map PyData.int) = true := by
    intro l
    induction l with
    | nil => rfl
    | cons a l ih => simpa [flats, flat] using ih
  simpa [it, flat] using this l
theorem it_keyK (l : List Int) : (keyK (it l)).isSome = true := by
  have : ∀ l : List Int, ∃ ks, keysOf (l.map PyData.int) = some ks := by
    intro l
    induction l with
    | nil => exact ⟨[], rfl⟩
    | cons a l ih =>
      obtain ⟨ks, e⟩ := ih
      exact ⟨.inl a :: ks, by rw [List.map_cons, keysOf, e]; rfl⟩
  obtain ⟨ks, e⟩ := this l
  show ((keysOf (l.map PyData.int)).map Sum.inr : Option (L2.Key ⊕ List L2.Key)).isSome = true
  rw [e]; rfl
theorem it_eqv (a b : List Int) : PyData.eqv (it a) (it b) = decide (a = b) := by
  letI : Tbls := ⟨[]⟩
  rw [it_key, it_key, eqv_keys, decide_eq_decide]
  constructor
  · intro h
    exact List.map_inj_right (fun _ _ e => Sum.inl.inj e) |>.mp h
  · intro h; rw [h]
section
variable {n m : Nat} {f : Nat → Int}
end
end Lib
end
section
set_option Elab.async false
set_option linter.all false
set_option maxRecDepth 10000
namespace Lib
open DS PySem
def den_loads_of : Fn := dfun 6 3 (sRet (eCB (d1 dTuple) (aCons (eLc (iRange1 (eVar 1)) (.nm 3) tTrue (eCB (d1 dSum) (aCons (eLc (iZip2 (eVar 0) (eVar 2)) (.tp [(.nm 4), (.nm 5)]) (tCmp dEq (eVar 5) (eVar 3)) (eVar 4) [4, 5]) aNil)) [3]) aNil)))
def den_span_of : Fn := dfun 3 3 (sRet (eCB (d1 dMax1) (aCons (eCall 3 den_loads_of (aCons (eVar 0) (aCons (eVar 1) (aCons (eVar 2) aNil)))) aNil)))
section
variable {n m : Nat} {W : Nat → Nat → Int} {f : Nat → Int} {s : List Nat}
end
end Lib
end
section
set_option Elab.async false
set_option linter.all false
set_option maxRecDepth 10000
namespace K27
open DS PySem Lib
def den_sum_at : Fn := dfun 4 3 (sRet (eCB (d1 dSum) (aCons (eLc (iSeq (eVar 2)) (.nm 3) tTrue (eIx (eIx (eVar 0) (eVar 3)) (eVar 1)) [3]) aNil)))
def den_best_chosen : Fn := dfun 8 2 (sSeq (sSet 2 0 (eTup (aCons (eC (.int 0)) (aCons (eTup aNil) aNil))) ([] ++ ([] ++ [])))
  (sSeq (sFor (iSeq (eCall 1 den_all_sets (aCons (eCB (d1 dLen) (aCons (eVar 0) aNil)) aNil))) ([] ++ []) (.nm 3)
  (sSeq (sSet 4 0 (eCall 3 den_sum_at (aCons (eVar 0) (aCons (eCB (d1 dLen) (aCons (eVar 1) aNil)) (aCons (eVar 3) aNil)))) ([(0, 0)] ++ ([] ++ ([(3, 0)] ++ []))))
  (sSeq (sSet 5 0 (eCB (d1 dAll) (aCons (eLc (iEnumD (eVar 1)) (.tp [(.nm 6), (.nm 7)]) tTrue (eB (tCmp dLe (eCall 3 den_sum_at (aCons (eVar 0) (aCons (eVar 6) (aCons (eVar 3) aNil)))) (eVar 7))) [6, 7]) aNil)) [])
  (sIf (tAndD (tTru (eVar 5)) (tCmp dGt (eVar 4) (eIx (eVar 2) (eC (.int 0)))))
  (sSet 2 0 (eTup (aCons (eVar 4) (aCons (eVar 3) aNil))) ([(4, 0)] ++ ([(3, 0)] ++ [])))
  sNil))))
  (sRet (eVar 2))))
def den_best_pack : Fn := dfun 2 2 (sRet (eCall 2 den_best_chosen (aCons (eVar 0) (aCons (eTup (aCons (eVar 1) aNil)) aNil))))
def den_two_rooms : Fn := dfun 3 3 (sRet (eCall 2 den_best_chosen (aCons (eVar 0) (aCons (eTup (aCons (eVar 1) (aCons (eVar 2) aNil))) aNil))))
section
variable {n : Nat} {tr : Nat → List Int} {rs : List Int}
end
end K27
end
section
set_option Elab.async false
set_option linter.all false
namespace Lib
def mx2 (a b : Int) : Int := if a < b then b else a
def vw : List (Int × Int) → Int → Int
  | [], _ => 0
  | (s, v) :: r, l => if s ≤ l then mx2 (vw r l) (v + vw r (l - s)) else vw r l
def NN (its : List (Int × Int)) : Prop := ∀ p ∈ its, 0 ≤ p.1
end Lib
end
section
set_option Elab.async false
set_option linter.all false
namespace Lib
def its (n : Nat) (f w : Nat → Int) : List (Int × Int) := (List.range n).map fun k => (f k, w k)
theorem NN.drop {l : List (Int × Int)} (h : NN l) (k : Nat) : NN (l.drop k) := fun p hp => h p (List.mem_of_mem_drop hp)
section
variable {n : Nat} {f w : Nat → Int} {room : Int} {ok : List Nat → Bool}
def mn2 (a b : Int) : Int := if b < a then b else a
end
end Lib
end
section
set_option Elab.async false
set_option linter.all false
set_option maxRecDepth 10000
namespace K27
open DS PySem Lib
def den_worth_tables : Fn := dfun 10 2 (sSeq (sSet 2 1 (eLst (aCons (eOp dMul (eLst (aCons (eC (.int 0)) aNil)) (eOp dAdd (eVar 1) (eC (.int 1)))) aNil)) ((([] ++ []) ++ ([(1, 1)] ++ [])) ++ []))
  (sSeq (sFor (iRevS (eVar 0)) [(0, 0)] (.nm 3)
  (sSeq (sSet 4 0 (eIx (eVar 2) (eUn dNeg (eC (.int 1)))) [(2, 1)])
  (sSeq (sSet 5 1 (eLst aNil) [])
  (sSeq (sFor (iRange1 (eOp dAdd (eVar 1) (eC (.int 1)))) [] (.nm 6)
  (sSeq (sSet 7 0 (eLc (iSeq (eVar 3)) (.tp [(.nm 8), (.nm 9)]) (tCmp dLe (eVar 8) (eVar 6)) (eOp dAdd (eVar 9) (eIx (eVar 4) (eOp dSub (eVar 6) (eVar 8)))) [8, 9]) ([(3, 1)] ++ ([(9, 1)] ++ [(4, 2)])))
  (sApp 5 (eCB (d1 dMax1) (aCons (eOp dAdd (eLst (aCons (eIx (eVar 4) (eVar 6)) aNil)) (eVar 7)) aNil)) [])))
  (sApp 2 (eVar 5) [(5, 0)])))))
  (sRet (eVar 2))))
def den_best_of_groups : Fn := dfun 16 2 (sSeq (sSet 3 0 (eCB (d2 dMin2) (aCons (eVar 1) (aCons (eCB (d1 dSum) (aCons (eLc (iSeq (eVar 0)) (.nm 2) tTrue (eOp dMaxD (eLc (iSeq (eVar 2)) (.tp [(.nm 13), (.nm 15)]) tTrue (eVar 13) [13, 15]) (eC (.int 0))) [2]) aNil)) aNil))) [])
  (sSeq (sSet 4 0 (eCall 2 den_worth_tables (aCons (eVar 0) (aCons (eVar 3) aNil))) ([(0, 0)] ++ ([(3, 0)] ++ [])))
  (sSeq (sSet 5 0 (eIx (eIx (eVar 4) (eUn dNeg (eC (.int 1)))) (eVar 3)) [(4, 2)])
  (sSeq (sSet 6 1 (eLst aNil) [])
  (sSeq (sFor (iEnumD (eVar 0)) [(0, 0)] (.tp [(.nm 7), (.nm 2)])
  (sSeq (sSet 8 0 (eIx (eVar 4) (eOp dSub (eOp dSub (eCB (d1 dLen) (aCons (eVar 0) aNil)) (eC (.int 1))) (eVar 7))) [(4, 1)])
  (sSeq (sSet 9 0 (eIx (eIx (eVar 4) (eOp dSub (eCB (d1 dLen) (aCons (eVar 0) aNil)) (eVar 7))) (eVar 3)) [(4, 2)])
  (sSeq (sSet 10 0 (eUn dNeg (eC (.int 1))) [])
  (sSeq (sIf (tCmp dNe (eIx (eVar 8) (eVar 3)) (eVar 9))
  (sSeq (sSet 11 0 (eLc (iEnumD (eVar 2)) (.tp [(.nm 12), (.tp [(.nm 13), (.nm 14)])]) (tAndD (tCmp dLe (eVar 13) (eVar 3)) (tCmp dEq (eOp dAdd (eVar 14) (eIx (eVar 8) (eOp dSub (eVar 3) (eVar 13)))) (eVar 9))) (eVar 12) [12, 13, 14]) ([(2, 1)] ++ [(12, 0)]))
  (sSeq (sSet 10 0 (eIx (eVar 11) (eC (.int 0))) [(11, 1)])
  (sAug 3 dSub (eIx (eIx (eVar 2) (eVar 10)) (eC (.int 0))))))
  sNil)
  (sApp 6 (eVar 10) [(10, 0)]))))))
  (sRet (eTup (aCons (eVar 5) (aCons (eCB (d1 dTuple) (aCons (eVar 6) aNil)) aNil)))))))))
section
variable {n L : Nat} {f w : Nat → Int}
def grp (f w : Nat → Int) (k : Nat) : D := .tuple [it [f k, w k]]
def gr (n : Nat) (f w : Nat → Int) : D := .tuple ((List.range n).map (grp f w))
def tab (r : List (Int × Int)) (L : Nat) : D := .list ((List.range (L + 1)).map fun (x : Nat) => .int (vw r x))
def tabs (n : Nat) (f w : Nat → Int) (L k : Nat) : D := .list ((List.range (k + 1)).map fun j => tab ((its n f w).drop (n - j)) L)
def pl (b : Nat) : D := .int ((b : Int) - 1)
end
end K27
end
section
set_option Elab.async false
set_option linter.all false
namespace Lib
def lng (f : Nat → Int) : List Nat → Nat → Nat
  | [], b => b
  | a :: c, b => lng f c (if f b < f a ∨ (f b = f a ∧ b < a) then a else b)
def fstep (f : Nat → Int) (due : Int) (s : List Nat × List Nat) (k : Nat) : List Nat × List Nat :=
  if sg f (s.1 ++ [k]) > due then
    let g := lng f (s.1 ++ [k]).tail ((s.1 ++ [k]).headD 0)
    ((s.1 ++ [k]).filter fun x => !decide (x = g), s.2 ++ [g])
  else (s.1 ++ [k], s.2)
def few (f : Nat → Int) (due : Int) (n : Nat) : List Nat × List Nat := (List.range n).foldl (fstep f due) ([], [])
end Lib
end
section
set_option Elab.async false
set_option linter.all false
set_option maxRecDepth 10000
namespace K27
open DS PySem Lib
def den_ends_of : Fn := dfun 5 2 (sSeq (sSet 2 1 (eOp dMul (eLst (aCons (eC (.int 0)) aNil)) (eCB (d1 dLen) (aCons (eVar 0) aNil))) (([] ++ []) ++ []))
  (sSeq (sSet 3 0 (eC (.int 0)) [])
  (sSeq (sFor (iSeq (eVar 1)) [(1, 0)] (.nm 4)
  (sSeq (sSet 3 0 (eOp dAdd (eCB (d2 dMax2) (aCons (eVar 3) (aCons (eIx (eIx (eVar 0) (eVar 4)) (eC (.int 3))) aNil))) (eIx (eIx (eVar 0) (eVar 4)) (eC (.int 0)))) ([] ++ [(0, 3)]))
  (sPut 2 (eVar 4) (eVar 3) [(3, 0)])))
  (sRet (eCB (d1 dTuple) (aCons (eVar 2) aNil))))))
def den_late_count : Fn := dfun 4 2 (sRet (eCB (d1 dLen) (aCons (eLc (iZip2 (eVar 0) (eCall 2 den_ends_of (aCons (eVar 0) (aCons (eVar 1) aNil)))) (.tp [(.nm 2), (.nm 3)]) (tCmp dGt (eVar 3) (eIx (eVar 2) (eC (.int 1)))) (eC (.int 1)) [2, 3]) aNil)))
def den_due_order : Fn := dfun 2 1 (sRet (eCB (d1 dTuple) (aCons (eSortL 1 (eTup (aCons (eIx (eIx (eVar 0) (eVar 1)) (eC (.int 1))) (aCons (eVar 1) aNil))) (eRgV (eCB (d1 dLen) (aCons (eVar 0) aNil)))) aNil)))
def den_fewest_late : Fn := dfun 6 1 (sSeq (sParFF 1 2 (eLst aNil) (eLst aNil) ([] ++ []))
  (sSeq (sFor (iSeq (eCall 1 den_due_order (aCons (eVar 0) aNil))) ([(0, 0)] ++ []) (.nm 3)
  (sSeq (sApp 1 (eVar 3) [(3, 0)])
  (sIf (tCmp dGt (eCB (d1 dSum) (aCons (eLc (iSeq (eVar 1)) (.nm 5) tTrue (eIx (eIx (eVar 0) (eVar 5)) (eC (.int 0))) [5]) aNil)) (eIx (eIx (eVar 0) (eVar 3)) (eC (.int 1))))
  (sSeq (sSet 4 0 (eIx (eCB (d1 dMax1) (aCons (eLc (iSeq (eVar 1)) (.nm 5) tTrue (eTup (aCons (eIx (eIx (eVar 0) (eVar 5)) (eC (.int 0))) (aCons (eVar 5) aNil))) [5]) aNil)) (eC (.int 1))) [])
  (sSeq (sSet 1 1 (eLc (iSeq (eVar 1)) (.nm 5) (tCmp dNe (eVar 5) (eVar 4)) (eVar 5) [5]) ([(1, 1)] ++ [(5, 0)]))
  (sApp 2 (eVar 4) [(4, 0)])))
  sNil)))
  (sRet (eTup (aCons (eCB (d1 dLen) (aCons (eVar 2) aNil)) (aCons (eCB (d1 dTuple) (aCons (eOp dAdd (eVar 1) (eVar 2)) aNil)) aNil))))))
section
variable {n : Nat} {f w : Nat → Int} {due : Int}
def dkey (due : Int) (k : Nat) : D := .tuple [.int due, nat k]
theorem coll_rng {n : Nat} (h : n ≤ 16777216) : collD (rgd 0 n) = some ((List.range n).map nat) := by
  have r1 : rngOk 0 (n : Int) = true := by
    unfold rngOk
    simp only [Bool.and_eq_true, decide_eq_true_eq]
    refine ⟨⟨⟨?_, ?_⟩, ?_⟩, ?_⟩ <;> omega
  have r2 : ((n : Int) - 0).toNat = n := by omega
  have r3 : decide (n ≤ DS.sz) = true := decide_eq_true h
  unfold collD rgd
  simp only [r1, r2, r3, Bool.and_self, if_true, rngD_0]
theorem dSortL_of {i : Nat} {fb : FE} {ρ : PEnv} {d : D} {ds ks : List D} (hc : collD d = some ds) (hk : keyLL i fb ρ ds = some ks) (ok : allCmp ks = true) : dSortL i fb ρ d = some (.list (((ds.zip ks).mergeSort (fun u v => leD u.2 v.2)).map (·.1))) := by
  unfold dSortL
  rw [hc]
  simp only [hk]
  rw [if_pos ok]
end
end K27
end
section
set_option Elab.async false
set_option linter.all false
set_option maxRecDepth 10000
namespace K27
open DS PySem Lib
def den__law_shared_right : Fn := dfun 12 1 (sSeq (sTup (.tp [(.nm 1), (.nm 2), (.nm 3)]) (eTup (aCons (eCB (d1 dSum) (aCons (eVar 0) aNil)) (aCons (eCB (d1 dLen) (aCons (eVar 0) aNil)) (aCons (eC .none) aNil)))) ([] ++ ([] ++ ([] ++ []))))
  (sSeq (sFor (iSeq (eCall 1 den__law_sets (aCons (eVar 2) aNil))) ([(2, 0)] ++ []) (.nm 4)
  (sSeq (sSet 5 0 (eCB (d1 dSum) (aCons (eLc (iSeq (eVar 4)) (.nm 11) tTrue (eIx (eVar 0) (eVar 11)) [11]) aNil)) [])
  (sSeq (sSet 6 0 (eCB (d1 dTuple) (aCons (eLc (iRange1 (eVar 2)) (.nm 11) tTrue (eCB (d1 dInt) (aCons (eB (tCmp dIn (eVar 11) (eVar 4))) aNil)) [11]) aNil)) (([] ++ []) ++ []))
  (sSeq (sSet 7 0 (eTup (aCons (eCB (d2 dMax2) (aCons (eVar 5) (aCons (eOp dSub (eVar 1) (eVar 5)) aNil))) (aCons (eVar 6) aNil))) ([] ++ ([(6, 0)] ++ [])))
  (sIf (tOrD (tIsND (eVar 3)) (tCmp dLt (eVar 7) (eVar 3)))
  (sSet 3 0 (eVar 7) [(7, 0)])
  sNil)))))
  (sSeq (sSet 8 0 (eCB (d1 dTuple) (aCons (eLc (iSeq (eVar 0)) (.nm 10) tTrue (eTup (aCons (eVar 10) (aCons (eVar 10) aNil))) [10]) aNil)) (([(0, 1)] ++ ([(10, 0)] ++ ([(10, 0)] ++ []))) ++ []))
  (sSeq (sSet 9 0 (eCall 4 den__law_best (aCons (eVar 0) (aCons (eVar 0) (aCons (eOp dFdiv (eVar 1) (eC (.int 2))) (aCons (eVar 2) aNil))))) ([(0, 0)] ++ ([(0, 0)] ++ (([(1, 1)] ++ []) ++ ([(2, 0)] ++ [])))))
  (sSeq (sIf (tOrD (tCmp dNe (eIx (eVar 3) (eC (.int 0))) (eOp dSub (eVar 1) (eIx (eVar 9) (eC (.int 0))))) (tNotD (tTru (eCall 2 (den__law_like 30) (aCons (eCall 2 den_best_sharing (aCons (eVar 0) (aCons (eC (.int 2)) aNil))) (aCons (eVar 3) aNil))))))
  (sRet (eC (.bool false)))
  sNil)
  (sSeq (sIf (tNotD (tTru (eCall 2 (den__law_like 30) (aCons (eCall 2 den_best_pack (aCons (eVar 8) (aCons (eOp dFdiv (eVar 1) (eC (.int 2))) aNil))) (aCons (eVar 9) aNil)))))
  (sRet (eC (.bool false)))
  sNil)
  (sSeq (sSet 5 0 (eCB (d1 dSum) (aCons (eLc (iRange1 (eVar 2)) (.nm 11) (tCmp dEq (eIx (eIx (eVar 3) (eC (.int 1))) (eVar 11)) (eC (.int 1))) (eIx (eVar 0) (eVar 11)) [11]) aNil)) [])
  (sSeq (sIf (tNotD (tTru (eCall 2 (den__law_like 30) (aCons (eCall 3 den_loads_of (aCons (eVar 0) (aCons (eC (.int 2)) (aCons (eIx (eVar 3) (eC (.int 1))) aNil)))) (aCons (eTup (aCons (eOp dSub (eVar 1) (eVar 5)) (aCons (eVar 5) aNil))) aNil)))))
  (sRet (eC (.bool false)))
  sNil)
  (sRet (eCall 2 (den__law_like 30) (aCons (eCall 3 den_span_of (aCons (eVar 0) (aCons (eC (.int 2)) (aCons (eIx (eVar 3) (eC (.int 1))) aNil)))) (aCons (eIx (eVar 3) (eC (.int 0))) aNil))))))))))))
theorem pl_t {n : Nat} {ds : List D} (h : ∀ d ∈ ds, Lib.pl n d = true) (hl : ds.length ≤ 1000000) : Lib.pl (n + 1) (.tuple ds) = true := by
  unfold Lib.pl
  rw [decide_eq_true hl, Bool.true_and, List.all_eq_true]
  exact h
theorem pl_nt {n : Nat} {c : List Nat} (hl : c.length ≤ 1000000) : Lib.pl (n + 2) (nt c) = true := pl_t (fun d hd => by
  obtain ⟨k, _, rfl⟩ := List.mem_map.mp hd
  rfl) (by simpa using hl)
section
variable {n : Nat} {f w : Nat → Int}
end
end K27
end
section
set_option Elab.async false
set_option linter.all false
namespace Lib
end Lib
end
section
set_option Elab.async false
set_option linter.all false
set_option maxRecDepth 10000
namespace K27
open DS PySem Lib
def den__law_late_right : Fn := dfun 13 3 (sSeq (sSet 3 0 (eCB (d1 dLen) (aCons (eVar 0) aNil)) [])
  (sSeq (sSet 5 0 (eCB (d1 dTuple) (aCons (eLc (iRange1 (eVar 3)) (.nm 4) tTrue (eTup (aCons (eIx (eVar 0) (eVar 4)) (aCons (eVar 2) (aCons (eIx (eVar 1) (eVar 4)) (aCons (eC (.int 0)) aNil))))) [4]) aNil)) (([] ++ ([(0, 1)] ++ ([(2, 0)] ++ ([(1, 1)] ++ ([] ++ []))))) ++ []))
  (sSeq (sSet 6 0 (eCB (d1 dTuple) (aCons (eLc (iSeq (eVar 0)) (.nm 12) tTrue (eTup (aCons (eVar 12) (aCons (eC (.int 1)) aNil))) [12]) aNil)) (([(0, 1)] ++ ([(12, 0)] ++ ([] ++ []))) ++ []))
  (sSeq (sSet 7 0 (eCall 4 den__law_best (aCons (eVar 0) (aCons (eOp dMulT (eTup (aCons (eC (.int 1)) aNil)) (eVar 3)) (aCons (eVar 2) (aCons (eVar 3) aNil))))) ([(0, 0)] ++ ((([] ++ []) ++ [(3, 1)]) ++ ([(2, 0)] ++ ([(3, 0)] ++ [])))))
  (sSeq (sIf (tNotD (tTru (eCall 2 (den__law_like 30) (aCons (eCall 2 den_best_pack (aCons (eVar 6) (aCons (eVar 2) aNil))) (aCons (eVar 7) aNil)))))
  (sRet (eC (.bool false)))
  sNil)
  (sSeq (sSet 8 0 (eCall 1 den_fewest_late (aCons (eVar 5) aNil)) ([(5, 0)] ++ []))
  (sSeq (sIf (tOrD (tNotD (tTru (eIsi "tuple" (eVar 8)))) (tOrD (tCmp dNe (eCB (d1 dLen) (aCons (eVar 8) aNil)) (eC (.int 2))) (tNotD (tTru (eCall 2 (den__law_like 30) (aCons (eIx (eVar 8) (eC (.int 0))) (aCons (eOp dSub (eVar 3) (eIx (eVar 7) (eC (.int 0)))) aNil)))))))
  (sRet (eC (.bool false)))
  sNil)
  (sSeq (sSet 9 0 (eIx (eVar 8) (eC (.int 1))) [(8, 1)])
  (sSeq (sIf (tOrD (tNotD (tTru (eIsi "tuple" (eVar 9)))) (tOrD (tNotD (tTru (eCB (d1 dAll) (aCons (eLc (iSeq (eVar 9)) (.nm 4) tTrue (eCall 1 den__law_is_int (aCons (eVar 4) aNil)) [4]) aNil)))) (tCmp dNe (eCB (d1 dSortC) (aCons (eVar 9) aNil)) (eRg .list (eC (.int 0)) (eVar 3)))))
  (sRet (eC (.bool false)))
  sNil)
  (sSeq (sTup (.tp [(.nm 10), (.nm 11)]) (eTup (aCons (eC (.int 0)) (aCons (eC (.int 0)) aNil))) ([] ++ ([] ++ [])))
  (sSeq (sFor (iSeq (eVar 9)) [(9, 0)] (.nm 4)
  (sSeq (sAug 10 dAddI (eIx (eVar 0) (eVar 4)))
  (sAug 11 dAddI (eCB (d1 dInt) (aCons (eB (tCmp dGt (eVar 10) (eVar 2))) aNil)))))
  (sRet (eAndD (eB (tCmp dEq (eVar 11) (eOp dSub (eVar 3) (eIx (eVar 7) (eC (.int 0)))))) (eCall 2 (den__law_like 30) (aCons (eCall 2 den_late_count (aCons (eVar 5) (aCons (eVar 9) aNil))) (aCons (eVar 11) aNil))))))))))))))))
theorem sorted_range {n : Nat} {o : List Nat} (p : o.Perm (List.range n)) : dSorted (.list (o.map nat)) = some (.list ((List.range n).map nat)) := by
  have e : ∀ l : List Nat, l.map nat = (l.map fun (k : Nat) => (k : Int)).map PyData.int := fun l => by rw [List.map_map]; rfl
  rw [e, dSorted_ints, e]
  congr 3
  refine List.Perm.eq_of_pairwise (le := (· ≤ ·)) (fun a b _ _ h h' => by omega) (up_sorted _) ?_ ((up_perm _).trans (p.map _))
  rw [List.pairwise_map]
  exact (List.pairwise_lt_range (n := n)).imp fun h => by omega
theorem eqvAll_self : ∀ o : List Nat, PyData.eqvAll (o.map nat) (o.map nat) = true
  | [] => by rw [List.map_nil, PyData.eqvAll]
  | k :: o => by
    rw [List.map_cons, PyData.eqvAll, eqvAll_self o]
    simp [nat, PyData.eqv]
theorem list_ne (o : List Nat) : dNe (.list (o.map nat)) (.list (o.map nat)) = some false := by
  have hs : SeqAt.shaped (.list (o.map nat)) = true := by
    have h1 := lay_nats o
    have h2 := depth_nats o
    unfold SeqAt.shaped
    rw [PyData.canLay0, h1, Bool.true_and]
    refine decide_eq_true ?_
    simp only [PyData.depth]
    omega
  unfold dNe
  rw [hs, if_pos (by rfl), PyData.eqv, eqvAll_self]
  rfl
theorem eRg_of {t : List D → D} {f g : FE} {ρ : PEnv} {i j : Int} (h : f ρ = some (.int i)) (h' : g ρ = some (.int j)) (ok : rgOk i j = true) : eRg t f g ρ = some (t (rngD i (j - i).toNat)) := by
  unfold eRg
  rw [h, h', o2_ss]
  exact if_pos ok
section
variable {n : Nat} {f w : Nat → Int} {due : Int}
end
end K27
end
section
set_option Elab.async false
set_option linter.all false
set_option maxRecDepth 10000
namespace K27
open DS PySem Lib
def den_law : Fn := dfun 17 1 (sSeq (sSet 1 0 (eCall 2 den__law_row (aCons (eVar 0) (aCons (eC (.int 24)) aNil))) ([(0, 0)] ++ ([] ++ [])))
  (sSeq (sTup (.tp [(.nm 2), (.nm 3)]) (eTup (aCons (eOp dAdd (eC (.int 1)) (eOp dMod (eCB (d1 dInt) (aCons (eIx (eVar 1) (eC (.int 0))) aNil)) (eC (.int 6)))) (aCons (eIx (eLst (aCons (eC (.int 4)) (aCons (eC (.int 9)) (aCons (eC (.int 30)) aNil)))) (eOp dMod (eCB (d1 dInt) (aCons (eIx (eVar 1) (eC (.int 1))) aNil)) (eC (.int 3)))) aNil))) (([] ++ ([] ++ [])) ++ (([] ++ ([] ++ ([] ++ []))) ++ [])))
  (sSeq (sIf (tCmp dEq (eOp dMod (eIx (eVar 1) (eC (.int 2))) (eC (.int 16))) (eC (.int 3)))
  (sSet 2 0 (eC (.int 7)) [])
  sNil)
  (sSeq (sSet 4 0 (eCB (d1 dTuple) (aCons (eLc (iRange1 (eVar 2)) (.nm 15) tTrue (eOp dAdd (eC (.int 1)) (eOp dMod (eCB (d1 dInt) (aCons (eIx (eVar 1) (eOp dAdd (eC (.int 3)) (eVar 15))) aNil)) (eVar 3))) [15]) aNil)) (([] ++ ([] ++ ([] ++ [(3, 1)]))) ++ []))
  (sSeq (sSet 5 0 (eCB (d1 dTuple) (aCons (eLc (iRange1 (eVar 2)) (.nm 15) tTrue (eOp dMod (eCB (d1 dInt) (aCons (eIx (eVar 1) (eOp dAdd (eC (.int 10)) (eVar 15))) aNil)) (eC (.int 9))) [15]) aNil)) (([] ++ ([] ++ [])) ++ []))
  (sSeq (sSet 6 0 (eCB (d1 dSum) (aCons (eVar 4) aNil)) [])
  (sSeq (sIf (tOrD (tNotD (tTru (eCall 1 den__law_shared_right (aCons (eVar 4) aNil)))) (tNotD (tTru (eCall 3 den__law_late_right (aCons (eVar 4) (aCons (eVar 5) (aCons (eOp dMod (eCB (d1 dInt) (aCons (eIx (eVar 1) (eC (.int 17))) aNil)) (eCB (d2 dMin2) (aCons (eC (.int 201)) (aCons (eOp dAdd (eVar 6) (eC (.int 1))) aNil)))) aNil)))))))
  (sRet (eC (.bool false)))
  sNil)
  (sSeq (sIf (tNotD (tTru (eCall 3 den__law_late_right (aCons (eVar 4) (aCons (eVar 5) (aCons (eCB (d1 dMax1) (aCons (eVar 4) aNil)) aNil))))))
  (sRet (eC (.bool false)))
  sNil)
  (sSeq (sPar 7 8 (eOp dMod (eCB (d1 dInt) (aCons (eIx (eVar 1) (eC (.int 18))) aNil)) (eOp dAdd (eVar 6) (eC (.int 2)))) (eOp dMod (eCB (d1 dInt) (aCons (eIx (eVar 1) (eC (.int 19))) aNil)) (eOp dAdd (eVar 2) (eC (.int 2)))) (([] ++ ([(6, 1)] ++ [])) ++ ([] ++ ([(2, 1)] ++ []))))
  (sSeq (sSet 9 0 (eCB (d1 dTuple) (aCons (eLc (iRange1 (eVar 2)) (.nm 15) tTrue (eTup (aCons (eIx (eVar 4) (eVar 15)) (aCons (eC (.int 1)) (aCons (eIx (eVar 5) (eVar 15)) aNil)))) [15]) aNil)) (([] ++ ([(4, 1)] ++ ([] ++ ([(5, 1)] ++ [])))) ++ []))
  (sSeq (sIf (tNotD (tTru (eCall 2 (den__law_like 30) (aCons (eCall 3 den_two_rooms (aCons (eVar 9) (aCons (eVar 7) (aCons (eVar 8) aNil)))) (aCons (eCall 4 den__law_best (aCons (eVar 4) (aCons (eVar 5) (aCons (eVar 7) (aCons (eVar 8) aNil))))) aNil)))))
  (sRet (eC (.bool false)))
  sNil)
  (sSeq (sSet 10 0 (eCall 4 den__law_best (aCons (eVar 4) (aCons (eVar 5) (aCons (eVar 7) (aCons (eVar 2) aNil))))) ([(4, 0)] ++ ([(5, 0)] ++ ([(7, 0)] ++ ([(2, 0)] ++ [])))))
  (sSeq (sSet 11 0 (eCB (d1 dTuple) (aCons (eLc (iRange1 (eVar 2)) (.nm 15) tTrue (eTup (aCons (eTup (aCons (eIx (eVar 4) (eVar 15)) (aCons (eIx (eVar 5) (eVar 15)) aNil))) aNil)) [15]) aNil)) (([] ++ (([(4, 1)] ++ ([(5, 1)] ++ [])) ++ [])) ++ []))
  (sSeq (sIf (tNotD (tTru (eCall 2 (den__law_like 30) (aCons (eCall 2 den_best_pack (aCons (eCB (d1 dTuple) (aCons (eLc (iSeq (eVar 11)) (.nm 16) tTrue (eIx (eVar 16) (eC (.int 0))) [16]) aNil)) (aCons (eVar 7) aNil))) (aCons (eVar 10) aNil)))))
  (sRet (eC (.bool false)))
  sNil)
  (sSeq (sSet 12 0 (eC .none) [])
  (sSeq (sFor (iSeq (eCall 1 den__law_sets (aCons (eVar 2) aNil))) ([(2, 0)] ++ []) (.nm 13)
  (sIf (tAndD (tCmp dLe (eCB (d1 dSum) (aCons (eLc (iSeq (eVar 13)) (.nm 15) tTrue (eIx (eVar 4) (eVar 15)) [15]) aNil)) (eVar 7)) (tCmp dEq (eCB (d1 dSum) (aCons (eLc (iSeq (eVar 13)) (.nm 15) tTrue (eIx (eVar 5) (eVar 15)) [15]) aNil)) (eIx (eVar 10) (eC (.int 0)))))
  (sSeq (sSet 14 0 (eCB (d1 dTuple) (aCons (eLc (iRange1 (eVar 2)) (.nm 15) tTrue (eOp dSub (eCB (d1 dInt) (aCons (eB (tCmp dIn (eVar 15) (eVar 13))) aNil)) (eC (.int 1))) [15]) aNil)) (([] ++ ([] ++ [])) ++ []))
  (sIf (tOrD (tIsND (eVar 12)) (tCmp dLt (eVar 14) (eVar 12)))
  (sSet 12 0 (eVar 14) [(14, 0)])
  sNil))
  sNil))
  (sRet (eCall 2 (den__law_like 30) (aCons (eCall 2 den_best_of_groups (aCons (eVar 11) (aCons (eVar 7) aNil))) (aCons (eTup (aCons (eIx (eVar 10) (eC (.int 0))) (aCons (eVar 12) aNil))) aNil))))))))))))))))))))
section
variable {n : Nat} {f w : Nat → Int}
end
end K27
end
section
set_option Elab.async false
set_option linter.all false
namespace Lib
end Lib
end
section
set_option Elab.async false
set_option linter.all false
set_option maxRecDepth 10000
namespace Lib
open DS PySem
theorem dAny_ok (l : List Bool) : dAny (.list (l.map PyData.bool)) = some (.bool (l.any id)) := by
  simp [dAny, bools_map]
section
variable {n m : Nat} {W : Nat → Nat → Int} {s : List Nat}
end
end Lib
end
section
set_option Elab.async false
set_option linter.all false
namespace Lib
abbrev As := List (Option Nat)
def free (a : As) : List Nat := (List.range a.length).filter fun k => (a.getD k none).isNone
def pick (f : Nat → Int) (a : As) : Nat := match free a with
  | [] => 0
  | x :: xs => fmin (lt2 f) x xs
section
variable (n m : Nat) (W : Nat → Nat → Int)
def trn : Nat → As
  | 0 => List.replicate m none
  | t + 1 => (trn t).set (pick (W (t % n)) (trn t)) (some (t % n))
end
section
variable {n m : Nat} {W : Nat → Nat → Int}
end
end Lib
end
section
set_option Elab.async false
set_option linter.all false
namespace Lib
def nx (s : List Nat) : Nat := s.foldl (fun a y => max a (y + 1)) 0
end Lib
end
section
set_option Elab.async false
set_option linter.all false
set_option maxRecDepth 10000
namespace K71
open DS PySem K27
open Lib hiding den__law_sets law_sets_ok pl
section
variable {n : Nat} {f w : Nat → Int}
theorem allCmp_co (c : List Nat → Int) (l : List (List Nat)) : allCmp (l.map (co c)) = true := allCmp_map (fun a _ => by simp [co, PyData.canLay0, PyData.canLayAll0, lay_nt]) (fun a _ => by
  have := depth_nt a
  simp only [co, PyData.depth, PyData.depthAll]
  omega) (fun a _ => rfl) fun a _ b _ => by simp [co, PySem.W.alike, PySem.W.alikeAll, alike_nt]
end
end K71
end
section
set_option Elab.async false
set_option linter.all false
namespace Lib
def pd (f : Nat → Int) : Nat → Int
  | 0 => 1
  | k + 1 => pd f k * f k
end Lib
namespace Lib
end Lib
end
section
set_option Elab.async false
set_option linter.all false
set_option maxRecDepth 10000
namespace K71
open DS PySem K27
open Lib hiding den__law_sets law_sets_ok pl
def rI (a : Int) : D := .tuple [.int a, .int 1]
theorem rI_rt (a : Int) : rI a = rt (a : Rat) := rfl
theorem smI {a : Int} {k : Nat} (h : a.natAbs < 2 ^ k) (hk : 0 < k) : Sm k (a : Rat) := ⟨h, by
  show 1 < 2 ^ k
  exact Nat.one_lt_two_pow (by omega)⟩
theorem asc_sorted {c : List Nat} (h : c.Pairwise (· < ·)) : dSorted (.list (c.map nat)) = some (.list (c.map nat)) := by
  have e : ∀ l : List Nat, l.map nat = (l.map fun (k : Nat) => (k : Int)).map PyData.int := fun l => by rw [List.map_map]; rfl
  rw [e, dSorted_ints]
  congr 3
  unfold up
  refine List.mergeSort_of_pairwise ?_
  rw [List.pairwise_map]
  exact h.imp fun h => decide_eq_true (by omega)
section
variable {n : Nat} {f : Nat → Int}
theorem wp_parF27 {N B C : S → Prop} {R : D → Prop} {ρ : PEnv} {L : List Nat} {i j : Nat} {f g : FE} {c : Esc} {d e : D} (h : f ρ = some d) (h' : g ρ = some e) (he : flat e = true) (q : N ((ρ.set i (some d)).set j (some e), ((demote c L).set i 1).set j 0)) : WP (sParF i j f g c) (ρ, L) N R B C := by
  unfold WP sParF
  simp only [h, h', he, if_true]
  exact q
theorem wp_forB {N B C : S → Prop} {R : D → Prop} {ρ : PEnv} {L : List Nat} {body : FS} {c : Esc} {fi : FA} {t : Tg} {ds : List D} (P : Nat → S → Prop) (M : S → Prop) (hi : fi ρ = some ds) (h0 : P 0 (ρ, demote c L))
    (st : ∀ k d s, ds[k]? = some d → P k s → ∃ m, t.go d = some m ∧ WP body (setsD s.1 m, zeros s.2 m) (P (k + 1)) R M (P (k + 1))) (hP : ∀ s, P ds.length s → M s) (hN : ∀ s, M s → N s) : WP (sFor fi c t body) (ρ, L) N R B C :=
  wp_imp (wp_for (B := B) (C := C) (N := M) P hi h0 st hP) hN (fun _ h => h) (fun _ h => h) (fun _ h => h)
end
end K71
end
section
set_option Elab.async false
set_option linter.all false
set_option maxRecDepth 10000
namespace K71
open DS PySem K27
open Lib hiding den__law_sets law_sets_ok pl
theorem rep_raw {x : D} {m : Nat} {l : List D} (hm : m ≤ 16777216) (e : (List.replicate m [x]).flatten = l) : dMul (.list [x]) (.int m) = some (.list l) := by
  have e2 : ((m : Int)).toNat = m := by omega
  show (if [x].length * (m : Int).toNat ≤ DS.sz ∧ -9223372036854775808 ≤ (m : Int) ∧ (m : Int) < 9223372036854775808 then some (PyData.list (List.replicate (m : Int).toNat [x]).flatten) else none) = _
  rw [if_pos ⟨by simpa [DS.sz] using hm, by omega, by omega⟩, e2, e]
theorem rep_any {x : D} {m : Nat} (hm : m ≤ 16777216) : dMul (.list [x]) (.int m) = some (.list ((List.range m).map fun _ => x)) := by
  have e : (List.replicate m [x]).flatten = (List.range m).map fun _ => x := by
    induction m with
    | zero => rfl
    | succ m ih => rw [List.replicate_succ', List.flatten_append, ih (by omega), List.range_succ, List.map_append]; rfl
  exact rep_raw hm e
section
variable {n : Nat} {f : Nat → Int} {room : Int}
def lf (f : Nat → Int) (room : Int) : Nat → Int
  | 0 => room
  | k + 1 => lf f room k - mn2 (f k) (lf f room k)
def pt (f : Nat → Int) (room : Int) (k : Nat) : D := rt (Rat.divInt (mn2 (f k) (lf f room k)) (f k))
def acc (f : Nat → Int) (p room : Int) (k : Nat) : Int := p * room + rsum (fun k => if f k - p * f k > 0 then f k - p * f k else 0) k
end
end K71
end
section
set_option Elab.async false
set_option linter.all false
set_option maxRecDepth 100000
set_option maxHeartbeats 1000000
namespace DS
open PySem PySem.Spec PyProof.Rows L2
variable [Tbls]
section
variable {X : Cx} {K : PySem.W.Frag}
end
end DS
end
section
set_option Elab.async false
set_option linter.all false
set_option maxRecDepth 100000
set_option maxHeartbeats 1000000
namespace DS
open PySem PySem.Spec PyProof.Rows L2
variable [Tbls]
section
variable {X : Cx} {pins : List (Addr × Obj)} {σ : St} {H : Hp} {s : Shared} {a : Addr} {y : V} {u : Value} {o : Option V} {A : Around} {E : Value → Shared → Prop}
end
section
variable {X : Cx} {K : PySem.W.Frag} {e1 e2 : Expr} {ap cp : Pos} {td ty : TE}
end
end DS
end
section
set_option Elab.async false
set_option linter.all false
set_option maxRecDepth 100000
set_option maxHeartbeats 1000000
namespace DS
open PySem PySem.Spec PyProof.Rows L2
variable [Tbls]
section
variable {X : Cx} {K : PySem.W.Frag}
end
end DS
end
section
set_option Elab.async false
set_option linter.all false
namespace Lib
def rb (K : Nat → Int) (i j : Nat) : Bool := decide (K j < K i) || (decide (K i = K j) && decide (i < j))
section
variable {K : Nat → Int}
def ord (K : Nat → Int) (n : Nat) : List Nat := (List.range n).mergeSort fun i j => !rb K j i
end
end Lib
end
section
set_option Elab.async false
set_option linter.all false
namespace Lib
section
variable (s w : Nat → Int)
def lo : List Nat → Int → Int
  | [], l => l
  | k :: o, l => lo o (l - mn2 (s k) l)
def rr (k : Nat) : Rat := Rat.divInt (w k) (s k)
end
section
variable {s w : Nat → Int}
end
end Lib
end
section
set_option Elab.async false
set_option linter.all false
namespace Lib
abbrev Gp := List (Int × Int)
def cs (g : Gp) (x : Nat) : Int := if x = 0 then 0 else (g.getD (x - 1) (0, 0)).1
def sG : List Gp → List Nat → Int
  | g :: r, x :: c => cs g x + sG r c
  | _, _ => 0
inductive VC : List Gp → List Nat → Prop
  | nil : VC [] []
  | cons {g : Gp} {r : List Gp} {x : Nat} {c : List Nat} : x ≤ g.length → VC r c → VC (g :: r) (x :: c)
def PG (G : List Gp) : Prop := ∀ g ∈ G, ∀ p ∈ g, 0 ≤ p.1
theorem PG.tl {g : Gp} {r : List Gp} (h : PG (g :: r)) : PG r := fun g hg => h g (.tail _ hg)
theorem VC.len {G : List Gp} {c : List Nat} (v : VC G c) : c.length = G.length := by
  induction v with
  | nil => rfl
  | cons _ _ ih => simp [ih]
end Lib
end
section
set_option Elab.async false
set_option linter.all false
set_option maxRecDepth 10000
namespace K24
open DS PySem K27
open K71 (wp_forB rep_any rI rI_rt wp_parF27 asc_sorted)
open Lib hiding den__law_sets law_sets_ok pl
theorem dkey_cmp (K : Nat → Int) (n : Nat) : allCmp ((List.range n).map fun k => dkey (-K k) k) = true := allCmp_map (fun a _ => by simp [dkey, nat, PyData.canLay0, PyData.canLayAll0]) (fun a _ => by simp [dkey, nat, PyData.depth, PyData.depthAll]) (fun a _ => rfl) fun a _ b _ => by simp [dkey, nat, PySem.W.alike, PySem.W.alikeAll]
theorem dkey_lt (K : Nat → Int) (i j : Nat) : PySem.W.dataLt (dkey (-K i) i) (dkey (-K j) j) = rb K i j := by
  show rowLt [.int (-K i), .int i] [.int (-K j), .int j] = _
  rw [rowLt_int]
  unfold rb
  by_cases h : K i = K j
  · rw [if_pos (by omega), rowLt_int]
    by_cases q : i = j
    · subst q
      rw [if_pos rfl]
      rw [rowLt_nil]
      simp
    · rw [if_neg (by omega)]
      rw [decide_eq_false (show ¬ K j < K i by omega), decide_eq_true h]
      simp
  · rw [if_neg (by omega), decide_eq_false h]
    simp
theorem sort_ord {i n : Nat} {fb : FE} {ρ : PEnv} {K : Nat → Int} (hn : n ≤ 16777216) (ek : keyLL i fb ρ ((List.range n).map nat) = some ((List.range n).map fun k => dkey (-K k) k)) : dSortL i fb ρ (rgd 0 n) = some (.list ((ord K n).map nat)) := by
  rw [dSortL_of (coll_rng hn) ek (dkey_cmp K n), List.zip_map']
  have := PySem.W.sort_maps (r := fun i j => !rb K j i) (s := fun u v : D × D => leD u.2 v.2) (fun a => (nat a, dkey (-K a) a)) (l := List.range n) fun a _ b _ => by
    show _ = !PySem.W.dataLt (dkey (-K b) b) (dkey (-K a) a)
    rw [dkey_lt]
  rw [← this, List.map_map]
  rfl
section
variable {n : Nat} {s w : Nat → Int}
structure Bd (s w : Nat → Int) : Prop where
  s : ∀ k, 1 ≤ s k ∧ s k ≤ 30
  w : ∀ k, 0 ≤ w k ∧ w k ≤ 50
theorem Bd.pos (h : Bd s w) (k : Nat) : 0 < s k := by have := h.s k; omega
theorem Bd.nn (h : Bd s w) (k : Nat) : 0 ≤ w k := by have := h.w k; omega
def kk (n : Nat) (s w : Nat → Int) (k : Nat) : Int := w k * (pd s n / s k)
theorem set_done {o : List Nat} {k a : Nat} (g z : Nat → D) (p : o.Perm (List.range n)) (ha : o[k]? = some a) : ((List.range n).map fun i => if o.idxOf i < k then g i else z i).set a (g a) = (List.range n).map fun i => if o.idxOf i < k + 1 then g i else z i := by
  have nd : o.Nodup := p.nodup_iff.mpr List.nodup_range
  obtain ⟨hk, eq⟩ := List.getElem?_eq_some_iff.mp ha
  have hidx : o.idxOf a = k := by rw [← eq]; exact nd.idxOf_getElem k hk
  refine List.ext_getElem? fun i => ?_
  by_cases hi : i < n
  · rw [List.getElem?_set, List.length_map, List.length_range, List.getElem?_map, List.getElem?_map, List.getElem?_range hi]
    by_cases q : a = i
    · subst q
      rw [if_pos rfl, if_pos hi]
      simp only [Option.map_some]
      rw [if_pos (by omega)]
    · rw [if_neg q]
      simp only [Option.map_some]
      have hne : o.idxOf i ≠ k := fun z => by
        have hm : i ∈ o := p.mem_iff.mpr (List.mem_range.mpr hi)
        have hlt : o.idxOf i < o.length := List.idxOf_lt_length_iff.mpr hm
        have := List.getElem_idxOf hlt
        apply q
        rw [← eq, ← this]
        congr 1
        exact z.symm
      by_cases z : o.idxOf i < k
      · rw [if_pos z, if_pos (by omega)]
      · rw [if_neg z, if_neg (by omega)]
  · rw [List.getElem?_eq_none (by simp; omega), List.getElem?_eq_none (by simp; omega)]
theorem all_done {o : List Nat} (g z : Nat → D) (p : o.Perm (List.range n)) : ((List.range n).map fun i => if o.idxOf i < o.length then g i else z i) = (List.range n).map g := List.map_congr_left fun i hi => by
  rw [if_pos (List.idxOf_lt_length_iff.mpr (p.mem_iff.mpr hi))]
end
end K24
end
section
set_option Elab.async false
set_option linter.all false
set_option maxRecDepth 10000
namespace Lib
open DS PySem
def den__law_add : Fn := dfun 2 2 (sRet (eCall 2 den__law_ratio (aCons (eOp dAdd (eOp dMul (eIx (eVar 0) (eC (.int 0))) (eIx (eVar 1) (eC (.int 1)))) (eOp dMul (eIx (eVar 1) (eC (.int 0))) (eIx (eVar 0) (eC (.int 1))))) (aCons (eOp dMul (eIx (eVar 0) (eC (.int 1))) (eIx (eVar 1) (eC (.int 1)))) aNil))))
theorem rat_add_eq (p q : Rat) : p + q = Rat.divInt (p.num * q.den + q.num * p.den) (p.den * q.den) := by
  conv => lhs; rw [← Rat.num_divInt_den p, ← Rat.num_divInt_den q]
  exact Rat.divInt_add_divInt _ _ (by have := den_pos p; omega) (by have := den_pos q; omega)
theorem Sm.natN {m : Nat} {p : Rat} (h : Sm m p) : p.num.natAbs < 2 ^ m := h.1
theorem Sm.natD {m : Nat} {p : Rat} (h : Sm m p) : ((p.den : Int)).natAbs < 2 ^ m := by simpa using h.2
theorem ladd_ok' {p q : Rat} {m n : Nat} (hp : Sm m p) (hq : Sm n q) (h0 : 0 < m) (h1 : 0 < n) (h : m + n ≤ 8000) : den__law_add [rt p, rt q] = some (rt (p + q)) := by
  have m1 : mulOk p.num q.den = true := mulOk_big hp.natN hq.natD h0 h1 (by omega)
  have m2 : mulOk p.den q.den = true := mulOk_big hp.natD hq.natD h0 h1 (by omega)
  have m3 : mulOk q.num p.den = true := mulOk_big hq.natN hp.natD h1 h0 (by omega)
  have hd : (0 : Int) < p.den * q.den := Int.mul_pos (den_pos p) (den_pos q)
  have r := ratio_ok (a := p.num * q.den + q.num * p.den) hd (natAbs_mul_lt hp.natD hq.natD) (by omega)
  refine dfun_wp rfl ?_
  simp only [List.map_cons, List.map_nil, List.replicate_succ, List.replicate_zero, List.nil_append, List.cons_append, List.append_nil, Nat.reduceSub, Nat.reduceAdd, setsD, zeros, stt, setsO, setsJ, List.foldl_cons, List.foldl_nil, List.set_cons_zero, List.set_cons_succ, demote]
  refine wp_ret (d := rt (p + q)) ?_ rfl
  rw [rat_add_eq]
  (first | rfl | (simp only [eOp_a, eUn_a, eCB_a, aCons_a, aNil_a, eIx_a, eC_a, eVar_0, eVar_s, o2_ss, o1_s, d1_1, d2_2, eB_a, tCmp_a, tTru_a, tNotD_a, tIsND_a, tNotND_a, eIsN_a, eNotN_a, tTrue_a, iSeq_a, seqOf_l, seqOf_t, dAdd_i, dAddI_i, dSub_i, dNeg_i, dLt_i, dLe_i, dGt_i, dGe_i, dEq_i, dNe_i, dTru_b, dTru_i, dTru_l, dTru_t, dTru_n, isNon_n, isNon_b, isNon_i, isNon_s, isNon_l, isNon_t, dLen_l, dLen_t, dInt_i, dInt_b, dTuple_l, dTuple_t, dList_l, dList_t, eCall_1, eCall_2, eCall_3, eCall_4, eCall_5, eCall_6, eCall_7, rt_0, rt_1, dMul_i m1, dMul_i m2, dMul_i m3, r] <;> rfl))
theorem Sm.add {p q : Rat} {m n : Nat} (hp : Sm m p) (hq : Sm n q) (h0 : 0 < m) (h1 : 0 < n) (h : m + n ≤ 8000) : Sm (m + n + 1) (p + q) := (plus_ok hp hq h0 h1 h).2
theorem Sm.sub {p q : Rat} {m n : Nat} (hp : Sm m p) (hq : Sm n q) (h0 : 0 < m) (h1 : 0 < n) (h : m + n ≤ 8000) : Sm (m + n + 1) (p - q) := (minus_ok hp hq h0 h1 h).2
end Lib
end
section
set_option Elab.async false
set_option linter.all false
set_option maxRecDepth 100000
set_option maxHeartbeats 1000000
namespace DS
open PySem PySem.Spec PyProof.Rows L2 LamX GenW
section
variable {Y : Cx} {S : Addr} {A : Around} {elt tg iter : Expr} {ifs : List Expr} {scope : Scope} {pos : Pos} {g : TG} {tt : TT} {te : TE} {J : It} {fp : List Addr} {it : Addr} {tn : Nat → Heap → Prop} {vs : List Nat} {σ0 : L2.St} {W : Nat → Nat → List V → Hp → Prop} {Q : List V → Hp → Prop}
end
section
variable [Tbls] {X : Cx} {pins : List (Addr × Obj)} {σ : L2.St} {H : Hp} {s : Shared}
end
end DS
end
section
set_option Elab.async false
set_option linter.all false
set_option maxRecDepth 100000
set_option maxHeartbeats 1000000
namespace DS
open PySem PySem.Spec PyProof.Rows L2 LamX GenW
section
variable {P : Program} {w : World} {outer : List Env} {H : Hp} {sc s : Shared} {ex : List Addr} {Q : List V → Hp → Prop} {EX : XK} {A : Around} {k : Nat} {u : Value} {E : Value → Shared → Prop}
end
section
variable [Tbls] {X : Cx} {k : Nat} {pos p : Pos}
end
end DS
end
section
set_option Elab.async false
set_option linter.all false
set_option maxRecDepth 100000
namespace DS
open PySem PySem.Spec PyProof.Rows L2
variable [Tbls]
def gLook (tb : List (Str × List Int)) (y : Str) : Option (List Int) := (tb.find? fun p => decide (p.1 = y)).map (·.2)
inductive GRows (K : PySem.W.Frag) (w : World) : List DictEntry → List (Str × List Int) → Prop
  | nil : GRows K w [] []
  | cons {hs : Int} {x : Str} {t : Tok} {b : Addr} {o : Obj} {its : Array Value} {n : Nat} {is : List Int} {es : List DictEntry} {tb : List (Str × List Int)} :
      hs = hashStr w x → K.lookup b = some o → o.cls = .type "tuple" → o.data = .seq its n → its.size ≤ sizeLine → Vals (is.map V.int) its.toList → GRows K w es tb → GRows K w (⟨hs, .str x t, .ref b⟩ :: es) ((x, is) :: tb)
theorem GRows.pairs {P : Program} {K : PySem.W.Frag} {w : World} {es : List DictEntry} {tb : List (Str × List Int)} (g : GRows K w es tb) :
    ∃ kvs : List (Str × Value), Pairs (PySem.strKind P w) es kvs ∧ (∀ e ∈ es, ∃ k, (PySem.strKind P w).is k e.key = true ∧ e.hash = (PySem.strKind P w).hash k) ∧ kvs.map (·.1) = tb.map (·.1) ∧
      ∀ y is, gLook tb y = some is → ∃ b, valueAt kvs y = some (.ref b) ∧ ∀ H : Hp, SqT K H b (is.map V.int) := by
  induction g with
  | nil => exact ⟨[], .nil, fun e h => (by cases h), rfl, fun y is h => by cases h⟩
  | @cons hs x t b o its n is es tb h1 h2 h3 h4 h5 h6 _ ih =>
    obtain ⟨kvs, p, q, r, s⟩ := ih
    have hx : (PySem.strKind P w).is x (.str x t) = true := by
      show Value.isStrOf x (.str x t) = true
      simp [Value.isStrOf]
    refine ⟨(x, .ref b) :: kvs, .cons hx rfl p, fun e he => ?_, by rw [List.map_cons, List.map_cons, r], fun y js hy => ?_⟩
    · rcases List.mem_cons.mp he with rfl | he
      · exact ⟨x, hx, h1⟩
      · exact q e he
    · unfold gLook at hy
      rw [List.find?_cons] at hy
      unfold valueAt
      rw [List.find?_cons]
      by_cases e : x = y
      · rw [decide_eq_true e] at hy ⊢
        cases hy
        exact ⟨b, rfl, fun H => .inr ⟨o, its, n, h2, h3, h4, h5, h6⟩⟩
      · rw [decide_eq_false e] at hy ⊢
        exact s y js hy
section
variable {X : Cx} {K : PySem.W.Frag}
end
end DS
end
section
set_option Elab.async false
set_option linter.all false
set_option maxRecDepth 100000
set_option maxHeartbeats 1000000
namespace PySem.W
open PySem PySem.Calls PyProof.Rows
section
variable {prog : Program} {w : World} {A : Around} {E : Value → Shared → Prop} {s : Shared} {β : Type} {vs : List Value} {bs : List β} {enc : β → PyData} {R : Value → β → Prop}
theorem list_sort_any {a : Addr} {n : Nat} {Q : Value → Shared → Prop} (ho : s.heap.get? a = some (seqObj "list" vs.toArray n)) (e : EachIs R vs bs) (er' : EachIs (fun v b => ∃ as, Reads (sortingHeap s.heap a vs) v (enc b) as) vs bs) (hal : AllAlike (bs.map enc)) (hk : ∀ d, d ∈ bs.map enc → d ≠ .none) (hL : bs.length ≤ sizeLine)
    (hu : ∀ b, b ∈ bs → A.units + 1 + (enc b).depth < cLine) (h : ∀ out, out.length = bs.length → EachIs R out (bs.mergeSort (dataLe false enc)) → Q .none { s with heap := sortedHeap s.heap a vs (List.toArray out) }) :
    wpAny (model prog w) A (call (.builtin "list.sort") [.ref a]) Q E s := by
  refine wpAny_call_entry slot_list_sort ⟨_, ho, rfl⟩ entry_list_sort (list_sort_vals (κ := dataKind (sortingHeap s.heap a vs) (bs.map enc)) ho (SortsAt.any (s := { s with heap := sortingHeap s.heap a vs }) (each_map (R := fun v d => ∃ as, Reads (sortingHeap s.heap a vs) v d as) enc er') hal hk (bound_map hu)) (by rw [e.length]; exact hL) ⟨.none, rfl, ?_⟩) (args_list_sort _)
  exact h _ (by rw [sortVals_length false rfl]; exact e.length) (sortVals_data false e er' hal)
end
end PySem.W
namespace DS
open PySem PySem.Spec PyProof.Rows L2
variable [Tbls]
def vi : V → Int
  | .int i => i
  | _ => 0
abbrev EntT := List Key × V
def prD (e : EntT) : D := .tuple [.tuple (e.1.map keyD), .int (vi e.2)]
def rItT : V → List V → Hp → VK → Prop := fun x xs H Q => ∃ (a : Addr) (kvs : List EntT), x = .ref a ∧ xs = [] ∧ Rd H a (.dT kvs) ∧ ∀ p, H p = none → Q (.ref p) (upd H p (L2.DX.itemsO p a))
theorem mt_itT {X : Cx} : MtR X "dict.items" rItT := by
  intro pins s σ H x xs v us Q I rx rxs h
  obtain ⟨a, kvs, rfl, rfl, ha, q⟩ := h
  cases rx
  cases rxs
  obtain ⟨z, hd, xs', rel, o, es, ep, ho, hx, hdat, _⟩ := dt_rd I.hok ha
  refine DT.callItems (es := es) (ep := ep) hd ⟨o, ho, hx, hdat⟩ ?_
  have hf : H s.heap.objs.size = none := I.hok.fresh (Nat.le_refl _)
  exact ⟨.ref s.heap.objs.size, upd H s.heap.objs.size (L2.DX.itemsO s.heap.objs.size a), I.laid (t' := s.toks) (fun b u e => Heap.get?_push_of_some _ e) (Nat.le_refl _) (L2.DX.itemsO_ok (Heap.get?_push_size _ rfl)), rfl, q _ hf⟩
def rSortIt : List V → Hp → VK → Prop := fun vs H Q => ∃ (p a : Addr) (kvs : List EntT), vs = [.ref p] ∧ H p = some (L2.DX.itemsO p a) ∧ Rd H a (.dT kvs) ∧ (∀ e ∈ kvs, e.2 = .int (vi e.2)) ∧ allCmp (kvs.map prD) = true ∧
  ∀ (H' : Hp) (l : Addr) (zs : List (Addr × EntT)), (∀ b o, H b = some o → H' b = some o) → H l = none → H' l = some (.lst (zs.map fun z => V.ref z.1)) → (zs.map fun z => prD z.2) = (kvs.map prD).mergeSort leD →
    (∀ z ∈ zs, ∃ q, H' z.1 = some (.tup [.ref q, .int (vi z.2.2)]) ∧ H' q = some (.tup (z.2.1.map kV))) → Q (.ref l) H'
section
variable {X : Cx}
theorem each_of {α : Type} {R : Value → α → Prop} {f : α → Value} : ∀ {l : List α}, (∀ a ∈ l, R (f a) a) → PySem.W.EachIs R (l.map f) l
  | [], _ => .nil
  | a :: l, h => .cons (h a (.head _)) (each_of fun b hb => h b (.tail _ hb))
theorem each_eq {α : Type} {f : α → Value} : ∀ {us : List Value} {l : List α}, PySem.W.EachIs (fun u a => u = f a) us l → us = l.map f
  | _, _, .nil => rfl
  | _, _, .cons h t => by rw [h, each_eq t]; rfl
theorem readsKeys {P : Program} {w : World} {h : Heap} : ∀ {k : List Key} {us : List Value}, Vals (k.map kV) us → ∃ as, ReadsAll h us (k.map keyD) as
  | [], _, .nil => ⟨_, .nil⟩
  | .inl i :: k, u :: us, h => by
    cases h with
    | cons r t =>
      obtain ⟨t', rfl⟩ : ∃ t', u = .int i t' := r
      obtain ⟨as, q⟩ := readsKeys (P := P) (w := w) (h := _) t
      exact ⟨_, .cons (.int _ _) q⟩
  | .inr x :: k, u :: us, h => by
    cases h with
    | cons r t =>
      obtain ⟨t', rfl⟩ : ∃ t', u = .str x t' := r
      obtain ⟨as, q⟩ := readsKeys (P := P) (w := w) (h := _) t
      exact ⟨_, .cons (.str _ _) q⟩
theorem cr_sortIt (hc : X.calm = true) (hu : X.A.units + 64 < cLine) : CallR X (.builtin "sorted") rSortIt := by
  intro pins s σ H xs us Q I r h
  obtain ⟨p, a, kvs, rfl, hp, ha, hv, hcm, q⟩ := h
  obtain rfl := Vals.ref1 r
  obtain ⟨f1, f2, f3⟩ := allCmp_facts hcm
  have view : s.heap.IsItemsView p a := (show ObjOk X.prog X.w H s.heap p (L2.DX.itemsO p a) from I.hok p _ hp).1
  obtain ⟨z, hd, xs', rel, o, es, ep, ho, hx, hdat, hes, his, hn⟩ := dt_rd I.hok ha
  have l1 : kvs.length = xs'.length := Paired.length rel
  have l2 : es.size = xs'.length := size_of_entries hes
  have hh : X.A.handled = none := I.ok.hd hc
  refine DT.sortedI (es := es) (ep := ep) hh view ⟨o, ho, hx, hdat⟩ (by omega) fun h' tk as hk hlt hl hG => ?_
  have lak : as.length = kvs.length := by omega
  have nd : as.Nodup := List.Pairwise.imp (fun h => Nat.ne_of_lt h) hG.rise
  have pr : ∀ (j : Nat) (b : Addr), as[j]? = some b → ∃ (e : EntT) (kq : Addr) (t : Tok), kvs[j]? = some e ∧ H kq = some (.tup (e.1.map kV)) ∧ h'.get? b = some { cls := .type "tuple", data := .seq #[Value.ref kq, Value.int (vi e.2) t] } := by
    intro j b hj
    obtain ⟨en, he, hg⟩ := hG.pairs j b hj
    rw [entry_at hes j] at he
    cases hxj : xs'[j]? with
    | none =>
      rw [hxj] at he
      exact nomatch (show (none : Option DictEntry) = some en from he)
    | some x =>
      rw [hxj] at he
      have een : entryOfKey (tupleKind (mixKind X.prog X.w)) x = en := Option.some.inj he
      obtain ⟨e, he0, r1, r2, r3⟩ := L2.DX.pget rel hxj
      rw [hv e (List.mem_of_getElem? he0)] at r3
      obtain ⟨t, r3'⟩ : ∃ t, x.2.2 = Value.int (vi e.2) t := r3
      refine ⟨e, x.2.1, t, he0, r2, ?_⟩
      rw [hg, ← een, ← r3']
      all_goals rfl
  have hob : (h'.push { cls := .type "list", data := .seq (as.map Value.ref).toArray }).get? h'.objs.size = some (seqObj "list" (as.map Value.ref).toArray 0) := Heap.get?_push_size _ rfl
  have kb : ∀ b o, s.heap.get? b = some o → (h'.push { cls := .type "list", data := .seq (as.map Value.ref).toArray }).get? b = some o := fun b o e => Heap.get?_push_of_some _ (hk b o e)
  have ne0 : ∀ b o, h'.get? b = some o → b ≠ h'.objs.size := fun b o e => Nat.ne_of_lt (Heap.lt_size e)
  generalize hh2 : h'.push { cls := .type "list", data := .seq (as.map Value.ref).toArray } = h2 at hob kb ⊢
  have ka : ∀ b o, h'.get? b = some o → h2.get? b = some o := fun b o e => by rw [← hh2]; exact Heap.get?_push_of_some _ e
  have kS : ∀ b o, h'.get? b = some o → (PySem.W.sortingHeap h2 h'.objs.size (as.map Value.ref)).get? b = some o := fun b o e => PySem.W.sortingHeap_old (ne0 b o e) (ka b o e)
  have idx0 : ∀ z ∈ as.zip kvs, ∃ j : Nat, as[j]? = some z.1 ∧ kvs[j]? = some z.2 := by
    intro z' hz'
    obtain ⟨j, hj⟩ := List.mem_iff_getElem?.mp hz'
    exact ⟨j, List.getElem?_zip_eq_some.mp hj⟩
  have reads : ∀ z ∈ as.zip kvs, ∃ bs, Reads (PySem.W.sortingHeap h2 h'.objs.size (as.map Value.ref)) (.ref z.1) (prD z.2) bs := by
    intro z' hz'
    obtain ⟨j, j1, j2⟩ := idx0 z' hz'
    obtain ⟨e, kq, t, he, hkq, hg⟩ := pr j z'.1 j1
    have ee : e = z'.2 := Option.some.inj (he.symm.trans j2)
    subst ee
    obtain ⟨_, its, rv, ot, hot, hct, nt, hdt⟩ := (show ObjOk X.prog X.w H s.heap kq (.tup (z'.2.1.map kV)) from I.hok kq _ hkq)
    obtain ⟨bs, rk⟩ := readsKeys (P := X.prog) (w := X.w) (h := PySem.W.sortingHeap h2 h'.objs.size (as.map Value.ref)) rv
    exact ⟨_, .tuple (kS _ _ hg) rfl rfl (.cons (.tuple (kS _ _ (hk _ _ hot)) hct hdt (by simpa using rk)) (.cons (.int _ _) .nil))⟩
  have m1 : (as.zip kvs).map (·.1) = as := List.map_fst_zip (by rw [lak]; exact Nat.le_refl _)
  have m2 : (as.zip kvs).map (·.2) = kvs := List.map_snd_zip (by rw [lak]; exact Nat.le_refl _)
  have m3 : (as.zip kvs).map (fun z => prD z.2) = kvs.map prD := by
    have := congrArg (List.map prD) m2
    rw [List.map_map] at this
    exact this
  have m4 : as.map Value.ref = (as.zip kvs).map fun z => Value.ref z.1 := by
    have := congrArg (List.map Value.ref) m1
    rw [List.map_map] at this
    exact this.symm
  have hlz : (as.zip kvs).length = kvs.length := by
    rw [List.length_zip, lak, Nat.min_self]
  refine PySem.W.list_sort_any (s := { s with heap := h2, toks := tk }) (vs := as.map Value.ref) (bs := as.zip kvs) (enc := fun z => prD z.2) (R := fun u z => u = Value.ref z.1) hob ?_ ?_ (by rw [m3]; exact f3.1) (by rw [m3]; exact f3.2) (by omega) (fun b hb => ?_) (fun out hol hout => ?_)
  · rw [m4]; exact each_of fun _ _ => rfl
  · rw [m4]
    refine each_of fun z' hz' => ?_
    have := reads z' hz'
    rw [m4] at this
    exact this
  · have : prD b.2 ∈ kvs.map prD := List.mem_map.mpr ⟨b.2, (List.of_mem_zip hb).2, rfl⟩
    have := depth_mem this
    show X.A.units + 1 + 1 + (prD b.2).depth < cLine
    omega
  · show EP X pins σ Q (.ref h'.objs.size) { s with heap := sortedHeap h2 h'.objs.size (as.map Value.ref) out.toArray, toks := tk }
    have eout := each_eq hout
    generalize hzs : (as.zip kvs).mergeSort (PySem.W.dataLe false fun z => prD z.2) = zs at eout
    have pz : zs.Perm (as.zip kvs) := by rw [← hzs]; exact List.mergeSort_perm _ _
    have esort : (zs.map fun z => prD z.2) = (kvs.map prD).mergeSort leD := by
      rw [← hzs, ← m3]
      exact PySem.W.sort_maps (r := PySem.W.dataLe false fun z : Addr × EntT => prD z.2) (s := leD) (fun z => prD z.2) (l := as.zip kvs) fun _ _ _ _ => rfl
    have idx : ∀ z ∈ zs, ∃ j : Nat, as[j]? = some z.1 ∧ kvs[j]? = some z.2 := fun z' hz' => idx0 z' (pz.mem_iff.mp hz')
    have kF : ∀ b o, b ≠ h'.objs.size → h2.get? b = some o → (sortedHeap h2 h'.objs.size (as.map Value.ref) out.toArray).get? b = some o := fun b o hb e => (PyProof.Rows.sortedHeap_old hb (Heap.lt_size e)).trans e
    have kT : ∀ b o, s.heap.get? b = some o → (sortedHeap h2 h'.objs.size (as.map Value.ref) out.toArray).get? b = some o := fun b o e => kF b o (ne0 _ _ (hk b o e)) (kb b o e)
    obtain ⟨eF, heF⟩ := PyProof.Rows.sortedHeap_at (vs := as.map Value.ref) (out := out.toArray) hob
    have I1 : Inv X pins σ H { s with heap := sortedHeap h2 h'.objs.size (as.map Value.ref) out.toArray, toks := tk } := I.kept (t' := tk) kT
    have hn0 : H h'.objs.size = none := I.hok.fresh (Nat.le_of_lt hlt)
    have hlen : (zs.map fun z => V.ref z.1).length ≤ sizeLine := by
      have e := pz.length_eq
      rw [List.length_map]
      omega
    have rv : Vals (zs.map fun z => V.ref z.1) out := by
      rw [eout]
      exact vals_maps (fun z : Addr × EntT => V.ref z.1) (fun z => Value.ref z.1) zs fun _ _ => rfl
    have I2 : Inv X pins σ (upd H h'.objs.size (.lst (zs.map fun z => V.ref z.1))) { s with heap := sortedHeap h2 h'.objs.size (as.map Value.ref) out.toArray, toks := tk } :=
      I1.take (h' := sortedHeap h2 h'.objs.size (as.map Value.ref) out.toArray) (t' := tk) (fun b ob _ e => e) (I.fpOk (Nat.le_of_lt hlt) hn0) ⟨hlen, out, eF, rv, heF⟩
    obtain ⟨H2, I3, g, qt⟩ := L2.DX.takeT (P := fun b vs => ∃ (j : Nat) (e : EntT) (kq : Addr), as[j]? = some b ∧ kvs[j]? = some e ∧ vs = [.ref kq, .int (vi e.2)] ∧ H kq = some (.tup (e.1.map kV))) I as _ I2 nd fun b hb => by
      obtain ⟨j, hj⟩ := List.mem_iff_getElem?.mp hb
      obtain ⟨e, kq, t, he, hkq, hg⟩ := pr j b hj
      have hbl : s.heap.objs.size ≤ b := Nat.le_of_lt (hG.above b hb)
      refine ⟨hbl, ?_, [.ref kq, .int (vi e.2)], ⟨j, e, kq, hj, he, rfl, hkq⟩, fun H3 => ⟨(by rw [sizeLine_eq]; show 2 ≤ 16777216; omega), [Value.ref kq, Value.int (vi e.2) t], .cons rfl (.cons ⟨t, rfl⟩ .nil), ⟨_, kF _ _ (ne0 _ _ hg) (ka _ _ hg), rfl, 0, rfl⟩⟩⟩
      rw [upd_ne (ne0 _ _ hg)]
      exact I.hok.fresh hbl
    have gr : ∀ b o, H b = some o → H2 b = some o := fun b o e => g b o (by rw [upd_ne (ne_of_none e hn0)]; exact e)
    refine ⟨.ref h'.objs.size, H2, I3, rfl, q H2 h'.objs.size zs gr hn0 (g _ _ upd_same) esort fun z' hz' => ?_⟩
    obtain ⟨i, i1, i2⟩ := idx z' hz'
    obtain ⟨vs, ⟨j, e, kq, j1, j2, ev, hkq⟩, hH⟩ := qt z'.1 (List.mem_of_getElem? i1)
    have eij : i = j := (List.getElem?_inj (List.getElem?_eq_some_iff.mp i1).1 nd).mp (i1.trans j1.symm)
    subst eij
    have ee : e = z'.2 := Option.some.inj (j2.symm.trans i2)
    rw [ev, ee] at hH
    rw [ee] at hkq
    exact ⟨kq, hH, gr _ _ hkq⟩
def tItems (to : TE) : TE := fun σ H Q => to σ H fun x H1 => ∃ a, x = .ref a ∧ IsD H1 a ∧ rItT x [] H1 Q
theorem pe_items {o : Expr} {to : TE} {ap cp : Pos} (ho : PE X o to)
    (hbase : attributeBase o "items" X.env (eval o X.env) = eval o X.env := by rfl) (hline : (ap.endLine == cp.line) = true := by rfl) : PE X (.Call (.Attribute o "items" ap) [] [] cp) (tItems to) := by
  refine ⟨fun pins s σ H Q I h => ?_⟩
  refine wpAny_Call_method0_late hbase hline (thn (ho.run pins s σ H _ I h) fun v s1 ⟨x, H1, I1, r1, a, ex, isd, q1⟩ => ?_)
  subst ex
  obtain rfl : v = Value.ref a := r1
  obtain ⟨y1, y2, _⟩ := isD_at I1 isd
  exact ⟨"dict", "dict.items", PySem.F.plainAttrs_dict, PySem.F.slot_dict_items, PySem.F.type_dict_items, y1, y2, Calls.callWith_builtin rfl (PySem.evalArgs_none (mt_itT pins s1 σ H1 (.ref a) [] _ [] Q I1 rfl .nil q1))⟩
end
def tIt (es : List (D × D)) : Bool := !es.isEmpty && es.all fun e => match e.1, e.2 with
  | .tuple _, .int _ => true
  | _, _ => false
def pairsD (es : List (D × D)) : List D := es.map fun e => .tuple [e.1, e.2]
def dSortIt : D → Option D
  | .dict es => if tIt es = true ∧ allCmp (pairsD es) = true then some (.list ((pairsD es).mergeSort leD)) else none
  | _ => none
def eSortIt (f : FE) : FE := fun ρ => o1 (f ρ) dSortIt
section
variable {X : Cx} {K : PySem.W.Frag} {κ : Mo}
theorem rt_pairs {H : Hp} : ∀ {kvs : List EntT} {es : List (D × D)}, RT K H kvs es → (es.all fun e => match e.1, e.2 with
  | .tuple _, .int _ => true
  | _, _ => false) = true → (∀ e ∈ kvs, e.2 = .int (vi e.2)) ∧ pairsD es = kvs.map prD
  | [], _, .nil, _ => ⟨fun _ h => by simp at h, rfl⟩
  | (k, v) :: kvs, (kd, d) :: es, h, hall => by
    cases h with
    | cons r t =>
      rw [List.all_cons, Bool.and_eq_true] at hall
      obtain ⟨a1, a2⟩ := rt_pairs t hall.2
      cases d with
      | int i =>
        cases r
        refine ⟨fun e he => ?_, ?_⟩
        · rcases List.mem_cons.mp he with rfl | he
          · rfl
          · exact a1 e he
        · show _ :: pairsD es = _
          rw [a2]
          rfl
      | _ => simp at hall
theorem ra_keys {H : Hp} : ∀ k : List Key, RA K H (k.map kV) (k.map keyD)
  | [] => .nil
  | .inl i :: k => .cons (.int i) (ra_keys k)
  | .inr x :: k => .cons (.str x) (ra_keys k)
theorem ra_pairs {H : Hp} : ∀ {zs : List (Addr × EntT)}, (∀ z ∈ zs, ∃ q, H z.1 = some (.tup [.ref q, .int (vi z.2.2)]) ∧ H q = some (.tup (z.2.1.map kV))) → RA K H (zs.map fun z => V.ref z.1) (zs.map fun z => prD z.2)
  | [], _ => .nil
  | z :: zs, h => by
    obtain ⟨q, h1, h2⟩ := h z (.head _)
    exact .cons (.tup h1 (.cons (.tup h2 (ra_keys _)) (.cons (.int _) .nil))) (ra_pairs fun y hy => h y (.tail _ hy))
theorem qe_sortIt {e1 : Expr} {p ap cp pos : Pos} {f : FE} {c : Esc} (hc : X.calm = true) (hu : X.A.units + 64 < cLine) (hg : Gl X "sorted") (hm : X.mg "sorted" = none) (ha : PE X e1 (tD K (.br 1) f c)) (hκ : κ.one = true := by rfl)
    (hbase : attributeBase e1 "items" X.env (eval e1 X.env) = eval e1 X.env := by rfl) (hline : (ap.endLine == cp.line) = true := by rfl)
    (he : starEach [.Call (.Attribute e1 "items" ap) [] [] cp] X.env = (false, eval (.Call (.Attribute e1 "items" ap) [] [] cp) X.env) :: starEach [] X.env := by rfl) :
    PE X (.Call (.Name "sorted" p) [.Call (.Attribute e1 "items" ap) [] [] cp] [] pos) (tD K κ (eSortIt f) c) :=
  (pe_callB (cr_sortIt hc hu) hg hm (by decide +kernel) (pa_cons (pe_items ha hbase hline) pa_nil he) (by decide) (by decide) he (by rfl)).imp fun σ H Q ⟨B, L, ρ, d, g, es, hf, q⟩ => by
    obtain ⟨dx, h1, h2⟩ := o1_some hf
    unfold dSortIt at h2
    split at h2
    · rename_i es0
      split at h2
      · rename_i hk
        obtain ⟨hk, hcm⟩ := hk
        cases (Option.some.inj h2)
        refine ⟨B, L, ρ, .dict es0, g, es, h1, fun v H1 s1 p1 => ?_⟩
        unfold tIt at hk
        rw [Bool.and_eq_true] at hk
        obtain ⟨hk1, hk2⟩ := hk
        obtain ⟨k0, r0, rfl⟩ : ∃ k0 r0, es0 = k0 :: r0 := by
          cases es0 with
          | nil => cases hk1
          | cons k0 r0 => exact ⟨k0, r0, rfl⟩
        have htup : ∃ ks, k0.1 = .tuple ks := by
          rw [List.all_cons, Bool.and_eq_true] at hk2
          cases e : k0.1 with
          | tuple ks => exact ⟨ks, rfl⟩
          | _ => rw [e] at hk2; simp at hk2
        obtain ⟨ks, hks⟩ := htup
        obtain ⟨a, rfl, q2⟩ := dict_open (fun k r e => by
          cases e
          rw [hks]
          rfl) p1.open
        rcases q2 with ⟨kvs, k1, k2⟩ | ⟨kvs, k1, k2⟩
        · have : ∃ kk, k0.1 = keyD kk := by
            cases k2 with
            | cons r t => exact ⟨_, rfl⟩
          obtain ⟨kk, hkk⟩ := this
          rw [hks] at hkk
          cases kk <;> cases hkk
        · obtain ⟨v1, v2⟩ := rt_pairs k2 hk2
          refine ⟨a, rfl, .inr ⟨kvs, k1⟩, a, kvs, rfl, rfl, k1, fun pp hpp => ?_⟩
          have npp : ∀ b o, H1 b = some o → upd H1 pp (L2.DX.itemsO pp a) b = some o := fun b o eb => by rw [upd_ne (ne_of_none eb hpp)]; exact eb
          have k1' : Rd (upd H1 pp (L2.DX.itemsO pp a)) a (.dT kvs) := by
            rcases k1 with k1 | ⟨o, k1⟩
            · exact .inl (npp _ _ k1)
            · exact .inr ⟨o, npp _ _ k1⟩
          refine ⟨pp, a, kvs, rfl, upd_same, k1', v1, by rw [← v2]; exact hcm, fun H' l zs hkeep hl hl' hsort hz => ?_⟩
          have s2 : Same H1 H' := Same.of fun b o eb => hkeep b o (npp b o eb)
          refine q _ H' (s1.trans s2) ?_
          have hl1 : H l = none := by
            cases e : H1 l with
            | none => exact s1.free e
            | some o => rw [npp l o e] at hl; cases hl
          rw [v2, ← hsort]
          refine Post.new g.ok.trk hl1 hl' ?_ hκ
          exact ra_pairs fun z hz' => by
            obtain ⟨qq, z1, z2⟩ := hz z hz'
            exact ⟨qq, hid_of z1 (fun m => by cases m), hid_of z2 (fun m => by cases m)⟩
      · cases h2
    · cases h2
end
end DS
end
section
set_option Elab.async false
set_option linter.all false
set_option maxRecDepth 100000
set_option maxHeartbeats 4000000
namespace Law
open PySem PySem.Spec PyProof.Rows L2 DS
variable [Tbls]
def topS (i : Nat) : Stmt := PySem.Challenge.pw_planskept_k50_whole_rents.main.body.getD i (.Pass ⟨0, 0, 0, 0⟩)
structure Tp (K : PySem.W.Frag) (mg : Str → Option Value) (ad : Nat → Addr) (fo : Nat → FuncData) (base : Heap) : Prop where
  F_divisor : Fun K "divisor" "divisor" (topS 1) (ad 0) (fo 0)
  b_divisor : Binds K (fo 0) ["first", "second"] []
  g_divisor : mg "divisor" = some (.ref (ad 0))
  F_lowest : Fun K "lowest" "lowest" (topS 2) (ad 1) (fo 1)
  b_lowest : Binds K (fo 1) ["a", "b"] []
  g_lowest : mg "lowest" = some (.ref (ad 1))
  F_plus : Fun K "plus" "plus" (topS 3) (ad 2) (fo 2)
  b_plus : Binds K (fo 2) ["first", "second"] []
  g_plus : mg "plus" = some (.ref (ad 2))
  F_minus : Fun K "minus" "minus" (topS 4) (ad 3) (fo 3)
  b_minus : Binds K (fo 3) ["first", "second"] []
  g_minus : mg "minus" = some (.ref (ad 3))
  F_parted : Fun K "parted" "parted" (topS 5) (ad 4) (fo 4)
  b_parted : Binds K (fo 4) ["first", "second"] []
  g_parted : mg "parted" = some (.ref (ad 4))
  F_is_less : Fun K "is_less" "is_less" (topS 6) (ad 5) (fo 5)
  b_is_less : Binds K (fo 5) ["first", "second"] []
  g_is_less : mg "is_less" = some (.ref (ad 5))
  F_total : Fun K "total" "total" (topS 7) (ad 6) (fo 6)
  b_total : Binds K (fo 6) ["ratios"] []
  g_total : mg "total" = some (.ref (ad 6))
  F_all_orders : Fun K "all_orders" "all_orders" (topS 8) (ad 7) (fo 7)
  b_all_orders : Binds K (fo 7) ["n"] []
  g_all_orders : mg "all_orders" = some (.ref (ad 7))
  F_as_ratio : Fun K "as_ratio" "as_ratio" (topS 10) (ad 8) (fo 8)
  b_as_ratio : Binds K (fo 8) ["number"] []
  g_as_ratio : mg "as_ratio" = some (.ref (ad 8))
  F_is_whole : Fun K "is_whole" "is_whole" (topS 11) (ad 9) (fo 9)
  b_is_whole : Binds K (fo 9) ["value"] []
  g_is_whole : mg "is_whole" = some (.ref (ad 9))
  F_is_ratio : Fun K "is_ratio" "is_ratio" (topS 12) (ad 10) (fo 10)
  b_is_ratio : Binds K (fo 10) ["value"] []
  g_is_ratio : mg "is_ratio" = some (.ref (ad 10))
  F_is_ratio_row : Fun K "is_ratio_row" "is_ratio_row" (topS 13) (ad 11) (fo 11)
  b_is_ratio_row : Binds K (fo 11) ["value", "n"] []
  g_is_ratio_row : mg "is_ratio_row" = some (.ref (ad 11))
  F_best_rooms : Fun K "best_rooms" "best_rooms" (topS 15) (ad 12) (fo 12)
  b_best_rooms : Binds K (fo 12) ["table"] []
  g_best_rooms : mg "best_rooms" = some (.ref (ad 12))
  F_least_leads : Fun K "least_leads" "least_leads" (topS 16) (ad 13) (fo 13)
  b_least_leads : Binds K (fo 13) ["table", "rooms"] []
  g_least_leads : mg "least_leads" = some (.ref (ad 13))
  F_widest_plan : Fun K "widest_plan" "widest_plan" (topS 17) (ad 14) (fo 14)
  b_widest_plan : Binds K (fo 14) ["table", "rent"] []
  g_widest_plan : mg "widest_plan" = some (.ref (ad 14))
  F_fair_rents : Fun K "fair_rents" "fair_rents" (topS 18) (ad 15) (fo 15)
  b_fair_rents : Binds K (fo 15) ["table", "rent"] []
  g_fair_rents : mg "fair_rents" = some (.ref (ad 15))
  F_widest_rents : Fun K "widest_rents" "widest_rents" (topS 19) (ad 16) (fo 16)
  b_widest_rents : Binds K (fo 16) ["table", "rent"] []
  g_widest_rents : mg "widest_rents" = some (.ref (ad 16))
  F_is_room_row : Fun K "is_room_row" "is_room_row" (topS 20) (ad 17) (fo 17)
  b_is_room_row : Binds K (fo 17) ["value", "n"] []
  g_is_room_row : mg "is_room_row" = some (.ref (ad 17))
  F_is_fair_rents : Fun K "is_fair_rents" "is_fair_rents" (topS 21) (ad 18) (fo 18)
  b_is_fair_rents : Binds K (fo 18) ["table", "rent", "rooms", "prices"] []
  g_is_fair_rents : mg "is_fair_rents" = some (.ref (ad 18))
  F_best_fit : Fun K "best_fit" "best_fit" (topS 23) (ad 19) (fo 19)
  b_best_fit : Binds K (fo 19) ["table"] []
  g_best_fit : mg "best_fit" = some (.ref (ad 19))
  F_fit_prices : Fun K "fit_prices" "fit_prices" (topS 24) (ad 20) (fo 20)
  b_fit_prices : Binds K (fo 20) ["table"] []
  g_fit_prices : mg "fit_prices" = some (.ref (ad 20))
  F_are_integers : Fun K "are_integers" "are_integers" (topS 25) (ad 21) (fo 21)
  b_are_integers : Binds K (fo 21) ["value", "count"] []
  g_are_integers : mg "are_integers" = some (.ref (ad 21))
  F_judge_prices : Fun K "judge_prices" "judge_prices" (topS 26) (ad 22) (fo 22)
  b_judge_prices : Binds K (fo 22) ["table", "first", "second"] []
  g_judge_prices : mg "judge_prices" = some (.ref (ad 22))
  F__law_mixed : Fun K "_law_mixed" "_law_mixed" (topS 28) (ad 23) (fo 23)
  b__law_mixed : Binds K (fo 23) ["script", "k"] []
  g__law_mixed : mg "_law_mixed" = some (.ref (ad 23))
  F__law_row : Fun K "_law_row" "_law_row" (topS 29) (ad 24) (fo 24)
  b__law_row : Binds K (fo 24) ["script", "many"] []
  g__law_row : mg "_law_row" = some (.ref (ad 24))
  F__law_is_int : Fun K "_law_is_int" "_law_is_int" (topS 30) (ad 25) (fo 25)
  b__law_is_int : Binds K (fo 25) ["value"] []
  g__law_is_int : mg "_law_is_int" = some (.ref (ad 25))
  F__law_like : Fun K "_law_like" "_law_like" (topS 31) (ad 26) (fo 26)
  b__law_like : Binds K (fo 26) ["value", "due"] []
  g__law_like : mg "_law_like" = some (.ref (ad 26))
  F__law_orders : Fun K "_law_orders" "_law_orders" (topS 32) (ad 27) (fo 27)
  b__law_orders : Binds K (fo 27) ["count"] []
  g__law_orders : mg "_law_orders" = some (.ref (ad 27))
  F__law_common : Fun K "_law_common" "_law_common" (topS 33) (ad 28) (fo 28)
  b__law_common : Binds K (fo 28) ["first", "second"] []
  g__law_common : mg "_law_common" = some (.ref (ad 28))
  F__law_ratio : Fun K "_law_ratio" "_law_ratio" (topS 34) (ad 29) (fo 29)
  b__law_ratio : Binds K (fo 29) ["a", "b"] []
  g__law_ratio : mg "_law_ratio" = some (.ref (ad 29))
  F__law_is_ratio : Fun K "_law_is_ratio" "_law_is_ratio" (topS 35) (ad 30) (fo 30)
  b__law_is_ratio : Binds K (fo 30) ["value"] []
  g__law_is_ratio : mg "_law_is_ratio" = some (.ref (ad 30))
  F__law_ratio_row : Fun K "_law_ratio_row" "_law_ratio_row" (topS 36) (ad 31) (fo 31)
  b__law_ratio_row : Binds K (fo 31) ["value", "n"] []
  g__law_ratio_row : mg "_law_ratio_row" = some (.ref (ad 31))
  F__law_add : Fun K "_law_add" "_law_add" (topS 37) (ad 32) (fo 32)
  b__law_add : Binds K (fo 32) ["x", "y"] []
  g__law_add : mg "_law_add" = some (.ref (ad 32))
  F__law_under : Fun K "_law_under" "_law_under" (topS 38) (ad 33) (fo 33)
  b__law_under : Binds K (fo 33) ["x", "y"] []
  g__law_under : mg "_law_under" = some (.ref (ad 33))
  F__law_dot : Fun K "_law_dot" "_law_dot" (topS 39) (ad 34) (fo 34)
  b__law_dot : Binds K (fo 34) ["ratios", "numbers"] []
  g__law_dot : mg "_law_dot" = some (.ref (ad 34))
  F__law_best : Fun K "_law_best" "_law_best" (topS 40) (ad 35) (fo 35)
  b__law_best : Binds K (fo 35) ["table"] []
  g__law_best : mg "_law_best" = some (.ref (ad 35))
  F__law_fair : Fun K "_law_fair" "_law_fair" (topS 41) (ad 36) (fo 36)
  b__law_fair : Binds K (fo 36) ["table", "rent", "rooms", "prices"] []
  g__law_fair : mg "_law_fair" = some (.ref (ad 36))
  F__law_widest : Fun K "_law_widest" "_law_widest" (topS 42) (ad 37) (fo 37)
  b__law_widest : Binds K (fo 37) ["table", "rent", "best"] []
  g__law_widest : mg "_law_widest" = some (.ref (ad 37))
  F__law_fits_right : Fun K "_law_fits_right" "_law_fits_right" (topS 43) (ad 38) (fo 38)
  b__law_fits_right : Binds K (fo 38) ["table", "rent", "best"] []
  g__law_fits_right : mg "_law_fits_right" = some (.ref (ad 38))
  F__law_changed_right : Fun K "_law_changed_right" "_law_changed_right" (topS 44) (ad 39) (fo 39)
  b__law_changed_right : Binds K (fo 39) ["table", "rent", "rooms", "prices", "row"] []
  g__law_changed_right : mg "_law_changed_right" = some (.ref (ad 39))
  F_law : Fun K "law" "law" (topS 45) (ad 40) (fo 40)
  b_law : Binds K (fo 40) ["script"] []
  g_law : mg "law" = some (.ref (ad 40))
  z_abs : mg "abs" = none
  z_all : mg "all" = none
  z_any : mg "any" = none
  z_bool : mg "bool" = none
  z_enumerate : mg "enumerate" = none
  z_int : mg "int" = none
  z_isinstance : mg "isinstance" = none
  z_len : mg "len" = none
  z_list : mg "list" = none
  z_max : mg "max" = none
  z_min : mg "min" = none
  z_range : mg "range" = none
  z_sorted : mg "sorted" = none
  z_str : mg "str" = none
  z_sum : mg "sum" = none
  z_tuple : mg "tuple" = none
  z_zip : mg "zip" = none
theorem sc_divisor : FnScope ["first", "second"] ["first", "second"] (defScope (topS 1)) := ⟨rfl, rfl, rfl, by decide +kernel, rfl, by decide +kernel, by decide +kernel⟩
def den_divisor : Fn := dfun 2 2 (sSeq (sPar 0 1 (eCB (d1 dAbs) (aCons (eVar 0) aNil)) (eCB (d1 dAbs) (aCons (eVar 1) aNil)) ([] ++ []))
  (sSeq (sWhile 100000 (tCmp dGt (eVar 1) (eC (.int 0)))
  (sPar 0 1 (eVar 1) (eOp dMod (eVar 0) (eVar 1)) ([(1, 0)] ++ ([(0, 1)] ++ [(1, 1)]))))
  (sRet (eVar 0))))
theorem ok_divisor {P : Program} {w : World} {K : PySem.W.Frag} {mg : Str → Option Value} {base : Heap} {ad : Nat → Addr} {fo : Nat → FuncData} (T : Tp K mg ad fo base) : FnOk P w K mg base CX0 1 (ad 0) (fo 0) ["first", "second"] (spD K 2 den_divisor) :=
  fun_den (k := 0) T.F_divisor sc_divisor rfl rfl (by decide) fun cdv A outer s H E hr =>
  (ss_cons (ss_par 0 1 rfl sc_divisor.nd (qe_bF call_abs cf_abs (by rfl) T.z_abs (by decide +kernel) (qa_cons (qv 0) qa_nil)) (qe_bF call_abs cf_abs (by rfl) T.z_abs (by decide +kernel) (qa_cons (qv 1) qa_nil)) (by rfl))
  (ss_cons (ss_while 100000 PassesOwn.never (qt_cmp (op_gtA (hu_of64 hr)) oc_gt (qv 1) qint (nomark _))
  (ss_one (ss_par 0 1 rfl sc_divisor.nd (qv 1) (qe_mod (qv 0) (qv 1)) (by rfl))))
  (ss_one (ss_ret (qv 0)))))
theorem sc_lowest : FnScope ["a", "b", "common"] ["a", "b"] (defScope (topS 2)) := ⟨rfl, rfl, rfl, by decide +kernel, rfl, by decide +kernel, by decide +kernel⟩
def den_lowest : Fn := dfun 3 2 (sSeq (sSet 2 0 (eIfD (tCmp dGt (eVar 1) (eC (.int 0))) (eCall 2 den_divisor (aCons (eVar 0) (aCons (eVar 1) aNil))) (eUn dNeg (eCall 2 den_divisor (aCons (eVar 0) (aCons (eVar 1) aNil))))) (([(0, 0)] ++ ([(1, 0)] ++ [])) ++ []))
  (sRet (eTup (aCons (eOp dFdiv (eVar 0) (eVar 2)) (aCons (eOp dFdiv (eVar 1) (eVar 2)) aNil)))))
theorem ok_lowest {P : Program} {w : World} {K : PySem.W.Frag} {mg : Str → Option Value} {base : Heap} {ad : Nat → Addr} {fo : Nat → FuncData} (T : Tp K mg ad fo base) : FnOk P w K mg base CX0 2 (ad 1) (fo 1) ["a", "b"] (spD K 2 den_lowest) :=
  fun_den (k := 1) T.F_lowest sc_lowest rfl rfl (by decide) fun cdv A outer s H E hr =>
  (ss_cons (ss_set 2 0 sc_lowest.nd (qe_if (qt_cmp (op_gtA (hu_of64 hr)) oc_gt (qv 1) qint (nomark _)) (qe_call (ok_divisor T) (hr.mono (by decide)) (by rfl) T.g_divisor T.F_divisor.kp T.b_divisor (qa_cons (qv 0) (qa_cons (qv 1) qa_nil))) (qe_neg (qe_call (ok_divisor T) (hr.mono (by decide)) (by rfl) T.g_divisor T.F_divisor.kp T.b_divisor (qa_cons (qv 0) (qa_cons (qv 1) qa_nil))))))
  (ss_one (ss_ret (qe_tup (qa_cons (qe_fdiv (qv 0) (qv 2)) (qa_cons (qe_fdiv (qv 1) (qv 2)) qa_nil))))))
theorem sc_plus : FnScope ["first", "second"] ["first", "second"] (defScope (topS 3)) := ⟨rfl, rfl, rfl, by decide +kernel, rfl, by decide +kernel, by decide +kernel⟩
def den_plus : Fn := dfun 2 2 (sRet (eCall 2 den_lowest (aCons (eOp dAdd (eOp dMul (eIx (eVar 0) (eC (.int 0))) (eIx (eVar 1) (eC (.int 1)))) (eOp dMul (eIx (eVar 1) (eC (.int 0))) (eIx (eVar 0) (eC (.int 1))))) (aCons (eOp dMul (eIx (eVar 0) (eC (.int 1))) (eIx (eVar 1) (eC (.int 1)))) aNil))))
theorem ok_plus {P : Program} {w : World} {K : PySem.W.Frag} {mg : Str → Option Value} {base : Heap} {ad : Nat → Addr} {fo : Nat → FuncData} (T : Tp K mg ad fo base) : FnOk P w K mg base CX0 3 (ad 2) (fo 2) ["first", "second"] (spD K 2 den_plus) :=
  fun_den (k := 2) T.F_plus sc_plus rfl rfl (by decide) fun cdv A outer s H E hr =>
  (ss_one (ss_ret (qe_call (ok_lowest T) (hr.mono (by decide)) (by rfl) T.g_lowest T.F_lowest.kp T.b_lowest (qa_cons (qe_add (qe_mul (qe_ix (qv 0) qint (fun _ _ => rfl)) (qe_ix (qv 1) qint (fun _ _ => rfl))) (qe_mul (qe_ix (qv 1) qint (fun _ _ => rfl)) (qe_ix (qv 0) qint (fun _ _ => rfl)))) (qa_cons (qe_mul (qe_ix (qv 0) qint (fun _ _ => rfl)) (qe_ix (qv 1) qint (fun _ _ => rfl))) qa_nil)))))
theorem sc_minus : FnScope ["first", "second"] ["first", "second"] (defScope (topS 4)) := ⟨rfl, rfl, rfl, by decide +kernel, rfl, by decide +kernel, by decide +kernel⟩
def den_minus : Fn := dfun 2 2 (sRet (eCall 2 den_lowest (aCons (eOp dSub (eOp dMul (eIx (eVar 0) (eC (.int 0))) (eIx (eVar 1) (eC (.int 1)))) (eOp dMul (eIx (eVar 1) (eC (.int 0))) (eIx (eVar 0) (eC (.int 1))))) (aCons (eOp dMul (eIx (eVar 0) (eC (.int 1))) (eIx (eVar 1) (eC (.int 1)))) aNil))))
theorem ok_minus {P : Program} {w : World} {K : PySem.W.Frag} {mg : Str → Option Value} {base : Heap} {ad : Nat → Addr} {fo : Nat → FuncData} (T : Tp K mg ad fo base) : FnOk P w K mg base CX0 3 (ad 3) (fo 3) ["first", "second"] (spD K 2 den_minus) :=
  fun_den (k := 2) T.F_minus sc_minus rfl rfl (by decide) fun cdv A outer s H E hr =>
  (ss_one (ss_ret (qe_call (ok_lowest T) (hr.mono (by decide)) (by rfl) T.g_lowest T.F_lowest.kp T.b_lowest (qa_cons (qe_sub (qe_mul (qe_ix (qv 0) qint (fun _ _ => rfl)) (qe_ix (qv 1) qint (fun _ _ => rfl))) (qe_mul (qe_ix (qv 1) qint (fun _ _ => rfl)) (qe_ix (qv 0) qint (fun _ _ => rfl)))) (qa_cons (qe_mul (qe_ix (qv 0) qint (fun _ _ => rfl)) (qe_ix (qv 1) qint (fun _ _ => rfl))) qa_nil)))))
theorem sc_parted : FnScope ["first", "second"] ["first", "second"] (defScope (topS 5)) := ⟨rfl, rfl, rfl, by decide +kernel, rfl, by decide +kernel, by decide +kernel⟩
def den_parted : Fn := dfun 2 2 (sRet (eCall 2 den_lowest (aCons (eOp dMul (eIx (eVar 0) (eC (.int 0))) (eIx (eVar 1) (eC (.int 1)))) (aCons (eOp dMul (eIx (eVar 0) (eC (.int 1))) (eIx (eVar 1) (eC (.int 0)))) aNil))))
theorem ok_parted {P : Program} {w : World} {K : PySem.W.Frag} {mg : Str → Option Value} {base : Heap} {ad : Nat → Addr} {fo : Nat → FuncData} (T : Tp K mg ad fo base) : FnOk P w K mg base CX0 3 (ad 4) (fo 4) ["first", "second"] (spD K 2 den_parted) :=
  fun_den (k := 2) T.F_parted sc_parted rfl rfl (by decide) fun cdv A outer s H E hr =>
  (ss_one (ss_ret (qe_call (ok_lowest T) (hr.mono (by decide)) (by rfl) T.g_lowest T.F_lowest.kp T.b_lowest (qa_cons (qe_mul (qe_ix (qv 0) qint (fun _ _ => rfl)) (qe_ix (qv 1) qint (fun _ _ => rfl))) (qa_cons (qe_mul (qe_ix (qv 0) qint (fun _ _ => rfl)) (qe_ix (qv 1) qint (fun _ _ => rfl))) qa_nil)))))
theorem sc_is_less : FnScope ["first", "second"] ["first", "second"] (defScope (topS 6)) := ⟨rfl, rfl, rfl, by decide +kernel, rfl, by decide +kernel, by decide +kernel⟩
def den_is_less : Fn := dfun 2 2 (sRet (eB (tCmp dLt (eOp dMul (eIx (eVar 0) (eC (.int 0))) (eIx (eVar 1) (eC (.int 1)))) (eOp dMul (eIx (eVar 1) (eC (.int 0))) (eIx (eVar 0) (eC (.int 1)))))))
theorem ok_is_less {P : Program} {w : World} {K : PySem.W.Frag} {mg : Str → Option Value} {base : Heap} {ad : Nat → Addr} {fo : Nat → FuncData} (T : Tp K mg ad fo base) : FnOk P w K mg base CX0 1 (ad 5) (fo 5) ["first", "second"] (spD K 2 den_is_less) :=
  fun_den (k := 0) T.F_is_less sc_is_less rfl rfl (by decide) fun cdv A outer s H E hr =>
  (ss_one (ss_ret (qe_cmp (op_ltA (hu_of64 hr)) oc_lt (qe_mul (qe_ix (qv 0) qint (fun _ _ => rfl)) (qe_ix (qv 1) qint (fun _ _ => rfl))) (qe_mul (qe_ix (qv 1) qint (fun _ _ => rfl)) (qe_ix (qv 0) qint (fun _ _ => rfl))) (nomark _))))
theorem sc_total : FnScope ["ratios", "found", "ratio"] ["ratios"] (defScope (topS 7)) := ⟨rfl, rfl, rfl, by decide +kernel, rfl, by decide +kernel, by decide +kernel⟩
def den_total : Fn := dfun 3 1 (sSeq (sSet 1 0 (eTup (aCons (eC (.int 0)) (aCons (eC (.int 1)) aNil))) ([] ++ ([] ++ [])))
  (sSeq (sFor (iSeq (eVar 0)) [(0, 0)] (.nm 2)
  (sSet 1 0 (eCall 2 den_plus (aCons (eVar 1) (aCons (eVar 2) aNil))) ([(1, 0)] ++ ([(2, 0)] ++ []))))
  (sRet (eVar 1))))
theorem ok_total {P : Program} {w : World} {K : PySem.W.Frag} {mg : Str → Option Value} {base : Heap} {ad : Nat → Addr} {fo : Nat → FuncData} (T : Tp K mg ad fo base) : FnOk P w K mg base CX0 4 (ad 6) (fo 6) ["ratios"] (spD K 1 den_total) :=
  fun_den (k := 3) T.F_total sc_total rfl rfl (by decide) fun cdv A outer s H E hr =>
  (ss_cons (ss_set 1 0 sc_total.nd (qe_tup (qa_cons qint (qa_cons qint qa_nil))))
  (ss_cons (ss_for PassesOwn.never rfl (qi_seq (qv 0)) (gg 2 sc_total.nd)
  (ss_one (ss_set 1 0 sc_total.nd (qe_call (ok_plus T) (hr.mono (by decide)) (by rfl) T.g_plus T.F_plus.kp T.b_plus (qa_cons (qv 1) (qa_cons (qv 2) qa_nil))))))
  (ss_one (ss_ret (qv 1)))))
theorem sc_all_orders : FnScope ["n", "rows", "_", "row", "index"] ["n"] (defScope (topS 8)) := ⟨rfl, rfl, rfl, by decide +kernel, rfl, by decide +kernel, by decide +kernel⟩
def den_all_orders : Fn := dfun 5 1 (sSeq (sSet 1 0 (eLst (aCons (eTup aNil) aNil)) ([] ++ []))
  (sSeq (sFor (iRange1 (eVar 0)) [] (.nm 2)
  (sSet 1 0 (eLc2 (iSeq (eVar 1)) (.nm 3) tTrue (iRange1 (eVar 0)) (.nm 4) (tCmp dNotIn (eVar 4) (eVar 3)) (eOp dAdd (eVar 3) (eTup (aCons (eVar 4) aNil))) [3, 4] [4]) ([(1, 1)] ++ ([] ++ ([(3, 1)] ++ ([(4, 0)] ++ []))))))
  (sRet (eVar 1))))
theorem ok_all_orders {P : Program} {w : World} {K : PySem.W.Frag} {mg : Str → Option Value} {base : Heap} {ad : Nat → Addr} {fo : Nat → FuncData} (T : Tp K mg ad fo base) : FnOk P w K mg base CX0 1 (ad 7) (fo 7) ["n"] (spD K 1 den_all_orders) :=
  fun_den (k := 0) T.F_all_orders sc_all_orders rfl rfl (by decide) fun cdv A outer s H E hr =>
  (ss_cons (ss_set 1 0 sc_all_orders.nd (qe_lst (qa_cons (qe_tup qa_nil) qa_nil)))
  (ss_cons (ss_for PassesOwn.never rfl (qi_range1 (by rfl) T.z_range (qv 0)) (gg 2 sc_all_orders.nd)
  (ss_one (ss_setLc2 1 0 (own := [("row", 3), ("index", 4)]) (vs1 := [4]) rfl sc_all_orders.nd (qi_seq (qv 1)) (blkOk_by (own := [("row", 3), ("index", 4)]) (N := ["n", "rows", "_", "row", "index"]) (sc := (defScope (topS 8))) (by decide +kernel)) (by rfl) (fun _ _ _ _ _ => (gg 3 sc_all_orders.nd)) (fun _ _ _ _ _ => qts_nil) (fun _ _ _ _ _ => (qi_range1 (by rfl) T.z_range (qv 0))) (fun _ _ _ _ _ => (gg 4 sc_all_orders.nd)) (fun _ _ _ _ _ => (qts_one (qt_cmp ((op_notInD (hu2_of hr)).or op_notIn_seq) oc_notIn (qv 4) (qv 3) (by rfl)))) (fun _ _ _ _ _ => (qe_add (qv 3) (qe_tup (qa_cons (qv 4) qa_nil)))))))
  (ss_one (ss_ret (qv 1)))))
theorem sc_as_ratio : FnScope ["number"] ["number"] (defScope (topS 10)) := ⟨rfl, rfl, rfl, by decide +kernel, rfl, by decide +kernel, by decide +kernel⟩
def den_as_ratio : Fn := dfun 1 1 (sRet (eIfD (tTru (eIsi "int" (eVar 0))) (eTup (aCons (eVar 0) (aCons (eC (.int 1)) aNil))) (eVar 0)))
theorem ok_as_ratio {P : Program} {w : World} {K : PySem.W.Frag} {mg : Str → Option Value} {base : Heap} {ad : Nat → Addr} {fo : Nat → FuncData} (T : Tp K mg ad fo base) : FnOk P w K mg base CX0 1 (ad 8) (fo 8) ["number"] (spD K 1 den_as_ratio) :=
  fun_den (k := 0) T.F_as_ratio sc_as_ratio rfl rfl (by decide) fun cdv A outer s H E hr =>
  (ss_one (ss_ret (qe_if (qt_tru (qe_isi (by rfl) T.z_isinstance (qv 0) (by rfl) T.z_int (by decide +kernel)) (by intro _; rfl)) (qe_tup (qa_cons (qv 0) (qa_cons qint qa_nil))) (qv 0))))
theorem sc_is_whole : FnScope ["value"] ["value"] (defScope (topS 11)) := ⟨rfl, rfl, rfl, by decide +kernel, rfl, by decide +kernel, by decide +kernel⟩
def den_is_whole : Fn := dfun 1 1 (sRet (eAndD (eIsi "int" (eVar 0)) (eB (tNotD (tTru (eIsi "bool" (eVar 0)))))))
theorem ok_is_whole {P : Program} {w : World} {K : PySem.W.Frag} {mg : Str → Option Value} {base : Heap} {ad : Nat → Addr} {fo : Nat → FuncData} (T : Tp K mg ad fo base) : FnOk P w K mg base CX0 1 (ad 9) (fo 9) ["value"] (spD K 1 den_is_whole) :=
  fun_den (k := 0) T.F_is_whole sc_is_whole rfl rfl (by decide) fun cdv A outer s H E hr =>
  (ss_one (ss_ret (qe_and (qe_isi (by rfl) T.z_isinstance (qv 0) (by rfl) T.z_int (by decide +kernel)) (qe_one (qe_not (qe_isi (by rfl) T.z_isinstance (qv 0) (by rfl) T.z_bool (by decide +kernel)))))))
theorem sc_is_ratio : FnScope ["value"] ["value"] (defScope (topS 12)) := ⟨rfl, rfl, rfl, by decide +kernel, rfl, by decide +kernel, by decide +kernel⟩
def den_is_ratio : Fn := dfun 1 1 (sSeq (sIf (tOrD (tNotD (tTru (eIsi "tuple" (eVar 0)))) (tCmp dNe (eCB (d1 dLen) (aCons (eVar 0) aNil)) (eC (.int 2))))
  (sRet (eC (.bool false)))
  sNil)
  (sSeq (sIf (tOrD (tNotD (tTru (eCall 1 den_is_whole (aCons (eIx (eVar 0) (eC (.int 0))) aNil)))) (tNotD (tTru (eCall 1 den_is_whole (aCons (eIx (eVar 0) (eC (.int 1))) aNil)))))
  (sRet (eC (.bool false)))
  sNil)
  (sRet (eAndD (eB (tCmp dGt (eIx (eVar 0) (eC (.int 1))) (eC (.int 0)))) (eB (tCmp dEq (eCall 2 den_divisor (aCons (eIx (eVar 0) (eC (.int 0))) (aCons (eIx (eVar 0) (eC (.int 1))) aNil))) (eC (.int 1))))))))
theorem ok_is_ratio {P : Program} {w : World} {K : PySem.W.Frag} {mg : Str → Option Value} {base : Heap} {ad : Nat → Addr} {fo : Nat → FuncData} (T : Tp K mg ad fo base) : FnOk P w K mg base CX0 2 (ad 10) (fo 10) ["value"] (spD K 1 den_is_ratio) :=
  fun_den (k := 1) T.F_is_ratio sc_is_ratio rfl rfl (by decide) fun cdv A outer s H E hr =>
  (ss_cons (ss_if (PW.pt (qw_or (qt_not (qt_tru (qe_isi (by rfl) T.z_isinstance (qv 0) (by rfl) T.z_tuple (by decide +kernel)) (by intro _; rfl))) (qw_or1 (qt_cmp (op_neD (hu_of64 hr)) oc_ne (qe_bF call_len_seq cf_len (by rfl) T.z_len (by decide +kernel) (qa_cons (qv 0) qa_nil)) qint (nomark _)))))
  (ss_one (ss_ret qbl))
  ss_nil)
  (ss_cons (ss_if (PW.pt (qw_or (qt_not (qt_tru (qe_call (ok_is_whole T) (hr.mono (by decide)) (by rfl) T.g_is_whole T.F_is_whole.kp T.b_is_whole (qa_cons (qe_ix (qv 0) qint (fun _ _ => rfl)) qa_nil)) (by intro _; rfl))) (qw_or1 (qt_not (qt_tru (qe_call (ok_is_whole T) (hr.mono (by decide)) (by rfl) T.g_is_whole T.F_is_whole.kp T.b_is_whole (qa_cons (qe_ix (qv 0) qint (fun _ _ => rfl)) qa_nil)) (by intro _; rfl))))))
  (ss_one (ss_ret qbl))
  ss_nil)
  (ss_one (ss_ret (qe_and (qe_cmp (op_gtA (hu_of64 hr)) oc_gt (qe_ix (qv 0) qint (fun _ _ => rfl)) qint (nomark _)) (qe_one (qe_cmp (op_eqD (hu_of64 hr)) oc_eq (qe_call (ok_divisor T) (hr.mono (by decide)) (by rfl) T.g_divisor T.F_divisor.kp T.b_divisor (qa_cons (qe_ix (qv 0) qint (fun _ _ => rfl)) (qa_cons (qe_ix (qv 0) qint (fun _ _ => rfl)) qa_nil))) qint (nomark _))))))))
theorem sc_is_ratio_row : FnScope ["value", "n", "part"] ["value", "n"] (defScope (topS 13)) := ⟨rfl, rfl, rfl, by decide +kernel, rfl, by decide +kernel, by decide +kernel⟩
def den_is_ratio_row : Fn := dfun 3 2 (sRet (eAndD (eIsi "tuple" (eVar 0)) (eAndD (eB (tCmp dEq (eCB (d1 dLen) (aCons (eVar 0) aNil)) (eVar 1))) (eCB (d1 dAll) (aCons (eLc (iSeq (eVar 0)) (.nm 2) tTrue (eCall 1 den_is_ratio (aCons (eVar 2) aNil)) [2]) aNil)))))
theorem ok_is_ratio_row {P : Program} {w : World} {K : PySem.W.Frag} {mg : Str → Option Value} {base : Heap} {ad : Nat → Addr} {fo : Nat → FuncData} (T : Tp K mg ad fo base) : FnOk P w K mg base CX0 3 (ad 11) (fo 11) ["value", "n"] (spD K 2 den_is_ratio_row) :=
  fun_den (k := 2) T.F_is_ratio_row sc_is_ratio_row rfl rfl (by decide) fun cdv A outer s H E hr =>
  (ss_one (ss_ret (qe_and (qe_isi (by rfl) T.z_isinstance (qv 0) (by rfl) T.z_tuple (by decide +kernel)) (qe_and (qe_cmp (op_eqD (hu_of64 hr)) oc_eq (qe_bF call_len_seq cf_len (by rfl) T.z_len (by decide +kernel) (qa_cons (qv 0) qa_nil)) (qv 1) (nomark _)) (qe_one (qe_bF (cr_all rfl) cf_all (by rfl) T.z_all (by decide +kernel) (qa_cons (qe_lc (own := [("part", 2)]) rfl sc_is_ratio_row.nd (qi_seq (qv 0)) (blkOk_by (own := [("part", 2)]) (N := ["value", "n", "part"]) (sc := (defScope (topS 13))) (by decide +kernel)) (fun _ _ _ _ _ => (gg 2 sc_is_ratio_row.nd)) (fun _ _ _ _ _ => qts_nil) (fun _ _ _ _ _ => (qe_call (ok_is_ratio T) (hr.mono (by decide)) (by rfl) T.g_is_ratio T.F_is_ratio.kp T.b_is_ratio (qa_cons (qv 2) qa_nil)))) qa_nil)))))))
theorem sc_best_rooms : FnScope ["table", "best", "rooms", "worth", "person", "room"] ["table"] (defScope (topS 15)) := ⟨rfl, rfl, rfl, by decide +kernel, rfl, by decide +kernel, by decide +kernel⟩
def den_best_rooms : Fn := dfun 6 1 (sSeq (sSet 1 0 (eC .none) [])
  (sSeq (sFor (iSeq (eCall 1 den_all_orders (aCons (eCB (d1 dLen) (aCons (eVar 0) aNil)) aNil))) ([] ++ []) (.nm 2)
  (sSeq (sSet 3 0 (eCB (d1 dSum) (aCons (eLc (iEnumD (eVar 2)) (.tp [(.nm 4), (.nm 5)]) tTrue (eIx (eIx (eVar 0) (eVar 4)) (eVar 5)) [4, 5]) aNil)) [])
  (sIf (tOrD (tIsND (eVar 1)) (tCmp dGt (eVar 3) (eIx (eVar 1) (eC (.int 0)))))
  (sSet 1 0 (eTup (aCons (eVar 3) (aCons (eVar 2) aNil))) ([(3, 0)] ++ ([(2, 0)] ++ [])))
  sNil)))
  (sRet (eIx (eVar 1) (eC (.int 1))))))
theorem ok_best_rooms {P : Program} {w : World} {K : PySem.W.Frag} {mg : Str → Option Value} {base : Heap} {ad : Nat → Addr} {fo : Nat → FuncData} (T : Tp K mg ad fo base) : FnOk P w K mg base CX0 2 (ad 12) (fo 12) ["table"] (spD K 1 den_best_rooms) :=
  fun_den (k := 1) T.F_best_rooms sc_best_rooms rfl rfl (by decide) fun cdv A outer s H E hr =>
  (ss_cons (ss_set 1 0 sc_best_rooms.nd qnon)
  (ss_cons (ss_for PassesOwn.never rfl (qi_seq (qe_call (ok_all_orders T) (hr.mono (by decide)) (by rfl) T.g_all_orders T.F_all_orders.kp T.b_all_orders (qa_cons (qe_bF call_len_seq cf_len (by rfl) T.z_len (by decide +kernel) (qa_cons (qv 0) qa_nil)) qa_nil))) (gg 2 sc_best_rooms.nd)
  (ss_cons (ss_set 3 0 sc_best_rooms.nd (qe_bF (cr_sumA rfl) cf_sum (by rfl) T.z_sum (by decide +kernel) (qa_cons (qe_lc (own := [("person", 4), ("room", 5)]) rfl sc_best_rooms.nd (qi_enum (by rfl) T.z_enumerate (qv 2)) (blkOk_by (own := [("person", 4), ("room", 5)]) (N := ["table", "best", "rooms", "worth", "person", "room"]) (sc := (defScope (topS 15))) (by decide +kernel)) (fun _ _ _ _ _ => (gg_tup rfl (ggs_cons (gg 4 sc_best_rooms.nd) (ggs_cons (gg 5 sc_best_rooms.nd) ggs_nil)))) (fun _ _ _ _ _ => qts_nil) (fun _ _ _ _ _ => (qe_ix (qe_ix (qv 0) (qv 4) (fun _ _ => rfl)) (qv 5) (fun _ _ => rfl)))) qa_nil)))
  (ss_one (ss_if (PW.pt (qw_or (qt_isN (qv 1)) (qw_or1 (qt_cmp (op_gtA (hu_of64 hr)) oc_gt (qv 3) (qe_ix (qv 1) qint (fun _ _ => rfl)) (nomark _)))))
  (ss_one (ss_set 1 0 sc_best_rooms.nd (qe_tup (qa_cons (qv 3) (qa_cons (qv 2) qa_nil)))))
  ss_nil))))
  (ss_one (ss_ret (qe_ix (qv 1) qint (fun _ _ => rfl))))))
theorem sc_least_leads : FnScope ["table", "rooms", "n", "leads", "_", "before", "person", "asked", "k"] ["table", "rooms"] (defScope (topS 16)) := ⟨rfl, rfl, rfl, by decide +kernel, rfl, by decide +kernel, by decide +kernel⟩
def den_least_leads : Fn := dfun 9 2 (sSeq (sSet 2 0 (eCB (d1 dLen) (aCons (eVar 1) aNil)) [])
  (sSeq (sSet 3 1 (eOp dMul (eLst (aCons (eC (.int 0)) aNil)) (eVar 2)) (([] ++ []) ++ [(2, 1)]))
  (sSeq (sFor (iRange1 (eVar 2)) [] (.nm 4)
  (sSeq (sSet 5 0 (eVar 3) [(3, 0)])
  (sSeq (sSet 3 1 (eLst aNil) [])
  (sFor (iRange1 (eVar 2)) [] (.nm 6)
  (sSeq (sSet 7 0 (eLc (iRange1 (eVar 2)) (.nm 8) tTrue (eOp dSub (eOp dAdd (eIx (eVar 5) (eVar 8)) (eIx (eIx (eVar 0) (eVar 6)) (eIx (eVar 1) (eVar 8)))) (eIx (eIx (eVar 0) (eVar 8)) (eIx (eVar 1) (eVar 8)))) [8]) ([] ++ (([(5, 2)] ++ [(0, 3)]) ++ [(0, 3)])))
  (sApp 3 (eCB (d1 dMax1) (aCons (eVar 7) aNil)) []))))))
  (sRet (eVar 3)))))
theorem ok_least_leads {P : Program} {w : World} {K : PySem.W.Frag} {mg : Str → Option Value} {base : Heap} {ad : Nat → Addr} {fo : Nat → FuncData} (T : Tp K mg ad fo base) : FnOk P w K mg base CX0 1 (ad 13) (fo 13) ["table", "rooms"] (spD K 2 den_least_leads) :=
  fun_den (k := 0) T.F_least_leads sc_least_leads rfl rfl (by decide) fun cdv A outer s H E hr =>
  (ss_cons (ss_set 2 0 sc_least_leads.nd (qe_bF call_len_seq cf_len (by rfl) T.z_len (by decide +kernel) (qa_cons (qv 1) qa_nil)))
  (ss_cons (ss_set 3 1 sc_least_leads.nd (qe_mul (qe_lst (qa_cons qint qa_nil)) (qv 2)))
  (ss_cons (ss_for PassesOwn.never rfl (qi_range1 (by rfl) T.z_range (qv 2)) (gg 4 sc_least_leads.nd)
  (ss_cons (ss_set 5 0 sc_least_leads.nd (qv 3))
  (ss_cons (ss_set 3 1 sc_least_leads.nd (qe_lst qa_nil))
  (ss_one (ss_for PassesOwn.never rfl (qi_range1 (by rfl) T.z_range (qv 2)) (gg 6 sc_least_leads.nd)
  (ss_cons (ss_setLc 7 0 (own := [("k", 8)]) rfl sc_least_leads.nd (qi_range1 (by rfl) T.z_range (qv 2)) (blkOk_by (own := [("k", 8)]) (N := ["table", "rooms", "n", "leads", "_", "before", "person", "asked", "k"]) (sc := (defScope (topS 16))) (by decide +kernel)) (fun _ _ _ _ _ => (gg 8 sc_least_leads.nd)) (fun _ _ _ _ _ => qts_nil) (fun _ _ _ _ _ => (qe_sub (qe_add (qe_ix (qv 5) (qv 8) (fun _ _ => rfl)) (qe_ix (qe_ix (qv 0) (qv 6) (fun _ _ => rfl)) (qe_ix (qv 1) (qv 8) (fun _ _ => rfl)) (fun _ _ => rfl))) (qe_ix (qe_ix (qv 0) (qv 8) (fun _ _ => rfl)) (qe_ix (qv 1) (qv 8) (fun _ _ => rfl)) (fun _ _ => rfl)))))
  (ss_one (ss_app 3 (ps_expr (pe_bm PySem.F.plainAttrs_list PySem.F.slot_list_append PySem.F.type_list_append mt_append (pv 3) (pa_cons (qe_bF (cr_maxD rfl (hu_of64 hr)) cf_max1 (by rfl) T.z_max (by decide +kernel) (qa_cons (qv 7) qa_nil)) pa_nil)))))))))))
  (ss_one (ss_ret (qv 3))))))
theorem sc_widest_plan : FnScope ["table", "rent", "n", "rooms", "leads", "person", "room", "worths", "gain", "prices"] ["table", "rent"] (defScope (topS 17)) := ⟨rfl, rfl, rfl, by decide +kernel, rfl, by decide +kernel, by decide +kernel⟩
def den_widest_plan : Fn := dfun 10 2 (sSeq (sSet 2 0 (eCB (d1 dLen) (aCons (eVar 0) aNil)) [])
  (sSeq (sSet 3 0 (eCall 1 den_best_rooms (aCons (eVar 0) aNil)) ([(0, 0)] ++ []))
  (sSeq (sSet 4 0 (eCall 2 den_least_leads (aCons (eVar 0) (aCons (eVar 3) aNil))) ([(0, 0)] ++ ([(3, 0)] ++ [])))
  (sSeq (sSet 7 0 (eLc (iEnumD (eVar 3)) (.tp [(.nm 5), (.nm 6)]) tTrue (eIx (eIx (eVar 0) (eVar 5)) (eVar 6)) [5, 6]) ([(3, 1)] ++ [(0, 2)]))
  (sSeq (sSet 8 0 (eCall 2 den_parted (aCons (eCall 2 den_minus (aCons (eTup (aCons (eOp dSub (eCB (d1 dSum) (aCons (eVar 7) aNil)) (eCB (d1 dSum) (aCons (eVar 4) aNil))) (aCons (eC (.int 1)) aNil))) (aCons (eCall 1 den_as_ratio (aCons (eVar 1) aNil)) aNil))) (aCons (eTup (aCons (eVar 2) (aCons (eC (.int 1)) aNil))) aNil))) (((([] ++ []) ++ ([] ++ [])) ++ (([(1, 0)] ++ []) ++ [])) ++ (([(2, 0)] ++ ([] ++ [])) ++ [])))
  (sSeq (sSet 9 1 (eOp dMul (eLst (aCons (eVar 8) aNil)) (eVar 2)) (([(8, 0)] ++ []) ++ [(2, 1)]))
  (sSeq (sFor (iEnumD (eVar 3)) [(3, 0)] (.tp [(.nm 5), (.nm 6)])
  (sPut 9 (eVar 6) (eCall 2 den_minus (aCons (eTup (aCons (eOp dSub (eIx (eVar 7) (eVar 5)) (eIx (eVar 4) (eVar 5))) (aCons (eC (.int 1)) aNil))) (aCons (eVar 8) aNil))) ((([(7, 2)] ++ [(4, 2)]) ++ ([] ++ [])) ++ ([(8, 0)] ++ []))))
  (sRet (eTup (aCons (eVar 3) (aCons (eCB (d1 dTuple) (aCons (eVar 9) aNil)) (aCons (eVar 8) aNil))))))))))))
theorem ok_widest_plan {P : Program} {w : World} {K : PySem.W.Frag} {mg : Str → Option Value} {base : Heap} {ad : Nat → Addr} {fo : Nat → FuncData} (T : Tp K mg ad fo base) : FnOk P w K mg base CX0 4 (ad 14) (fo 14) ["table", "rent"] (spD K 2 den_widest_plan) :=
  fun_den (k := 3) T.F_widest_plan sc_widest_plan rfl rfl (by decide) fun cdv A outer s H E hr =>
  (ss_cons (ss_set 2 0 sc_widest_plan.nd (qe_bF call_len_seq cf_len (by rfl) T.z_len (by decide +kernel) (qa_cons (qv 0) qa_nil)))
  (ss_cons (ss_set 3 0 sc_widest_plan.nd (qe_call (ok_best_rooms T) (hr.mono (by decide)) (by rfl) T.g_best_rooms T.F_best_rooms.kp T.b_best_rooms (qa_cons (qv 0) qa_nil)))
  (ss_cons (ss_set 4 0 sc_widest_plan.nd (qe_call (ok_least_leads T) (hr.mono (by decide)) (by rfl) T.g_least_leads T.F_least_leads.kp T.b_least_leads (qa_cons (qv 0) (qa_cons (qv 3) qa_nil))))
  (ss_cons (ss_setLc 7 0 (own := [("person", 5), ("room", 6)]) rfl sc_widest_plan.nd (qi_enum (by rfl) T.z_enumerate (qv 3)) (blkOk_by (own := [("person", 5), ("room", 6)]) (N := ["table", "rent", "n", "rooms", "leads", "person", "room", "worths", "gain", "prices"]) (sc := (defScope (topS 17))) (by decide +kernel)) (fun _ _ _ _ _ => (gg_tup rfl (ggs_cons (gg 5 sc_widest_plan.nd) (ggs_cons (gg 6 sc_widest_plan.nd) ggs_nil)))) (fun _ _ _ _ _ => qts_nil) (fun _ _ _ _ _ => (qe_ix (qe_ix (qv 0) (qv 5) (fun _ _ => rfl)) (qv 6) (fun _ _ => rfl))))
  (ss_cons (ss_set 8 0 sc_widest_plan.nd (qe_call (ok_parted T) (hr.mono (by decide)) (by rfl) T.g_parted T.F_parted.kp T.b_parted (qa_cons (qe_call (ok_minus T) (hr.mono (by decide)) (by rfl) T.g_minus T.F_minus.kp T.b_minus (qa_cons (qe_tup (qa_cons (qe_sub (qe_bF (cr_sumA rfl) cf_sum (by rfl) T.z_sum (by decide +kernel) (qa_cons (qv 7) qa_nil)) (qe_bF (cr_sumA rfl) cf_sum (by rfl) T.z_sum (by decide +kernel) (qa_cons (qv 4) qa_nil))) (qa_cons qint qa_nil))) (qa_cons (qe_call (ok_as_ratio T) (hr.mono (by decide)) (by rfl) T.g_as_ratio T.F_as_ratio.kp T.b_as_ratio (qa_cons (qv 1) qa_nil)) qa_nil))) (qa_cons (qe_tup (qa_cons (qv 2) (qa_cons qint qa_nil))) qa_nil))))
  (ss_cons (ss_set 9 1 sc_widest_plan.nd (qe_mul (qe_lst (qa_cons (qv 8) qa_nil)) (qv 2)))
  (ss_cons (ss_for PassesOwn.never rfl (qi_enum (by rfl) T.z_enumerate (qv 3)) (gg_tup rfl (ggs_cons (gg 5 sc_widest_plan.nd) (ggs_cons (gg 6 sc_widest_plan.nd) ggs_nil)))
  (ss_one (ss_put 9 (ps_asg (qe_call (ok_minus T) (hr.mono (by decide)) (by rfl) T.g_minus T.F_minus.kp T.b_minus (qa_cons (qe_tup (qa_cons (qe_sub (qe_ix (qv 7) (qv 5) (fun _ _ => rfl)) (qe_ix (qv 4) (qv 5) (fun _ _ => rfl))) (qa_cons qint qa_nil))) (qa_cons (qv 8) qa_nil))) (pg_sub (pv 9) (qv 6) set_list)))))
  (ss_one (ss_ret (qe_tup (qa_cons (qv 3) (qa_cons (qe_tD call_tuple_of cd_tuple (by rfl) T.z_tuple (by decide +kernel) (qa_cons (qv 9) qa_nil)) (qa_cons (qv 8) qa_nil)))))))))))))
theorem sc_fair_rents : FnScope ["table", "rent", "rooms", "prices", "_"] ["table", "rent"] (defScope (topS 18)) := ⟨rfl, rfl, rfl, by decide +kernel, rfl, by decide +kernel, by decide +kernel⟩
def den_fair_rents : Fn := dfun 5 2 (sSeq (sTup (.tp [(.nm 2), (.nm 3), (.nm 4)]) (eCall 2 den_widest_plan (aCons (eVar 0) (aCons (eVar 1) aNil))) ([(0, 0)] ++ ([(1, 0)] ++ [])))
  (sRet (eTup (aCons (eVar 2) (aCons (eVar 3) aNil)))))
theorem ok_fair_rents {P : Program} {w : World} {K : PySem.W.Frag} {mg : Str → Option Value} {base : Heap} {ad : Nat → Addr} {fo : Nat → FuncData} (T : Tp K mg ad fo base) : FnOk P w K mg base CX0 5 (ad 15) (fo 15) ["table", "rent"] (spD K 2 den_fair_rents) :=
  fun_den (k := 4) T.F_fair_rents sc_fair_rents rfl rfl (by decide) fun cdv A outer s H E hr =>
  (ss_cons (ss_tup (qe_call (ok_widest_plan T) (hr.mono (by decide)) (by rfl) T.g_widest_plan T.F_widest_plan.kp T.b_widest_plan (qa_cons (qv 0) (qa_cons (qv 1) qa_nil))) (gg_tup rfl (ggs_cons (gg 2 sc_fair_rents.nd) (ggs_cons (gg 3 sc_fair_rents.nd) (ggs_cons (gg 4 sc_fair_rents.nd) ggs_nil)))))
  (ss_one (ss_ret (qe_tup (qa_cons (qv 2) (qa_cons (qv 3) qa_nil))))))
theorem sc_widest_rents : FnScope ["table", "rent", "_", "prices", "gain"] ["table", "rent"] (defScope (topS 19)) := ⟨rfl, rfl, rfl, by decide +kernel, rfl, by decide +kernel, by decide +kernel⟩
def den_widest_rents : Fn := dfun 5 2 (sSeq (sTup (.tp [(.nm 2), (.nm 3), (.nm 4)]) (eCall 2 den_widest_plan (aCons (eVar 0) (aCons (eVar 1) aNil))) ([(0, 0)] ++ ([(1, 0)] ++ [])))
  (sRet (eTup (aCons (eVar 3) (aCons (eVar 4) aNil)))))
theorem ok_widest_rents {P : Program} {w : World} {K : PySem.W.Frag} {mg : Str → Option Value} {base : Heap} {ad : Nat → Addr} {fo : Nat → FuncData} (T : Tp K mg ad fo base) : FnOk P w K mg base CX0 5 (ad 16) (fo 16) ["table", "rent"] (spD K 2 den_widest_rents) :=
  fun_den (k := 4) T.F_widest_rents sc_widest_rents rfl rfl (by decide) fun cdv A outer s H E hr =>
  (ss_cons (ss_tup (qe_call (ok_widest_plan T) (hr.mono (by decide)) (by rfl) T.g_widest_plan T.F_widest_plan.kp T.b_widest_plan (qa_cons (qv 0) (qa_cons (qv 1) qa_nil))) (gg_tup rfl (ggs_cons (gg 2 sc_widest_rents.nd) (ggs_cons (gg 3 sc_widest_rents.nd) (ggs_cons (gg 4 sc_widest_rents.nd) ggs_nil)))))
  (ss_one (ss_ret (qe_tup (qa_cons (qv 3) (qa_cons (qv 4) qa_nil))))))
theorem sc_is_room_row : FnScope ["value", "n", "room"] ["value", "n"] (defScope (topS 20)) := ⟨rfl, rfl, rfl, by decide +kernel, rfl, by decide +kernel, by decide +kernel⟩
def den_is_room_row : Fn := dfun 3 2 (sSeq (sIf (tOrD (tNotD (tTru (eIsi "tuple" (eVar 0)))) (tNotD (tTru (eCB (d1 dAll) (aCons (eLc (iSeq (eVar 0)) (.nm 2) tTrue (eCall 1 den_is_whole (aCons (eVar 2) aNil)) [2]) aNil)))))
  (sRet (eC (.bool false)))
  sNil)
  (sRet (eB (tCmp dEq (eCB (d1 dSortC) (aCons (eVar 0) aNil)) (eRg .list (eC (.int 0)) (eVar 1))))))
theorem ok_is_room_row {P : Program} {w : World} {K : PySem.W.Frag} {mg : Str → Option Value} {base : Heap} {ad : Nat → Addr} {fo : Nat → FuncData} (T : Tp K mg ad fo base) : FnOk P w K mg base CX0 2 (ad 17) (fo 17) ["value", "n"] (spD K 2 den_is_room_row) :=
  fun_den (k := 1) T.F_is_room_row sc_is_room_row rfl rfl (by decide) fun cdv A outer s H E hr =>
  (ss_cons (ss_if (PW.pt (qw_or (qt_not (qt_tru (qe_isi (by rfl) T.z_isinstance (qv 0) (by rfl) T.z_tuple (by decide +kernel)) (by intro _; rfl))) (qw_or1 (qt_not (qt_tru (qe_bF (cr_all rfl) cf_all (by rfl) T.z_all (by decide +kernel) (qa_cons (qe_lc (own := [("room", 2)]) rfl sc_is_room_row.nd (qi_seq (qv 0)) (blkOk_by (own := [("room", 2)]) (N := ["value", "n", "room"]) (sc := (defScope (topS 20))) (by decide +kernel)) (fun _ _ _ _ _ => (gg 2 sc_is_room_row.nd)) (fun _ _ _ _ _ => qts_nil) (fun _ _ _ _ _ => (qe_call (ok_is_whole T) (hr.mono (by decide)) (by rfl) T.g_is_whole T.F_is_whole.kp T.b_is_whole (qa_cons (qv 2) qa_nil)))) qa_nil)) (by intro _; rfl))))))
  (ss_one (ss_ret qbl))
  ss_nil)
  (ss_one (ss_ret (qe_cmp (op_eqD (hu_of64 hr)) oc_eq (qe_bD (cr_sortedC rfl (hu_of64 hr)) cd_sortC (by rfl) T.z_sorted (by decide +kernel) (qa_cons (qv 0) qa_nil)) (qe_listRg rfl (by rfl) T.z_list (qrg_1 (by rfl) T.z_range (qv 1))) (nomark _)))))
theorem sc_is_fair_rents : FnScope ["table", "rent", "rooms", "prices", "n", "person", "room", "gains", "worth", "price", "gain"] ["table", "rent", "rooms", "prices"] (defScope (topS 21)) := ⟨rfl, rfl, rfl, by decide +kernel, rfl, by decide +kernel, by decide +kernel⟩
def den_is_fair_rents : Fn := dfun 11 4 (sSeq (sSet 4 0 (eCB (d1 dLen) (aCons (eVar 0) aNil)) [])
  (sSeq (sIf (tOrD (tNotD (tTru (eCall 2 den_is_room_row (aCons (eVar 2) (aCons (eVar 4) aNil))))) (tNotD (tTru (eCall 2 den_is_ratio_row (aCons (eVar 3) (aCons (eVar 4) aNil))))))
  (sRet (eC (.bool false)))
  sNil)
  (sSeq (sIf (tCmp dNe (eCall 1 den_total (aCons (eVar 3) aNil)) (eCall 1 den_as_ratio (aCons (eVar 1) aNil)))
  (sRet (eC (.bool false)))
  sNil)
  (sSeq (sFor (iEnumD (eVar 2)) [(2, 0)] (.tp [(.nm 5), (.nm 6)])
  (sSeq (sSet 7 0 (eLc (iZip2 (eIx (eVar 0) (eVar 5)) (eVar 3)) (.tp [(.nm 8), (.nm 9)]) tTrue (eCall 2 den_minus (aCons (eTup (aCons (eVar 8) (aCons (eC (.int 1)) aNil))) (aCons (eVar 9) aNil))) [8, 9]) (([(0, 2)] ++ [(3, 1)]) ++ (([(8, 0)] ++ ([] ++ [])) ++ ([(9, 0)] ++ []))))
  (sIf (tTru (eCB (d1 dAny) (aCons (eLc (iSeq (eVar 7)) (.nm 10) tTrue (eCall 2 den_is_less (aCons (eIx (eVar 7) (eVar 6)) (aCons (eVar 10) aNil))) [10]) aNil)))
  (sRet (eC (.bool false)))
  sNil)))
  (sRet (eC (.bool true)))))))
theorem ok_is_fair_rents {P : Program} {w : World} {K : PySem.W.Frag} {mg : Str → Option Value} {base : Heap} {ad : Nat → Addr} {fo : Nat → FuncData} (T : Tp K mg ad fo base) : FnOk P w K mg base CX0 5 (ad 18) (fo 18) ["table", "rent", "rooms", "prices"] (spD K 4 den_is_fair_rents) :=
  fun_den (k := 4) T.F_is_fair_rents sc_is_fair_rents rfl rfl (by decide) fun cdv A outer s H E hr =>
  (ss_cons (ss_set 4 0 sc_is_fair_rents.nd (qe_bF call_len_seq cf_len (by rfl) T.z_len (by decide +kernel) (qa_cons (qv 0) qa_nil)))
  (ss_cons (ss_if (PW.pt (qw_or (qt_not (qt_tru (qe_call (ok_is_room_row T) (hr.mono (by decide)) (by rfl) T.g_is_room_row T.F_is_room_row.kp T.b_is_room_row (qa_cons (qv 2) (qa_cons (qv 4) qa_nil))) (by intro _; rfl))) (qw_or1 (qt_not (qt_tru (qe_call (ok_is_ratio_row T) (hr.mono (by decide)) (by rfl) T.g_is_ratio_row T.F_is_ratio_row.kp T.b_is_ratio_row (qa_cons (qv 3) (qa_cons (qv 4) qa_nil))) (by intro _; rfl))))))
  (ss_one (ss_ret qbl))
  ss_nil)
  (ss_cons (ss_if (qt_cmp (op_neD (hu_of64 hr)) oc_ne (qe_call (ok_total T) (hr.mono (by decide)) (by rfl) T.g_total T.F_total.kp T.b_total (qa_cons (qv 3) qa_nil)) (qe_call (ok_as_ratio T) (hr.mono (by decide)) (by rfl) T.g_as_ratio T.F_as_ratio.kp T.b_as_ratio (qa_cons (qv 1) qa_nil)) (nomark _))
  (ss_one (ss_ret qbl))
  ss_nil)
  (ss_cons (ss_for PassesOwn.never rfl (qi_enum (by rfl) T.z_enumerate (qv 2)) (gg_tup rfl (ggs_cons (gg 5 sc_is_fair_rents.nd) (ggs_cons (gg 6 sc_is_fair_rents.nd) ggs_nil)))
  (ss_cons (ss_set 7 0 sc_is_fair_rents.nd (qe_lc (own := [("worth", 8), ("price", 9)]) rfl sc_is_fair_rents.nd (qi_zip (by rfl) T.z_zip (qe_ix (qv 0) (qv 5) (fun _ _ => rfl)) (qv 3)) (blkOk_by (own := [("worth", 8), ("price", 9)]) (N := ["table", "rent", "rooms", "prices", "n", "person", "room", "gains", "worth", "price", "gain"]) (sc := (defScope (topS 21))) (by decide +kernel)) (fun _ _ _ _ _ => (gg_tup rfl (ggs_cons (gg 8 sc_is_fair_rents.nd) (ggs_cons (gg 9 sc_is_fair_rents.nd) ggs_nil)))) (fun _ _ _ _ _ => qts_nil) (fun _ _ _ _ _ => (qe_call (ok_minus T) (hr.mono (by decide)) (by rfl) T.g_minus T.F_minus.kp T.b_minus (qa_cons (qe_tup (qa_cons (qv 8) (qa_cons qint qa_nil))) (qa_cons (qv 9) qa_nil))))))
  (ss_one (ss_if (qt_tru (qe_bF (cr_any rfl) cf_any (by rfl) T.z_any (by decide +kernel) (qa_cons (qe_lc (own := [("gain", 10)]) rfl sc_is_fair_rents.nd (qi_seq (qv 7)) (blkOk_by (own := [("gain", 10)]) (N := ["table", "rent", "rooms", "prices", "n", "person", "room", "gains", "worth", "price", "gain"]) (sc := (defScope (topS 21))) (by decide +kernel)) (fun _ _ _ _ _ => (gg 10 sc_is_fair_rents.nd)) (fun _ _ _ _ _ => qts_nil) (fun _ _ _ _ _ => (qe_call (ok_is_less T) (hr.mono (by decide)) (by rfl) T.g_is_less T.F_is_less.kp T.b_is_less (qa_cons (qe_ix (qv 7) (qv 6) (fun _ _ => rfl)) (qa_cons (qv 10) qa_nil))))) qa_nil)) (by intro _; rfl))
  (ss_one (ss_ret qbl))
  ss_nil))))
  (ss_one (ss_ret qbl))))))
theorem sc_best_fit : FnScope ["table", "best", "row", "grown", "used", "total", "tasks", "task", "cost", "key", "after"] ["table"] (defScope (topS 23)) := ⟨rfl, rfl, rfl, by decide +kernel, rfl, by decide +kernel, by decide +kernel⟩
def den_best_fit : Fn := dfun 11 1 (sSeq (sSet 1 0 (eOp dD1 (eTup aNil) (eTup (aCons (eC (.int 0)) (aCons (eTup aNil) aNil)))) [])
  (sSeq (sFor (iSeq (eVar 0)) [(0, 0)] (.nm 2)
  (sSeq (sSet 3 1 eD0 [])
  (sSeq (sFor (iDk (eVar 1)) [(1, 0)] (.nm 4)
  (sSeq (sTup (.tp [(.nm 5), (.nm 6)]) (eOp dGetD (eVar 1) (eVar 4)) [(1, 1)])
  (sFor (iEnumD (eVar 2)) [(2, 0)] (.tp [(.nm 7), (.nm 8)])
  (sIf (tCmp dNotIn (eVar 7) (eVar 4))
  (sSeq (sSet 9 0 (eCB (d1 dTuple) (aCons (eCB (d1 dSortC) (aCons (eOp dAdd (eVar 4) (eTup (aCons (eVar 7) aNil))) aNil)) aNil)) ((([(4, 1)] ++ ([(7, 0)] ++ [])) ++ []) ++ []))
  (sSeq (sSet 10 0 (eTup (aCons (eOp dAdd (eVar 5) (eVar 8)) (aCons (eOp dAdd (eVar 6) (eTup (aCons (eVar 7) aNil))) aNil))) (([(5, 1)] ++ [(8, 1)]) ++ (([(6, 1)] ++ ([(7, 0)] ++ [])) ++ [])))
  (sIf (tOrD (tCmp dNotInD (eVar 9) (eVar 3)) (tCmp dLt (eVar 10) (eOp dGetD (eVar 3) (eVar 9))))
  (sPutD 3 (eVar 9) (eVar 10))
  sNil)))
  sNil))))
  (sSet 1 0 (eVar 3) [(3, 0)]))))
  (sRet (eCB (d1 dMin1) (aCons (eLc (iDk (eVar 1)) (.nm 4) tTrue (eOp dGetD (eVar 1) (eVar 4)) [4]) aNil)))))
theorem ok_best_fit {P : Program} {w : World} {K : PySem.W.Frag} {mg : Str → Option Value} {base : Heap} {ad : Nat → Addr} {fo : Nat → FuncData} (T : Tp K mg ad fo base) : FnOk P w K mg base CX0 1 (ad 19) (fo 19) ["table"] (spD K 1 den_best_fit) :=
  fun_den (k := 0) T.F_best_fit sc_best_fit rfl rfl (by decide) fun cdv A outer s H E hr =>
  (ss_cons (ss_set 1 0 sc_best_fit.nd (qe_d1 (Nat.lt_of_le_of_lt (Nat.add_le_add_left (by decide) _) (hu2_of hr)) (qe_tup qa_nil) (qe_tup (qa_cons qint (qa_cons (qe_tup qa_nil) qa_nil)))))
  (ss_cons (ss_for PassesOwn.never rfl (qi_seq (qv 0)) (gg 2 sc_best_fit.nd)
  (ss_cons (ss_set 3 1 sc_best_fit.nd qe_d0)
  (ss_cons (ss_forD 1 PassesOwn.never rfl (pv 1) (gg 4 sc_best_fit.nd)
  (ss_cons (ss_tup (qe_dget (Nat.lt_of_le_of_lt (Nat.add_le_add_left (by decide) _) (hu2_of hr)) (qv 1) (qv 4) (fun _ _ => rfl)) (gg_tup rfl (ggs_cons (gg 5 sc_best_fit.nd) (ggs_cons (gg 6 sc_best_fit.nd) ggs_nil))))
  (ss_one (ss_for PassesOwn.never rfl (qi_enum (by rfl) T.z_enumerate (qv 2)) (gg_tup rfl (ggs_cons (gg 7 sc_best_fit.nd) (ggs_cons (gg 8 sc_best_fit.nd) ggs_nil)))
  (ss_one (ss_if (qt_cmp ((op_notInD (hu2_of hr)).or op_notIn_seq) oc_notIn (qv 7) (qv 4) (by rfl))
  (ss_cons (ss_set 9 0 sc_best_fit.nd (qe_tD call_tuple_of cd_tuple (by rfl) T.z_tuple (by decide +kernel) (qa_cons (qe_bD (cr_sortedC rfl (hu_of64 hr)) cd_sortC (by rfl) T.z_sorted (by decide +kernel) (qa_cons (qe_add (qv 4) (qe_tup (qa_cons (qv 7) qa_nil))) qa_nil)) qa_nil)))
  (ss_cons (ss_set 10 0 sc_best_fit.nd (qe_tup (qa_cons (qe_add (qv 5) (qv 8)) (qa_cons (qe_add (qv 6) (qe_tup (qa_cons (qv 7) qa_nil))) qa_nil))))
  (ss_one (ss_if (PW.pt (qw_or (qt_cmp (op_notInDk (Nat.lt_of_le_of_lt (Nat.add_le_add_left (by decide) _) (hu2_of hr))) oc_notInDk (qv 9) (qv 3) (by rfl)) (qw_or1 (qt_cmp (op_ltA (hu_of64 hr)) oc_lt (qv 10) (qe_dget (Nat.lt_of_le_of_lt (Nat.add_le_add_left (by decide) _) (hu2_of hr)) (qv 3) (qv 9) (fun _ _ => rfl)) (nomark _)))))
  (ss_one (ss_putD 3 (ps_asg (qv 10) (pg_sub (pv 3) (qv 9) (set_dict (Nat.lt_of_le_of_lt (Nat.add_le_add_left (by decide) _) (hu2_of hr)))))))
  ss_nil))))
  ss_nil))))))
  (ss_one (ss_set 1 0 sc_best_fit.nd (qv 3))))))
  (ss_one (ss_ret (qe_bF (cr_minD rfl (hu_of64 hr)) cf_min1 (by rfl) T.z_min (by decide +kernel) (qa_cons (qe_lcD 1 (own := [("used", 4)]) rfl sc_best_fit.nd (pv 1) (blkOk_by (own := [("used", 4)]) (N := ["table", "best", "row", "grown", "used", "total", "tasks", "task", "cost", "key", "after"]) (sc := (defScope (topS 23))) (by decide +kernel)) (fun _ _ _ _ _ => (gg 4 sc_best_fit.nd)) (fun _ _ _ _ _ => qts_nil) (fun _ _ _ _ _ => (qe_dget (Nat.lt_of_le_of_lt (Nat.add_le_add_left (by decide) _) (hu2_of hr)) (qv 1) (qv 4) (fun _ _ => rfl)))) qa_nil))))))
theorem sc_fit_prices : FnScope ["table", "n", "total", "tasks", "steps", "i", "j", "heights", "_", "source", "goal", "step"] ["table"] (defScope (topS 24)) := ⟨rfl, rfl, rfl, by decide +kernel, rfl, by decide +kernel, by decide +kernel⟩
def den_fit_prices : Fn := dfun 12 1 (sSeq (sSet 1 0 (eCB (d1 dLen) (aCons (eVar 0) aNil)) [])
  (sSeq (sTup (.tp [(.nm 2), (.nm 3)]) (eCall 1 den_best_fit (aCons (eVar 0) aNil)) ([(0, 0)] ++ []))
  (sSeq (sSet 4 1 eD0 [])
  (sSeq (sFor (iRange1 (eVar 1)) [] (.nm 5)
  (sFor (iRange1 (eVar 1)) [] (.nm 6)
  (sPutD 4 (eTup (aCons (eIx (eVar 3) (eVar 5)) (aCons (eVar 6) aNil))) (eCB (d2 dMin2) (aCons (eGet (eVar 4) (eTup (aCons (eIx (eVar 3) (eVar 5)) (aCons (eVar 6) aNil))) (eOp dPow (eC (.int 10)) (eC (.int 9)))) (aCons (eOp dSub (eIx (eIx (eVar 0) (eVar 5)) (eVar 6)) (eIx (eIx (eVar 0) (eVar 5)) (eIx (eVar 3) (eVar 5)))) aNil))))))
  (sSeq (sSet 7 1 (eOp dMul (eLst (aCons (eC (.int 0)) aNil)) (eVar 1)) (([] ++ []) ++ [(1, 1)]))
  (sSeq (sFor (iRange1 (eVar 1)) [] (.nm 8)
  (sFor (iSeq (eSortIt (eVar 4))) [(4, 1)] (.tp [(.tp [(.nm 9), (.nm 10)]), (.nm 11)])
  (sPut 7 (eVar 10) (eCB (d2 dMin2) (aCons (eIx (eVar 7) (eVar 10)) (aCons (eOp dAdd (eIx (eVar 7) (eVar 9)) (eVar 11)) aNil))) [])))
  (sRet (eTup (aCons (eCB (d1 dTuple) (aCons (eLc (iRange1 (eVar 1)) (.nm 5) tTrue (eOp dSub (eIx (eIx (eVar 0) (eVar 5)) (eIx (eVar 3) (eVar 5))) (eIx (eVar 7) (eIx (eVar 3) (eVar 5)))) [5]) aNil)) (aCons (eCB (d1 dTuple) (aCons (eVar 7) aNil)) aNil))))))))))
theorem ok_fit_prices {P : Program} {w : World} {K : PySem.W.Frag} {mg : Str → Option Value} {base : Heap} {ad : Nat → Addr} {fo : Nat → FuncData} (T : Tp K mg ad fo base) : FnOk P w K mg base CX0 2 (ad 20) (fo 20) ["table"] (spD K 1 den_fit_prices) :=
  fun_den (k := 1) T.F_fit_prices sc_fit_prices rfl rfl (by decide) fun cdv A outer s H E hr =>
  (ss_cons (ss_set 1 0 sc_fit_prices.nd (qe_bF call_len_seq cf_len (by rfl) T.z_len (by decide +kernel) (qa_cons (qv 0) qa_nil)))
  (ss_cons (ss_tup (qe_call (ok_best_fit T) (hr.mono (by decide)) (by rfl) T.g_best_fit T.F_best_fit.kp T.b_best_fit (qa_cons (qv 0) qa_nil)) (gg_tup rfl (ggs_cons (gg 2 sc_fit_prices.nd) (ggs_cons (gg 3 sc_fit_prices.nd) ggs_nil))))
  (ss_cons (ss_set 4 1 sc_fit_prices.nd qe_d0)
  (ss_cons (ss_for PassesOwn.never rfl (qi_range1 (by rfl) T.z_range (qv 1)) (gg 5 sc_fit_prices.nd)
  (ss_one (ss_for PassesOwn.never rfl (qi_range1 (by rfl) T.z_range (qv 1)) (gg 6 sc_fit_prices.nd)
  (ss_one (ss_putD 4 (ps_asg (qe_bF (call_min2 rfl) cf_min2 (by rfl) T.z_min (by decide +kernel) (qa_cons (qe_get3 (Nat.lt_of_le_of_lt (Nat.add_le_add_left (by decide) _) (hu2_of hr)) (qv 4) (qe_tup (qa_cons (qe_ix (qv 3) (qv 5) (fun _ _ => rfl)) (qa_cons (qv 6) qa_nil))) (qe_pow qint qint) ⟨by rfl, by rfl, by rfl, by rfl⟩) (qa_cons (qe_sub (qe_ix (qe_ix (qv 0) (qv 5) (fun _ _ => rfl)) (qv 6) (fun _ _ => rfl)) (qe_ix (qe_ix (qv 0) (qv 5) (fun _ _ => rfl)) (qe_ix (qv 3) (qv 5) (fun _ _ => rfl)) (fun _ _ => rfl))) qa_nil))) (pg_sub (pv 4) (qe_tup (qa_cons (qe_ix (qv 3) (qv 5) (fun _ _ => rfl)) (qa_cons (qv 6) qa_nil))) (set_dict (Nat.lt_of_le_of_lt (Nat.add_le_add_left (by decide) _) (hu2_of hr))))))))))
  (ss_cons (ss_set 7 1 sc_fit_prices.nd (qe_mul (qe_lst (qa_cons qint qa_nil)) (qv 1)))
  (ss_cons (ss_for PassesOwn.never rfl (qi_range1 (by rfl) T.z_range (qv 1)) (gg 8 sc_fit_prices.nd)
  (ss_one (ss_for PassesOwn.never rfl (qi_seq (qe_sortIt rfl (hu_of64 hr) (by rfl) T.z_sorted (qv 4))) (gg_tup rfl (ggs_cons (gg_tup rfl (ggs_cons (gg 9 sc_fit_prices.nd) (ggs_cons (gg 10 sc_fit_prices.nd) ggs_nil))) (ggs_cons (gg 11 sc_fit_prices.nd) ggs_nil)))
  (ss_one (ss_put 7 (ps_asg (qe_bF (call_min2 rfl) cf_min2 (by rfl) T.z_min (by decide +kernel) (qa_cons (qe_ix (qv 7) (qv 10) (fun _ _ => rfl)) (qa_cons (qe_add (qe_ix (qv 7) (qv 9) (fun _ _ => rfl)) (qv 11)) qa_nil))) (pg_sub (pv 7) (qv 10) set_list)))))))
  (ss_one (ss_ret (qe_tup (qa_cons (qe_tD call_tuple_of cd_tuple (by rfl) T.z_tuple (by decide +kernel) (qa_cons (qe_lc (own := [("i", 5)]) rfl sc_fit_prices.nd (qi_range1 (by rfl) T.z_range (qv 1)) (blkOk_by (own := [("i", 5)]) (N := ["table", "n", "total", "tasks", "steps", "i", "j", "heights", "_", "source", "goal", "step"]) (sc := (defScope (topS 24))) (by decide +kernel)) (fun _ _ _ _ _ => (gg 5 sc_fit_prices.nd)) (fun _ _ _ _ _ => qts_nil) (fun _ _ _ _ _ => (qe_sub (qe_ix (qe_ix (qv 0) (qv 5) (fun _ _ => rfl)) (qe_ix (qv 3) (qv 5) (fun _ _ => rfl)) (fun _ _ => rfl)) (qe_ix (qv 7) (qe_ix (qv 3) (qv 5) (fun _ _ => rfl)) (fun _ _ => rfl))))) qa_nil)) (qa_cons (qe_tD call_tuple_of cd_tuple (by rfl) T.z_tuple (by decide +kernel) (qa_cons (qv 7) qa_nil)) qa_nil)))))))))))
theorem sc_are_integers : FnScope ["value", "count", "part"] ["value", "count"] (defScope (topS 25)) := ⟨rfl, rfl, rfl, by decide +kernel, rfl, by decide +kernel, by decide +kernel⟩
def den_are_integers : Fn := dfun 3 2 (sSeq (sIf (tOrD (tNotD (tTru (eIsi "tuple" (eVar 0)))) (tCmp dNe (eCB (d1 dLen) (aCons (eVar 0) aNil)) (eVar 1)))
  (sRet (eC (.bool false)))
  sNil)
  (sRet (eCB (d1 dAll) (aCons (eLc (iSeq (eVar 0)) (.nm 2) tTrue (eAndD (eIsi "int" (eVar 2)) (eB (tNotD (tTru (eIsi "bool" (eVar 2)))))) [2]) aNil))))
theorem ok_are_integers {P : Program} {w : World} {K : PySem.W.Frag} {mg : Str → Option Value} {base : Heap} {ad : Nat → Addr} {fo : Nat → FuncData} (T : Tp K mg ad fo base) : FnOk P w K mg base CX0 1 (ad 21) (fo 21) ["value", "count"] (spD K 2 den_are_integers) :=
  fun_den (k := 0) T.F_are_integers sc_are_integers rfl rfl (by decide) fun cdv A outer s H E hr =>
  (ss_cons (ss_if (PW.pt (qw_or (qt_not (qt_tru (qe_isi (by rfl) T.z_isinstance (qv 0) (by rfl) T.z_tuple (by decide +kernel)) (by intro _; rfl))) (qw_or1 (qt_cmp (op_neD (hu_of64 hr)) oc_ne (qe_bF call_len_seq cf_len (by rfl) T.z_len (by decide +kernel) (qa_cons (qv 0) qa_nil)) (qv 1) (nomark _)))))
  (ss_one (ss_ret qbl))
  ss_nil)
  (ss_one (ss_ret (qe_bF (cr_all rfl) cf_all (by rfl) T.z_all (by decide +kernel) (qa_cons (qe_lc (own := [("part", 2)]) rfl sc_are_integers.nd (qi_seq (qv 0)) (blkOk_by (own := [("part", 2)]) (N := ["value", "count", "part"]) (sc := (defScope (topS 25))) (by decide +kernel)) (fun _ _ _ _ _ => (gg 2 sc_are_integers.nd)) (fun _ _ _ _ _ => qts_nil) (fun _ _ _ _ _ => (qe_and (qe_isi (by rfl) T.z_isinstance (qv 2) (by rfl) T.z_int (by decide +kernel)) (qe_one (qe_not (qe_isi (by rfl) T.z_isinstance (qv 2) (by rfl) T.z_bool (by decide +kernel))))))) qa_nil)))))
theorem sc_judge_prices : FnScope ["table", "first", "second", "n", "i", "j"] ["table", "first", "second"] (defScope (topS 26)) := ⟨rfl, rfl, rfl, by decide +kernel, rfl, by decide +kernel, by decide +kernel⟩
def den_judge_prices : Fn := dfun 6 3 (sSeq (sSet 3 0 (eCB (d1 dLen) (aCons (eVar 0) aNil)) [])
  (sSeq (sIf (tOrD (tNotD (tTru (eCall 2 den_are_integers (aCons (eVar 1) (aCons (eVar 3) aNil))))) (tNotD (tTru (eCall 2 den_are_integers (aCons (eVar 2) (aCons (eVar 3) aNil))))))
  (sRet (eC (.bool false)))
  sNil)
  (sSeq (sFor (iRange1 (eVar 3)) [] (.nm 4)
  (sIf (tTru (eCB (d1 dAny) (aCons (eLc (iRange1 (eVar 3)) (.nm 5) tTrue (eB (tCmp dGt (eOp dAdd (eIx (eVar 1) (eVar 4)) (eIx (eVar 2) (eVar 5))) (eIx (eIx (eVar 0) (eVar 4)) (eVar 5)))) [5]) aNil)))
  (sRet (eC (.bool false)))
  sNil))
  (sRet (eB (tCmp dEq (eOp dAdd (eCB (d1 dSum) (aCons (eVar 1) aNil)) (eCB (d1 dSum) (aCons (eVar 2) aNil))) (eIx (eCall 1 den_best_fit (aCons (eVar 0) aNil)) (eC (.int 0)))))))))
theorem ok_judge_prices {P : Program} {w : World} {K : PySem.W.Frag} {mg : Str → Option Value} {base : Heap} {ad : Nat → Addr} {fo : Nat → FuncData} (T : Tp K mg ad fo base) : FnOk P w K mg base CX0 2 (ad 22) (fo 22) ["table", "first", "second"] (spD K 3 den_judge_prices) :=
  fun_den (k := 1) T.F_judge_prices sc_judge_prices rfl rfl (by decide) fun cdv A outer s H E hr =>
  (ss_cons (ss_set 3 0 sc_judge_prices.nd (qe_bF call_len_seq cf_len (by rfl) T.z_len (by decide +kernel) (qa_cons (qv 0) qa_nil)))
  (ss_cons (ss_if (PW.pt (qw_or (qt_not (qt_tru (qe_call (ok_are_integers T) (hr.mono (by decide)) (by rfl) T.g_are_integers T.F_are_integers.kp T.b_are_integers (qa_cons (qv 1) (qa_cons (qv 3) qa_nil))) (by intro _; rfl))) (qw_or1 (qt_not (qt_tru (qe_call (ok_are_integers T) (hr.mono (by decide)) (by rfl) T.g_are_integers T.F_are_integers.kp T.b_are_integers (qa_cons (qv 2) (qa_cons (qv 3) qa_nil))) (by intro _; rfl))))))
  (ss_one (ss_ret qbl))
  ss_nil)
  (ss_cons (ss_for PassesOwn.never rfl (qi_range1 (by rfl) T.z_range (qv 3)) (gg 4 sc_judge_prices.nd)
  (ss_one (ss_if (qt_tru (qe_bF (cr_any rfl) cf_any (by rfl) T.z_any (by decide +kernel) (qa_cons (qe_lc (own := [("j", 5)]) rfl sc_judge_prices.nd (qi_range1 (by rfl) T.z_range (qv 3)) (blkOk_by (own := [("j", 5)]) (N := ["table", "first", "second", "n", "i", "j"]) (sc := (defScope (topS 26))) (by decide +kernel)) (fun _ _ _ _ _ => (gg 5 sc_judge_prices.nd)) (fun _ _ _ _ _ => qts_nil) (fun _ _ _ _ _ => (qe_cmp (op_gtA (hu_of64 hr)) oc_gt (qe_add (qe_ix (qv 1) (qv 4) (fun _ _ => rfl)) (qe_ix (qv 2) (qv 5) (fun _ _ => rfl))) (qe_ix (qe_ix (qv 0) (qv 4) (fun _ _ => rfl)) (qv 5) (fun _ _ => rfl)) (nomark _)))) qa_nil)) (by intro _; rfl))
  (ss_one (ss_ret qbl))
  ss_nil)))
  (ss_one (ss_ret (qe_cmp (op_eqD (hu_of64 hr)) oc_eq (qe_add (qe_bF (cr_sumA rfl) cf_sum (by rfl) T.z_sum (by decide +kernel) (qa_cons (qv 1) qa_nil)) (qe_bF (cr_sumA rfl) cf_sum (by rfl) T.z_sum (by decide +kernel) (qa_cons (qv 2) qa_nil))) (qe_ix (qe_call (ok_best_fit T) (hr.mono (by decide)) (by rfl) T.g_best_fit T.F_best_fit.kp T.b_best_fit (qa_cons (qv 0) qa_nil)) qint (fun _ _ => rfl)) (nomark _)))))))
theorem sc__law_mixed : FnScope ["script", "k", "cell", "first", "second", "third"] ["script", "k"] (defScope (topS 28)) := ⟨rfl, rfl, rfl, by decide +kernel, rfl, by decide +kernel, by decide +kernel⟩
def den__law_mixed : Fn := dfun 6 2 (sSeq (sSet 2 0 (eC (.int 0)) [])
  (sSeq (sIf (tCmp dGt (eCB (d1 dLen) (aCons (eVar 0) aNil)) (eC (.int 0)))
  (sSet 2 0 (eIx (eVar 0) (eOp dMod (eVar 1) (eCB (d1 dLen) (aCons (eVar 0) aNil)))) [(0, 1)])
  sNil)
  (sSeq (sSet 3 0 (eOp dMod (eCB (d1 dInt) (aCons (eOp dAdd (eOp dAdd (eOp dMul (eVar 2) (eC (.int 48271))) (eOp dMul (eVar 1) (eC (.int 69621)))) (eC (.int 8191))) aNil)) (eC (.int 2147483647))) ([] ++ []))
  (sSeq (sSet 4 0 (eOp dMod (eCB (d1 dInt) (aCons (eOp dAdd (eOp dAdd (eOp dMul (eVar 3) (eVar 3)) (eOp dFdiv (eVar 3) (eC (.int 7)))) (eOp dMul (eVar 1) (eC (.int 16807)))) aNil)) (eC (.int 2147483629))) ([] ++ []))
  (sSeq (sSet 5 0 (eOp dMod (eCB (d1 dInt) (aCons (eOp dAdd (eOp dAdd (eOp dMul (eVar 4) (eVar 4)) (eOp dFdiv (eVar 4) (eC (.int 11)))) (eC (.int 40692))) aNil)) (eC (.int 2147483563))) ([] ++ []))
  (sRet (eOp dMod (eOp dFdiv (eVar 5) (eC (.int 5))) (eC (.int 1000003)))))))))
theorem ok__law_mixed {P : Program} {w : World} {K : PySem.W.Frag} {mg : Str → Option Value} {base : Heap} {ad : Nat → Addr} {fo : Nat → FuncData} (T : Tp K mg ad fo base) : FnOk P w K mg base CX0 1 (ad 23) (fo 23) ["script", "k"] (spD K 2 den__law_mixed) :=
  fun_den (k := 0) T.F__law_mixed sc__law_mixed rfl rfl (by decide) fun cdv A outer s H E hr =>
  (ss_cons (ss_set 2 0 sc__law_mixed.nd qint)
  (ss_cons (ss_if (qt_cmp (op_gtA (hu_of64 hr)) oc_gt (qe_bF call_len_seq cf_len (by rfl) T.z_len (by decide +kernel) (qa_cons (qv 0) qa_nil)) qint (nomark _))
  (ss_one (ss_set 2 0 sc__law_mixed.nd (qe_ix (qv 0) (qe_mod (qv 1) (qe_bF call_len_seq cf_len (by rfl) T.z_len (by decide +kernel) (qa_cons (qv 0) qa_nil))) (fun _ _ => rfl))))
  ss_nil)
  (ss_cons (ss_set 3 0 sc__law_mixed.nd (qe_mod (qe_tF call_int1 cf_int (by rfl) T.z_int (by decide +kernel) (qa_cons (qe_add (qe_add (qe_mul (qv 2) qint) (qe_mul (qv 1) qint)) qint) qa_nil)) qint))
  (ss_cons (ss_set 4 0 sc__law_mixed.nd (qe_mod (qe_tF call_int1 cf_int (by rfl) T.z_int (by decide +kernel) (qa_cons (qe_add (qe_add (qe_mul (qv 3) (qv 3)) (qe_fdiv (qv 3) qint)) (qe_mul (qv 1) qint)) qa_nil)) qint))
  (ss_cons (ss_set 5 0 sc__law_mixed.nd (qe_mod (qe_tF call_int1 cf_int (by rfl) T.z_int (by decide +kernel) (qa_cons (qe_add (qe_add (qe_mul (qv 4) (qv 4)) (qe_fdiv (qv 4) qint)) qint) qa_nil)) qint))
  (ss_one (ss_ret (qe_mod (qe_fdiv (qv 5) qint) qint))))))))
theorem sc__law_row : FnScope ["script", "many", "big", "row", "k"] ["script", "many"] (defScope (topS 29)) := ⟨rfl, rfl, rfl, by decide +kernel, rfl, by decide +kernel, by decide +kernel⟩
def den__law_row : Fn := dfun 5 2 (sSeq (sSet 2 0 (eC (.int 0)) [])
  (sSeq (sIf (tAndD (tCmp dGt (eCB (d1 dLen) (aCons (eVar 0) aNil)) (eC (.int 0))) (tCmp dGe (eIx (eVar 0) (eC (.int 0))) (eOp dPow (eC (.int 10)) (eC (.int 18)))))
  (sSet 2 0 (eIx (eVar 0) (eC (.int 0))) [(0, 1)])
  sNil)
  (sSeq (sSet 3 1 (eLst aNil) [])
  (sSeq (sFor (iRange1 (eVar 1)) [] (.nm 4)
  (sIf (tCmp dGt (eVar 2) (eC (.int 0)))
  (sSeq (sApp 3 (eOp dMod (eCB (d1 dInt) (aCons (eVar 2) aNil)) (eC (.int 1000))) ([] ++ []))
  (sSet 2 0 (eOp dFdiv (eVar 2) (eC (.int 1000))) ([(2, 1)] ++ [])))
  (sApp 3 (eCall 2 den__law_mixed (aCons (eVar 0) (aCons (eVar 4) aNil))) ([(0, 0)] ++ ([(4, 0)] ++ [])))))
  (sRet (eVar 3))))))
theorem ok__law_row {P : Program} {w : World} {K : PySem.W.Frag} {mg : Str → Option Value} {base : Heap} {ad : Nat → Addr} {fo : Nat → FuncData} (T : Tp K mg ad fo base) : FnOk P w K mg base CX0 2 (ad 24) (fo 24) ["script", "many"] (spD K 2 den__law_row) :=
  fun_den (k := 1) T.F__law_row sc__law_row rfl rfl (by decide) fun cdv A outer s H E hr =>
  (ss_cons (ss_set 2 0 sc__law_row.nd qint)
  (ss_cons (ss_if (PW.pt (qw_and (qt_cmp (op_gtA (hu_of64 hr)) oc_gt (qe_bF call_len_seq cf_len (by rfl) T.z_len (by decide +kernel) (qa_cons (qv 0) qa_nil)) qint (nomark _)) (qw_and1 (qt_cmp (op_geA (hu_of64 hr)) oc_ge (qe_ix (qv 0) qint (fun _ _ => rfl)) (qe_pow qint qint) (nomark _)))))
  (ss_one (ss_set 2 0 sc__law_row.nd (qe_ix (qv 0) qint (fun _ _ => rfl))))
  ss_nil)
  (ss_cons (ss_set 3 1 sc__law_row.nd (qe_lst qa_nil))
  (ss_cons (ss_for PassesOwn.never rfl (qi_range1 (by rfl) T.z_range (qv 1)) (gg 4 sc__law_row.nd)
  (ss_one (ss_if (qt_cmp (op_gtA (hu_of64 hr)) oc_gt (qv 2) qint (nomark _))
  (ss_cons (ss_app 3 (ps_expr (pe_bm PySem.F.plainAttrs_list PySem.F.slot_list_append PySem.F.type_list_append mt_append (pv 3) (pa_cons (qe_mod (qe_tF call_int1 cf_int (by rfl) T.z_int (by decide +kernel) (qa_cons (qv 2) qa_nil)) qint) pa_nil))))
  (ss_one (ss_set 2 0 sc__law_row.nd (qe_fdiv (qv 2) qint))))
  (ss_one (ss_app 3 (ps_expr (pe_bm PySem.F.plainAttrs_list PySem.F.slot_list_append PySem.F.type_list_append mt_append (pv 3) (pa_cons (qe_call (ok__law_mixed T) (hr.mono (by decide)) (by rfl) T.g__law_mixed T.F__law_mixed.kp T.b__law_mixed (qa_cons (qv 0) (qa_cons (qv 4) qa_nil))) pa_nil))))))))
  (ss_one (ss_ret (qv 3)))))))
theorem sc__law_is_int : FnScope ["value"] ["value"] (defScope (topS 30)) := ⟨rfl, rfl, rfl, by decide +kernel, rfl, by decide +kernel, by decide +kernel⟩
def den__law_is_int : Fn := dfun 1 1 (sRet (eAndD (eIsi "int" (eVar 0)) (eB (tNotD (tTru (eIsi "bool" (eVar 0)))))))
theorem ok__law_is_int {P : Program} {w : World} {K : PySem.W.Frag} {mg : Str → Option Value} {base : Heap} {ad : Nat → Addr} {fo : Nat → FuncData} (T : Tp K mg ad fo base) : FnOk P w K mg base CX0 1 (ad 25) (fo 25) ["value"] (spD K 1 den__law_is_int) :=
  fun_den (k := 0) T.F__law_is_int sc__law_is_int rfl rfl (by decide) fun cdv A outer s H E hr =>
  (ss_one (ss_ret (qe_and (qe_isi (by rfl) T.z_isinstance (qv 0) (by rfl) T.z_int (by decide +kernel)) (qe_one (qe_not (qe_isi (by rfl) T.z_isinstance (qv 0) (by rfl) T.z_bool (by decide +kernel)))))))
theorem sc__law_like : FnScope ["value", "due", "k"] ["value", "due"] (defScope (topS 31)) := ⟨rfl, rfl, rfl, by decide +kernel, rfl, by decide +kernel, by decide +kernel⟩
def den__law_like : Nat → Fn
  | 0 => fun _ => none
  | n + 1 => dfun 3 2 (sSeq (sIf (tIsND (eVar 1))
  (sRet (eIsN (eVar 0)))
  sNil)
  (sSeq (sIf (tTru (eIsi "bool" (eVar 1)))
  (sRet (eAndD (eIsi "bool" (eVar 0)) (eB (tCmp dEq (eVar 0) (eVar 1)))))
  sNil)
  (sSeq (sIf (tTru (eIsi "tuple" (eVar 1)))
  (sSeq (sIf (tOrD (tNotD (tTru (eIsi "tuple" (eVar 0)))) (tCmp dNe (eCB (d1 dLen) (aCons (eVar 0) aNil)) (eCB (d1 dLen) (aCons (eVar 1) aNil))))
  (sRet (eC (.bool false)))
  sNil)
  (sRet (eCB (d1 dAll) (aCons (eLc (iRange1 (eCB (d1 dLen) (aCons (eVar 1) aNil))) (.nm 2) tTrue (eCall 2 (den__law_like n) (aCons (eIx (eVar 0) (eVar 2)) (aCons (eIx (eVar 1) (eVar 2)) aNil))) [2]) aNil))))
  sNil)
  (sSeq (sIf (tTru (eIsi "str" (eVar 1)))
  (sRet (eAndD (eIsi "str" (eVar 0)) (eB (tCmp dEq (eVar 0) (eVar 1)))))
  sNil)
  (sRet (eAndD (eCall 1 den__law_is_int (aCons (eVar 0) aNil)) (eB (tCmp dEq (eVar 0) (eVar 1)))))))))
theorem ok__law_like {P : Program} {w : World} {K : PySem.W.Frag} {mg : Str → Option Value} {base : Heap} {ad : Nat → Addr} {fo : Nat → FuncData} (T : Tp K mg ad fo base) : ∀ n : Nat, FnOk P w K mg base CX0 (2 + n) (ad 26) (fo 26) ["value", "due"] (spD K 2 (den__law_like n))
  | 0 => fun_none (k := 1) T.F__law_like sc__law_like rfl
  | n + 1 => have ih := ok__law_like (P := P) (w := w) (base := base) T n
    fun_den (k := 2 + n) T.F__law_like sc__law_like rfl rfl (by decide) fun cdv A outer s H E hr =>
  (ss_cons (ss_if (qt_isN (qv 1))
  (ss_one (ss_ret (qe_isN (qv 0))))
  ss_nil)
  (ss_cons (ss_if (qt_tru (qe_isi (by rfl) T.z_isinstance (qv 1) (by rfl) T.z_bool (by decide +kernel)) (by intro _; rfl))
  (ss_one (ss_ret (qe_and (qe_isi (by rfl) T.z_isinstance (qv 0) (by rfl) T.z_bool (by decide +kernel)) (qe_one (qe_cmp (op_eqD (hu_of64 hr)) oc_eq (qv 0) (qv 1) (nomark _))))))
  ss_nil)
  (ss_cons (ss_if (qt_tru (qe_isi (by rfl) T.z_isinstance (qv 1) (by rfl) T.z_tuple (by decide +kernel)) (by intro _; rfl))
  (ss_cons (ss_if (PW.pt (qw_or (qt_not (qt_tru (qe_isi (by rfl) T.z_isinstance (qv 0) (by rfl) T.z_tuple (by decide +kernel)) (by intro _; rfl))) (qw_or1 (qt_cmp (op_neD (hu_of64 hr)) oc_ne (qe_bF call_len_seq cf_len (by rfl) T.z_len (by decide +kernel) (qa_cons (qv 0) qa_nil)) (qe_bF call_len_seq cf_len (by rfl) T.z_len (by decide +kernel) (qa_cons (qv 1) qa_nil)) (nomark _)))))
  (ss_one (ss_ret qbl))
  ss_nil)
  (ss_one (ss_ret (qe_bF (cr_all rfl) cf_all (by rfl) T.z_all (by decide +kernel) (qa_cons (qe_lc (own := [("k", 2)]) rfl sc__law_like.nd (qi_range1 (by rfl) T.z_range (qe_bF call_len_seq cf_len (by rfl) T.z_len (by decide +kernel) (qa_cons (qv 1) qa_nil))) (blkOk_by (own := [("k", 2)]) (N := ["value", "due", "k"]) (sc := (defScope (topS 31))) (by decide +kernel)) (fun _ _ _ _ _ => (gg 2 sc__law_like.nd)) (fun _ _ _ _ _ => qts_nil) (fun _ _ _ _ _ => (qe_call ih (hr.mono (Nat.le_refl _)) (by rfl) T.g__law_like T.F__law_like.kp T.b__law_like (qa_cons (qe_ix (qv 0) (qv 2) (fun _ _ => rfl)) (qa_cons (qe_ix (qv 1) (qv 2) (fun _ _ => rfl)) qa_nil))))) qa_nil)))))
  ss_nil)
  (ss_cons (ss_if (qt_tru (qe_isi (by rfl) T.z_isinstance (qv 1) (by rfl) T.z_str (by decide +kernel)) (by intro _; rfl))
  (ss_one (ss_ret (qe_and (qe_isi (by rfl) T.z_isinstance (qv 0) (by rfl) T.z_str (by decide +kernel)) (qe_one (qe_cmp (op_eqD (hu_of64 hr)) oc_eq (qv 0) (qv 1) (nomark _))))))
  ss_nil)
  (ss_one (ss_ret (qe_and (qe_call (ok__law_is_int T) (hr.mono (Nat.le_trans (by decide) (Nat.le_add_right 2 n))) (by rfl) T.g__law_is_int T.F__law_is_int.kp T.b__law_is_int (qa_cons (qv 0) qa_nil)) (qe_one (qe_cmp (op_eqD (hu_of64 hr)) oc_eq (qv 0) (qv 1) (nomark _))))))))))
theorem sc__law_orders : FnScope ["count", "rows", "turn", "grown", "row", "one"] ["count"] (defScope (topS 32)) := ⟨rfl, rfl, rfl, by decide +kernel, rfl, by decide +kernel, by decide +kernel⟩
def den__law_orders : Fn := dfun 6 1 (sSeq (sSet 1 0 (eLst (aCons (eTup aNil) aNil)) ([] ++ []))
  (sSeq (sFor (iRange1 (eVar 0)) [] (.nm 2)
  (sSeq (sSet 3 1 (eLst aNil) [])
  (sSeq (sFor (iSeq (eVar 1)) [(1, 0)] (.nm 4)
  (sExt 3 (eLc (iRange1 (eVar 0)) (.nm 5) (tCmp dNotIn (eVar 5) (eVar 4)) (eOp dAdd (eVar 4) (eTup (aCons (eVar 5) aNil))) [5]) ([] ++ ([(4, 1)] ++ ([(5, 0)] ++ [])))))
  (sSet 1 0 (eVar 3) [(3, 0)]))))
  (sRet (eVar 1))))
theorem ok__law_orders {P : Program} {w : World} {K : PySem.W.Frag} {mg : Str → Option Value} {base : Heap} {ad : Nat → Addr} {fo : Nat → FuncData} (T : Tp K mg ad fo base) : FnOk P w K mg base CX0 1 (ad 27) (fo 27) ["count"] (spD K 1 den__law_orders) :=
  fun_den (k := 0) T.F__law_orders sc__law_orders rfl rfl (by decide) fun cdv A outer s H E hr =>
  (ss_cons (ss_set 1 0 sc__law_orders.nd (qe_lst (qa_cons (qe_tup qa_nil) qa_nil)))
  (ss_cons (ss_for PassesOwn.never rfl (qi_range1 (by rfl) T.z_range (qv 0)) (gg 2 sc__law_orders.nd)
  (ss_cons (ss_set 3 1 sc__law_orders.nd (qe_lst qa_nil))
  (ss_cons (ss_for PassesOwn.never rfl (qi_seq (qv 1)) (gg 4 sc__law_orders.nd)
  (ss_one (ss_ext 3 (ps_expr (pe_bm PySem.F.plainAttrs_list PySem.F.slot_list_extend PySem.F.type_list_extend mt_extend (pv 3) (pa_cons (qe_lc (own := [("one", 5)]) rfl sc__law_orders.nd (qi_range1 (by rfl) T.z_range (qv 0)) (blkOk_by (own := [("one", 5)]) (N := ["count", "rows", "turn", "grown", "row", "one"]) (sc := (defScope (topS 32))) (by decide +kernel)) (fun _ _ _ _ _ => (gg 5 sc__law_orders.nd)) (fun _ _ _ _ _ => (qts_one (qt_cmp ((op_notInD (hu2_of hr)).or op_notIn_seq) oc_notIn (qv 5) (qv 4) (by rfl)))) (fun _ _ _ _ _ => (qe_add (qv 4) (qe_tup (qa_cons (qv 5) qa_nil))))) pa_nil))))))
  (ss_one (ss_set 1 0 sc__law_orders.nd (qv 3))))))
  (ss_one (ss_ret (qv 1)))))
theorem sc__law_common : FnScope ["first", "second"] ["first", "second"] (defScope (topS 33)) := ⟨rfl, rfl, rfl, by decide +kernel, rfl, by decide +kernel, by decide +kernel⟩
def den__law_common : Fn := dfun 2 2 (sSeq (sPar 0 1 (eCB (d1 dAbs) (aCons (eVar 0) aNil)) (eCB (d1 dAbs) (aCons (eVar 1) aNil)) ([] ++ []))
  (sSeq (sWhile 100000 (tCmp dGt (eVar 1) (eC (.int 0)))
  (sPar 0 1 (eVar 1) (eOp dMod (eCB (d1 dInt) (aCons (eVar 0) aNil)) (eVar 1)) ([(1, 0)] ++ ([] ++ [(1, 1)]))))
  (sRet (eVar 0))))
theorem ok__law_common {P : Program} {w : World} {K : PySem.W.Frag} {mg : Str → Option Value} {base : Heap} {ad : Nat → Addr} {fo : Nat → FuncData} (T : Tp K mg ad fo base) : FnOk P w K mg base CX0 1 (ad 28) (fo 28) ["first", "second"] (spD K 2 den__law_common) :=
  fun_den (k := 0) T.F__law_common sc__law_common rfl rfl (by decide) fun cdv A outer s H E hr =>
  (ss_cons (ss_par 0 1 rfl sc__law_common.nd (qe_bF call_abs cf_abs (by rfl) T.z_abs (by decide +kernel) (qa_cons (qv 0) qa_nil)) (qe_bF call_abs cf_abs (by rfl) T.z_abs (by decide +kernel) (qa_cons (qv 1) qa_nil)) (by rfl))
  (ss_cons (ss_while 100000 PassesOwn.never (qt_cmp (op_gtA (hu_of64 hr)) oc_gt (qv 1) qint (nomark _))
  (ss_one (ss_par 0 1 rfl sc__law_common.nd (qv 1) (qe_mod (qe_tF call_int1 cf_int (by rfl) T.z_int (by decide +kernel) (qa_cons (qv 0) qa_nil)) (qv 1)) (by rfl))))
  (ss_one (ss_ret (qv 0)))))
theorem sc__law_ratio : FnScope ["a", "b", "shared"] ["a", "b"] (defScope (topS 34)) := ⟨rfl, rfl, rfl, by decide +kernel, rfl, by decide +kernel, by decide +kernel⟩
def den__law_ratio : Fn := dfun 3 2 (sSeq (sSet 2 0 (eCall 2 den__law_common (aCons (eVar 0) (aCons (eVar 1) aNil))) ([(0, 0)] ++ ([(1, 0)] ++ [])))
  (sSeq (sIf (tCmp dLt (eVar 1) (eC (.int 0)))
  (sSet 2 0 (eUn dNeg (eVar 2)) [])
  sNil)
  (sRet (eTup (aCons (eOp dFdiv (eVar 0) (eVar 2)) (aCons (eOp dFdiv (eVar 1) (eVar 2)) aNil))))))
theorem ok__law_ratio {P : Program} {w : World} {K : PySem.W.Frag} {mg : Str → Option Value} {base : Heap} {ad : Nat → Addr} {fo : Nat → FuncData} (T : Tp K mg ad fo base) : FnOk P w K mg base CX0 2 (ad 29) (fo 29) ["a", "b"] (spD K 2 den__law_ratio) :=
  fun_den (k := 1) T.F__law_ratio sc__law_ratio rfl rfl (by decide) fun cdv A outer s H E hr =>
  (ss_cons (ss_set 2 0 sc__law_ratio.nd (qe_call (ok__law_common T) (hr.mono (by decide)) (by rfl) T.g__law_common T.F__law_common.kp T.b__law_common (qa_cons (qv 0) (qa_cons (qv 1) qa_nil))))
  (ss_cons (ss_if (qt_cmp (op_ltA (hu_of64 hr)) oc_lt (qv 1) qint (nomark _))
  (ss_one (ss_set 2 0 sc__law_ratio.nd (qe_neg (qv 2))))
  ss_nil)
  (ss_one (ss_ret (qe_tup (qa_cons (qe_fdiv (qv 0) (qv 2)) (qa_cons (qe_fdiv (qv 1) (qv 2)) qa_nil)))))))
theorem sc__law_is_ratio : FnScope ["value"] ["value"] (defScope (topS 35)) := ⟨rfl, rfl, rfl, by decide +kernel, rfl, by decide +kernel, by decide +kernel⟩
def den__law_is_ratio : Fn := dfun 1 1 (sSeq (sIf (tOrD (tNotD (tTru (eIsi "tuple" (eVar 0)))) (tOrD (tCmp dNe (eCB (d1 dLen) (aCons (eVar 0) aNil)) (eC (.int 2))) (tOrD (tNotD (tTru (eCall 1 den__law_is_int (aCons (eIx (eVar 0) (eC (.int 0))) aNil)))) (tNotD (tTru (eCall 1 den__law_is_int (aCons (eIx (eVar 0) (eC (.int 1))) aNil)))))))
  (sRet (eC (.bool false)))
  sNil)
  (sRet (eAndD (eB (tCmp dGt (eIx (eVar 0) (eC (.int 1))) (eC (.int 0)))) (eB (tCmp dEq (eCall 2 den__law_common (aCons (eIx (eVar 0) (eC (.int 0))) (aCons (eIx (eVar 0) (eC (.int 1))) aNil))) (eC (.int 1)))))))
theorem ok__law_is_ratio {P : Program} {w : World} {K : PySem.W.Frag} {mg : Str → Option Value} {base : Heap} {ad : Nat → Addr} {fo : Nat → FuncData} (T : Tp K mg ad fo base) : FnOk P w K mg base CX0 2 (ad 30) (fo 30) ["value"] (spD K 1 den__law_is_ratio) :=
  fun_den (k := 1) T.F__law_is_ratio sc__law_is_ratio rfl rfl (by decide) fun cdv A outer s H E hr =>
  (ss_cons (ss_if (PW.pt (qw_or (qt_not (qt_tru (qe_isi (by rfl) T.z_isinstance (qv 0) (by rfl) T.z_tuple (by decide +kernel)) (by intro _; rfl))) (qw_or (qt_cmp (op_neD (hu_of64 hr)) oc_ne (qe_bF call_len_seq cf_len (by rfl) T.z_len (by decide +kernel) (qa_cons (qv 0) qa_nil)) qint (nomark _)) (qw_or (qt_not (qt_tru (qe_call (ok__law_is_int T) (hr.mono (by decide)) (by rfl) T.g__law_is_int T.F__law_is_int.kp T.b__law_is_int (qa_cons (qe_ix (qv 0) qint (fun _ _ => rfl)) qa_nil)) (by intro _; rfl))) (qw_or1 (qt_not (qt_tru (qe_call (ok__law_is_int T) (hr.mono (by decide)) (by rfl) T.g__law_is_int T.F__law_is_int.kp T.b__law_is_int (qa_cons (qe_ix (qv 0) qint (fun _ _ => rfl)) qa_nil)) (by intro _; rfl))))))))
  (ss_one (ss_ret qbl))
  ss_nil)
  (ss_one (ss_ret (qe_and (qe_cmp (op_gtA (hu_of64 hr)) oc_gt (qe_ix (qv 0) qint (fun _ _ => rfl)) qint (nomark _)) (qe_one (qe_cmp (op_eqD (hu_of64 hr)) oc_eq (qe_call (ok__law_common T) (hr.mono (by decide)) (by rfl) T.g__law_common T.F__law_common.kp T.b__law_common (qa_cons (qe_ix (qv 0) qint (fun _ _ => rfl)) (qa_cons (qe_ix (qv 0) qint (fun _ _ => rfl)) qa_nil))) qint (nomark _)))))))
theorem sc__law_ratio_row : FnScope ["value", "n", "one"] ["value", "n"] (defScope (topS 36)) := ⟨rfl, rfl, rfl, by decide +kernel, rfl, by decide +kernel, by decide +kernel⟩
def den__law_ratio_row : Fn := dfun 3 2 (sRet (eAndD (eIsi "tuple" (eVar 0)) (eAndD (eB (tCmp dEq (eCB (d1 dLen) (aCons (eVar 0) aNil)) (eVar 1))) (eCB (d1 dAll) (aCons (eLc (iSeq (eVar 0)) (.nm 2) tTrue (eCall 1 den__law_is_ratio (aCons (eVar 2) aNil)) [2]) aNil)))))
theorem ok__law_ratio_row {P : Program} {w : World} {K : PySem.W.Frag} {mg : Str → Option Value} {base : Heap} {ad : Nat → Addr} {fo : Nat → FuncData} (T : Tp K mg ad fo base) : FnOk P w K mg base CX0 3 (ad 31) (fo 31) ["value", "n"] (spD K 2 den__law_ratio_row) :=
  fun_den (k := 2) T.F__law_ratio_row sc__law_ratio_row rfl rfl (by decide) fun cdv A outer s H E hr =>
  (ss_one (ss_ret (qe_and (qe_isi (by rfl) T.z_isinstance (qv 0) (by rfl) T.z_tuple (by decide +kernel)) (qe_and (qe_cmp (op_eqD (hu_of64 hr)) oc_eq (qe_bF call_len_seq cf_len (by rfl) T.z_len (by decide +kernel) (qa_cons (qv 0) qa_nil)) (qv 1) (nomark _)) (qe_one (qe_bF (cr_all rfl) cf_all (by rfl) T.z_all (by decide +kernel) (qa_cons (qe_lc (own := [("one", 2)]) rfl sc__law_ratio_row.nd (qi_seq (qv 0)) (blkOk_by (own := [("one", 2)]) (N := ["value", "n", "one"]) (sc := (defScope (topS 36))) (by decide +kernel)) (fun _ _ _ _ _ => (gg 2 sc__law_ratio_row.nd)) (fun _ _ _ _ _ => qts_nil) (fun _ _ _ _ _ => (qe_call (ok__law_is_ratio T) (hr.mono (by decide)) (by rfl) T.g__law_is_ratio T.F__law_is_ratio.kp T.b__law_is_ratio (qa_cons (qv 2) qa_nil)))) qa_nil)))))))
theorem sc__law_add : FnScope ["x", "y"] ["x", "y"] (defScope (topS 37)) := ⟨rfl, rfl, rfl, by decide +kernel, rfl, by decide +kernel, by decide +kernel⟩
def den__law_add : Fn := dfun 2 2 (sRet (eCall 2 den__law_ratio (aCons (eOp dAdd (eOp dMul (eIx (eVar 0) (eC (.int 0))) (eIx (eVar 1) (eC (.int 1)))) (eOp dMul (eIx (eVar 1) (eC (.int 0))) (eIx (eVar 0) (eC (.int 1))))) (aCons (eOp dMul (eIx (eVar 0) (eC (.int 1))) (eIx (eVar 1) (eC (.int 1)))) aNil))))
theorem ok__law_add {P : Program} {w : World} {K : PySem.W.Frag} {mg : Str → Option Value} {base : Heap} {ad : Nat → Addr} {fo : Nat → FuncData} (T : Tp K mg ad fo base) : FnOk P w K mg base CX0 3 (ad 32) (fo 32) ["x", "y"] (spD K 2 den__law_add) :=
  fun_den (k := 2) T.F__law_add sc__law_add rfl rfl (by decide) fun cdv A outer s H E hr =>
  (ss_one (ss_ret (qe_call (ok__law_ratio T) (hr.mono (by decide)) (by rfl) T.g__law_ratio T.F__law_ratio.kp T.b__law_ratio (qa_cons (qe_add (qe_mul (qe_ix (qv 0) qint (fun _ _ => rfl)) (qe_ix (qv 1) qint (fun _ _ => rfl))) (qe_mul (qe_ix (qv 1) qint (fun _ _ => rfl)) (qe_ix (qv 0) qint (fun _ _ => rfl)))) (qa_cons (qe_mul (qe_ix (qv 0) qint (fun _ _ => rfl)) (qe_ix (qv 1) qint (fun _ _ => rfl))) qa_nil)))))
theorem sc__law_under : FnScope ["x", "y"] ["x", "y"] (defScope (topS 38)) := ⟨rfl, rfl, rfl, by decide +kernel, rfl, by decide +kernel, by decide +kernel⟩
def den__law_under : Fn := dfun 2 2 (sRet (eB (tCmp dLt (eOp dMul (eIx (eVar 0) (eC (.int 0))) (eIx (eVar 1) (eC (.int 1)))) (eOp dMul (eIx (eVar 1) (eC (.int 0))) (eIx (eVar 0) (eC (.int 1)))))))
theorem ok__law_under {P : Program} {w : World} {K : PySem.W.Frag} {mg : Str → Option Value} {base : Heap} {ad : Nat → Addr} {fo : Nat → FuncData} (T : Tp K mg ad fo base) : FnOk P w K mg base CX0 1 (ad 33) (fo 33) ["x", "y"] (spD K 2 den__law_under) :=
  fun_den (k := 0) T.F__law_under sc__law_under rfl rfl (by decide) fun cdv A outer s H E hr =>
  (ss_one (ss_ret (qe_cmp (op_ltA (hu_of64 hr)) oc_lt (qe_mul (qe_ix (qv 0) qint (fun _ _ => rfl)) (qe_ix (qv 1) qint (fun _ _ => rfl))) (qe_mul (qe_ix (qv 1) qint (fun _ _ => rfl)) (qe_ix (qv 0) qint (fun _ _ => rfl))) (nomark _))))
theorem sc__law_dot : FnScope ["ratios", "numbers", "total_v", "k"] ["ratios", "numbers"] (defScope (topS 39)) := ⟨rfl, rfl, rfl, by decide +kernel, rfl, by decide +kernel, by decide +kernel⟩
def den__law_dot : Fn := dfun 4 2 (sSeq (sSet 2 0 (eTup (aCons (eC (.int 0)) (aCons (eC (.int 1)) aNil))) ([] ++ ([] ++ [])))
  (sSeq (sFor (iRange1 (eCB (d1 dLen) (aCons (eVar 1) aNil))) [] (.nm 3)
  (sSet 2 0 (eCall 2 den__law_add (aCons (eVar 2) (aCons (eCall 2 den__law_ratio (aCons (eOp dMul (eIx (eIx (eVar 0) (eVar 3)) (eC (.int 0))) (eIx (eVar 1) (eVar 3))) (aCons (eIx (eIx (eVar 0) (eVar 3)) (eC (.int 1))) aNil))) aNil))) ([(2, 0)] ++ ((([(0, 3)] ++ [(1, 2)]) ++ ([(0, 2)] ++ [])) ++ []))))
  (sRet (eVar 2))))
theorem ok__law_dot {P : Program} {w : World} {K : PySem.W.Frag} {mg : Str → Option Value} {base : Heap} {ad : Nat → Addr} {fo : Nat → FuncData} (T : Tp K mg ad fo base) : FnOk P w K mg base CX0 4 (ad 34) (fo 34) ["ratios", "numbers"] (spD K 2 den__law_dot) :=
  fun_den (k := 3) T.F__law_dot sc__law_dot rfl rfl (by decide) fun cdv A outer s H E hr =>
  (ss_cons (ss_set 2 0 sc__law_dot.nd (qe_tup (qa_cons qint (qa_cons qint qa_nil))))
  (ss_cons (ss_for PassesOwn.never rfl (qi_range1 (by rfl) T.z_range (qe_bF call_len_seq cf_len (by rfl) T.z_len (by decide +kernel) (qa_cons (qv 1) qa_nil))) (gg 3 sc__law_dot.nd)
  (ss_one (ss_set 2 0 sc__law_dot.nd (qe_call (ok__law_add T) (hr.mono (by decide)) (by rfl) T.g__law_add T.F__law_add.kp T.b__law_add (qa_cons (qv 2) (qa_cons (qe_call (ok__law_ratio T) (hr.mono (by decide)) (by rfl) T.g__law_ratio T.F__law_ratio.kp T.b__law_ratio (qa_cons (qe_mul (qe_ix (qe_ix (qv 0) (qv 3) (fun _ _ => rfl)) qint (fun _ _ => rfl)) (qe_ix (qv 1) (qv 3) (fun _ _ => rfl))) (qa_cons (qe_ix (qe_ix (qv 0) (qv 3) (fun _ _ => rfl)) qint (fun _ _ => rfl)) qa_nil))) qa_nil))))))
  (ss_one (ss_ret (qv 2)))))
theorem sc__law_best : FnScope ["table", "best", "rooms", "worth", "k"] ["table"] (defScope (topS 40)) := ⟨rfl, rfl, rfl, by decide +kernel, rfl, by decide +kernel, by decide +kernel⟩
def den__law_best : Fn := dfun 5 1 (sSeq (sSet 1 0 (eC .none) [])
  (sSeq (sFor (iSeq (eCall 1 den__law_orders (aCons (eCB (d1 dLen) (aCons (eVar 0) aNil)) aNil))) ([] ++ []) (.nm 2)
  (sSeq (sSet 3 0 (eCB (d1 dSum) (aCons (eLc (iRange1 (eCB (d1 dLen) (aCons (eVar 0) aNil))) (.nm 4) tTrue (eIx (eIx (eVar 0) (eVar 4)) (eIx (eVar 2) (eVar 4))) [4]) aNil)) [])
  (sIf (tOrD (tIsND (eVar 1)) (tCmp dGt (eVar 3) (eIx (eVar 1) (eC (.int 0)))))
  (sSet 1 0 (eTup (aCons (eVar 3) (aCons (eVar 2) aNil))) ([(3, 0)] ++ ([(2, 0)] ++ [])))
  sNil)))
  (sRet (eVar 1))))
theorem ok__law_best {P : Program} {w : World} {K : PySem.W.Frag} {mg : Str → Option Value} {base : Heap} {ad : Nat → Addr} {fo : Nat → FuncData} (T : Tp K mg ad fo base) : FnOk P w K mg base CX0 2 (ad 35) (fo 35) ["table"] (spD K 1 den__law_best) :=
  fun_den (k := 1) T.F__law_best sc__law_best rfl rfl (by decide) fun cdv A outer s H E hr =>
  (ss_cons (ss_set 1 0 sc__law_best.nd qnon)
  (ss_cons (ss_for PassesOwn.never rfl (qi_seq (qe_call (ok__law_orders T) (hr.mono (by decide)) (by rfl) T.g__law_orders T.F__law_orders.kp T.b__law_orders (qa_cons (qe_bF call_len_seq cf_len (by rfl) T.z_len (by decide +kernel) (qa_cons (qv 0) qa_nil)) qa_nil))) (gg 2 sc__law_best.nd)
  (ss_cons (ss_set 3 0 sc__law_best.nd (qe_bF (cr_sumA rfl) cf_sum (by rfl) T.z_sum (by decide +kernel) (qa_cons (qe_lc (own := [("k", 4)]) rfl sc__law_best.nd (qi_range1 (by rfl) T.z_range (qe_bF call_len_seq cf_len (by rfl) T.z_len (by decide +kernel) (qa_cons (qv 0) qa_nil))) (blkOk_by (own := [("k", 4)]) (N := ["table", "best", "rooms", "worth", "k"]) (sc := (defScope (topS 40))) (by decide +kernel)) (fun _ _ _ _ _ => (gg 4 sc__law_best.nd)) (fun _ _ _ _ _ => qts_nil) (fun _ _ _ _ _ => (qe_ix (qe_ix (qv 0) (qv 4) (fun _ _ => rfl)) (qe_ix (qv 2) (qv 4) (fun _ _ => rfl)) (fun _ _ => rfl)))) qa_nil)))
  (ss_one (ss_if (PW.pt (qw_or (qt_isN (qv 1)) (qw_or1 (qt_cmp (op_gtA (hu_of64 hr)) oc_gt (qv 3) (qe_ix (qv 1) qint (fun _ _ => rfl)) (nomark _)))))
  (ss_one (ss_set 1 0 sc__law_best.nd (qe_tup (qa_cons (qv 3) (qa_cons (qv 2) qa_nil)))))
  ss_nil))))
  (ss_one (ss_ret (qv 1)))))
theorem sc__law_fair : FnScope ["table", "rent", "rooms", "prices", "k", "own", "room"] ["table", "rent", "rooms", "prices"] (defScope (topS 41)) := ⟨rfl, rfl, rfl, by decide +kernel, rfl, by decide +kernel, by decide +kernel⟩
def den__law_fair : Fn := dfun 7 4 (sSeq (sIf (tOrD (tNotD (tTru (eCall 2 den__law_ratio_row (aCons (eVar 3) (aCons (eCB (d1 dLen) (aCons (eVar 0) aNil)) aNil))))) (tCmp dNe (eCall 2 den__law_dot (aCons (eVar 3) (aCons (eOp dMul (eLst (aCons (eC (.int 1)) aNil)) (eCB (d1 dLen) (aCons (eVar 0) aNil))) aNil))) (eTup (aCons (eVar 1) (aCons (eC (.int 1)) aNil)))))
  (sRet (eC (.bool false)))
  sNil)
  (sSeq (sFor (iRange1 (eCB (d1 dLen) (aCons (eVar 0) aNil))) [] (.nm 4)
  (sSeq (sSet 5 0 (eCall 2 den__law_add (aCons (eTup (aCons (eIx (eIx (eVar 0) (eVar 4)) (eIx (eVar 2) (eVar 4))) (aCons (eC (.int 1)) aNil))) (aCons (eTup (aCons (eUn dNeg (eIx (eIx (eVar 3) (eIx (eVar 2) (eVar 4))) (eC (.int 0)))) (aCons (eIx (eIx (eVar 3) (eIx (eVar 2) (eVar 4))) (eC (.int 1))) aNil))) aNil))) (([(0, 2)] ++ ([] ++ [])) ++ (([] ++ ([(3, 2)] ++ [])) ++ [])))
  (sFor (iRange1 (eCB (d1 dLen) (aCons (eVar 0) aNil))) [] (.nm 6)
  (sIf (tTru (eCall 2 den__law_under (aCons (eVar 5) (aCons (eCall 2 den__law_add (aCons (eTup (aCons (eIx (eIx (eVar 0) (eVar 4)) (eVar 6)) (aCons (eC (.int 1)) aNil))) (aCons (eTup (aCons (eUn dNeg (eIx (eIx (eVar 3) (eVar 6)) (eC (.int 0)))) (aCons (eIx (eIx (eVar 3) (eVar 6)) (eC (.int 1))) aNil))) aNil))) aNil))))
  (sRet (eC (.bool false)))
  sNil))))
  (sRet (eC (.bool true)))))
theorem ok__law_fair {P : Program} {w : World} {K : PySem.W.Frag} {mg : Str → Option Value} {base : Heap} {ad : Nat → Addr} {fo : Nat → FuncData} (T : Tp K mg ad fo base) : FnOk P w K mg base CX0 5 (ad 36) (fo 36) ["table", "rent", "rooms", "prices"] (spD K 4 den__law_fair) :=
  fun_den (k := 4) T.F__law_fair sc__law_fair rfl rfl (by decide) fun cdv A outer s H E hr =>
  (ss_cons (ss_if (PW.pt (qw_or (qt_not (qt_tru (qe_call (ok__law_ratio_row T) (hr.mono (by decide)) (by rfl) T.g__law_ratio_row T.F__law_ratio_row.kp T.b__law_ratio_row (qa_cons (qv 3) (qa_cons (qe_bF call_len_seq cf_len (by rfl) T.z_len (by decide +kernel) (qa_cons (qv 0) qa_nil)) qa_nil))) (by intro _; rfl))) (qw_or1 (qt_cmp (op_neD (hu_of64 hr)) oc_ne (qe_call (ok__law_dot T) (hr.mono (by decide)) (by rfl) T.g__law_dot T.F__law_dot.kp T.b__law_dot (qa_cons (qv 3) (qa_cons (qe_mul (qe_lst (qa_cons qint qa_nil)) (qe_bF call_len_seq cf_len (by rfl) T.z_len (by decide +kernel) (qa_cons (qv 0) qa_nil))) qa_nil))) (qe_tup (qa_cons (qv 1) (qa_cons qint qa_nil))) (nomark _)))))
  (ss_one (ss_ret qbl))
  ss_nil)
  (ss_cons (ss_for PassesOwn.never rfl (qi_range1 (by rfl) T.z_range (qe_bF call_len_seq cf_len (by rfl) T.z_len (by decide +kernel) (qa_cons (qv 0) qa_nil))) (gg 4 sc__law_fair.nd)
  (ss_cons (ss_set 5 0 sc__law_fair.nd (qe_call (ok__law_add T) (hr.mono (by decide)) (by rfl) T.g__law_add T.F__law_add.kp T.b__law_add (qa_cons (qe_tup (qa_cons (qe_ix (qe_ix (qv 0) (qv 4) (fun _ _ => rfl)) (qe_ix (qv 2) (qv 4) (fun _ _ => rfl)) (fun _ _ => rfl)) (qa_cons qint qa_nil))) (qa_cons (qe_tup (qa_cons (qe_neg (qe_ix (qe_ix (qv 3) (qe_ix (qv 2) (qv 4) (fun _ _ => rfl)) (fun _ _ => rfl)) qint (fun _ _ => rfl))) (qa_cons (qe_ix (qe_ix (qv 3) (qe_ix (qv 2) (qv 4) (fun _ _ => rfl)) (fun _ _ => rfl)) qint (fun _ _ => rfl)) qa_nil))) qa_nil))))
  (ss_one (ss_for PassesOwn.never rfl (qi_range1 (by rfl) T.z_range (qe_bF call_len_seq cf_len (by rfl) T.z_len (by decide +kernel) (qa_cons (qv 0) qa_nil))) (gg 6 sc__law_fair.nd)
  (ss_one (ss_if (qt_tru (qe_call (ok__law_under T) (hr.mono (by decide)) (by rfl) T.g__law_under T.F__law_under.kp T.b__law_under (qa_cons (qv 5) (qa_cons (qe_call (ok__law_add T) (hr.mono (by decide)) (by rfl) T.g__law_add T.F__law_add.kp T.b__law_add (qa_cons (qe_tup (qa_cons (qe_ix (qe_ix (qv 0) (qv 4) (fun _ _ => rfl)) (qv 6) (fun _ _ => rfl)) (qa_cons qint qa_nil))) (qa_cons (qe_tup (qa_cons (qe_neg (qe_ix (qe_ix (qv 3) (qv 6) (fun _ _ => rfl)) qint (fun _ _ => rfl))) (qa_cons (qe_ix (qe_ix (qv 3) (qv 6) (fun _ _ => rfl)) qint (fun _ _ => rfl)) qa_nil))) qa_nil))) qa_nil))) (by intro _; rfl))
  (ss_one (ss_ret qbl))
  ss_nil))))))
  (ss_one (ss_ret qbl))))
theorem sc__law_widest : FnScope ["table", "rent", "best", "n", "rooms", "leads", "turn", "grown", "k", "gain", "prices", "j"] ["table", "rent", "best"] (defScope (topS 42)) := ⟨rfl, rfl, rfl, by decide +kernel, rfl, by decide +kernel, by decide +kernel⟩
def den__law_widest : Fn := dfun 12 3 (sSeq (sTup (.tp [(.nm 3), (.nm 4)]) (eTup (aCons (eCB (d1 dLen) (aCons (eVar 0) aNil)) (aCons (eIx (eVar 2) (eC (.int 1))) aNil))) ([] ++ ([(2, 1)] ++ [])))
  (sSeq (sSet 5 0 (eOp dMul (eLst (aCons (eC (.int 0)) aNil)) (eVar 3)) (([] ++ []) ++ [(3, 1)]))
  (sSeq (sFor (iRange1 (eVar 3)) [] (.nm 6)
  (sSeq (sSet 7 1 (eLst aNil) [])
  (sSeq (sFor (iRange1 (eVar 3)) [] (.nm 8)
  (sApp 7 (eCB (d1 dMax1) (aCons (eLc (iRange1 (eVar 3)) (.nm 11) tTrue (eOp dSub (eOp dAdd (eIx (eVar 5) (eVar 11)) (eIx (eIx (eVar 0) (eVar 8)) (eIx (eVar 4) (eVar 11)))) (eIx (eIx (eVar 0) (eVar 11)) (eIx (eVar 4) (eVar 11)))) [11]) aNil)) []))
  (sSet 5 0 (eVar 7) [(7, 0)]))))
  (sSeq (sSet 9 0 (eCall 2 den__law_ratio (aCons (eOp dSub (eOp dSub (eIx (eVar 2) (eC (.int 0))) (eVar 1)) (eCB (d1 dSum) (aCons (eVar 5) aNil))) (aCons (eVar 3) aNil))) ((([(2, 2)] ++ [(1, 1)]) ++ []) ++ ([(3, 0)] ++ [])))
  (sSeq (sSet 10 1 (eOp dMul (eLst (aCons (eTup (aCons (eC (.int 0)) (aCons (eC (.int 1)) aNil))) aNil)) (eVar 3)) ((([] ++ ([] ++ [])) ++ []) ++ [(3, 1)]))
  (sSeq (sFor (iRange1 (eVar 3)) [] (.nm 8)
  (sPut 10 (eIx (eVar 4) (eVar 8)) (eCall 2 den__law_add (aCons (eTup (aCons (eOp dSub (eIx (eIx (eVar 0) (eVar 8)) (eIx (eVar 4) (eVar 8))) (eIx (eVar 5) (eVar 8))) (aCons (eC (.int 1)) aNil))) (aCons (eTup (aCons (eUn dNeg (eIx (eVar 9) (eC (.int 0)))) (aCons (eIx (eVar 9) (eC (.int 1))) aNil))) aNil))) ((([(0, 3)] ++ [(5, 2)]) ++ ([] ++ [])) ++ (([] ++ ([(9, 1)] ++ [])) ++ []))))
  (sRet (eTup (aCons (eCB (d1 dTuple) (aCons (eVar 10) aNil)) (aCons (eVar 9) aNil))))))))))
theorem ok__law_widest {P : Program} {w : World} {K : PySem.W.Frag} {mg : Str → Option Value} {base : Heap} {ad : Nat → Addr} {fo : Nat → FuncData} (T : Tp K mg ad fo base) : FnOk P w K mg base CX0 4 (ad 37) (fo 37) ["table", "rent", "best"] (spD K 3 den__law_widest) :=
  fun_den (k := 3) T.F__law_widest sc__law_widest rfl rfl (by decide) fun cdv A outer s H E hr =>
  (ss_cons (ss_tup (qe_tup (qa_cons (qe_bF call_len_seq cf_len (by rfl) T.z_len (by decide +kernel) (qa_cons (qv 0) qa_nil)) (qa_cons (qe_ix (qv 2) qint (fun _ _ => rfl)) qa_nil))) (gg_tup rfl (ggs_cons (gg 3 sc__law_widest.nd) (ggs_cons (gg 4 sc__law_widest.nd) ggs_nil))))
  (ss_cons (ss_set 5 0 sc__law_widest.nd (qe_mul (qe_lst (qa_cons qint qa_nil)) (qv 3)))
  (ss_cons (ss_for PassesOwn.never rfl (qi_range1 (by rfl) T.z_range (qv 3)) (gg 6 sc__law_widest.nd)
  (ss_cons (ss_set 7 1 sc__law_widest.nd (qe_lst qa_nil))
  (ss_cons (ss_for PassesOwn.never rfl (qi_range1 (by rfl) T.z_range (qv 3)) (gg 8 sc__law_widest.nd)
  (ss_one (ss_app 7 (ps_expr (pe_bm PySem.F.plainAttrs_list PySem.F.slot_list_append PySem.F.type_list_append mt_append (pv 7) (pa_cons (qe_bF (cr_maxD rfl (hu_of64 hr)) cf_max1 (by rfl) T.z_max (by decide +kernel) (qa_cons (qe_lc (own := [("j", 11)]) rfl sc__law_widest.nd (qi_range1 (by rfl) T.z_range (qv 3)) (blkOk_by (own := [("j", 11)]) (N := ["table", "rent", "best", "n", "rooms", "leads", "turn", "grown", "k", "gain", "prices", "j"]) (sc := (defScope (topS 42))) (by decide +kernel)) (fun _ _ _ _ _ => (gg 11 sc__law_widest.nd)) (fun _ _ _ _ _ => qts_nil) (fun _ _ _ _ _ => (qe_sub (qe_add (qe_ix (qv 5) (qv 11) (fun _ _ => rfl)) (qe_ix (qe_ix (qv 0) (qv 8) (fun _ _ => rfl)) (qe_ix (qv 4) (qv 11) (fun _ _ => rfl)) (fun _ _ => rfl))) (qe_ix (qe_ix (qv 0) (qv 11) (fun _ _ => rfl)) (qe_ix (qv 4) (qv 11) (fun _ _ => rfl)) (fun _ _ => rfl))))) qa_nil)) pa_nil))))))
  (ss_one (ss_set 5 0 sc__law_widest.nd (qv 7))))))
  (ss_cons (ss_set 9 0 sc__law_widest.nd (qe_call (ok__law_ratio T) (hr.mono (by decide)) (by rfl) T.g__law_ratio T.F__law_ratio.kp T.b__law_ratio (qa_cons (qe_sub (qe_sub (qe_ix (qv 2) qint (fun _ _ => rfl)) (qv 1)) (qe_bF (cr_sumA rfl) cf_sum (by rfl) T.z_sum (by decide +kernel) (qa_cons (qv 5) qa_nil))) (qa_cons (qv 3) qa_nil))))
  (ss_cons (ss_set 10 1 sc__law_widest.nd (qe_mul (qe_lst (qa_cons (qe_tup (qa_cons qint (qa_cons qint qa_nil))) qa_nil)) (qv 3)))
  (ss_cons (ss_for PassesOwn.never rfl (qi_range1 (by rfl) T.z_range (qv 3)) (gg 8 sc__law_widest.nd)
  (ss_one (ss_put 10 (ps_asg (qe_call (ok__law_add T) (hr.mono (by decide)) (by rfl) T.g__law_add T.F__law_add.kp T.b__law_add (qa_cons (qe_tup (qa_cons (qe_sub (qe_ix (qe_ix (qv 0) (qv 8) (fun _ _ => rfl)) (qe_ix (qv 4) (qv 8) (fun _ _ => rfl)) (fun _ _ => rfl)) (qe_ix (qv 5) (qv 8) (fun _ _ => rfl))) (qa_cons qint qa_nil))) (qa_cons (qe_tup (qa_cons (qe_neg (qe_ix (qv 9) qint (fun _ _ => rfl))) (qa_cons (qe_ix (qv 9) qint (fun _ _ => rfl)) qa_nil))) qa_nil))) (pg_sub (pv 10) (qe_ix (qv 4) (qv 8) (fun _ _ => rfl)) set_list)))))
  (ss_one (ss_ret (qe_tup (qa_cons (qe_tD call_tuple_of cd_tuple (by rfl) T.z_tuple (by decide +kernel) (qa_cons (qv 10) qa_nil)) (qa_cons (qv 9) qa_nil)))))))))))
theorem sc__law_fits_right : FnScope ["table", "rent", "best", "n", "costs", "first", "second", "k", "line", "one", "j", "worth"] ["table", "rent", "best"] (defScope (topS 43)) := ⟨rfl, rfl, rfl, by decide +kernel, rfl, by decide +kernel, by decide +kernel⟩
def den__law_fits_right : Fn := dfun 12 3 (sSeq (sSet 3 0 (eCB (d1 dLen) (aCons (eVar 0) aNil)) [])
  (sSeq (sSet 4 0 (eCB (d1 dTuple) (aCons (eLc (iSeq (eVar 0)) (.nm 8) tTrue (eCB (d1 dTuple) (aCons (eLc (iSeq (eVar 8)) (.nm 11) tTrue (eOp dSub (eC (.int 50)) (eVar 11)) [11]) aNil)) [8]) aNil)) (([(0, 1)] ++ (([(8, 1)] ++ ([] ++ [(11, 1)])) ++ [])) ++ []))
  (sSeq (sIf (tNotD (tTru (eCall 2 (den__law_like 30) (aCons (eCall 1 den_best_fit (aCons (eVar 4) aNil)) (aCons (eTup (aCons (eOp dSub (eOp dMul (eC (.int 50)) (eVar 3)) (eIx (eVar 2) (eC (.int 0)))) (aCons (eIx (eVar 2) (eC (.int 1))) aNil))) aNil)))))
  (sRet (eC .none))
  sNil)
  (sSeq (sTup (.tp [(.nm 5), (.nm 6)]) (eCall 1 den_fit_prices (aCons (eVar 4) aNil)) ([(4, 0)] ++ []))
  (sSeq (sIf (tOrD (tNotD (tTru (eIsi "tuple" (eVar 5)))) (tOrD (tNotD (tTru (eIsi "tuple" (eVar 6)))) (tOrD (tCmp dNe (eCB (d1 dLen) (aCons (eVar 5) aNil)) (eVar 3)) (tCmp dNe (eCB (d1 dLen) (aCons (eVar 6) aNil)) (eVar 3)))))
  (sRet (eC .none))
  sNil)
  (sSeq (sIf (tOrD (tNotD (tTru (eCB (d1 dAll) (aCons (eLc (iSeq (eOp dAdd (eVar 5) (eVar 6))) (.nm 9) tTrue (eCall 1 den__law_is_int (aCons (eVar 9) aNil)) [9]) aNil)))) (tCmp dNe (eCB (d1 dSum) (aCons (eOp dAdd (eVar 5) (eVar 6)) aNil)) (eOp dSub (eOp dMul (eC (.int 50)) (eVar 3)) (eIx (eVar 2) (eC (.int 0))))))
  (sRet (eC .none))
  sNil)
  (sSeq (sFor (iRange1 (eVar 3)) [] (.nm 7)
  (sIf (tTru (eCB (d1 dAny) (aCons (eLc (iRange1 (eVar 3)) (.nm 10) tTrue (eB (tCmp dGt (eOp dAdd (eIx (eVar 5) (eVar 7)) (eIx (eVar 6) (eVar 10))) (eIx (eIx (eVar 4) (eVar 7)) (eVar 10)))) [10]) aNil)))
  (sRet (eC .none))
  sNil))
  (sSeq (sIf (tCmp dIsNot (eCall 3 den_judge_prices (aCons (eVar 4) (aCons (eVar 5) (aCons (eVar 6) aNil)))) (eC (.bool true)))
  (sRet (eC .none))
  sNil)
  (sRet (eCB (d1 dTuple) (aCons (eLc (iSeq (eVar 6)) (.nm 9) tTrue (eCall 2 den__law_ratio (aCons (eOp dSub (eOp dAdd (eVar 1) (eCB (d1 dSum) (aCons (eVar 6) aNil))) (eOp dMul (eVar 3) (eVar 9))) (aCons (eVar 3) aNil))) [9]) aNil)))))))))))
theorem ok__law_fits_right {P : Program} {w : World} {K : PySem.W.Frag} {mg : Str → Option Value} {base : Heap} {ad : Nat → Addr} {fo : Nat → FuncData} (T : Tp K mg ad fo base) : FnOk P w K mg base CX0 33 (ad 38) (fo 38) ["table", "rent", "best"] (spD K 3 den__law_fits_right) :=
  fun_den (k := 32) T.F__law_fits_right sc__law_fits_right rfl rfl (by decide) fun cdv A outer s H E hr =>
  (ss_cons (ss_set 3 0 sc__law_fits_right.nd (qe_bF call_len_seq cf_len (by rfl) T.z_len (by decide +kernel) (qa_cons (qv 0) qa_nil)))
  (ss_cons (ss_set 4 0 sc__law_fits_right.nd (qe_tD call_tuple_of cd_tuple (by rfl) T.z_tuple (by decide +kernel) (qa_cons (qe_lc (own := [("line", 8)]) rfl sc__law_fits_right.nd (qi_seq (qv 0)) (blkOk_by (own := [("line", 8)]) (N := ["table", "rent", "best", "n", "costs", "first", "second", "k", "line", "one", "j", "worth"]) (sc := (defScope (topS 43))) (by decide +kernel)) (fun _ _ _ _ _ => (gg 8 sc__law_fits_right.nd)) (fun _ _ _ _ _ => qts_nil) (fun _ _ _ _ _ => (qe_tD call_tuple_of cd_tuple (by rfl) T.z_tuple (by decide +kernel) (qa_cons (qe_lc (own := [("worth", 11)]) rfl sc__law_fits_right.nd (qi_seq (qv 8)) (by exact blkOk_by (by kernel_rfl)) (fun _ _ _ _ _ => (gg 11 sc__law_fits_right.nd)) (fun _ _ _ _ _ => qts_nil) (fun _ _ _ _ _ => (qe_sub qint (qv 11)))) qa_nil)))) qa_nil)))
  (ss_cons (ss_if (qt_not (qt_tru (qe_call (ok__law_like T 30) (hr.mono (by decide)) (by rfl) T.g__law_like T.F__law_like.kp T.b__law_like (qa_cons (qe_call (ok_best_fit T) (hr.mono (by decide)) (by rfl) T.g_best_fit T.F_best_fit.kp T.b_best_fit (qa_cons (qv 4) qa_nil)) (qa_cons (qe_tup (qa_cons (qe_sub (qe_mul qint (qv 3)) (qe_ix (qv 2) qint (fun _ _ => rfl))) (qa_cons (qe_ix (qv 2) qint (fun _ _ => rfl)) qa_nil))) qa_nil))) (by intro _; rfl)))
  (ss_one (ss_ret qnon))
  ss_nil)
  (ss_cons (ss_tup (qe_call (ok_fit_prices T) (hr.mono (by decide)) (by rfl) T.g_fit_prices T.F_fit_prices.kp T.b_fit_prices (qa_cons (qv 4) qa_nil)) (gg_tup rfl (ggs_cons (gg 5 sc__law_fits_right.nd) (ggs_cons (gg 6 sc__law_fits_right.nd) ggs_nil))))
  (ss_cons (ss_if (PW.pt (qw_or (qt_not (qt_tru (qe_isi (by rfl) T.z_isinstance (qv 5) (by rfl) T.z_tuple (by decide +kernel)) (by intro _; rfl))) (qw_or (qt_not (qt_tru (qe_isi (by rfl) T.z_isinstance (qv 6) (by rfl) T.z_tuple (by decide +kernel)) (by intro _; rfl))) (qw_or (qt_cmp (op_neD (hu_of64 hr)) oc_ne (qe_bF call_len_seq cf_len (by rfl) T.z_len (by decide +kernel) (qa_cons (qv 5) qa_nil)) (qv 3) (nomark _)) (qw_or1 (qt_cmp (op_neD (hu_of64 hr)) oc_ne (qe_bF call_len_seq cf_len (by rfl) T.z_len (by decide +kernel) (qa_cons (qv 6) qa_nil)) (qv 3) (nomark _)))))))
  (ss_one (ss_ret qnon))
  ss_nil)
  (ss_cons (ss_if (PW.pt (qw_or (qt_not (qt_tru (qe_bF (cr_all rfl) cf_all (by rfl) T.z_all (by decide +kernel) (qa_cons (qe_lc (own := [("one", 9)]) rfl sc__law_fits_right.nd (qi_seq (qe_add (qv 5) (qv 6))) (blkOk_by (own := [("one", 9)]) (N := ["table", "rent", "best", "n", "costs", "first", "second", "k", "line", "one", "j", "worth"]) (sc := (defScope (topS 43))) (by decide +kernel)) (fun _ _ _ _ _ => (gg 9 sc__law_fits_right.nd)) (fun _ _ _ _ _ => qts_nil) (fun _ _ _ _ _ => (qe_call (ok__law_is_int T) (hr.mono (by decide)) (by rfl) T.g__law_is_int T.F__law_is_int.kp T.b__law_is_int (qa_cons (qv 9) qa_nil)))) qa_nil)) (by intro _; rfl))) (qw_or1 (qt_cmp (op_neD (hu_of64 hr)) oc_ne (qe_bF (cr_sumA rfl) cf_sum (by rfl) T.z_sum (by decide +kernel) (qa_cons (qe_add (qv 5) (qv 6)) qa_nil)) (qe_sub (qe_mul qint (qv 3)) (qe_ix (qv 2) qint (fun _ _ => rfl))) (nomark _)))))
  (ss_one (ss_ret qnon))
  ss_nil)
  (ss_cons (ss_for PassesOwn.never rfl (qi_range1 (by rfl) T.z_range (qv 3)) (gg 7 sc__law_fits_right.nd)
  (ss_one (ss_if (qt_tru (qe_bF (cr_any rfl) cf_any (by rfl) T.z_any (by decide +kernel) (qa_cons (qe_lc (own := [("j", 10)]) rfl sc__law_fits_right.nd (qi_range1 (by rfl) T.z_range (qv 3)) (blkOk_by (own := [("j", 10)]) (N := ["table", "rent", "best", "n", "costs", "first", "second", "k", "line", "one", "j", "worth"]) (sc := (defScope (topS 43))) (by decide +kernel)) (fun _ _ _ _ _ => (gg 10 sc__law_fits_right.nd)) (fun _ _ _ _ _ => qts_nil) (fun _ _ _ _ _ => (qe_cmp (op_gtA (hu_of64 hr)) oc_gt (qe_add (qe_ix (qv 5) (qv 7) (fun _ _ => rfl)) (qe_ix (qv 6) (qv 10) (fun _ _ => rfl))) (qe_ix (qe_ix (qv 4) (qv 7) (fun _ _ => rfl)) (qv 10) (fun _ _ => rfl)) (nomark _)))) qa_nil)) (by intro _; rfl))
  (ss_one (ss_ret qnon))
  ss_nil)))
  (ss_cons (ss_if (qt_cmp op_notBl oc_isNot (qe_call (ok_judge_prices T) (hr.mono (by decide)) (by rfl) T.g_judge_prices T.F_judge_prices.kp T.b_judge_prices (qa_cons (qv 4) (qa_cons (qv 5) (qa_cons (qv 6) qa_nil)))) qbl (nomark _))
  (ss_one (ss_ret qnon))
  ss_nil)
  (ss_one (ss_ret (qe_tD call_tuple_of cd_tuple (by rfl) T.z_tuple (by decide +kernel) (qa_cons (qe_lc (own := [("one", 9)]) rfl sc__law_fits_right.nd (qi_seq (qv 6)) (blkOk_by (own := [("one", 9)]) (N := ["table", "rent", "best", "n", "costs", "first", "second", "k", "line", "one", "j", "worth"]) (sc := (defScope (topS 43))) (by decide +kernel)) (fun _ _ _ _ _ => (gg 9 sc__law_fits_right.nd)) (fun _ _ _ _ _ => qts_nil) (fun _ _ _ _ _ => (qe_call (ok__law_ratio T) (hr.mono (by decide)) (by rfl) T.g__law_ratio T.F__law_ratio.kp T.b__law_ratio (qa_cons (qe_sub (qe_add (qv 1) (qe_bF (cr_sumA rfl) cf_sum (by rfl) T.z_sum (by decide +kernel) (qa_cons (qv 6) qa_nil))) (qe_mul (qv 3) (qv 9))) (qa_cons (qv 3) qa_nil))))) qa_nil))))))))))))
theorem sc__law_changed_right : FnScope ["table", "rent", "rooms", "prices", "row", "n", "spot", "dear", "changed", "other", "moved", "worse", "one", "k"] ["table", "rent", "rooms", "prices", "row"] (defScope (topS 44)) := ⟨rfl, rfl, rfl, by decide +kernel, rfl, by decide +kernel, by decide +kernel⟩
def den__law_changed_right : Fn := dfun 14 5 (sSeq (sSet 5 0 (eCB (d1 dLen) (aCons (eVar 0) aNil)) [])
  (sSeq (sSet 6 0 (eOp dMod (eCB (d1 dInt) (aCons (eIx (eVar 4) (eC (.int 20))) aNil)) (eVar 5)) ([] ++ [(5, 1)]))
  (sSeq (sSet 7 0 (eOp dAdd (eOp dAdd (eSl (eVar 3) oNone (oSome (eVar 6))) (eTup (aCons (eCall 2 den__law_add (aCons (eIx (eVar 3) (eVar 6)) (aCons (eTup (aCons (eC (.int 1)) (aCons (eC (.int 1)) aNil))) aNil))) aNil))) (eSl (eVar 3) (oSome (eOp dAdd (eVar 6) (eC (.int 1)))) oNone)) (([(3, 1)] ++ (([(3, 1)] ++ (([] ++ ([] ++ [])) ++ [])) ++ [])) ++ [(3, 1)]))
  (sSeq (sSet 8 1 (eLst (aCons (eTup (aCons (eVar 2) (aCons (eVar 7) aNil))) aNil)) (([(2, 0)] ++ ([(7, 0)] ++ [])) ++ []))
  (sSeq (sIf (tCmp dGt (eVar 5) (eC (.int 1)))
  (sSeq (sSet 9 0 (eOp dMod (eOp dAdd (eOp dAdd (eVar 6) (eC (.int 1))) (eOp dMod (eCB (d1 dInt) (aCons (eIx (eVar 4) (eC (.int 21))) aNil)) (eOp dSub (eVar 5) (eC (.int 1))))) (eVar 5)) ((([(6, 1)] ++ []) ++ ([] ++ ([(5, 1)] ++ []))) ++ [(5, 1)]))
  (sSeq (sSet 10 1 (eCB (d1 dList) (aCons (eVar 3) aNil)) ([(3, 1)] ++ []))
  (sSeq (sPut2 10 (eVar 6) 10 (eVar 9) (eTup (aCons (eCall 2 den__law_add (aCons (eIx (eVar 3) (eVar 6)) (aCons (eTup (aCons (eC (.int 200)) (aCons (eC (.int 1)) aNil))) aNil))) (aCons (eCall 2 den__law_add (aCons (eIx (eVar 3) (eVar 9)) (aCons (eTup (aCons (eUn dNeg (eC (.int 200))) (aCons (eC (.int 1)) aNil))) aNil))) aNil))))
  (sApp 8 (eTup (aCons (eVar 2) (aCons (eCB (d1 dTuple) (aCons (eVar 10) aNil)) aNil))) ([(2, 0)] ++ (([(10, 1)] ++ []) ++ []))))))
  sNil)
  (sSeq (sSet 11 1 (eLst aNil) [])
  (sSeq (sFor (iSeq (eCall 1 den__law_orders (aCons (eVar 5) aNil))) ([(5, 0)] ++ []) (.nm 12)
  (sIf (tCmp dLt (eCB (d1 dSum) (aCons (eLc (iRange1 (eVar 5)) (.nm 13) tTrue (eIx (eIx (eVar 0) (eVar 13)) (eIx (eVar 12) (eVar 13))) [13]) aNil)) (eCB (d1 dSum) (aCons (eLc (iRange1 (eVar 5)) (.nm 13) tTrue (eIx (eIx (eVar 0) (eVar 13)) (eIx (eVar 2) (eVar 13))) [13]) aNil)))
  (sApp 11 (eVar 12) [(12, 0)])
  sNil))
  (sSeq (sIf (tCmp dGt (eCB (d1 dLen) (aCons (eVar 11) aNil)) (eC (.int 0)))
  (sApp 8 (eTup (aCons (eIx (eVar 11) (eOp dMod (eCB (d1 dInt) (aCons (eIx (eVar 4) (eC (.int 22))) aNil)) (eCB (d1 dLen) (aCons (eVar 11) aNil)))) (aCons (eVar 3) aNil))) ([(11, 1)] ++ ([(3, 0)] ++ [])))
  sNil)
  (sRet (eCB (d1 dAll) (aCons (eLc (iSeq (eVar 8)) (.tp [(.nm 12), (.nm 9)]) tTrue (eB (tCmp dIs (eCall 4 den_is_fair_rents (aCons (eVar 0) (aCons (eVar 1) (aCons (eVar 12) (aCons (eVar 9) aNil))))) (eC (.bool false)))) [12, 9]) aNil)))))))))))
theorem ok__law_changed_right {P : Program} {w : World} {K : PySem.W.Frag} {mg : Str → Option Value} {base : Heap} {ad : Nat → Addr} {fo : Nat → FuncData} (T : Tp K mg ad fo base) : FnOk P w K mg base CX0 6 (ad 39) (fo 39) ["table", "rent", "rooms", "prices", "row"] (spD K 5 den__law_changed_right) :=
  fun_den (k := 5) T.F__law_changed_right sc__law_changed_right rfl rfl (by decide) fun cdv A outer s H E hr =>
  (ss_cons (ss_set 5 0 sc__law_changed_right.nd (qe_bF call_len_seq cf_len (by rfl) T.z_len (by decide +kernel) (qa_cons (qv 0) qa_nil)))
  (ss_cons (ss_set 6 0 sc__law_changed_right.nd (qe_mod (qe_tF call_int1 cf_int (by rfl) T.z_int (by decide +kernel) (qa_cons (qe_ix (qv 4) qint (fun _ _ => rfl)) qa_nil)) (qv 5)))
  (ss_cons (ss_set 7 0 sc__law_changed_right.nd (qe_add (qe_add (qe_sl (qv 3) qo_none (qo_some (qv 6))) (qe_tup (qa_cons (qe_call (ok__law_add T) (hr.mono (by decide)) (by rfl) T.g__law_add T.F__law_add.kp T.b__law_add (qa_cons (qe_ix (qv 3) (qv 6) (fun _ _ => rfl)) (qa_cons (qe_tup (qa_cons qint (qa_cons qint qa_nil))) qa_nil))) qa_nil))) (qe_sl (qv 3) (qo_some (qe_add (qv 6) qint)) qo_none)))
  (ss_cons (ss_set 8 1 sc__law_changed_right.nd (qe_lst (qa_cons (qe_tup (qa_cons (qv 2) (qa_cons (qv 7) qa_nil))) qa_nil)))
  (ss_cons (ss_if (qt_cmp (op_gtA (hu_of64 hr)) oc_gt (qv 5) qint (nomark _))
  (ss_cons (ss_set 9 0 sc__law_changed_right.nd (qe_mod (qe_add (qe_add (qv 6) qint) (qe_mod (qe_tF call_int1 cf_int (by rfl) T.z_int (by decide +kernel) (qa_cons (qe_ix (qv 4) qint (fun _ _ => rfl)) qa_nil)) (qe_sub (qv 5) qint))) (qv 5)))
  (ss_cons (ss_set 10 1 sc__law_changed_right.nd (qe_tD call_list_of cd_list (by rfl) T.z_list (by decide +kernel) (qa_cons (qv 3) qa_nil)))
  (ss_cons (ss_put2 10 10 (ps_asg (qe_tup (qa_cons (qe_call (ok__law_add T) (hr.mono (by decide)) (by rfl) T.g__law_add T.F__law_add.kp T.b__law_add (qa_cons (qe_ix (qv 3) (qv 6) (fun _ _ => rfl)) (qa_cons (qe_tup (qa_cons qint (qa_cons qint qa_nil))) qa_nil))) (qa_cons (qe_call (ok__law_add T) (hr.mono (by decide)) (by rfl) T.g__law_add T.F__law_add.kp T.b__law_add (qa_cons (qe_ix (qv 3) (qv 9) (fun _ _ => rfl)) (qa_cons (qe_tup (qa_cons (qe_neg qint) (qa_cons qint qa_nil))) qa_nil))) qa_nil))) (pg_tup rfl (pgs_cons (pg_sub (pv 10) (qv 6) set_list) (pgs_cons (pg_sub (pv 10) (qv 9) set_list) pgs_nil)))))
  (ss_one (ss_app 8 (ps_expr (pe_bm PySem.F.plainAttrs_list PySem.F.slot_list_append PySem.F.type_list_append mt_append (pv 8) (pa_cons (qe_tup (qa_cons (qv 2) (qa_cons (qe_tD call_tuple_of cd_tuple (by rfl) T.z_tuple (by decide +kernel) (qa_cons (qv 10) qa_nil)) qa_nil))) pa_nil))))))))
  ss_nil)
  (ss_cons (ss_set 11 1 sc__law_changed_right.nd (qe_lst qa_nil))
  (ss_cons (ss_for PassesOwn.never rfl (qi_seq (qe_call (ok__law_orders T) (hr.mono (by decide)) (by rfl) T.g__law_orders T.F__law_orders.kp T.b__law_orders (qa_cons (qv 5) qa_nil))) (gg 12 sc__law_changed_right.nd)
  (ss_one (ss_if (qt_cmp (op_ltA (hu_of64 hr)) oc_lt (qe_bF (cr_sumA rfl) cf_sum (by rfl) T.z_sum (by decide +kernel) (qa_cons (qe_lc (own := [("k", 13)]) rfl sc__law_changed_right.nd (qi_range1 (by rfl) T.z_range (qv 5)) (blkOk_by (own := [("k", 13)]) (N := ["table", "rent", "rooms", "prices", "row", "n", "spot", "dear", "changed", "other", "moved", "worse", "one", "k"]) (sc := (defScope (topS 44))) (by decide +kernel)) (fun _ _ _ _ _ => (gg 13 sc__law_changed_right.nd)) (fun _ _ _ _ _ => qts_nil) (fun _ _ _ _ _ => (qe_ix (qe_ix (qv 0) (qv 13) (fun _ _ => rfl)) (qe_ix (qv 12) (qv 13) (fun _ _ => rfl)) (fun _ _ => rfl)))) qa_nil)) (qe_bF (cr_sumA rfl) cf_sum (by rfl) T.z_sum (by decide +kernel) (qa_cons (qe_lc (own := [("k", 13)]) rfl sc__law_changed_right.nd (qi_range1 (by rfl) T.z_range (qv 5)) (blkOk_by (own := [("k", 13)]) (N := ["table", "rent", "rooms", "prices", "row", "n", "spot", "dear", "changed", "other", "moved", "worse", "one", "k"]) (sc := (defScope (topS 44))) (by decide +kernel)) (fun _ _ _ _ _ => (gg 13 sc__law_changed_right.nd)) (fun _ _ _ _ _ => qts_nil) (fun _ _ _ _ _ => (qe_ix (qe_ix (qv 0) (qv 13) (fun _ _ => rfl)) (qe_ix (qv 2) (qv 13) (fun _ _ => rfl)) (fun _ _ => rfl)))) qa_nil)) (nomark _))
  (ss_one (ss_app 11 (ps_expr (pe_bm PySem.F.plainAttrs_list PySem.F.slot_list_append PySem.F.type_list_append mt_append (pv 11) (pa_cons (qv 12) pa_nil)))))
  ss_nil)))
  (ss_cons (ss_if (qt_cmp (op_gtA (hu_of64 hr)) oc_gt (qe_bF call_len_seq cf_len (by rfl) T.z_len (by decide +kernel) (qa_cons (qv 11) qa_nil)) qint (nomark _))
  (ss_one (ss_app 8 (ps_expr (pe_bm PySem.F.plainAttrs_list PySem.F.slot_list_append PySem.F.type_list_append mt_append (pv 8) (pa_cons (qe_tup (qa_cons (qe_ix (qv 11) (qe_mod (qe_tF call_int1 cf_int (by rfl) T.z_int (by decide +kernel) (qa_cons (qe_ix (qv 4) qint (fun _ _ => rfl)) qa_nil)) (qe_bF call_len_seq cf_len (by rfl) T.z_len (by decide +kernel) (qa_cons (qv 11) qa_nil))) (fun _ _ => rfl)) (qa_cons (qv 3) qa_nil))) pa_nil)))))
  ss_nil)
  (ss_one (ss_ret (qe_bF (cr_all rfl) cf_all (by rfl) T.z_all (by decide +kernel) (qa_cons (qe_lc (own := [("one", 12), ("other", 9)]) rfl sc__law_changed_right.nd (qi_seq (qv 8)) (blkOk_by (own := [("one", 12), ("other", 9)]) (N := ["table", "rent", "rooms", "prices", "row", "n", "spot", "dear", "changed", "other", "moved", "worse", "one", "k"]) (sc := (defScope (topS 44))) (by decide +kernel)) (fun _ _ _ _ _ => (gg_tup rfl (ggs_cons (gg 12 sc__law_changed_right.nd) (ggs_cons (gg 9 sc__law_changed_right.nd) ggs_nil)))) (fun _ _ _ _ _ => qts_nil) (fun _ _ _ _ _ => (qe_cmp op_isBl oc_is (qe_call (ok_is_fair_rents T) (hr.mono (by decide)) (by rfl) T.g_is_fair_rents T.F_is_fair_rents.kp T.b_is_fair_rents (qa_cons (qv 0) (qa_cons (qv 1) (qa_cons (qv 12) (qa_cons (qv 9) qa_nil))))) qbl (nomark _)))) qa_nil))))))))))))
theorem sc_law : FnScope ["script", "row", "n", "most", "table", "rent", "best", "turned", "found", "widest", "prices", "k", "room"] ["script"] (defScope (topS 45)) := ⟨rfl, rfl, rfl, by decide +kernel, rfl, by decide +kernel, by decide +kernel⟩
def den_law : Fn := dfun 13 1 (sSeq (sSet 1 0 (eCall 2 den__law_row (aCons (eVar 0) (aCons (eC (.int 24)) aNil))) ([(0, 0)] ++ ([] ++ [])))
  (sSeq (sTup (.tp [(.nm 2), (.nm 3)]) (eTup (aCons (eOp dAdd (eC (.int 1)) (eOp dMod (eCB (d1 dInt) (aCons (eIx (eVar 1) (eC (.int 0))) aNil)) (eC (.int 4)))) (aCons (eIx (eTup (aCons (eC (.int 51)) (aCons (eC (.int 6)) aNil))) (eOp dMod (eCB (d1 dInt) (aCons (eIx (eVar 1) (eC (.int 1))) aNil)) (eC (.int 2)))) aNil))) (([] ++ ([] ++ [])) ++ (([] ++ ([] ++ [])) ++ [])))
  (sSeq (sSet 4 0 (eCB (d1 dTuple) (aCons (eLc (iRange1 (eVar 2)) (.nm 11) tTrue (eCB (d1 dTuple) (aCons (eLc (iRange1 (eVar 2)) (.nm 12) tTrue (eOp dMod (eCB (d1 dInt) (aCons (eIx (eVar 1) (eOp dAdd (eOp dAdd (eC (.int 2)) (eOp dMul (eC (.int 4)) (eVar 11))) (eVar 12))) aNil)) (eVar 3)) [12]) aNil)) [11]) aNil)) (([] ++ (([] ++ ([] ++ [(3, 1)])) ++ [])) ++ []))
  (sSeq (sSet 5 0 (eOp dMod (eCB (d1 dInt) (aCons (eIx (eVar 1) (eC (.int 18))) aNil)) (eC (.int 121))) ([] ++ []))
  (sSeq (sSet 6 0 (eCall 1 den__law_best (aCons (eVar 4) aNil)) ([(4, 0)] ++ []))
  (sSeq (sSet 7 0 (eCall 3 den__law_fits_right (aCons (eVar 4) (aCons (eVar 5) (aCons (eVar 6) aNil)))) ([(4, 0)] ++ ([(5, 0)] ++ ([(6, 0)] ++ []))))
  (sSeq (sIf (tOrD (tIsND (eVar 7)) (tNotD (tTru (eCall 4 den__law_fair (aCons (eVar 4) (aCons (eVar 5) (aCons (eIx (eVar 6) (eC (.int 1))) (aCons (eVar 7) aNil))))))))
  (sRet (eC (.bool false)))
  sNil)
  (sSeq (sSet 8 0 (eCall 2 den_fair_rents (aCons (eVar 4) (aCons (eVar 5) aNil))) ([(4, 0)] ++ ([(5, 0)] ++ [])))
  (sSeq (sIf (tOrD (tNotD (tTru (eIsi "tuple" (eVar 8)))) (tOrD (tCmp dNe (eCB (d1 dLen) (aCons (eVar 8) aNil)) (eC (.int 2))) (tNotD (tTru (eCall 2 (den__law_like 30) (aCons (eIx (eVar 8) (eC (.int 0))) (aCons (eIx (eVar 6) (eC (.int 1))) aNil)))))))
  (sRet (eC (.bool false)))
  sNil)
  (sSeq (sIf (tNotD (tTru (eCall 4 den__law_fair (aCons (eVar 4) (aCons (eVar 5) (aCons (eIx (eVar 6) (eC (.int 1))) (aCons (eIx (eVar 8) (eC (.int 1))) aNil)))))))
  (sRet (eC (.bool false)))
  sNil)
  (sSeq (sSet 9 0 (eCall 3 den__law_widest (aCons (eVar 4) (aCons (eVar 5) (aCons (eVar 6) aNil)))) ([(4, 0)] ++ ([(5, 0)] ++ ([(6, 0)] ++ []))))
  (sSeq (sIf (tNotD (tTru (eCall 2 (den__law_like 30) (aCons (eCall 2 den_widest_rents (aCons (eVar 4) (aCons (eVar 5) aNil))) (aCons (eVar 9) aNil)))))
  (sRet (eC (.bool false)))
  sNil)
  (sSeq (sFor (iSeq (eTup (aCons (eVar 7) (aCons (eIx (eVar 8) (eC (.int 1))) (aCons (eIx (eVar 9) (eC (.int 0))) aNil))))) ([(7, 0)] ++ ([(8, 1)] ++ ([(9, 1)] ++ []))) (.nm 10)
  (sIf (tCmp dIsNot (eCall 4 den_is_fair_rents (aCons (eVar 4) (aCons (eVar 5) (aCons (eIx (eVar 6) (eC (.int 1))) (aCons (eVar 10) aNil))))) (eC (.bool true)))
  (sRet (eC (.bool false)))
  sNil))
  (sRet (eCall 5 den__law_changed_right (aCons (eVar 4) (aCons (eVar 5) (aCons (eIx (eVar 6) (eC (.int 1))) (aCons (eIx (eVar 9) (eC (.int 0))) (aCons (eVar 1) aNil))))))))))))))))))))
theorem ok_law {P : Program} {w : World} {K : PySem.W.Frag} {mg : Str → Option Value} {base : Heap} {ad : Nat → Addr} {fo : Nat → FuncData} (T : Tp K mg ad fo base) : FnOk P w K mg base CX0 34 (ad 40) (fo 40) ["script"] (spD K 1 den_law) :=
  fun_den (k := 33) T.F_law sc_law rfl rfl (by decide) fun cdv A outer s H E hr =>
  (ss_cons (ss_set 1 0 sc_law.nd (qe_call (ok__law_row T) (hr.mono (by decide)) (by rfl) T.g__law_row T.F__law_row.kp T.b__law_row (qa_cons (qv 0) (qa_cons qint qa_nil))))
  (ss_cons (ss_tup (qe_tup (qa_cons (qe_add qint (qe_mod (qe_tF call_int1 cf_int (by rfl) T.z_int (by decide +kernel) (qa_cons (qe_ix (qv 1) qint (fun _ _ => rfl)) qa_nil)) qint)) (qa_cons (qe_ix (qe_tup (qa_cons qint (qa_cons qint qa_nil))) (qe_mod (qe_tF call_int1 cf_int (by rfl) T.z_int (by decide +kernel) (qa_cons (qe_ix (qv 1) qint (fun _ _ => rfl)) qa_nil)) qint) (fun _ _ => rfl)) qa_nil))) (gg_tup rfl (ggs_cons (gg 2 sc_law.nd) (ggs_cons (gg 3 sc_law.nd) ggs_nil))))
  (ss_cons (ss_set 4 0 sc_law.nd (qe_tD call_tuple_of cd_tuple (by rfl) T.z_tuple (by decide +kernel) (qa_cons (qe_lc (own := [("k", 11)]) rfl sc_law.nd (qi_range1 (by rfl) T.z_range (qv 2)) (blkOk_by (own := [("k", 11)]) (N := ["script", "row", "n", "most", "table", "rent", "best", "turned", "found", "widest", "prices", "k", "room"]) (sc := (defScope (topS 45))) (by decide +kernel)) (fun _ _ _ _ _ => (gg 11 sc_law.nd)) (fun _ _ _ _ _ => qts_nil) (fun _ _ _ _ _ => (qe_tD call_tuple_of cd_tuple (by rfl) T.z_tuple (by decide +kernel) (qa_cons (qe_lc (own := [("room", 12)]) rfl sc_law.nd (qi_range1 (by rfl) T.z_range (qv 2)) (by exact blkOk_by (by kernel_rfl)) (fun _ _ _ _ _ => (gg 12 sc_law.nd)) (fun _ _ _ _ _ => qts_nil) (fun _ _ _ _ _ => (qe_mod (qe_tF call_int1 cf_int (by rfl) T.z_int (by decide +kernel) (qa_cons (qe_ix (qv 1) (qe_add (qe_add qint (qe_mul qint (qv 11))) (qv 12)) (fun _ _ => rfl)) qa_nil)) (qv 3)))) qa_nil)))) qa_nil)))
  (ss_cons (ss_set 5 0 sc_law.nd (qe_mod (qe_tF call_int1 cf_int (by rfl) T.z_int (by decide +kernel) (qa_cons (qe_ix (qv 1) qint (fun _ _ => rfl)) qa_nil)) qint))
  (ss_cons (ss_set 6 0 sc_law.nd (qe_call (ok__law_best T) (hr.mono (by decide)) (by rfl) T.g__law_best T.F__law_best.kp T.b__law_best (qa_cons (qv 4) qa_nil)))
  (ss_cons (ss_set 7 0 sc_law.nd (qe_call (ok__law_fits_right T) (hr.mono (by decide)) (by rfl) T.g__law_fits_right T.F__law_fits_right.kp T.b__law_fits_right (qa_cons (qv 4) (qa_cons (qv 5) (qa_cons (qv 6) qa_nil)))))
  (ss_cons (ss_if (PW.pt (qw_or (qt_isN (qv 7)) (qw_or1 (qt_not (qt_tru (qe_call (ok__law_fair T) (hr.mono (by decide)) (by rfl) T.g__law_fair T.F__law_fair.kp T.b__law_fair (qa_cons (qv 4) (qa_cons (qv 5) (qa_cons (qe_ix (qv 6) qint (fun _ _ => rfl)) (qa_cons (qv 7) qa_nil))))) (by intro _; rfl))))))
  (ss_one (ss_ret qbl))
  ss_nil)
  (ss_cons (ss_set 8 0 sc_law.nd (qe_call (ok_fair_rents T) (hr.mono (by decide)) (by rfl) T.g_fair_rents T.F_fair_rents.kp T.b_fair_rents (qa_cons (qv 4) (qa_cons (qv 5) qa_nil))))
  (ss_cons (ss_if (PW.pt (qw_or (qt_not (qt_tru (qe_isi (by rfl) T.z_isinstance (qv 8) (by rfl) T.z_tuple (by decide +kernel)) (by intro _; rfl))) (qw_or (qt_cmp (op_neD (hu_of64 hr)) oc_ne (qe_bF call_len_seq cf_len (by rfl) T.z_len (by decide +kernel) (qa_cons (qv 8) qa_nil)) qint (nomark _)) (qw_or1 (qt_not (qt_tru (qe_call (ok__law_like T 30) (hr.mono (by decide)) (by rfl) T.g__law_like T.F__law_like.kp T.b__law_like (qa_cons (qe_ix (qv 8) qint (fun _ _ => rfl)) (qa_cons (qe_ix (qv 6) qint (fun _ _ => rfl)) qa_nil))) (by intro _; rfl)))))))
  (ss_one (ss_ret qbl))
  ss_nil)
  (ss_cons (ss_if (qt_not (qt_tru (qe_call (ok__law_fair T) (hr.mono (by decide)) (by rfl) T.g__law_fair T.F__law_fair.kp T.b__law_fair (qa_cons (qv 4) (qa_cons (qv 5) (qa_cons (qe_ix (qv 6) qint (fun _ _ => rfl)) (qa_cons (qe_ix (qv 8) qint (fun _ _ => rfl)) qa_nil))))) (by intro _; rfl)))
  (ss_one (ss_ret qbl))
  ss_nil)
  (ss_cons (ss_set 9 0 sc_law.nd (qe_call (ok__law_widest T) (hr.mono (by decide)) (by rfl) T.g__law_widest T.F__law_widest.kp T.b__law_widest (qa_cons (qv 4) (qa_cons (qv 5) (qa_cons (qv 6) qa_nil)))))
  (ss_cons (ss_if (qt_not (qt_tru (qe_call (ok__law_like T 30) (hr.mono (by decide)) (by rfl) T.g__law_like T.F__law_like.kp T.b__law_like (qa_cons (qe_call (ok_widest_rents T) (hr.mono (by decide)) (by rfl) T.g_widest_rents T.F_widest_rents.kp T.b_widest_rents (qa_cons (qv 4) (qa_cons (qv 5) qa_nil))) (qa_cons (qv 9) qa_nil))) (by intro _; rfl)))
  (ss_one (ss_ret qbl))
  ss_nil)
  (ss_cons (ss_for PassesOwn.never rfl (qi_seq (qe_tup (qa_cons (qv 7) (qa_cons (qe_ix (qv 8) qint (fun _ _ => rfl)) (qa_cons (qe_ix (qv 9) qint (fun _ _ => rfl)) qa_nil))))) (gg 10 sc_law.nd)
  (ss_one (ss_if (qt_cmp op_notBl oc_isNot (qe_call (ok_is_fair_rents T) (hr.mono (by decide)) (by rfl) T.g_is_fair_rents T.F_is_fair_rents.kp T.b_is_fair_rents (qa_cons (qv 4) (qa_cons (qv 5) (qa_cons (qe_ix (qv 6) qint (fun _ _ => rfl)) (qa_cons (qv 10) qa_nil))))) qbl (nomark _))
  (ss_one (ss_ret qbl))
  ss_nil)))
  (ss_one (ss_ret (qe_call (ok__law_changed_right T) (hr.mono (by decide)) (by rfl) T.g__law_changed_right T.F__law_changed_right.kp T.b__law_changed_right (qa_cons (qv 4) (qa_cons (qv 5) (qa_cons (qe_ix (qv 6) qint (fun _ _ => rfl)) (qa_cons (qe_ix (qv 9) qint (fun _ _ => rfl)) (qa_cons (qv 1) qa_nil)))))))))))))))))))))
end Law
end
section
set_option Elab.async false
set_option linter.all false
namespace Lib
section
variable {κ β : Type} [DecidableEq κ]
def kget (l : List (κ × β)) (k : κ) : Option β := (l.find? fun p => decide (p.1 = k)).map (·.2)
def kput (l : List (κ × β)) (k : κ) (v : β) : List (κ × β) := if (l.any fun p => decide (p.1 = k)) = true then l.map fun p => if decide (p.1 = k) = true then (p.1, v) else p else l ++ [(k, v)]
theorem kget_any (l : List (κ × β)) (k : κ) : (l.any fun p => decide (p.1 = k)) = (kget l k).isSome := by
  unfold kget
  induction l with
  | nil => rfl
  | cons p l ih =>
    rw [List.any_cons, ih, List.find?_cons]
    cases decide (p.1 = k) <;> rfl
theorem kget_map (l : List (κ × β)) (k j : κ) (v : β) : kget (l.map fun p => if decide (p.1 = k) = true then (p.1, v) else p) j = if j = k then (kget l j).map fun _ => v else kget l j := by
  unfold kget
  induction l with
  | nil => split <;> rfl
  | cons p l ih =>
    rw [List.map_cons, List.find?_cons, List.find?_cons]
    by_cases h : p.1 = k
    · rw [decide_eq_true h, if_pos rfl]
      by_cases hj : p.1 = j
      · have : j = k := by rw [← hj, h]
        simp [hj, this]
      · have hj' : decide (p.1 = j) = false := decide_eq_false hj
        simp only [hj']
        exact ih
    · rw [decide_eq_false h, if_neg (by decide)]
      by_cases hj : p.1 = j
      · have : ¬ j = k := fun q => h (by rw [hj, q])
        simp [hj, this]
      · have hj' : decide (p.1 = j) = false := decide_eq_false hj
        simp only [hj']
        exact ih
theorem kget_put (l : List (κ × β)) (k j : κ) (v : β) : kget (kput l k v) j = if j = k then some v else kget l j := by
  unfold kput
  split
  · rename_i h
    rw [kget_map]
    split
    · rename_i e
      subst e
      rw [kget_any] at h
      obtain ⟨r, hr⟩ := Option.isSome_iff_exists.mp h
      rw [hr]; rfl
    · rfl
  · rename_i h
    rw [kget_any, Bool.not_eq_true] at h
    have hn : kget l k = none := by cases e : kget l k with
      | none => rfl
      | some r => rw [e] at h; cases h
    unfold kget at hn ⊢
    rw [List.find?_append]
    by_cases e : j = k
    · subst e
      rw [if_pos rfl]
      have : l.find? (fun p => decide (p.1 = j)) = none := by
        cases q : l.find? (fun p => decide (p.1 = j)) with
        | none => rfl
        | some r => rw [q] at hn; cases hn
      rw [this]
      simp
    · rw [if_neg e]
      have : ¬ k = j := fun q => e q.symm
      simp [this]
theorem kput_len (l : List (κ × β)) (k : κ) (v : β) : (kput l k v).length ≤ l.length + 1 := by
  unfold kput
  split
  · rw [List.length_map]; omega
  · rw [List.length_append]; simp
theorem kget_keys {l : List (κ × β)} {k : κ} (h : k ∈ l.map (·.1)) : ∃ r, kget l k = some r := by
  refine Option.isSome_iff_exists.mp ?_
  rw [← kget_any, List.any_eq_true]
  obtain ⟨p, hp, e⟩ := List.mem_map.mp h
  exact ⟨p, hp, decide_eq_true e⟩
def kwin (lt : β → β → Bool) (g : List (κ × β)) (p : κ × β) : Bool := match kget g p.1 with
  | none => true
  | some r => lt p.2 r
def kstep (lt : β → β → Bool) (g : List (κ × β)) (p : κ × β) : List (κ × β) := if kwin lt g p = true then kput g p.1 p.2 else g
def kfresh (lt : β → β → Bool) (s : List (κ × β) × List κ) (p : κ × β) : List (κ × β) × List κ := (kstep lt s.1 p, if (kget s.1 p.1).isSome = true then s.2 else s.2 ++ [p.1])
end
end Lib
end
section
set_option Elab.async false
set_option linter.all false
namespace Lib
def gok (n : Nat) (g : Option Nat) (j p : Nat) : Bool := !decide (g = some p) || decide (j + 1 = n)
def plen (W : Nat → Nat → Int) (r : List Nat) : Int := rsum (fun k => W (r.getD k 0) (r.getD (k + 1) 0)) (r.length - 1)
section
variable (n s : Nat) (g : Option Nat) (W : Nat → Nat → Int)
abbrev KL := List ((Nat × Nat) × List Nat)
def hrow (b : KL) (K : Nat × Nat) : List Nat := (kget b K).getD []
def hexp (b : KL) (ly : List (Nat × Nat)) : KL := ly.flatMap fun K => ((List.range n).filter fun p => !K.1.testBit p && gok n g (hrow b K).length p).map fun p => ((K.1 ||| 2 ^ p, p), hrow b K ++ [p])
def hk : Nat → KL × List (Nat × Nat)
  | 0 => ([((2 ^ s, s), [s])], [(2 ^ s, s)])
  | k + 1 => (hexp n g (hk k).1 (hk k).2).foldl (kfresh (ltl (plen W))) ((hk k).1, [])
end
section
variable {n s : Nat} {g : Option Nat} {W : Nat → Nat → Int}
end
end Lib
end
section
set_option Elab.async false
set_option linter.all false
namespace Lib
open DS
section
variable {n : Nat} {o : List Nat} {W : Nat → Nat → Int}
def inv (n : Nat) (o : List Nat) : List Nat := (List.range n).map fun u => o.idxOf u
theorem row_mem (h : IsRow n n o) {u : Nat} (hu : u < n) : u ∈ o := h.perm.symm.subset (List.mem_range.mpr hu)
theorem inv_get (h : IsRow n n o) {u : Nat} (hu : u < n) : (inv n o).getD u 0 = o.idxOf u := by
  unfold inv
  rw [List.getD_eq_getElem?_getD, List.getElem?_map, List.getElem?_range hu]
  rfl
theorem inv_lt (h : IsRow n n o) {u : Nat} (hu : u < n) : o.idxOf u < n := by
  have := List.idxOf_lt_length_of_mem (row_mem h hu)
  rwa [h.len] at this
theorem at_inv (h : IsRow n n o) {u : Nat} (hu : u < n) : o.getD (o.idxOf u) 0 = u := by
  have hl := List.idxOf_lt_length_of_mem (row_mem h hu)
  rw [List.getD_eq_getElem?_getD, List.getElem?_eq_getElem hl]
  exact List.getElem_idxOf hl
theorem inv_at (h : IsRow n n o) {p : Nat} (hp : p < n) : o.idxOf (o.getD p 0) = p := by
  have hl : p < o.length := by rw [h.len]; exact hp
  rw [List.getD_eq_getElem?_getD, List.getElem?_eq_getElem hl]
  exact h.nd.idxOf_getElem p hl
theorem inv_row (h : IsRow n n o) : IsRow n n (inv n o) := by
  refine ⟨by unfold inv; simp, ?_, fun x hx => ?_⟩
  · unfold inv
    rw [List.nodup_iff_pairwise_ne, List.pairwise_map]
    refine List.Pairwise.imp_of_mem ?_ (List.nodup_iff_pairwise_ne.mp (List.nodup_range (n := n)))
    intro a b ha hb hab e
    have ha := List.mem_range.mp ha
    have hb := List.mem_range.mp hb
    have := at_inv h ha
    rw [e, at_inv h hb] at this
    exact hab this.symm
  · unfold inv at hx
    obtain ⟨u, hu, rfl⟩ := List.mem_map.mp hx
    exact inv_lt h (List.mem_range.mp hu)
theorem inv_inv (h : IsRow n n o) : inv n (inv n o) = o := by
  have hi := inv_row h
  refine List.ext_getElem? fun p => ?_
  by_cases hp : p < n
  · have h1 := inv_get hi hp
    have ol : p < o.length := by rw [h.len]; exact hp
    have il : p < (inv n (inv n o)).length := by rw [(inv_row hi).len]; exact hp
    rw [List.getElem?_eq_getElem ol, List.getElem?_eq_getElem il]
    congr 1
    have h2 : (inv n (inv n o)).getD p 0 = o.getD p 0 := by
      rw [h1]
      have hv := h.lt _ (List.getElem_mem ol)
      have e : (inv n o).getD (o.getD p 0) 0 = p := by
        rw [inv_get h (IsRow.at h hp), inv_at h hp]
      have := inv_at hi (IsRow.at h hp)
      rw [e] at this
      exact this
    rw [List.getD_eq_getElem?_getD, List.getD_eq_getElem?_getD, List.getElem?_eq_getElem ol, List.getElem?_eq_getElem il] at h2
    exact h2
  · rw [List.getElem?_eq_none (by rw [(inv_row hi).len]; omega), List.getElem?_eq_none (by rw [h.len]; omega)]
end
end Lib
end
section
set_option Elab.async false
set_option linter.all false
set_option maxRecDepth 10000
namespace Lib
open DS PySem
structure KeyF {κ : Type} [DecidableEq κ] (kf : κ → D) : Prop where
  eqv : ∀ a b, PyData.eqv (kf a) (kf b) = decide (a = b)
  key : ∀ a, (keyK (kf a)).isSome = true
  tup : ∀ a, isT (kf a) = true
section
variable {κ β : Type} [DecidableEq κ] {kf : κ → D} {vf : β → D}
def kl (kf : κ → D) (vf : β → D) (l : List (κ × β)) : List (D × D) := l.map fun p => (kf p.1, vf p.2)
def kd (kf : κ → D) (vf : β → D) (l : List (κ × β)) : D := .dict (kl kf vf l)
theorem KeyF.non (hk : KeyF kf) (a : κ) : noneD (kf a) = false := by
  have := hk.tup a
  cases e : kf a <;> rw [e] at this <;> first | rfl | simp [isT] at this
theorem kl_kind (hk : KeyF kf) (l : List (κ × β)) (k : κ) : kindOk (kl kf vf l) (kf k) = true := by
  cases l with
  | nil => exact hk.key k
  | cons p l =>
    show ((keyK (kf k)).isSome && !noneD (kf p.1) && (isT (kf p.1) == isT (kf k))) = true
    rw [hk.key, hk.non, hk.tup, hk.tup]
    rfl
theorem kl_find (hk : KeyF kf) (l : List (κ × β)) (k : κ) : dFind (kl kf vf l) (kf k) = (kget l k).map vf := by
  unfold dFind kget kl
  rw [List.find?_map]
  have : ((fun p : D × D => PyData.eqv p.1 (kf k)) ∘ fun p : κ × β => (kf p.1, vf p.2)) = fun p => decide (p.1 = k) := by
    funext p
    exact hk.eqv p.1 k
  rw [this]
  cases l.find? fun p => decide (p.1 = k) <;> rfl
theorem kd_get (hk : KeyF kf) {l : List (κ × β)} {k : κ} {r : β} (h : kget l k = some r) : dGetD (kd kf vf l) (kf k) = some (vf r) := by
  show (if kindOk (kl kf vf l) (kf k) = true then dFind (kl kf vf l) (kf k) else none) = _
  rw [if_pos (kl_kind hk l k), kl_find hk, h]
  rfl
theorem kd_notin (hk : KeyF kf) (l : List (κ × β)) (k : κ) : dNotInD (kf k) (kd kf vf l) = some (!(kget l k).isSome) := by
  show o1 (if kindOk (kl kf vf l) (kf k) = true then some (dFind (kl kf vf l) (kf k)).isSome else none) _ = _
  rw [if_pos (kl_kind hk l k), o1_s, kl_find hk]
  cases kget l k <;> rfl
theorem kl_put (hk : KeyF kf) (l : List (κ × β)) (k : κ) (v : β) : putD (kl kf vf l) (kf k) (vf v) = kl kf vf (kput l k v) := by
  have e : ((kl kf vf l).any fun p => PyData.eqv p.1 (kf k)) = l.any fun p => decide (p.1 = k) := by
    unfold kl
    rw [List.any_map]
    congr 1
    funext p
    exact hk.eqv p.1 k
  unfold putD kput
  rw [e]
  split
  · unfold kl
    rw [List.map_map, List.map_map]
    refine List.map_congr_left fun p _ => ?_
    show (if PyData.eqv (kf p.1) (kf k) = true then (kf p.1, vf v) else (kf p.1, vf p.2)) = _
    rw [hk.eqv]
    show _ = (fun p : κ × β => (kf p.1, vf p.2)) (if decide (p.1 = k) = true then (p.1, v) else p)
    split <;> rfl
  · unfold kl
    rw [List.map_append]
    rfl
theorem kd_keys (hk : KeyF kf) (l : List (κ × β)) : keysD (kd kf vf l) = some ((l.map (·.1)).map kf) := by
  cases l with
  | nil => rfl
  | cons p l =>
    have hn := hk.tup p.1
    have : keysD (.dict ((kf p.1, vf p.2) :: kl kf vf l)) = some (((kf p.1, vf p.2) :: kl kf vf l).map (·.1)) := by
      unfold keysD
      cases e : kf p.1 <;> rw [e] at hn <;> first | rfl | simp [isT] at hn
    show keysD (.dict ((kf p.1, vf p.2) :: kl kf vf l)) = _
    rw [this]
    unfold kl
    simp
end
def kD2 (K : Nat × Nat) : D := .tuple [nat K.1, nat K.2]
theorem kD2_key : KeyF kD2 := by
  letI : Tbls := ⟨[]⟩
  have e : ∀ K, kD2 K = .tuple (([Sum.inl (K.1 : Int), Sum.inl (K.2 : Int)] : List L2.Key).map keyD) := fun K => rfl
  refine ⟨fun a b => ?_, fun a => rfl, fun a => rfl⟩
  rw [e, e, eqv_keys, decide_eq_decide]
  obtain ⟨a1, a2⟩ := a
  obtain ⟨b1, b2⟩ := b
  simp only [List.cons.injEq, Sum.inl.injEq, Prod.mk.injEq, and_true]
  omega
theorem cmp_co (c : List Nat → Int) (a b : List Nat) : dLt (co c a) (co c b) = some (ltl c a b) := by
  show (if cmpOk (co c a) (co c b) = true then some (PySem.W.dataLt (co c a) (co c b)) else none) = _
  rw [dataLt_co, if_pos]
  · rfl
  · unfold cmpOk
    have h1 := depth_nt a
    have h2 := alike_nt a b
    have h3 : (co c a).depth ≤ 60 := by
      simp only [co, PyData.depth, PyData.depthAll]
      omega
    rw [decide_eq_true h3]
    simp [co, PyData.canLay0, PyData.canLayAll0, lay_nt, PySem.W.alike, PySem.W.alikeAll, h2, noneD]
end Lib
end
section
set_option Elab.async false
set_option linter.all false
namespace Fit
def tk (o : List Nat) (i : Nat) : Nat := o.getD i 0
def cost (n : Nat) (c : Nat → Nat → Int) (o : List Nat) : Int := ((List.range n).map fun i => c i (tk o i)).sum
def stp (c : Nat → Nat → Int) (o : List Nat) (s g : Nat) : Int := c (o.idxOf s) g - c (o.idxOf s) s
theorem sum_perm {l l' : List Int} (h : l.Perm l') : l.sum = l'.sum := by
  induction h with
  | nil => rfl
  | cons a _ ih => simp [ih]
  | swap a b _ => simp; omega
  | trans _ _ h1 h2 => rw [h1, h2]
theorem sum_sub {α : Type} (f g : α → Int) : ∀ l : List α, (l.map f).sum - (l.map g).sum = (l.map fun x => f x - g x).sum
  | [] => rfl
  | a :: l => by
    have := sum_sub f g l
    simp only [List.map_cons, List.sum_cons]
    omega
theorem sum_zero {α : Type} {f : α → Int} : ∀ {l : List α}, (∀ x ∈ l, f x = 0) → (l.map f).sum = 0
  | [], _ => rfl
  | a :: l, h => by
    rw [List.map_cons, List.sum_cons, h a (.head _), sum_zero fun x hx => h x (.tail _ hx)]
    rfl
section
variable {n : Nat} {c : Nat → Nat → Int} {o : List Nat}
theorem ord_tk (hp : o.Perm (List.range n)) : (List.range n).map (tk o) = o := by
  have hl : o.length = n := by have := hp.length_eq; simpa using this
  refine List.ext_getElem (by simp [hl]) fun i h1 h2 => ?_
  rw [List.getElem_map, List.getElem_range]
  unfold tk
  rw [List.getD_eq_getElem?_getD, List.getElem?_eq_getElem h2]
  rfl
theorem ord_nd (hp : o.Perm (List.range n)) : o.Nodup := hp.nodup_iff.mpr List.nodup_range
theorem own (hp : o.Perm (List.range n)) {i : Nat} (hi : i < n) : o.idxOf (tk o i) = i ∧ tk o i < n := by
  have hl : o.length = n := by have := hp.length_eq; simpa using this
  have e : tk o i = o[i]'(by omega) := by
    unfold tk
    rw [List.getD_eq_getElem?_getD, List.getElem?_eq_getElem (by omega)]
    rfl
  rw [e]
  exact ⟨(ord_nd hp).idxOf_getElem i (by omega), List.mem_range.mp (hp.mem_iff.mp (List.getElem_mem _))⟩
theorem own' (hp : o.Perm (List.range n)) {s : Nat} (hs : s < n) : o.idxOf s < n ∧ tk o (o.idxOf s) = s := by
  have hl : o.length = n := by have := hp.length_eq; simpa using this
  have hm : s ∈ o := hp.mem_iff.mpr (List.mem_range.mpr hs)
  have h := List.idxOf_lt_length_of_mem hm
  refine ⟨by omega, ?_⟩
  unfold tk
  rw [List.getD_eq_getElem?_getD, List.getElem?_eq_getElem h]
  simp
def nx (a : Nat) (p : List Nat) (x : Nat) : Nat := if x ∈ a :: p then (p ++ [a]).getD ((a :: p).idxOf x) 0 else x
theorem nx_ring {a : Nat} {p : List Nat} (nd : (a :: p).Nodup) : (a :: p).map (nx a p) = p ++ [a] := by
  refine List.ext_getElem (by simp) fun i h1 h2 => ?_
  rw [List.getElem_map]
  have hi : i < (a :: p).length := by simpa using h1
  unfold nx
  rw [if_pos (List.getElem_mem hi), nd.idxOf_getElem i hi, List.getD_eq_getElem?_getD, List.getElem?_eq_getElem h2]
  rfl
theorem nx_out {a : Nat} {p : List Nat} {x : Nat} (h : x ∉ a :: p) : nx a p x = x := by
  unfold nx; rw [if_neg h]
theorem zip_map (w : Nat → Nat → Int) (f : Nat → Nat) : ∀ l : List Nat, List.zipWith w l (l.map f) = l.map fun x => w x (f x)
  | [] => rfl
  | a :: l => by rw [List.map_cons, List.zipWith_cons_cons, zip_map w f l, List.map_cons]
theorem ring_ok (hp : o.Perm (List.range n)) (opt : ∀ o' : List Nat, o'.Perm (List.range n) → cost n c o ≤ cost n c o') {a : Nat} {p : List Nat} (nd : (a :: p).Nodup) (hn : ∀ x ∈ a :: p, x < n) :
    0 ≤ (List.zipWith (stp c o) (a :: p) (p ++ [a])).sum := by
  have hr : (List.range n).Perm ((a :: p) ++ (List.range n).filter fun x => !(a :: p).contains x) := by
    rw [List.perm_ext_iff_of_nodup List.nodup_range]
    · intro x
      rw [List.mem_append, List.mem_filter, List.mem_range]
      constructor
      · intro hx
        by_cases h : x ∈ a :: p
        · exact .inl h
        · exact .inr ⟨hx, by simpa using h⟩
      · rintro (h | h)
        · exact hn x h
        · exact h.1
    · refine List.nodup_append.mpr ⟨nd, List.nodup_range.filter _, fun x hx y hy e => ?_⟩
      subst e
      have := (List.mem_filter.mp hy).2
      simp at this
      rcases List.mem_cons.mp hx with h | h
      · exact this.1 h
      · exact this.2 h
  generalize hrest : (List.range n).filter (fun x => !(a :: p).contains x) = rest at hr
  have hout : ∀ x ∈ rest, nx a p x = x := fun x hx => by
    rw [← hrest] at hx
    have := (List.mem_filter.mp hx).2
    exact nx_out (by simpa using this)
  have hmr : rest.map (nx a p) = rest := by
    have : rest.map (nx a p) = rest.map id := List.map_congr_left fun x hx => hout x hx
    rw [this, List.map_id]
  have hp2 : (o.map (nx a p)).Perm (List.range n) := by
    have h1 : (o.map (nx a p)).Perm (((a :: p) ++ rest).map (nx a p)) := (hp.trans hr).map _
    rw [List.map_append, nx_ring nd, hmr] at h1
    refine h1.trans (List.Perm.trans ?_ hr.symm)
    exact List.Perm.append_right rest (List.perm_append_singleton a p)
  have h := opt _ hp2
  have hl : o.length = n := by have := hp.length_eq; simpa using this
  have e1 : cost n c (o.map (nx a p)) - cost n c o = (o.map fun x => stp c o x (nx a p x)).sum := by
    have h3 : (o.map fun x => stp c o x (nx a p x)) = (List.range n).map fun i => stp c o (tk o i) (nx a p (tk o i)) := by
      conv => lhs; rw [← ord_tk hp]
      rw [List.map_map]
      have : ((fun x => stp c ((List.range n).map (tk o)) x (nx a p x)) ∘ tk o) = fun i => stp c o (tk o i) (nx a p (tk o i)) := by
        funext i
        show stp c ((List.range n).map (tk o)) (tk o i) _ = _
        rw [ord_tk hp]
      first
        | rw [this]
        | rfl
    rw [h3]
    unfold cost
    rw [sum_sub]
    congr 1
    refine List.map_congr_left fun i hi => ?_
    have hi := List.mem_range.mp hi
    obtain ⟨w1, w2⟩ := own hp hi
    have : tk (o.map (nx a p)) i = nx a p (tk o i) := by
      unfold tk
      rw [List.getD_eq_getElem?_getD, List.getD_eq_getElem?_getD, List.getElem?_map, List.getElem?_eq_getElem (by omega)]
      rfl
    rw [this]
    unfold stp
    rw [w1]
  have e2 : (o.map fun x => stp c o x (nx a p x)).sum = (List.zipWith (stp c o) (a :: p) (p ++ [a])).sum := by
    rw [sum_perm ((hp.trans hr).map _), List.map_append, List.sum_append, ← nx_ring nd, zip_map]
    have : (rest.map fun x => stp c o x (nx a p x)).sum = 0 := sum_zero fun x hx => by
      rw [hout x hx]
      unfold stp
      omega
    omega
  omega
end
section
variable {n : Nat} {w : Nat → Nat → Int}
def ww (w : Nat → Nat → Int) : List Nat → Int
  | a :: b :: l => w a b + ww w (b :: l)
  | _ => 0
theorem ww_split (r : List Nat) (y : Nat) : ∀ (p : List Nat) (x : Nat), ww w (x :: (p ++ y :: r)) = (List.zipWith w (x :: p) (p ++ [y])).sum + ww w (y :: r)
  | [], x => by simp [ww]
  | z :: p, x => by
    show w x z + ww w (z :: (p ++ y :: r)) = (w x z :: List.zipWith w (z :: p) (p ++ [y])).sum + _
    rw [ww_split r y p z, List.sum_cons]
    omega
def Ring (n : Nat) (w : Nat → Nat → Int) : Prop := ∀ (a : Nat) (p : List Nat), (a :: p).Nodup → (∀ x ∈ a :: p, x < n) → 0 ≤ (List.zipWith w (a :: p) (p ++ [a])).sum
theorem shorten (R : Ring n w) : ∀ (l : List Nat) (a : Nat), (∀ x ∈ a :: l, x < n) → ∃ l', (a :: l').Nodup ∧ (a :: l').getLast? = (a :: l).getLast? ∧ (∀ x ∈ a :: l', x < n) ∧ ww w (a :: l') ≤ ww w (a :: l)
  | [], a, h => ⟨[], by simp, rfl, h, Int.le_refl _⟩
  | b :: t, a, h => by
    obtain ⟨t', n1, n2, n3, n4⟩ := shorten R t b fun x hx => h x (.tail _ hx)
    have hw : ww w (a :: b :: t) = w a b + ww w (b :: t) := rfl
    have hw' : ww w (a :: b :: t') = w a b + ww w (b :: t') := rfl
    have hlast : (a :: b :: t).getLast? = (b :: t).getLast? := by rw [List.getLast?_cons_cons]
    by_cases hm : a ∈ b :: t'
    · obtain ⟨p, r, e⟩ := List.append_of_mem hm
      have nd : (p ++ a :: r).Nodup := by rw [← e]; exact n1
      have nd1 : (a :: p).Nodup := by
        have h1 := List.nodup_append.mp nd
        exact List.nodup_cons.mpr ⟨fun z => h1.2.2 a z a (.head _) rfl, h1.1⟩
      refine ⟨r, (List.nodup_append.mp nd).2.1, ?_, fun x hx => ?_, ?_⟩
      · rw [hlast, ← n2, e, List.getLast?_append]
        cases h : (a :: r).getLast? with
        | none => simp at h
        | some z => rfl
      · refine n3 x ?_
        rw [e]
        exact List.mem_append_right _ hx
      · have hc := R a p nd1 fun x hx => by
          rcases List.mem_cons.mp hx with rfl | hx
          · exact h _ (.head _)
          · refine n3 x ?_
            rw [e]
            exact List.mem_append_left _ hx
        have hs := ww_split (w := w) r a p a
        rw [← e] at hs
        omega
    · refine ⟨b :: t', List.nodup_cons.mpr ⟨hm, n1⟩, ?_, fun x hx => ?_, by omega⟩
      · rw [hlast, ← n2, List.getLast?_cons_cons]
      · rcases List.mem_cons.mp hx with rfl | hx
        · exact h _ (.head _)
        · exact n3 x hx
theorem nodup_lt_len {L : List Nat} {n : Nat} (nd : L.Nodup) (h : ∀ x ∈ L, x < n) : L.length ≤ n := by
  have := nd.length_le_of_subset (l₂ := List.range n) fun x hx => List.mem_range.mpr (h x hx)
  simpa using this
end
def rlx (w : Nat → Nat → Int) (h : Nat → Int) (e : Nat × Nat) : Nat → Int := fun j => if j = e.2 then min (h e.2) (h e.1 + w e.1 e.2) else h j
def rnd (w : Nat → Nat → Int) (E : List (Nat × Nat)) (h : Nat → Int) : Nat → Int := E.foldl (rlx w) h
def bf (w : Nat → Nat → Int) (E : List (Nat × Nat)) : Nat → (Nat → Int)
  | 0 => fun _ => 0
  | k + 1 => rnd w E (bf w E k)
section
variable {n : Nat} {w : Nat → Nat → Int} {E : List (Nat × Nat)} {h : Nat → Int}
theorem rlx_le (e : Nat × Nat) (j : Nat) : rlx w h e j ≤ h j := by
  unfold rlx
  split
  · rename_i z; rw [z]; omega
  · omega
theorem rnd_le : ∀ (E : List (Nat × Nat)) (h : Nat → Int) (j : Nat), rnd w E h j ≤ h j
  | [], h, j => Int.le_refl _
  | e :: E, h, j => Int.le_trans (rnd_le E (rlx w h e) j) (rlx_le e j)
theorem rnd_edge {s g : Nat} (hm : (s, g) ∈ E) : rnd w E h g ≤ h s + w s g := by
  obtain ⟨E1, E2, rfl⟩ := List.append_of_mem hm
  unfold rnd
  rw [List.foldl_append, List.foldl_cons]
  have h1 : E1.foldl (rlx w) h s ≤ h s := rnd_le E1 h s
  have h2 := rnd_le (w := w) E2 (rlx w (E1.foldl (rlx w) h) (s, g)) g
  have h3 : rlx w (E1.foldl (rlx w) h) (s, g) g ≤ E1.foldl (rlx w) h s + w s g := by
    generalize E1.foldl (rlx w) h = h'
    show (if g = g then min (h' g) (h' s + w s g) else h' g) ≤ _
    rw [if_pos rfl]
    omega
  have h4 : E2.foldl (rlx w) (rlx w (E1.foldl (rlx w) h) (s, g)) g ≤ rlx w (E1.foldl (rlx w) h) (s, g) g := h2
  omega
def To (n : Nat) (w : Nat → Nat → Int) (j : Nat) (x : Int) : Prop := ∃ a l, (a :: l).getLast? = some j ∧ (∀ y ∈ a :: l, y < n) ∧ ww w (a :: l) ≤ x
theorem ww_snoc (g : Nat) : ∀ (l : List Nat) (a s : Nat), (a :: l).getLast? = some s → ww w (a :: (l ++ [g])) = ww w (a :: l) + w s g
  | [], a, s, h => by
    have : a = s := by simpa using h
    subst this
    simp [ww]
  | b :: l, a, s, h => by
    rw [List.getLast?_cons_cons] at h
    show w a b + ww w (b :: (l ++ [g])) = w a b + ww w (b :: l) + w s g
    rw [ww_snoc g l b s h]
    omega
theorem To.step {s g : Nat} {x : Int} (h : To n w s x) (hg : g < n) : To n w g (x + w s g) := by
  obtain ⟨a, l, h1, h2, h3⟩ := h
  refine ⟨a, l ++ [g], ?_, fun y hy => ?_, ?_⟩
  · rw [← List.cons_append, List.getLast?_append]; rfl
  · rw [← List.cons_append] at hy
    rcases List.mem_append.mp hy with hy | hy
    · exact h2 y hy
    · rw [List.mem_singleton.mp hy]; exact hg
  · rw [ww_snoc g l a s h1]; omega
theorem rlx_to (hE : ∀ e ∈ E, e.1 < n ∧ e.2 < n) : ∀ (l : List (Nat × Nat)) (h : Nat → Int), (∀ e ∈ l, e ∈ E) → (∀ j < n, To n w j (h j)) → ∀ j < n, To n w j (rnd w l h j)
  | [], h, _, ht, j, hj => ht j hj
  | e :: l, h, hl, ht, j, hj => by
    refine rlx_to hE l (rlx w h e) (fun x hx => hl x (.tail _ hx)) (fun i hi => ?_) j hj
    obtain ⟨e1, e2⟩ := hE e (hl e (.head _))
    unfold rlx
    by_cases z : i = e.2
    · rw [if_pos z, z]
      by_cases q : h e.2 ≤ h e.1 + w e.1 e.2
      · rw [Int.min_eq_left q]; exact ht _ e2
      · rw [Int.min_eq_right (by omega)]; exact (ht _ e1).step e2
    · rw [if_neg z]; exact ht i hi
theorem bf_to (hE : ∀ e ∈ E, e.1 < n ∧ e.2 < n) : ∀ (k j : Nat), j < n → To n w j (bf w E k j)
  | 0, j, hj => ⟨j, [], rfl, fun y hy => by rw [List.mem_singleton.mp hy]; exact hj, Int.le_refl _⟩
  | k + 1, j, hj => rlx_to hE E (bf w E k) (fun _ h => h) (fun i hi => bf_to hE k i hi) j hj
theorem snoc_of : ∀ (l : List Nat) (a b : Nat), ∃ l' s, a :: b :: l = a :: (l' ++ [s]) ∧ l'.length = l.length ∧ (a :: (l' ++ [s])).getLast? = some s ∧ ∃ q, (a :: l').getLast? = some q
  | [], a, b => ⟨[], b, rfl, rfl, rfl, a, rfl⟩
  | z :: l, a, b => by
    obtain ⟨l', s, h1, h2, h3, q, h4⟩ := snoc_of l b z
    refine ⟨b :: l', s, ?_, by simp [h2], ?_, q, ?_⟩
    · rw [h1]; rfl
    · show (a :: b :: (l' ++ [s])).getLast? = some s
      rw [List.getLast?_cons_cons]; exact h3
    · rw [List.getLast?_cons_cons]; exact h4
theorem bf_walk (hE : ∀ s g, s < n → g < n → (s, g) ∈ E) : ∀ (k : Nat) (l : List Nat) (a j : Nat), l.length ≤ k → (a :: l).getLast? = some j → (∀ y ∈ a :: l, y < n) → bf w E k j ≤ ww w (a :: l)
  | k, [], a, j, _, _, _ => by
    have : ∀ k : Nat, bf w E k j ≤ 0 := fun k => by
      induction k with
      | zero => exact Int.le_refl _
      | succ k ih => exact Int.le_trans (rnd_le E _ j) ih
    exact this k
  | 0, b :: l, a, j, h, _, _ => by simp at h
  | k + 1, b :: l, a, j, h, hj, hy => by
    obtain ⟨l', s, e1, e2, e3, q, e4⟩ := snoc_of l a b
    rw [e1] at hj hy ⊢
    have : s = j := by rw [e3] at hj; exact Option.some.inj hj
    subst this
    rw [ww_snoc s l' a q e4]
    have hq : q < n := hy q (by
      have := List.mem_of_getLast? e4
      rcases List.mem_cons.mp this with z | z
      · rw [z]; exact .head _
      · exact .tail _ (List.mem_append_left _ z))
    have hs : s < n := hy s (.tail _ (List.mem_append_right _ (.head _)))
    have ih := bf_walk hE k l' a q (by rw [e2]; rw [List.length_cons] at h; omega) e4 fun y hy' => by
      rcases List.mem_cons.mp hy' with z | z
      · exact hy y (by rw [z]; exact .head _)
      · exact hy y (.tail _ (List.mem_append_left _ z))
    have := rnd_edge (w := w) (h := bf w E k) (hE q s hq hs)
    show rnd w E (bf w E k) s ≤ _
    omega
theorem bf_done (R : Ring n w) (hE : ∀ e, e ∈ E ↔ e.1 < n ∧ e.2 < n) {s g : Nat} (hs : s < n) (hg : g < n) : bf w E n g ≤ bf w E n s + w s g := by
  obtain ⟨a, l, h1, h2, h3⟩ := (bf_to (w := w) (fun e he => (hE e).mp he) n s hs).step hg
  obtain ⟨l', n1, n2, n3, n4⟩ := shorten R l a h2
  have hlen := nodup_lt_len n1 n3
  have := bf_walk (w := w) (E := E) (n := n) (fun s g h h' => (hE (s, g)).mpr ⟨h, h'⟩) n l' a g (by rw [List.length_cons] at hlen; omega) (by rw [n2]; exact h1) n3
  omega
end
section
variable {n : Nat} {c : Nat → Nat → Int} {o : List Nat} {E : List (Nat × Nat)}
theorem prices_ok (hp : o.Perm (List.range n)) (opt : ∀ o' : List Nat, o'.Perm (List.range n) → cost n c o ≤ cost n c o') (hE : ∀ e, e ∈ E ↔ e.1 < n ∧ e.2 < n) :
    (∀ i < n, ∀ j < n, (c i (tk o i) - bf (stp c o) E n (tk o i)) + bf (stp c o) E n j ≤ c i j) ∧
    ((List.range n).map fun i => c i (tk o i) - bf (stp c o) E n (tk o i)).sum + ((List.range n).map (bf (stp c o) E n)).sum = cost n c o := by
  constructor
  · intro i hi j hj
    obtain ⟨o1, o2⟩ := own hp hi
    have := bf_done (w := stp c o) (E := E) (fun a p nd hn => ring_ok hp opt nd hn) hE o2 hj
    unfold stp at this
    rw [o1] at this
    unfold stp
    omega
  · generalize bf (stp c o) E n = H
    have e1 : ((List.range n).map H).sum = ((List.range n).map fun i => H (tk o i)).sum := by
      have := sum_perm (hp.map H)
      rw [← this]
      conv => lhs; rw [← ord_tk hp]
      rw [List.map_map]
      rfl
    rw [e1]
    unfold cost
    have := sum_sub (fun i => c i (tk o i)) (fun i => H (tk o i)) (List.range n)
    omega
end
end Fit
end
section
set_option Elab.async false
set_option linter.all false
set_option maxRecDepth 10000
namespace Fit
open Lib
variable {n : Nat} {c : Nat → Nat → Int}
def pc (c : Nat → Nat → Int) (t : List Nat) : Int := cost t.length c t
theorem pc_snoc (t : List Nat) (x : Nat) : pc c (t ++ [x]) = pc c t + c t.length x := by
  unfold pc cost
  rw [List.length_append, List.length_singleton, List.range_succ, List.map_append, List.sum_append]
  have h1 : ((List.range t.length).map fun i => c i (tk (t ++ [x]) i)) = (List.range t.length).map fun i => c i (tk t i) := List.map_congr_left fun i hi => by
    have hi := List.mem_range.mp hi
    unfold tk
    rw [List.getD_eq_getElem?_getD, List.getD_eq_getElem?_getD, List.getElem?_append_left hi]
  have h2 : tk (t ++ [x]) t.length = x := by
    unfold tk
    rw [List.getD_eq_getElem?_getD, List.getElem?_append_right (Nat.le_refl _)]
    simp
  rw [h1]
  simp [h2]
theorem lt_snoc {a b : List Nat} {x : Nat} (hl : a.length = b.length) (h : ltl (pc c) a b = false) : ltl (pc c) (a ++ [x]) (b ++ [x]) = false := by
  cases e : ltl (pc c) (a ++ [x]) (b ++ [x]) with
  | false => rfl
  | true =>
    have := (ltl_iff (pc c) (a ++ [x]) (b ++ [x])).mp e
    rw [pc_snoc, pc_snoc, hl] at this
    have hn : ¬ (ltl (pc c) a b = true) := by rw [h]; simp
    rcases this with z | ⟨z1, z2⟩
    · exact absurd ((ltl_iff (pc c) a b).mpr (.inl (by omega))) hn
    · refine absurd ((ltl_iff (pc c) a b).mpr (.inr ⟨by omega, ?_⟩)) hn
      cases q : llt a b with
      | true => rfl
      | false =>
        cases q2 : llt b a with
        | true =>
          have := llt_trans (llt_app_l [x] [x] hl.symm q2) z2
          rw [llt_irrefl] at this
          cases this
        | false =>
          rw [llt_tri a b q q2, llt_irrefl] at z2
          cases z2
theorem le_trans {a b d : List Nat} (h : ltl (pc c) a b = false) (h' : ltl (pc c) b d = false) : ltl (pc c) a d = false := by
  cases e : ltl (pc c) a d with
  | false => rfl
  | true =>
    rcases ltl_co (pc c) b e with z | z
    · rw [h] at z; cases z
    · rw [h'] at z; cases z
def key (t : List Nat) : List Int := up (t.map fun k : Nat => (k : Int))
theorem key_mem {t : List Nat} {x : Nat} : (x : Int) ∈ key t ↔ x ∈ t := by
  unfold key
  rw [(up_perm _).mem_iff, List.mem_map]
  constructor
  · rintro ⟨y, hy, e⟩
    have : y = x := by omega
    subst this
    exact hy
  · intro h
    exact ⟨x, h, rfl⟩
theorem key_snoc (t : List Nat) (x : Nat) : up (key t ++ [(x : Int)]) = key (t ++ [x]) := by
  letI : DS.Tbls := ⟨[]⟩
  refine DS.up_uniq (up_sorted _) (up_sorted _) ?_
  refine (up_perm _).trans (List.Perm.trans ?_ (up_perm _).symm)
  rw [List.map_append]
  exact List.Perm.append_right _ (up_perm _)
theorem key_of_perm {t t' : List Nat} (h : t.Perm t') : key t = key t' := letI : DS.Tbls := ⟨[]⟩; DS.up_uniq (up_sorted _) (up_sorted _) ((up_perm _).trans ((h.map _).trans (up_perm _).symm))
abbrev Tab := List (List Int × List Nat)
structure Inj (n i : Nat) (t : List Nat) : Prop where
  len : t.length = i
  nd : t.Nodup
  lt : ∀ x ∈ t, x < n
theorem Inj.snoc {i x : Nat} {t : List Nat} (h : Inj n i t) (hx : x < n) (hn : x ∉ t) : Inj n (i + 1) (t ++ [x]) := ⟨by simp [h.len], by
  rw [List.nodup_append]
  exact ⟨h.nd, by simp, fun a ha b hb e => by
    rw [List.mem_singleton.mp hb] at e
    exact hn (e ▸ ha)⟩, fun y hy => by
  rcases List.mem_append.mp hy with hy | hy
  · exact h.lt y hy
  · rw [List.mem_singleton.mp hy]; exact hx⟩
def Val (n i : Nat) (l : Tab) : Prop := ∀ k r, kget l k = some r → Inj n i r ∧ k = key r
def Has (c : Nat → Nat → Int) (l : Tab) (t : List Nat) : Prop := ∃ r, kget l (key t) = some r ∧ ltl (pc c) t r = false
def Full (n : Nat) (c : Nat → Nat → Int) (i : Nat) (l : Tab) : Prop := Val n i l ∧ ∀ t, Inj n i t → Has c l t
def stx (c : Nat → Nat → Int) (used : List Int) (tasks : List Nat) (g : Tab) (x : Nat) : Tab :=
  if (x : Int) ∈ used then g else
    match kget g (up (used ++ [(x : Int)])) with
    | none => kput g (up (used ++ [(x : Int)])) (tasks ++ [x])
    | some r => if ltl (pc c) (tasks ++ [x]) r = true then kput g (up (used ++ [(x : Int)])) (tasks ++ [x]) else g
theorem stx_ok {i x : Nat} {g : Tab} {t : List Nat} (ht : Inj n i t) (hx : x < n) (hg : Val n (i + 1) g) :
    Val n (i + 1) (stx c (key t) t g x) ∧ (∀ u, Has c g u → Has c (stx c (key t) t g x) u) ∧ (x ∉ t → Has c (stx c (key t) t g x) (t ++ [x])) := by
  unfold stx
  by_cases hm : (x : Int) ∈ key t
  · rw [if_pos hm]
    exact ⟨hg, fun u h => h, fun z => absurd (key_mem.mp hm) z⟩
  rw [if_neg hm, key_snoc]
  have hx' : x ∉ t := fun z => hm (key_mem.mpr z)
  have hin := ht.snoc hx hx'
  have put : ∀ (hold : ∀ r, kget g (key (t ++ [x])) = some r → ltl (pc c) r (t ++ [x]) = false), Val n (i + 1) (kput g (key (t ++ [x])) (t ++ [x])) ∧ (∀ u, Has c g u → Has c (kput g (key (t ++ [x])) (t ++ [x])) u) ∧ (x ∉ t → Has c (kput g (key (t ++ [x])) (t ++ [x])) (t ++ [x])) := fun hold => by
    refine ⟨fun k r h => ?_, fun u hu => ?_, fun _ => ⟨t ++ [x], by rw [kget_put, if_pos rfl], ltl_ir _ _⟩⟩
    · rw [kget_put] at h
      split at h
      · rename_i e
        cases h
        exact ⟨hin, e⟩
      · exact hg k r h
    · obtain ⟨r, h1, h2⟩ := hu
      unfold Has
      rw [kget_put]
      by_cases e : key u = key (t ++ [x])
      · rw [if_pos e]
        rw [e] at h1
        exact ⟨_, rfl, le_trans h2 (hold r h1)⟩
      · rw [if_neg e]
        exact ⟨r, h1, h2⟩
  cases e : kget g (key (t ++ [x])) with
  | none =>
    dsimp only
    exact put fun r h => by rw [e] at h; cases h
  | some r =>
    dsimp only
    by_cases q : ltl (pc c) (t ++ [x]) r = true
    · rw [if_pos q]
      refine put fun r' h => ?_
      rw [e] at h
      cases h
      cases z : ltl (pc c) r (t ++ [x]) with
      | false => rfl
      | true =>
        have := ltl_tr (pc c) q z
        rw [ltl_ir] at this
        cases this
    · rw [if_neg q]
      exact ⟨hg, fun u h => h, fun _ => ⟨r, e, by simpa using q⟩⟩
def rowx (n : Nat) (c : Nat → Nat → Int) (used : List Int) (tasks : List Nat) (k : Nat) (g : Tab) : Tab := (List.range k).foldl (stx c used tasks) g
theorem rowx_succ (n : Nat) (used : List Int) (tasks : List Nat) (k : Nat) (g : Tab) : rowx n c used tasks (k + 1) g = stx c used tasks (rowx n c used tasks k g) k := by
  unfold rowx
  rw [List.range_succ, List.foldl_append]
  rfl
theorem rowx_ok {i : Nat} {t : List Nat} (ht : Inj n i t) {g : Tab} (hg : Val n (i + 1) g) : ∀ k ≤ n, Val n (i + 1) (rowx n c (key t) t k g) ∧ (∀ u, Has c g u → Has c (rowx n c (key t) t k g) u) ∧ ∀ x < k, x ∉ t → Has c (rowx n c (key t) t k g) (t ++ [x])
  | 0, _ => ⟨hg, fun u h => h, fun x hx => by omega⟩
  | k + 1, hk => by
    obtain ⟨a1, a2, a3⟩ := rowx_ok ht hg k (by omega)
    obtain ⟨b1, b2, b3⟩ := stx_ok (c := c) ht (x := k) (by omega) a1
    rw [rowx_succ]
    refine ⟨b1, fun u h => b2 u (a2 u h), fun x hx hn => ?_⟩
    by_cases e : x = k
    · subst e; exact b3 hn
    · exact b2 _ (a3 x (by omega) hn)
def setx (n : Nat) (c : Nat → Nat → Int) (l : Tab) (ks : List (List Int)) (g : Tab) : Tab := ks.foldl (fun g k => match kget l k with
  | some r => rowx n c k r n g
  | none => g) g
theorem setx_ok {i : Nat} {l : Tab} (hl : Val n i l) : ∀ (ks : List (List Int)) (g : Tab), Val n (i + 1) g → Val n (i + 1) (setx n c l ks g) ∧ (∀ u, Has c g u → Has c (setx n c l ks g) u) ∧ ∀ k ∈ ks, ∀ r, kget l k = some r → ∀ x < n, x ∉ r → Has c (setx n c l ks g) (r ++ [x])
  | [], g, hg => ⟨hg, fun u h => h, fun k hk => by simp at hk⟩
  | k :: ks, g, hg => by
    have es : setx n c l (k :: ks) g = setx n c l ks (match kget l k with
      | some r => rowx n c k r n g
      | none => g) := rfl
    rw [es]
    cases e : kget l k with
    | none =>
      dsimp only
      obtain ⟨a1, a2, a3⟩ := setx_ok hl ks g hg
      refine ⟨a1, a2, fun k' hk' r hr => ?_⟩
      rcases List.mem_cons.mp hk' with z | z
      · rw [z, e] at hr; cases hr
      · exact a3 k' z r hr
    | some r0 =>
      dsimp only
      obtain ⟨h1, h2⟩ := hl k r0 e
      rw [h2]
      obtain ⟨b1, b2, b3⟩ := rowx_ok (c := c) h1 hg n (Nat.le_refl _)
      obtain ⟨a1, a2, a3⟩ := setx_ok hl ks _ b1
      refine ⟨a1, fun u hu => a2 u (b2 u hu), fun k' hk' r hr x hx hn => ?_⟩
      rcases List.mem_cons.mp hk' with z | z
      · rw [z, ← h2, e] at hr
        cases hr
        exact a2 _ (b3 x hx hn)
      · exact a3 k' z r hr x hx hn
theorem full_step {i : Nat} {l : Tab} (h : Full n c i l) : Full n c (i + 1) (setx n c l (l.map (·.1)) []) := by
  obtain ⟨h1, h2⟩ := h
  obtain ⟨a1, _, a3⟩ := setx_ok (c := c) h1 (l.map (·.1)) [] fun k r h => by simp [kget] at h
  refine ⟨a1, fun t ht => ?_⟩
  have hne : t ≠ [] := fun z => by have := ht.len; rw [z] at this; simp at this
  obtain ⟨t', x, rfl⟩ : ∃ t' x, t = t' ++ [x] := ⟨t.dropLast, t.getLast hne, (List.dropLast_concat_getLast hne).symm⟩
  have hnd := List.nodup_append.mp ht.nd
  have ht' : Inj n i t' := ⟨by have := ht.len; simp at this; exact this, hnd.1, fun y hy => ht.lt y (List.mem_append_left _ hy)⟩
  have hx : x < n := ht.lt x (List.mem_append_right _ (.head _))
  have hn : x ∉ t' := fun z => hnd.2.2 x z x (.head _) rfl
  obtain ⟨r, e1, e2⟩ := h2 t' ht'
  obtain ⟨r1, r2⟩ := h1 _ r e1
  have hk : key t' ∈ l.map (·.1) := by
    unfold kget at e1
    obtain ⟨p, hp, _⟩ := Option.map_eq_some_iff.mp e1
    have hp1 := List.find?_some hp
    have hp2 := List.mem_of_find?_eq_some hp
    exact List.mem_map.mpr ⟨p, hp2, by simpa using hp1⟩
  have hnr : x ∉ r := fun z => hn (key_mem.mp (by rw [r2]; exact key_mem.mpr z))
  obtain ⟨r', f1, f2⟩ := a3 _ hk r e1 x hx hnr
  have ek : key (r ++ [x]) = key (t' ++ [x]) := by rw [← key_snoc, ← key_snoc, r2]
  rw [ek] at f1
  exact ⟨r', f1, le_trans (lt_snoc (by rw [ht'.len, r1.len]) e2) f2⟩
def tabx (n : Nat) (c : Nat → Nat → Int) : Nat → Tab
  | 0 => [([], [])]
  | i + 1 => setx n c (tabx n c i) ((tabx n c i).map (·.1)) []
theorem tabx_ok : ∀ i, Full n c i (tabx n c i)
  | 0 => by
    refine ⟨fun k r h => ?_, fun t ht => ?_⟩
    · unfold tabx kget at h
      rw [List.find?_cons] at h
      by_cases e : ([] : List Int) = k
      · rw [decide_eq_true (by exact e)] at h
        cases h
        exact ⟨⟨rfl, by simp, by simp⟩, by rw [← e]; simp [key, up]⟩
      · rw [decide_eq_false (by exact e)] at h
        cases h
    · have : t = [] := List.length_eq_zero_iff.mp ht.len
      subst this
      exact ⟨[], by simp [tabx, kget, key, up], ltl_ir _ _⟩
  | i + 1 => full_step (tabx_ok i)
structure Best (n : Nat) (c : Nat → Nat → Int) (o : List Nat) : Prop where
  perm : o.Perm (List.range n)
  le : ∀ t : List Nat, t.Perm (List.range n) → ltl (pc c) t o = false
theorem inj_perm {t : List Nat} : Inj n n t ↔ t.Perm (List.range n) := by
  constructor
  · intro h
    refine (List.perm_ext_iff_of_nodup h.nd List.nodup_range).mpr fun x => ⟨fun hx => List.mem_range.mpr (h.lt x hx), fun hx => ?_⟩
    have hx := List.mem_range.mp hx
    apply Classical.byContradiction
    intro hn
    have := nodup_lt_len (L := x :: t) (n := n) (List.nodup_cons.mpr ⟨hn, h.nd⟩) fun y hy => by
      rcases List.mem_cons.mp hy with z | z
      · rw [z]; exact hx
      · exact h.lt y z
    rw [List.length_cons, h.len] at this
    omega
  · intro h
    exact ⟨by have := h.length_eq; simpa using this, h.nodup_iff.mpr List.nodup_range, fun x hx => List.mem_range.mp (h.mem_iff.mp hx)⟩
theorem tabx_end : ∃ o, Best n c o ∧ (∃ k, k ∈ (tabx n c n).map (·.1)) ∧ ∀ k ∈ (tabx n c n).map (·.1), kget (tabx n c n) k = some o := by
  obtain ⟨h1, h2⟩ := tabx_ok (n := n) (c := c) n
  obtain ⟨o, e1, e2⟩ := h2 (List.range n) (inj_perm.mpr (.refl _))
  obtain ⟨r1, r2⟩ := h1 _ o e1
  have hp := inj_perm.mp r1
  have all : ∀ t : List Nat, t.Perm (List.range n) → kget (tabx n c n) (key t) = some o := fun t ht => by rw [key_of_perm ht]; exact e1
  refine ⟨o, ⟨hp, fun t ht => ?_⟩, ⟨key (List.range n), ?_⟩, fun k hk => ?_⟩
  · obtain ⟨r, f1, f2⟩ := h2 t (inj_perm.mpr ht)
    rw [all t ht] at f1
    cases f1
    exact f2
  · unfold kget at e1
    obtain ⟨p, hp, _⟩ := Option.map_eq_some_iff.mp e1
    exact List.mem_map.mpr ⟨p, List.mem_of_find?_eq_some hp, by simpa using List.find?_some hp⟩
  · obtain ⟨r, hr⟩ := kget_keys hk
    obtain ⟨s1, s2⟩ := h1 k r hr
    rw [s2]
    exact all r (inj_perm.mp s1)
theorem Best.opt {o : List Nat} (h : Best n c o) : ∀ t : List Nat, t.Perm (List.range n) → cost n c o ≤ cost n c t := fun t ht => by
  have h1 : o.length = n := by have := h.perm.length_eq; simpa using this
  have h2 : t.length = n := by have := ht.length_eq; simpa using this
  have := h.le t ht
  cases e : decide (pc c t < pc c o) with
  | true =>
    have := (ltl_iff (pc c) t o).mpr (.inl (of_decide_eq_true e))
    rw [h.le t ht] at this
    cases this
  | false =>
    have := of_decide_eq_false e
    unfold pc at this
    rw [h1, h2] at this
    omega
end Fit
end
section
set_option Elab.async false
set_option linter.all false
set_option maxRecDepth 10000
namespace K52
def mq (a b : Rat) : Rat := if b < a then b else a
def su : List Rat → Rat
  | [] => 0
  | a :: l => a + su l
def lsum (cs : List Rat) (l : Rat) : Rat := su (cs.map fun a => mq a l)
end K52
end
section
set_option Elab.async false
set_option linter.all false
set_option maxRecDepth 10000
namespace K52
open Lib (up up_perm up_sorted)
def cl (n : Nat) (c : Nat → Int) : List Rat := (List.range n).map fun k => (c k : Rat)
def tot (n : Nat) (c : Nat → Int) : Rat := su (cl n c)
def rk (n : Nat) (c : Nat → Int) : List Rat := (up ((List.range n).map c)).map fun a : Int => (a : Rat)
variable {n : Nat} {c : Nat → Int} {E : Rat}
def pr (a b : Int) (k : Nat) : Int := if k = 0 then a else b
theorem pos_c {k : Nat} (hc : ∀ k < n, 1 ≤ c k) (hk : k < n) : (1 : Rat) ≤ (c k : Rat) := by exact_mod_cast hc k hk
theorem su_pos : ∀ l : List Rat, (∀ a ∈ l, (1 : Rat) ≤ a) → 0 ≤ su l ∧ (l ≠ [] → 0 < su l)
  | [], _ => ⟨by simp [su], fun h => absurd rfl h⟩
  | a :: l, h => by
    have := (su_pos l fun b hb => h b (List.mem_cons_of_mem _ hb)).1
    have := h a List.mem_cons_self
    simp only [su]
    exact ⟨by grind, fun _ => by grind⟩
theorem tot_pos (h1 : 1 ≤ n) (hc : ∀ k < n, 1 ≤ c k) : 0 < tot n c := by
  refine (su_pos (cl n c) fun a ha => ?_).2 fun z => ?_
  · obtain ⟨k, hk, rfl⟩ := List.mem_map.mp ha
    exact pos_c hc (List.mem_range.mp hk)
  · have := congrArg List.length z
    simp [cl] at this
    omega
end K52
end
section
set_option Elab.async false
set_option linter.all false
set_option maxRecDepth 10000
namespace K52
open Lib (up up_perm up_sorted)
variable {n : Nat} {c : Nat → Int} {E : Rat}
end K52
end
section
set_option Elab.async false
set_option linter.all false
set_option maxRecDepth 10000
namespace K52
open DS PySem K27
open K71 (wp_forB rep_any rI rI_rt wp_parF27 asc_sorted smI)
open K24 (dkey_cmp dkey_lt sort_ord set_done all_done)
open Lib hiding den__law_sets law_sets_ok pl
def den_parted : Fn := dfun 2 2 (sRet (eCall 2 den_lowest (aCons (eOp dMul (eIx (eVar 0) (eC (.int 0))) (eIx (eVar 1) (eC (.int 1)))) (aCons (eOp dMul (eIx (eVar 0) (eC (.int 1))) (eIx (eVar 1) (eC (.int 0)))) aNil))))
theorem divInt_div (p : Rat) {m : Int} (hm : 0 < m) : Rat.divInt (p.num * 1) (p.den * m) = p / (m : Rat) := by
  have b1 : (0 : Int) < p.den := den_pos p
  have c1 : ((p.den : Int) : Rat) ≠ 0 := by
    have : (0 : Rat) < ((p.den : Int) : Rat) := by exact_mod_cast b1
    grind
  have c2 : (m : Rat) ≠ 0 := by
    have : (0 : Rat) < (m : Rat) := by exact_mod_cast hm
    grind
  have a1 := Rat.num_divInt_den p
  rw [Rat.divInt_eq_div] at a1 ⊢
  rw [Rat.intCast_mul, Rat.intCast_mul]
  have e1 : ((1 : Int) : Rat) = 1 := rfl
  rw [e1]
  generalize hA : (p.num : Rat) = A at *
  generalize hB : (((p.den : Int)) : Rat) = B at *
  have : p = A / B := a1.symm
  rw [this]
  grind
theorem SmI {a : Int} {k : Nat} (h : a.natAbs < 2 ^ k) (hk : 0 < k) : Sm k (a : Rat) := smI h hk
theorem parted_ok {p : Rat} {m : Int} {k : Nat} (hp : Sm k p) (hk : 0 < k) (hk2 : k ≤ 4000) (h1 : 1 ≤ m) (h2 : m < 1024) : den_parted [rt p, rt (m : Rat)] = some (rt (p / (m : Rat))) ∧ Sm (k + 10) (p / (m : Rat)) := by
  have hs : Sm 10 (m : Rat) := SmI (by omega) (by omega)
  have m1 : mulOk p.num 1 = true := by
    have := mulOk_big (m := k) (n := 1) hp.1 (show (1 : Int).natAbs < 2 ^ 1 by decide) hk (by omega) (by omega)
    exact this
  have m2 : mulOk p.den m = true := mulOk_big (m := k) (n := 10) (show ((p.den : Int)).natAbs < 2 ^ k by simpa using hp.2) (by omega) hk (by omega) (by omega)
  have hd : (0 : Int) < p.den * m := Int.mul_pos (den_pos p) (by omega)
  have r := lowest_ok (a := p.num * 1) hd (natAbs_mul_lt (m := k) (n := 10) (show ((p.den : Int)).natAbs < 2 ^ k by simpa using hp.2) (by omega)) (by omega)
  rw [divInt_div p (by omega)] at r
  have x0 : dIx (rt (m : Rat)) (.int 0) = some (.int m) := rfl
  have x1 : dIx (rt (m : Rat)) (.int 1) = some (.int 1) := rfl
  have sm : Sm (k + 10) (p / (m : Rat)) := by
    rw [← divInt_div p (by omega)]
    exact Sm.divInt (n := 0) hd (natAbs_mul_lt (m := k) (n := 10) hp.1 (by decide)) (natAbs_mul_lt (m := k) (n := 10) (by simpa using hp.2) (by omega))
  refine ⟨?_, sm⟩
  refine dfun_wp rfl ?_
  simp only [List.map_cons, List.map_nil, List.replicate_succ, List.replicate_zero, List.nil_append, List.cons_append, List.append_nil, Nat.reduceSub, Nat.reduceAdd, setsD, zeros, stt, setsO, setsJ, List.foldl_cons, List.foldl_nil, List.set_cons_zero, List.set_cons_succ, demote]
  refine wp_ret (d := rt (p / (m : Rat))) ?_ rfl
  (first | rfl | (simp only [eOp_a, eUn_a, eCB_a, aCons_a, aNil_a, eIx_a, eC_a, eVar_0, eVar_s, o2_ss, o1_s, d1_1, d2_2, eB_a, tCmp_a, tTru_a, tNotD_a, tIsND_a, tNotND_a, eIsN_a, eNotN_a, tTrue_a, iSeq_a, seqOf_l, seqOf_t, dAdd_i, dAddI_i, dSub_i, dNeg_i, dLt_i, dLe_i, dGt_i, dGe_i, dEq_i, dNe_i, dTru_b, dTru_i, dTru_l, dTru_t, dTru_n, isNon_n, isNon_b, isNon_i, isNon_s, isNon_l, isNon_t, dLen_l, dLen_t, dInt_i, dInt_b, dTuple_l, dTuple_t, dList_l, dList_t, eCall_1, eCall_2, eCall_3, eCall_4, eCall_5, eCall_6, eCall_7, rt_0, rt_1, x0, x1, dMul_i m1, dMul_i m2, r] <;> rfl))
end K52
end
section
set_option Elab.async false
set_option linter.all false
set_option maxRecDepth 10000
namespace K52
open DS PySem K27
open K71 (wp_forB rep_any rI rI_rt wp_parF27 asc_sorted smI)
open K24 (dkey_cmp dkey_lt sort_ord set_done all_done)
open Lib hiding den__law_sets law_sets_ok pl
variable {n : Nat} {c : Nat → Int} {E : Rat}
def tq (n : Nat) (s : Nat → Rat) : D := .tuple ((List.range n).map fun k => rt (s k))
def od (n : Nat) (c : Nat → Int) : List Nat := ord (fun k => -c k) n
def lf (n : Nat) (c : Nat → Int) (l : Rat) (p : Nat) : Rat := lsum (((od n c).drop p).map fun k => (c k : Rat)) l
theorem Sm.mq {a b : Rat} {m : Nat} (ha : Sm m a) (hb : Sm m b) : Sm m (K52.mq a b) := by
  unfold K52.mq
  split <;> assumption
end K52
end
section
set_option Elab.async false
set_option linter.all false
set_option maxRecDepth 10000
namespace K52
open DS PySem K27
open K71 (wp_forB rep_any rI rI_rt wp_parF27 asc_sorted smI)
open K24 (dkey_cmp dkey_lt sort_ord set_done all_done)
open Lib hiding den__law_sets law_sets_ok pl
variable {n : Nat} {c : Nat → Int} {E : Rat}
theorem su_append : ∀ a b : List Rat, su (a ++ b) = su a + su b
  | [], b => by simp only [List.nil_append, su]; grind
  | x :: a, b => by
    rw [List.cons_append]
    simp only [su]
    rw [su_append a b]
    grind
theorem tot_rsum (c : Nat → Int) : ∀ n : Nat, tot n c = ((rsum c n : Int) : Rat)
  | 0 => rfl
  | n + 1 => by
    have ih := tot_rsum c n
    unfold tot cl at *
    rw [List.range_succ, List.map_append, su_append, ih]
    show _ = ((rsum c n + c n : Int) : Rat)
    rw [Rat.intCast_add]
    simp only [List.map_cons, List.map_nil, su]
    grind
theorem cSum_row : dSum (trow n c) = some (.int (rsum c n)) := by
  have := dSum_ok ((List.range n).map c)
  rw [List.map_map, rsum_list] at this
  exact this
def nm (r : Nat) : D := if r = 0 then .str "parts" else if r = 1 then .str "gains" else if r = 2 then .str "losses" else .str "halves"
structure Cl (n : Nat) (c : Nat → Int) : Prop where
  one : 1 ≤ n
  five : n ≤ 5
  bd : ∀ k < n, 1 ≤ c k ∧ c k ≤ 60
theorem Cl.nn (h : Cl n c) : ∀ k < n, 0 ≤ c k ∧ c k ≤ 60 := fun k hk => by have := h.bd k hk; omega
theorem Cl.pos (h : Cl n c) : ∀ k < n, 1 ≤ c k := fun k hk => (h.bd k hk).1
theorem Cl.sm (h : Cl n c) {m : Nat} (hm : 6 ≤ m) : ∀ k < n, Sm m (c k : Rat) := fun k hk => (SmI (k := 6) (by have := h.bd k hk; omega) (by omega)).mono hm
theorem eLc_tq {fi : FA} {i : Nat} {fe : FE} {vs : List Nat} {ρ : PEnv} {s : Nat → Rat} {g : Nat → D} (hi : fi ρ = some ((List.range n).map fun k => rt (s k))) (hn : n ≤ 5) (hg : ∀ k < n, fe ((wipeD ρ vs).set i (some (rt (s k)))) = some (g k)) :
    eLc fi (.nm i) tTrue fe vs ρ = some (.list ((List.range n).map g)) := by
  refine eLc_of (fun k => rt (s k)) g hi (by rw [List.length_range]; omega) fun k hk => ⟨[(i, rt (s k))], rfl, ?_⟩
  exact hg k (List.mem_range.mp hk)
end K52
end
section
set_option Elab.async false
set_option linter.all false
set_option maxRecDepth 10000
namespace K52
open DS PySem K27
open K71 (wp_forB rep_any rI rI_rt wp_parF27 asc_sorted smI)
open K24 (dkey_cmp dkey_lt sort_ord set_done all_done)
open Lib hiding den__law_sets law_sets_ok pl
def den_as_ratio : Fn := dfun 1 1 (sRet (eIfD (tTru (eIsi "int" (eVar 0))) (eTup (aCons (eVar 0) (aCons (eC (.int 1)) aNil))) (eVar 0)))
variable {n : Nat} {c : Nat → Int} {E : Rat}
theorem as_int (a : Int) : den_as_ratio [.int a] = some (rt (a : Rat)) := rfl
theorem as_rt (q : Rat) : den_as_ratio [rt q] = some (rt q) := rfl
end K52
end
section
set_option Elab.async false
set_option linter.all false
set_option maxRecDepth 10000
namespace K52
open DS PySem K27
open K71 (wp_forB rep_any rI rI_rt wp_parF27 asc_sorted smI)
open K24 (dkey_cmp dkey_lt sort_ord set_done all_done)
open Lib hiding den__law_sets law_sets_ok pl
def den_is_whole : Fn := dfun 1 1 (sRet (eAndD (eIsi "int" (eVar 0)) (eB (tNotD (tTru (eIsi "bool" (eVar 0)))))))
def den_is_ratio : Fn := dfun 1 1 (sSeq (sIf (tOrD (tNotD (tTru (eIsi "tuple" (eVar 0)))) (tCmp dNe (eCB (d1 dLen) (aCons (eVar 0) aNil)) (eC (.int 2))))
  (sRet (eC (.bool false)))
  sNil)
  (sSeq (sIf (tOrD (tNotD (tTru (eCall 1 den_is_whole (aCons (eIx (eVar 0) (eC (.int 0))) aNil)))) (tNotD (tTru (eCall 1 den_is_whole (aCons (eIx (eVar 0) (eC (.int 1))) aNil)))))
  (sRet (eC (.bool false)))
  sNil)
  (sRet (eAndD (eB (tCmp dGt (eIx (eVar 0) (eC (.int 1))) (eC (.int 0)))) (eB (tCmp dEq (eCall 2 den_divisor (aCons (eIx (eVar 0) (eC (.int 0))) (aCons (eIx (eVar 0) (eC (.int 1))) aNil))) (eC (.int 1))))))))
def den_is_ratio_row : Fn := dfun 3 2 (sRet (eAndD (eIsi "tuple" (eVar 0)) (eAndD (eB (tCmp dEq (eCB (d1 dLen) (aCons (eVar 0) aNil)) (eVar 1))) (eCB (d1 dAll) (aCons (eLc (iSeq (eVar 0)) (.nm 2) tTrue (eCall 1 den_is_ratio (aCons (eVar 2) aNil)) [2]) aNil)))))
variable {n : Nat} {c : Nat → Int} {E : Rat} {s : Nat → Rat}
theorem rt_eqv (p q : Rat) : PyData.eqv (rt p) (rt q) = decide (p = q) := by
  have e : PyData.eqv (rt p) (rt q) = decide ([p.num, (p.den : Int)] = [q.num, (q.den : Int)]) := it_eqv [p.num, (p.den : Int)] [q.num, (q.den : Int)]
  rw [e]
  refine decide_eq_decide.mpr ⟨fun h => ?_, fun h => by rw [h]⟩
  simp at h
  exact Rat.ext h.1 (by omega)
def p2 (x y : Rat) (k : Nat) : Rat := if k = 0 then x else y
theorem is_ratio_ok {q : Rat} {m : Nat} (hq : Sm m q) (hm : m ≤ 4000) : den_is_ratio [rt q] = some (.bool true) := by
  have hd := den_pos q
  have g1 := divisor_ok (a := q.num) (b := (q.den : Int)) (k := m) (by simpa using hq.2) (by omega)
  have g2 : Int.gcd q.num (q.den : Int) = 1 := by
    have := q.reduced
    unfold Nat.Coprime at this
    exact this
  rw [g2] at g1
  refine dfun_wp rfl ?_
  simp only [List.map_cons, List.map_nil, List.replicate_succ, List.replicate_zero, List.nil_append, List.cons_append, List.append_nil, Nat.reduceSub, Nat.reduceAdd, setsD, zeros, stt, setsO, setsJ, List.foldl_cons, List.foldl_nil, List.set_cons_zero, List.set_cons_succ, demote]
  refine wp_seq (wp_pass rfl ?_)
  refine wp_seq (wp_pass rfl ?_)
  refine wp_ret (d := .bool true) ?_ rfl
  have e1 : eB (tCmp dGt (eIx (eVar 0) (eC (.int 1))) (eC (.int 0))) [some (rt q)] = some (.bool true) := by
    show (match dGt (.int q.den) (.int 0) with | some b => some (PyData.bool b) | none => none) = _
    rw [show dGt (.int q.den) (.int 0) = some (decide ((0 : Int) < q.den)) from rfl, decide_eq_true hd]
  have e2 : eB (tCmp dEq (eCall 2 den_divisor (aCons (eIx (eVar 0) (eC (.int 0))) (aCons (eIx (eVar 0) (eC (.int 1))) aNil))) (eC (.int 1))) [some (rt q)] = some (.bool true) := by
    unfold eB tCmp
    rw [eCall_2, eIx_a, eIx_a, eVar_0, eC_a, eC_a, o2_ss, o2_ss, rt_0, rt_1, o1_s, o1_s, g1]
    rfl
  unfold eAndD
  rw [e1, e2]
  rfl
theorem is_ratio_row_ok {m : Nat} (hn : n ≤ 5) (hm : m ≤ 4000) (hs : ∀ k < n, Sm m (s k)) : den_is_ratio_row [tq n s, .int n] = some (.bool true) := by
  refine dfun_wp rfl ?_
  simp only [List.map_cons, List.map_nil, List.replicate_succ, List.replicate_zero, List.nil_append, List.cons_append, List.append_nil, Nat.reduceSub, Nat.reduceAdd, setsD, zeros, stt, setsO, setsJ, List.foldl_cons, List.foldl_nil, List.set_cons_zero, List.set_cons_succ, demote]
  refine wp_ret (d := .bool true) ?_ rfl
  have e1 : eLc (iSeq (eVar 0)) (.nm 2) tTrue (eCall 1 den_is_ratio (aCons (eVar 2) aNil)) [2] [some (tq n s), some (.int n), none] = some (.list ((List.range n).map fun _ => .bool true)) :=
    eLc_tq rfl hn fun k hk => by
      rw [eCall_1]
      exact is_ratio_ok (hs k hk) hm
  have e2 : eCB (d1 dAll) (aCons (eLc (iSeq (eVar 0)) (.nm 2) tTrue (eCall 1 den_is_ratio (aCons (eVar 2) aNil)) [2]) aNil) [some (tq n s), some (.int n), none] = some (.bool true) := by
    rw [eCB_a, aCons_a, aNil_a, e1]
    exact all_true (List.range n)
  have e3 : eB (tCmp dEq (eCB (d1 dLen) (aCons (eVar 0) aNil)) (eVar 1)) [some (tq n s), some (.int n), none] = some (.bool true) := by
    have hl : dLen (tq n s) = some (.int n) := by simp [tq]
    unfold eB tCmp
    rw [eCB_a, aCons_a, aNil_a, eVar_0, eVar_s, eVar_0, o2_ss, o1_s, d1_1, hl]
    simp
  unfold eAndD
  rw [e2, e3]
  rfl
end K52
end
section
set_option Elab.async false
set_option linter.all false
set_option maxRecDepth 10000
namespace K52
open DS PySem K27
open K71 (wp_forB rep_any rI rI_rt wp_parF27 asc_sorted smI)
open K24 (dkey_cmp dkey_lt sort_ord set_done all_done)
open Lib hiding den__law_sets law_sets_ok pl
variable {n : Nat} {c : Nat → Int} {E : Rat} {s : Nat → Rat}
theorem tq_ix {k : Nat} (h : k < n) : dIx (tq n s) (nat k) = some (rt (s k)) := by
  show L2.atI ((List.range n).map _) (k : Int) = _
  rw [atI_mp (by simpa using h)]
  simp
end K52
end
section
set_option Elab.async false
set_option linter.all false
set_option maxRecDepth 10000
namespace K52
open DS PySem K27
open K71 (wp_forB rep_any rI rI_rt wp_parF27 asc_sorted smI)
open K24 (dkey_cmp dkey_lt sort_ord set_done all_done)
open Lib hiding den__law_sets law_sets_ok pl
variable {n : Nat} {c : Nat → Int}
theorem sum_small {b : Nat} : ∀ l : List Int, (∀ x ∈ l, 0 ≤ x ∧ x.natAbs < 2 ^ b) → l.length ≤ 5 → 0 ≤ l.sum ∧ l.sum ≤ l.length * 2 ^ b := fun l => by
  induction l with
  | nil => intro _ _; simp
  | cons x l ih =>
    intro h hl
    have h1 := h x List.mem_cons_self
    have h2 := ih (fun y hy => h y (List.mem_cons_of_mem _ hy)) (by simp at hl; omega)
    have h3 : x < 2 ^ b := by
      have : ((x.natAbs : Nat) : Int) < ((2 ^ b : Nat) : Int) := by exact_mod_cast h1.2
      rw [Int.natCast_pow] at this
      have e : ((x.natAbs : Nat) : Int) = x := by omega
      rw [e] at this
      exact this
    rw [List.sum_cons, List.length_cons]
    have e : (((l.length + 1 : Nat) : Nat) : Int) * 2 ^ b = (l.length : Int) * 2 ^ b + 2 ^ b := by
      rw [show ((l.length + 1 : Nat) : Int) = (l.length : Int) + 1 from by omega, Int.add_mul]
      omega
    rw [e]
    omega
end K52
end
section
set_option Elab.async false
set_option linter.all false
set_option maxRecDepth 10000
namespace K52
open DS PySem K27
open K71 (wp_forB rep_any rI rI_rt wp_parF27 asc_sorted smI)
open K24 (dkey_cmp dkey_lt sort_ord set_done all_done)
open Lib hiding den__law_sets law_sets_ok pl
variable {n : Nat} {c : Nat → Int}
theorem rt_neg (q : Rat) : (.tuple [.int (-q.num), .int q.den] : D) = rt (-q) := by
  unfold rt
  rw [Rat.neg_num, Rat.neg_den]
theorem Sm.neg {q : Rat} {m : Nat} (h : Sm m q) : Sm m (-q) := by
  refine ⟨?_, ?_⟩
  · rw [Rat.neg_num, Int.natAbs_neg]; exact h.1
  · rw [Rat.neg_den]; exact h.2
end K52
end
section
set_option Elab.async false
set_option linter.all false
set_option maxRecDepth 10000
namespace K52
open DS PySem K27
open K71 (wp_forB rep_any rI rI_rt wp_parF27 asc_sorted smI)
open K24 (dkey_cmp dkey_lt sort_ord set_done all_done)
open Lib hiding den__law_sets law_sets_ok pl
variable {n : Nat} {c : Nat → Int}
theorem tq_flat {n : Nat} {s : Nat → Rat} : flat (tq n s) = true := by
  unfold tq
  have : ∀ l : List Nat, flats (l.map fun k => rt (s k)) = true := fun l => by
    induction l with
    | nil => rfl
    | cons a l ih =>
      show (flat (rt (s a)) && flats (l.map fun k => rt (s k))) = true
      rw [ih]
      rfl
  exact this _
structure Cb (b n : Nat) (c : Nat → Int) : Prop where
  one : 1 ≤ n
  five : n ≤ 5
  b1 : 10 ≤ b
  b2 : b ≤ 900
  bd : ∀ k < n, 1 ≤ c k ∧ (c k).natAbs < 2 ^ b
theorem Cb.pos {b : Nat} (h : Cb b n c) : ∀ k < n, 1 ≤ c k := fun k hk => (h.bd k hk).1
theorem Cb.sm {b : Nat} (h : Cb b n c) : ∀ k < n, Sm b (c k : Rat) := fun k hk => SmI (h.bd k hk).2 (by have := h.b1; omega)
theorem Cb.whole {b : Nat} (h : Cb b n c) : 0 < rsum c n ∧ (rsum c n).natAbs < 2 ^ (b + 3) := by
  have h1 := tot_pos h.one h.pos
  rw [tot_rsum] at h1
  have h1 : 0 < rsum c n := by exact_mod_cast h1
  refine ⟨h1, ?_⟩
  have hpb : (0 : Int) < 2 ^ b := Int.pow_pos (by omega)
  have hS := sum_small (b := b) ((List.range n).map c) (fun x hx => by
    obtain ⟨k, hk, rfl⟩ := List.mem_map.mp hx
    have := h.bd k (List.mem_range.mp hk)
    exact ⟨by omega, this.2⟩) (by simp; exact h.five)
  rw [rsum_list, List.length_map, List.length_range] at hS
  have hS5 : rsum c n ≤ 5 * 2 ^ b := by
    have : (n : Int) * 2 ^ b ≤ 5 * 2 ^ b := Int.mul_le_mul_of_nonneg_right (by have := h.five; omega) (by omega)
    omega
  have hb3 : (2 : Int) ^ (b + 3) = 8 * 2 ^ b := by
    rw [Int.pow_add]
    omega
  have : ((rsum c n).natAbs : Int) < ((2 ^ (b + 3) : Nat) : Int) := by
    rw [Int.natCast_pow]
    show _ < (2 : Int) ^ (b + 3)
    rw [hb3]
    omega
  exact_mod_cast this
end K52
end
section
set_option Elab.async false
set_option linter.all false
set_option maxRecDepth 10000
namespace K52
open DS PySem K27
open K71 (wp_forB rep_any rI rI_rt wp_parF27 asc_sorted smI)
open K24 (dkey_cmp dkey_lt sort_ord set_done all_done)
open Lib hiding den__law_sets law_sets_ok pl
variable {n : Nat} {c : Nat → Int}
theorem num_of (t : Rat) : ((t.num : Int) : Rat) = t * ((t.den : Int) : Rat) := by
  have b1 : (0 : Int) < t.den := den_pos t
  have c1 : ((t.den : Int) : Rat) ≠ 0 := by
    have : (0 : Rat) < ((t.den : Int) : Rat) := by exact_mod_cast b1
    grind
  have a1 := Rat.num_divInt_den t
  rw [Rat.divInt_eq_div] at a1
  grind
theorem rt_dEq (p q : Rat) : dEq (rt p) (rt q) = some (decide (p = q)) := by
  unfold dEq
  rw [show (SeqAt.shaped (rt p) && SeqAt.shaped (rt q)) = true from rfl, if_pos rfl, rt_eqv]
end K52
end
section
set_option Elab.async false
set_option linter.all false
set_option maxRecDepth 10000
namespace Fit
open DS PySem K27
open K71 (wp_forB rep_any)
open Lib hiding den__law_sets law_sets_ok pl
variable {n : Nat} {c : Nat → Nat → Int}
theorem wp_setL {N B C : S → Prop} {R : D → Prop} {ρ : PEnv} {L L' : List Nat} {i l : Nat} {f : FE} {c : Esc} {d : D} (h : f ρ = some d) (hd : flat d = false) (hL : (demote c L).set i l = L') (q : N (ρ.set i (some d), L')) : WP (sSet i l f c) (ρ, L) N R B C := wp_setD h hd (by rw [hL]; exact q)
theorem wp_putDk {N B C : S → Prop} {R : D → Prop} {ρ : PEnv} {L : List Nat} {i : Nat} {j f : FE} {es : List (D × D)} {k d : D} (h : f ρ = some d) (hi : eVar i ρ = some (.dict es)) (hj : j ρ = some k) (hd : flat d = true) (hk : kindOk es k = true) (hl : es.length < sz) (hL : lv L i = 1) (q : N (ρ.set i (some (.dict (putD es k d))), L)) : WP (sPutD i j f) (ρ, L) N R B C := by
  unfold WP sPutD
  simp only [h, hi, hj]
  rw [if_pos (by simp [hd, hk, hl, hL])]
  exact q
theorem itK : KeyF it := ⟨it_eqv, it_keyK, fun _ => rfl⟩
theorem it_nin (x : Nat) (l : List Int) : dNotIn (nat x) (it l) = some (!decide ((x : Int) ∈ l)) := by
  have hs : (scal1 (nat x) && (l.map PyData.int).all scal1) = true := by
    have : (l.map PyData.int).all scal1 = true := by
      rw [List.all_eq_true]
      intro d hd
      obtain ⟨k, _, rfl⟩ := List.mem_map.mp hd
      rfl
    rw [this]; rfl
  have e : dIn (nat x) (it l) = (if (scal1 (nat x) && (l.map PyData.int).all scal1) = true then some ((l.map PyData.int).any fun z => PyData.eqv z (nat x)) else none) := rfl
  unfold dNotIn
  rw [e, if_pos hs, o1_s, List.any_map]
  congr 2
  induction l with
  | nil => simp
  | cons a l ih =>
    have hs' : (scal1 (nat x) && (l.map PyData.int).all scal1) = true := by
      have : (l.map PyData.int).all scal1 = true := by
        rw [List.all_eq_true]
        intro d hd
        obtain ⟨k, _, rfl⟩ := List.mem_map.mp hd
        rfl
      rw [this]; rfl
    rw [List.any_cons, ih hs' rfl]
    have : PyData.eqv (.int a) (nat x) = decide (a = (x : Int)) := by
      simp [nat, PyData.eqv]
      rfl
    show (PyData.eqv (.int a) (nat x) || _) = _
    rw [this]
    by_cases z : a = (x : Int)
    · subst z; simp
    · have : ¬ (x : Int) = a := fun y => z y.symm
      simp [z, this]
theorem stx_len (used : List Int) (tasks : List Nat) (g : Tab) (x : Nat) : (stx c used tasks g x).length ≤ g.length + 1 := by
  unfold stx
  split
  · omega
  · split
    · exact kput_len _ _ _
    · split
      · exact kput_len _ _ _
      · omega
theorem rowx_len (used : List Int) (tasks : List Nat) (g : Tab) : ∀ k, (rowx n c used tasks k g).length ≤ g.length + k
  | 0 => Nat.le_refl _
  | k + 1 => by
    rw [rowx_succ]
    have := stx_len (c := c) used tasks (rowx n c used tasks k g) k
    have := rowx_len used tasks g k
    omega
theorem setx_len (l : Tab) : ∀ (ks : List (List Int)) (g : Tab), (setx n c l ks g).length ≤ g.length + ks.length * n
  | [], g => by simp [setx]
  | k :: ks, g => by
    have es : setx n c l (k :: ks) g = setx n c l ks (match kget l k with
      | some r => rowx n c k r n g
      | none => g) := rfl
    rw [es]
    have := setx_len l ks (match kget l k with
      | some r => rowx n c k r n g
      | none => g)
    have h2 : (match kget l k with
      | some r => rowx n c k r n g
      | none => g).length ≤ g.length + n := by
      split
      · exact rowx_len _ _ _ _
      · omega
    rw [List.length_cons, Nat.succ_mul]
    omega
theorem tabx_len (hn : n ≤ 5) : ∀ i, (tabx n c i).length ≤ 5 ^ i
  | 0 => by simp [tabx]
  | i + 1 => by
    have h := tabx_len hn i
    have := setx_len (n := n) (c := c) (tabx n c i) ((tabx n c i).map (·.1)) []
    rw [List.length_map, List.length_nil, Nat.zero_add] at this
    show (setx n c (tabx n c i) ((tabx n c i).map (·.1)) []).length ≤ _
    rw [Nat.pow_succ]
    have h2 : (tabx n c i).length * n ≤ 5 ^ i * 5 := Nat.mul_le_mul h hn
    omega
theorem setx_take (l : Tab) (ks : List (List Int)) (g : Tab) {j : Nat} {k : List Int} {r : List Nat} (hk : ks[j]? = some k) (hr : kget l k = some r) : setx n c l (ks.take (j + 1)) g = rowx n c k r n (setx n c l (ks.take j) g) := by
  unfold setx
  rw [List.take_add_one, hk]
  simp only [Option.toList_some, List.foldl_append, List.foldl_cons, List.foldl_nil, hr]
def fxB : FS := (sIf (tCmp dNotIn (eVar 7) (eVar 4))
  (sSeq (sSet 9 0 (eCB (d1 dTuple) (aCons (eCB (d1 dSortC) (aCons (eOp dAdd (eVar 4) (eTup (aCons (eVar 7) aNil))) aNil)) aNil)) [(4, 1), (7, 0)])
  (sSeq (sSet 10 0 (eTup (aCons (eOp dAdd (eVar 5) (eVar 8)) (aCons (eOp dAdd (eVar 6) (eTup (aCons (eVar 7) aNil))) aNil))) [(5, 1), (8, 1), (6, 1), (7, 0)])
  (sIf (tOrD (tCmp dNotInD (eVar 9) (eVar 3)) (tCmp dLt (eVar 10) (eOp dGetD (eVar 3) (eVar 9))))
  (sPutD 3 (eVar 9) (eVar 10))
  sNil)))
  sNil)
theorem co_flat (t : List Nat) : flat (co (pc c) t) = true := by
  have := nt_flat t
  simp [co, flat, flats, this]
end Fit
end
section
set_option Elab.async false
set_option linter.all false
set_option maxRecDepth 10000
namespace Fit
open DS PySem K27
open K71 (wp_forB rep_any)
open Lib hiding den__law_sets law_sets_ok pl
def den_best_fit : Fn := dfun 11 1 (sSeq (sSet 1 0 (eOp dD1 (eTup aNil) (eTup (aCons (eC (.int 0)) (aCons (eTup aNil) aNil)))) [])
  (sSeq (sFor (iSeq (eVar 0)) [(0, 0)] (.nm 2)
  (sSeq (sSet 3 1 eD0 [])
  (sSeq (sFor (iDk (eVar 1)) [(1, 0)] (.nm 4)
  (sSeq (sTup (.tp [(.nm 5), (.nm 6)]) (eOp dGetD (eVar 1) (eVar 4)) [(1, 1)])
  (sFor (iEnumD (eVar 2)) [(2, 0)] (.tp [(.nm 7), (.nm 8)])
  (sIf (tCmp dNotIn (eVar 7) (eVar 4))
  (sSeq (sSet 9 0 (eCB (d1 dTuple) (aCons (eCB (d1 dSortC) (aCons (eOp dAdd (eVar 4) (eTup (aCons (eVar 7) aNil))) aNil)) aNil)) ((([(4, 1)] ++ ([(7, 0)] ++ [])) ++ []) ++ []))
  (sSeq (sSet 10 0 (eTup (aCons (eOp dAdd (eVar 5) (eVar 8)) (aCons (eOp dAdd (eVar 6) (eTup (aCons (eVar 7) aNil))) aNil))) (([(5, 1)] ++ [(8, 1)]) ++ (([(6, 1)] ++ ([(7, 0)] ++ [])) ++ [])))
  (sIf (tOrD (tCmp dNotInD (eVar 9) (eVar 3)) (tCmp dLt (eVar 10) (eOp dGetD (eVar 3) (eVar 9))))
  (sPutD 3 (eVar 9) (eVar 10))
  sNil)))
  sNil))))
  (sSet 1 0 (eVar 3) [(3, 0)]))))
  (sRet (eCB (d1 dMin1) (aCons (eLc (iDk (eVar 1)) (.nm 4) tTrue (eOp dGetD (eVar 1) (eVar 4)) [4]) aNil)))))
variable {n : Nat} {c : Nat → Nat → Int}
theorem it_snoc {k : List Int} {x : Nat} (h : k.length < 1000) : dAdd (it k) (.tuple [nat x]) = some (it (k ++ [(x : Int)])) := by
  show (if (k.map PyData.int).length + 1 ≤ 16777216 then some (PyData.tuple (k.map PyData.int ++ [nat x])) else none) = _
  rw [if_pos (by rw [List.length_map]; omega)]
  unfold it
  rw [List.map_append]
  rfl
theorem fxB_ok {N B C : S → Prop} {R : D → Prop} {i x : Nat} {g : Tab} {k : List Int} {r : List Nat} (hl : r.length = i) (hi : i < 1000) (hk : k.length < 1000) (hg : g.length < 100000) {x0 x1 x2 x9 x10 : Option D}
    (hN : ∀ y9 y10, N ([x0, x1, x2, some (kd it (co (pc c)) (stx c k r g x)), some (it k), some (.int (pc c r)), some (nt r), some (nat x), some (.int (c i x)), y9, y10], [0, 0, 0, 1, 0, 0, 0, 0, 0, 0, 0])) :
    WP fxB ([x0, x1, x2, some (kd it (co (pc c)) g), some (it k), some (.int (pc c r)), some (nt r), some (nat x), some (.int (c i x)), x9, x10], [0, 0, 0, 1, 0, 0, 0, 0, 0, 0, 0]) N R B C := by
  unfold fxB
  refine wp_if (t := !decide ((x : Int) ∈ k)) (it_nin x k) (fun ht => ?_) fun hf => ?_
  · have hm : ¬ (x : Int) ∈ k := by simpa using ht
    have es : stx c k r g x = match kget g (up (k ++ [(x : Int)])) with
      | none => kput g (up (k ++ [(x : Int)])) (r ++ [x])
      | some r' => if ltl (pc c) (r ++ [x]) r' = true then kput g (up (k ++ [(x : Int)])) (r ++ [x]) else g := by
      unfold stx
      first
        | (rw [if_neg hm]; done)
        | (rw [if_neg hm]; rfl)
    refine wp_seq (wp_set (d := it (up (k ++ [(x : Int)]))) ?_ (it_flat _) ?_)
    · have e1 : eOp dAdd (eVar 4) (eTup (aCons (eVar 7) aNil)) [x0, x1, x2, some (kd it (co (pc c)) g), some (it k), some (.int (pc c r)), some (nt r), some (nat x), some (.int (c i x)), x9, x10] = some (it (k ++ [(x : Int)])) := it_snoc hk
      rw [eCB_a, aCons_a, eCB_a, aCons_a, e1, aNil_a, o2_ss, o1_s, d1_1]
      show o1 (o2 (dSorted (.list ((k ++ [(x : Int)]).map PyData.int))) (some []) _) (d1 dTuple) = _
      rw [dSorted_ints, o2_ss, o1_s, d1_1]
      rfl
    simp only [List.map_cons, List.map_nil, List.replicate_succ, List.replicate_zero, List.nil_append, List.cons_append, List.append_nil, Nat.reduceSub, Nat.reduceAdd, setsD, zeros, stt, setsO, setsJ, List.foldl_cons, List.foldl_nil, List.set_cons_zero, List.set_cons_succ, demote]
    refine wp_seq (wp_set (d := co (pc c) (r ++ [x])) ?_ (co_flat _) ?_)
    · refine eTup_2 (x := .int (pc c (r ++ [x]))) (y := nt (r ++ [x])) ?_ ?_
      · rw [pc_snoc, hl]
        simp only [eOp_a, eVar_0, eVar_s, o2_ss, dAdd_i]
      · exact nt_snoc (by omega)
    simp only [List.map_cons, List.map_nil, List.replicate_succ, List.replicate_zero, List.nil_append, List.cons_append, List.append_nil, Nat.reduceSub, Nat.reduceAdd, setsD, zeros, stt, setsO, setsJ, List.foldl_cons, List.foldl_nil, List.set_cons_zero, List.set_cons_succ, demote]
    have h1 := kd_notin (vf := co (pc c)) itK g (up (k ++ [(x : Int)]))
    have put : ∀ (hst : stx c k r g x = kput g (up (k ++ [(x : Int)])) (r ++ [x])), WP (sPutD 3 (eVar 9) (eVar 10)) ([x0, x1, x2, some (kd it (co (pc c)) g), some (it k), some (.int (pc c r)), some (nt r), some (nat x), some (.int (c i x)), some (it (up (k ++ [(x : Int)]))), some (co (pc c) (r ++ [x]))], [0, 0, 0, 1, 0, 0, 0, 0, 0, 0, 0]) N R B C := fun hst => by
      refine wp_putDk (k := it (up (k ++ [(x : Int)]))) (d := co (pc c) (r ++ [x])) (es := kl it (co (pc c)) g) rfl rfl rfl (co_flat _) (kl_kind itK g _) ?_ rfl ?_
      · have : (kl it (co (pc c)) g).length = g.length := by simp [kl]
        have hz : sz = 16777216 := rfl
        omega
      · simp only [List.map_cons, List.map_nil, List.replicate_succ, List.replicate_zero, List.nil_append, List.cons_append, List.append_nil, Nat.reduceSub, Nat.reduceAdd, setsD, zeros, stt, setsO, setsJ, List.foldl_cons, List.foldl_nil, List.set_cons_zero, List.set_cons_succ, demote]
        rw [kl_put itK]
        have := hN (some (it (up (k ++ [(x : Int)])))) (some (co (pc c) (r ++ [x])))
        rw [hst] at this
        exact this
    cases e : kget g (up (k ++ [(x : Int)])) with
    | none =>
      rw [e] at es h1
      refine wp_ift ?_ (put es)
      unfold tOrD
      have t1 : tCmp dNotInD (eVar 9) (eVar 3) [x0, x1, x2, some (kd it (co (pc c)) g), some (it k), some (.int (pc c r)), some (nt r), some (nat x), some (.int (c i x)), some (it (up (k ++ [(x : Int)]))), some (co (pc c) (r ++ [x]))] = some true := h1
      rw [t1]
    | some r' =>
      have h2 := kd_get (vf := co (pc c)) itK e
      rw [e] at es h1
      dsimp only at es
      refine wp_if (t := ltl (pc c) (r ++ [x]) r') ?_ (fun hq => ?_) fun hq => ?_
      · unfold tOrD
        have t1 : tCmp dNotInD (eVar 9) (eVar 3) [x0, x1, x2, some (kd it (co (pc c)) g), some (it k), some (.int (pc c r)), some (nt r), some (nat x), some (.int (c i x)), some (it (up (k ++ [(x : Int)]))), some (co (pc c) (r ++ [x]))] = some false := h1
        rw [t1]
        show tCmp dLt (eVar 10) (eOp dGetD (eVar 3) (eVar 9)) _ = _
        simp only [tCmp_a, eOp_a, eVar_0, eVar_s, o2_ss, h2]
        exact cmp_co (pc c) (r ++ [x]) r'
      · rw [if_pos hq] at es
        exact put es
      · rw [hq] at es
        refine wp_nil ?_
        have := hN (some (it (up (k ++ [(x : Int)])))) (some (co (pc c) (r ++ [x])))
        rw [es] at this
        exact this
  · have hm : (x : Int) ∈ k := by simpa using hf
    refine wp_nil ?_
    have := hN x9 x10
    unfold stx at this
    rw [if_pos hm] at this
    exact this
theorem key_len (t : List Nat) : (key t).length = t.length := by
  unfold key
  rw [(up_perm _).length_eq, List.length_map]
theorem best_fit_ok (h1 : 1 ≤ n) (hn : n ≤ 5) : ∃ o, Best n c o ∧ den_best_fit [tb n c] = some (co (pc c) o) := by
  obtain ⟨o, hb, hk, hall⟩ := tabx_end (n := n) (c := c)
  refine ⟨o, hb, ?_⟩
  refine dfun_wp rfl ?_
  simp only [List.map_cons, List.map_nil, List.replicate_succ, List.replicate_zero, List.nil_append, List.cons_append, List.append_nil, Nat.reduceSub, Nat.reduceAdd, setsD, zeros, stt, setsO, setsJ, List.foldl_cons, List.foldl_nil, List.set_cons_zero, List.set_cons_succ, demote]
  refine wp_seq (wp_setL (L' := [0, 0, 0, 0, 0, 0, 0, 0, 0, 0, 0]) (d := kd it (co (pc c)) (tabx n c 0)) rfl rfl rfl ?_)
  simp only [List.map_cons, List.map_nil, List.replicate_succ, List.replicate_zero, List.nil_append, List.cons_append, List.append_nil, Nat.reduceSub, Nat.reduceAdd, setsD, zeros, stt, setsO, setsJ, List.foldl_cons, List.foldl_nil, List.set_cons_zero, List.set_cons_succ, demote]
  refine wp_seq (wp_for (ds := (List.range n).map fun u => trow n (c u)) (fun i s' => ∃ x2 x3 x4 x5 x6 x7 x8 x9 x10, s' = ([some (tb n c), some (kd it (co (pc c)) (tabx n c i)), x2, x3, x4, x5, x6, x7, x8, x9, x10], [0, 0, 0, 0, 0, 0, 0, 0, 0, 0, 0])) rfl ⟨_, _, _, _, _, _, _, _, _, rfl⟩ (fun i d s' hd hs => ?_) fun s' hs => ?_)
  · obtain ⟨x2, x3, x4, x5, x6, x7, x8, x9, x10, rfl⟩ := hs
    have hi : i < n := by
      have := (List.getElem?_eq_some_iff.mp hd).1
      simpa using this
    obtain rfl : d = trow n (c i) := by
      rw [List.getElem?_map, List.getElem?_range hi] at hd
      exact (Option.some.inj hd).symm
    clear hd
    obtain ⟨hv, hf⟩ := tabx_ok (n := n) (c := c) i
    have hlen : ((tabx n c i).map (·.1)).length ≤ 3125 := by
      have := tabx_len (c := c) hn i
      have h5 : 5 ^ i ≤ 5 ^ 5 := Nat.pow_le_pow_right (by omega) (by omega)
      rw [List.length_map]
      omega
    refine ⟨[(2, trow n (c i))], rfl, ?_⟩
    simp only [List.map_cons, List.map_nil, List.replicate_succ, List.replicate_zero, List.nil_append, List.cons_append, List.append_nil, Nat.reduceSub, Nat.reduceAdd, setsD, zeros, stt, setsO, setsJ, List.foldl_cons, List.foldl_nil, List.set_cons_zero, List.set_cons_succ, demote]
    refine wp_seq (wp_setL (L' := [0, 0, 0, 1, 0, 0, 0, 0, 0, 0, 0]) (d := kd it (co (pc c)) []) rfl rfl rfl ?_)
    simp only [List.map_cons, List.map_nil, List.replicate_succ, List.replicate_zero, List.nil_append, List.cons_append, List.append_nil, Nat.reduceSub, Nat.reduceAdd, setsD, zeros, stt, setsO, setsJ, List.foldl_cons, List.foldl_nil, List.set_cons_zero, List.set_cons_succ, demote]
    generalize hT : tabx n c i = T at *
    refine wp_seq (wp_for (ds := (T.map fun p : List Int × List Nat => p.1).map it) (fun j s' => ∃ x4 x5 x6 x7 x8 x9 x10, s' = ([some (tb n c), some (kd it (co (pc c)) T), some (trow n (c i)), some (kd it (co (pc c)) (setx n c T ((T.map fun p : List Int × List Nat => p.1).take j) [])), x4, x5, x6, x7, x8, x9, x10], [0, 0, 0, 1, 0, 0, 0, 0, 0, 0, 0])) (kd_keys itK T) ⟨_, _, _, _, _, _, _, rfl⟩ (fun j d s' hd hs => ?_) fun s' hs => ?_)
    · obtain ⟨y4, y5, y6, y7, y8, y9, y10, rfl⟩ := hs
      rw [List.getElem?_map] at hd
      obtain ⟨k, hk, rfl⟩ := Option.map_eq_some_iff.mp hd
      clear hd
      obtain ⟨r, hr⟩ := kget_keys (List.mem_of_getElem? hk)
      obtain ⟨r1, r2⟩ := hv k r hr
      have hkl : k.length < 1000 := by rw [r2, key_len, r1.len]; omega
      have hg := kd_get (vf := co (pc c)) itK hr
      have hjl : j < (T.map fun p : List Int × List Nat => p.1).length := (List.getElem?_eq_some_iff.mp hk).1
      refine ⟨[(4, it k)], rfl, ?_⟩
      simp only [List.map_cons, List.map_nil, List.replicate_succ, List.replicate_zero, List.nil_append, List.cons_append, List.append_nil, Nat.reduceSub, Nat.reduceAdd, setsD, zeros, stt, setsO, setsJ, List.foldl_cons, List.foldl_nil, List.set_cons_zero, List.set_cons_succ, demote]
      refine wp_seq (wp_tup (d := co (pc c) r) (m := [(5, .int (pc c r)), (6, nt r)]) hg rfl (co_flat _) ?_)
      simp only [List.map_cons, List.map_nil, List.replicate_succ, List.replicate_zero, List.nil_append, List.cons_append, List.append_nil, Nat.reduceSub, Nat.reduceAdd, setsD, zeros, stt, setsO, setsJ, List.foldl_cons, List.foldl_nil, List.set_cons_zero, List.set_cons_succ, demote]
      generalize hG : setx n c T ((T.map fun p : List Int × List Nat => p.1).take j) [] = G
      have hGl : G.length ≤ 3125 * 5 := by
        rw [← hG]
        have := setx_len (n := n) (c := c) T ((T.map fun p : List Int × List Nat => p.1).take j) []
        rw [List.length_nil, Nat.zero_add, List.length_take] at this
        have h3 : min j (T.map fun p : List Int × List Nat => p.1).length * n ≤ 3125 * 5 := Nat.mul_le_mul (by omega) hn
        omega
      refine wp_for (ds := (List.range n).map fun x => .tuple [nat x, .int (c i x)]) (fun x s' => ∃ x7 x8 x9 x10, s' = ([some (tb n c), some (kd it (co (pc c)) T), some (trow n (c i)), some (kd it (co (pc c)) (rowx n c k r x G)), some (it k), some (.int (pc c r)), some (nt r), x7, x8, x9, x10], [0, 0, 0, 1, 0, 0, 0, 0, 0, 0, 0])) ?_ ⟨_, _, _, _, rfl⟩ (fun x d s' hd hs => ?_) fun s' hs => ?_
      · show some (enumD ((List.range n).map fun v => PyData.int (c i v))) = _
        rw [enum_map (fun v => PyData.int (c i v)) (List.range n) 0, List.length_range]
        refine congrArg some (List.map_congr_left fun x hx => ?_)
        have hx := List.mem_range.mp hx
        rw [List.getD_eq_getElem?_getD, List.getElem?_range hx]
        rfl
      · obtain ⟨z7, z8, z9, z10, rfl⟩ := hs
        have hx : x < n := by
          have := (List.getElem?_eq_some_iff.mp hd).1
          simpa using this
        obtain rfl : d = .tuple [nat x, .int (c i x)] := by
          rw [List.getElem?_map, List.getElem?_range hx] at hd
          exact (Option.some.inj hd).symm
        refine ⟨[(7, nat x), (8, .int (c i x))], rfl, ?_⟩
        simp only [List.map_cons, List.map_nil, List.replicate_succ, List.replicate_zero, List.nil_append, List.cons_append, List.append_nil, Nat.reduceSub, Nat.reduceAdd, setsD, zeros, stt, setsO, setsJ, List.foldl_cons, List.foldl_nil, List.set_cons_zero, List.set_cons_succ, demote]
        have hRl := rowx_len (n := n) (c := c) k r G x
        refine fxB_ok (c := c) r1.len (by omega) hkl (by omega) fun y9 y10 => ⟨some (nat x), some (.int (c i x)), y9, y10, ?_⟩
        rw [rowx_succ]
      · obtain ⟨z7, z8, z9, z10, rfl⟩ := hs
        refine ⟨some (it k), some (.int (pc c r)), some (nt r), z7, z8, z9, z10, ?_⟩
        rw [List.length_map, List.length_range, setx_take T _ [] hk hr, hG]
    · obtain ⟨y4, y5, y6, y7, y8, y9, y10, rfl⟩ := hs
      refine wp_setL (L' := [0, 0, 0, 0, 0, 0, 0, 0, 0, 0, 0]) (d := kd it (co (pc c)) (tabx n c (i + 1))) ?_ rfl rfl ⟨_, _, _, _, _, _, _, _, _, rfl⟩
      have : (T.map fun p : List Int × List Nat => p.1).take ((T.map fun p : List Int × List Nat => p.1).map it).length = T.map (·.1) := by rw [List.length_map, List.take_length]
      rw [this]
      show some (kd it (co (pc c)) (setx n c T (T.map fun p : List Int × List Nat => p.1) [])) = some (kd it (co (pc c)) (setx n c (tabx n c i) ((tabx n c i).map (·.1)) []))
      rw [hT]
  · obtain ⟨x2, x3, x4, x5, x6, x7, x8, x9, x10, rfl⟩ := hs
    rw [List.length_map, List.length_range]
    refine wp_ret (d := co (pc c) o) ?_ rfl
    have hlen : ((tabx n c n).map (·.1)).length ≤ 3125 := by
      have := tabx_len (c := c) hn n
      have h5 : 5 ^ n ≤ 5 ^ 5 := Nat.pow_le_pow_right (by omega) hn
      rw [List.length_map]
      omega
    rw [eCB_a, aCons_a, aNil_a]
    rw [eLc_of it (fun _ => co (pc c) o) (l := (tabx n c n).map (·.1)) (kd_keys itK _) (by omega) fun k hk' => ⟨[(4, it k)], rfl, kd_get itK (hall k hk')⟩]
    rw [o2_ss, o1_s, d1_1]
    obtain ⟨k0, hk0⟩ := hk
    obtain ⟨k1, rest, e⟩ : ∃ k1 rest, (tabx n c n).map (·.1) = k1 :: rest := by
      cases e : (tabx n c n).map (·.1) with
      | nil => rw [e] at hk0; cases hk0
      | cons k1 rest => exact ⟨k1, rest, rfl⟩
    rw [e]
    have e2 : ((k1 :: rest).map fun _ => co (pc c) o) = ((o :: rest.map fun _ => o).map (co (pc c))) := by
      rw [List.map_cons, List.map_cons, List.map_map]
      rfl
    rw [e2, min_list (lt := ltl (pc c)) (allCmp_co _ _) (fun a => Lib.co_flat (pc c) a) (fun a b => dataLt_co (pc c) a b)]
    have : fmin (ltl (pc c)) o (rest.map fun _ => o) = o := by
      have := fmin_mem (ltl (pc c)) (rest.map fun _ => o) o
      rcases List.mem_cons.mp this with z | z
      · exact z
      · obtain ⟨_, _, z⟩ := List.mem_map.mp z
        exact z.symm
    rw [this]
end Fit
end
section
set_option Elab.async false
set_option linter.all false
set_option maxRecDepth 10000
namespace Fit
open DS PySem K27
open K71 (wp_forB rep_any)
open Lib hiding den__law_sets law_sets_ok pl
variable {n : Nat} {c : Nat → Nat → Int} {o : List Nat}
def prW (p : (Nat × Nat) × Int) : D := .tuple [kD2 p.1, .int p.2]
def stps (n : Nat) (c : Nat → Nat → Int) (o : List Nat) (i : Nat) : List ((Nat × Nat) × Int) := (List.range i).flatMap fun i => (List.range n).map fun j => ((tk o i, j), stp c o (tk o i) j)
def stpr (c : Nat → Nat → Int) (o : List Nat) (i j : Nat) : List ((Nat × Nat) × Int) := (List.range j).map fun j => ((tk o i, j), stp c o (tk o i) j)
theorem stps_succ (i : Nat) : stps n c o (i + 1) = stps n c o i ++ stpr c o i n := by
  unfold stps stpr
  rw [List.range_succ, List.flatMap_append]
  simp
theorem stpr_succ (i j : Nat) : stpr c o i (j + 1) = stpr c o i j ++ [((tk o i, j), stp c o (tk o i) j)] := by
  unfold stpr
  rw [List.range_succ, List.map_append]
  rfl
theorem stps_mem {i : Nat} {p : (Nat × Nat) × Int} : p ∈ stps n c o i ↔ ∃ i' < i, ∃ j < n, p = ((tk o i', j), stp c o (tk o i') j) := by
  unfold stps
  rw [List.mem_flatMap]
  constructor
  · rintro ⟨i', h1, h2⟩
    obtain ⟨j, h3, rfl⟩ := List.mem_map.mp h2
    exact ⟨i', List.mem_range.mp h1, j, List.mem_range.mp h3, rfl⟩
  · rintro ⟨i', h1, j, h2, rfl⟩
    exact ⟨i', List.mem_range.mpr h1, List.mem_map.mpr ⟨j, List.mem_range.mpr h2, rfl⟩⟩
theorem kget_none {κ β : Type} [DecidableEq κ] {l : List (κ × β)} {k : κ} (h : ∀ p ∈ l, p.1 ≠ k) : kget l k = none := by
  unfold kget
  rw [List.find?_eq_none.mpr fun p hp => by simpa using h p hp]
  rfl
theorem kput_new {κ β : Type} [DecidableEq κ] {l : List (κ × β)} {k : κ} {v : β} (h : ∀ p ∈ l, p.1 ≠ k) : kput l k v = l ++ [(k, v)] := by
  unfold kput
  have : (l.any fun p => decide (p.1 = k)) = false := by
    rw [List.any_eq_false]
    intro p hp
    simpa using h p hp
  rw [this]
  rfl
theorem tk_inj (hp : o.Perm (List.range n)) {i j : Nat} (hi : i < n) (hj : j < n) (h : tk o i = tk o j) : i = j := by
  have h1 := (own hp hi).1
  have h2 := (own hp hj).1
  rw [← h1, h, h2]
theorem stps_new (hp : o.Perm (List.range n)) {i j : Nat} (hi : i < n) (hj : j < n) : ∀ p ∈ stps n c o i ++ stpr c o i j, p.1 ≠ (tk o i, j) := by
  intro p hp' e
  rcases List.mem_append.mp hp' with h | h
  · obtain ⟨i', h1, j', h2, rfl⟩ := stps_mem.mp h
    have := tk_inj hp (by omega) hi (congrArg Prod.fst e)
    omega
  · obtain ⟨j', h1, rfl⟩ := List.mem_map.mp h
    have h1 := List.mem_range.mp h1
    have : j' = j := congrArg Prod.snd e
    omega
theorem stps_len (i : Nat) : (stps n c o i).length = i * n := by
  induction i with
  | zero => simp [stps]
  | succ i ih =>
    rw [stps_succ, List.length_append, ih, Nat.succ_mul]
    simp [stpr]
theorem prW_cmp (l : List ((Nat × Nat) × Int)) : allCmp (l.map prW) = true := allCmp_map (fun a _ => by simp [prW, kD2, nat, PyData.canLay0, PyData.canLayAll0]) (fun a _ => by simp [prW, kD2, nat, PyData.depth, PyData.depthAll]) (fun a _ => rfl) fun a _ b _ => by simp [prW, kD2, nat, PySem.W.alike, PySem.W.alikeAll]
noncomputable def srtW (l : List ((Nat × Nat) × Int)) : List ((Nat × Nat) × Int) := l.mergeSort fun a b => leD (prW a) (prW b)
theorem srtW_perm (l : List ((Nat × Nat) × Int)) : (srtW l).Perm l := List.mergeSort_perm _ _
theorem sortIt_ok {l : List ((Nat × Nat) × Int)} (h : l ≠ []) : dSortIt (kd kD2 PyData.int l) = some (.list ((srtW l).map prW)) := by
  have e : pairsD (kl kD2 PyData.int l) = l.map prW := by
    unfold pairsD kl
    rw [List.map_map]
    rfl
  have t : tIt (kl kD2 PyData.int l) = true := by
    unfold tIt kl
    rw [Bool.and_eq_true]
    refine ⟨by cases l with | nil => exact absurd rfl h | cons a l => rfl, ?_⟩
    rw [List.all_eq_true]
    intro p hp
    obtain ⟨q, _, rfl⟩ := List.mem_map.mp hp
    rfl
  show (if tIt (kl kD2 PyData.int l) = true ∧ allCmp (pairsD (kl kD2 PyData.int l)) = true then some (PyData.list ((pairsD (kl kD2 PyData.int l)).mergeSort leD)) else none) = _
  rw [if_pos ⟨t, by rw [e]; exact prW_cmp l⟩, e]
  have := PySem.W.sort_maps (r := fun a b => leD (prW a) (prW b)) (s := leD) prW (l := l) fun _ _ _ _ => rfl
  unfold srtW
  rw [this]
noncomputable def stpE (n : Nat) (c : Nat → Nat → Int) (o : List Nat) : List (Nat × Nat) := (srtW (stps n c o n)).map (·.1)
theorem stpE_mem (hp : o.Perm (List.range n)) (e : Nat × Nat) : e ∈ stpE n c o ↔ e.1 < n ∧ e.2 < n := by
  unfold stpE
  rw [List.mem_map]
  constructor
  · rintro ⟨p, hp', rfl⟩
    obtain ⟨i, hi, j, hj, rfl⟩ := stps_mem.mp ((srtW_perm _).mem_iff.mp hp')
    exact ⟨(own hp hi).2, hj⟩
  · rintro ⟨h1, h2⟩
    obtain ⟨s, g⟩ := e
    obtain ⟨w1, w2⟩ := own' hp h1
    refine ⟨((s, g), stp c o s g), (srtW_perm _).mem_iff.mpr (stps_mem.mpr ⟨o.idxOf s, w1, g, h2, ?_⟩), rfl⟩
    rw [w2]
theorem srtW_step {k : Nat} {p : (Nat × Nat) × Int} (h : (srtW (stps n c o n))[k]? = some p) : p.2 = stp c o p.1.1 p.1.2 := by
  obtain ⟨i, _, j, _, rfl⟩ := stps_mem.mp ((srtW_perm _).mem_iff.mp (List.mem_of_getElem? h))
  rfl
noncomputable def hts (n : Nat) (c : Nat → Nat → Int) (o : List Nat) : Nat → Int := bf (stp c o) (stpE n c o) n
def frs (n : Nat) (c : Nat → Nat → Int) (o : List Nat) (H : Nat → Int) (i : Nat) : Int := c i (tk o i) - H (tk o i)
theorem nt_tk (hp : o.Perm (List.range n)) {i : Nat} (hi : i < n) : dIx (nt o) (nat i) = some (nat (tk o i)) := by
  have hl : o.length = n := by have := hp.length_eq; simpa using this
  show L2.atI (o.map nat) (i : Int) = _
  rw [L2.atI_nat (v := nat (tk o i)) (by
    rw [List.getElem?_map, List.getElem?_eq_getElem (by omega)]
    unfold tk
    rw [List.getD_eq_getElem?_getD, List.getElem?_eq_getElem (by omega)]
    rfl)]
theorem tb_at {i : Nat} (hi : i < n) : dIx (tb n c) (nat i) = some (trow n (c i)) := by
  have := map_ix (g := fun u => trow n (c u)) hi
  exact this
theorem trow_at {i : Nat} {f : Nat → Int} (hi : i < n) : dIx (trow n f) (nat i) = some (.int (f i)) := trow_ix hi
def lrow (n : Nat) (h : Nat → Int) : D := .list ((List.range n).map fun k => .int (h k))
theorem lrow_at {k : Nat} {h : Nat → Int} (hk : k < n) : dIx (lrow n h) (nat k) = some (.int (h k)) := map_ix (g := fun k => .int (h k)) hk
theorem row_ixN {k : Nat} {h : Nat → Int} (hk : k < n) : L2.ixN ((List.range n).map fun k => PyData.int (h k)).length (k : Int) = some k := by
  rw [List.length_map, List.length_range]
  unfold L2.ixN
  rw [if_pos (by omega), if_pos (by omega)]
  simp
theorem row_set {h : Nat → Int} (b : Nat) (x : Int) (g : Nat → Int) (hx : ∀ k, g k = if k = b then x else h k) : ((List.range n).map fun k => PyData.int (h k)).set b (.int x) = (List.range n).map fun k => .int (g k) := by
  refine List.ext_getElem? fun i => ?_
  rw [List.getElem?_set, List.length_map, List.length_range, List.getElem?_map, List.getElem?_map]
  by_cases hi : i < n
  · rw [List.getElem?_range hi, Option.map_some, Option.map_some, hx]
    by_cases e : b = i
    · subst e
      rw [if_pos rfl, if_pos hi, if_pos rfl]
    · rw [if_neg e, if_neg (fun z => e z.symm)]
  · have : (List.range n)[i]? = none := by simp; omega
    rw [this]
    by_cases e : b = i
    · subst e; rw [if_pos rfl, if_neg hi]; rfl
    · rw [if_neg e]; rfl
theorem get_new {l : List ((Nat × Nat) × Int)} {k : Nat × Nat} {z : Int} (h : ∀ p ∈ l, p.1 ≠ k) : dGet3 (kd kD2 PyData.int l) (kD2 k) (.int z) = some (.int z) := by
  have e : dFind (kl kD2 PyData.int l) (kD2 k) = none := by rw [kl_find kD2_key, kget_none h]; rfl
  show (if kindOk (kl kD2 PyData.int l) (kD2 k) = true ∧ flat ((dFind (kl kD2 PyData.int l) (kD2 k)).getD (.int z)) = true then some ((dFind (kl kD2 PyData.int l) (kD2 k)).getD (.int z)) else none) = _
  rw [e, if_pos ⟨kl_kind kD2_key l k, rfl⟩]
  rfl
end Fit
end
section
set_option Elab.async false
set_option linter.all false
set_option maxRecDepth 10000
namespace Fit
open DS PySem K27
open K71 (wp_forB rep_any)
open Lib hiding den__law_sets law_sets_ok pl
def den_fit_prices : Fn := dfun 12 1 (sSeq (sSet 1 0 (eCB (d1 dLen) (aCons (eVar 0) aNil)) [])
  (sSeq (sTup (.tp [(.nm 2), (.nm 3)]) (eCall 1 den_best_fit (aCons (eVar 0) aNil)) ([(0, 0)] ++ []))
  (sSeq (sSet 4 1 eD0 [])
  (sSeq (sFor (iRange1 (eVar 1)) [] (.nm 5)
  (sFor (iRange1 (eVar 1)) [] (.nm 6)
  (sPutD 4 (eTup (aCons (eIx (eVar 3) (eVar 5)) (aCons (eVar 6) aNil))) (eCB (d2 dMin2) (aCons (eGet (eVar 4) (eTup (aCons (eIx (eVar 3) (eVar 5)) (aCons (eVar 6) aNil))) (eOp dPow (eC (.int 10)) (eC (.int 9)))) (aCons (eOp dSub (eIx (eIx (eVar 0) (eVar 5)) (eVar 6)) (eIx (eIx (eVar 0) (eVar 5)) (eIx (eVar 3) (eVar 5)))) aNil))))))
  (sSeq (sSet 7 1 (eOp dMul (eLst (aCons (eC (.int 0)) aNil)) (eVar 1)) (([] ++ []) ++ [(1, 1)]))
  (sSeq (sFor (iRange1 (eVar 1)) [] (.nm 8)
  (sFor (iSeq (eSortIt (eVar 4))) [(4, 1)] (.tp [(.tp [(.nm 9), (.nm 10)]), (.nm 11)])
  (sPut 7 (eVar 10) (eCB (d2 dMin2) (aCons (eIx (eVar 7) (eVar 10)) (aCons (eOp dAdd (eIx (eVar 7) (eVar 9)) (eVar 11)) aNil))) [])))
  (sRet (eTup (aCons (eCB (d1 dTuple) (aCons (eLc (iRange1 (eVar 1)) (.nm 5) tTrue (eOp dSub (eIx (eIx (eVar 0) (eVar 5)) (eIx (eVar 3) (eVar 5))) (eIx (eVar 7) (eIx (eVar 3) (eVar 5)))) [5]) aNil)) (aCons (eCB (d1 dTuple) (aCons (eVar 7) aNil)) aNil))))))))))
variable {n : Nat} {c : Nat → Nat → Int}
theorem fit_prices_ok (h1 : 1 ≤ n) (hn : n ≤ 5) (hc : ∀ i < n, ∀ j < n, (c i j).natAbs ≤ 1000) : ∃ o, Best n c o ∧ den_best_fit [tb n c] = some (co (pc c) o) ∧ den_fit_prices [tb n c] = some (.tuple [trow n (frs n c o (hts n c o)), trow n (hts n c o)]) := by
  obtain ⟨o, hb, hbf⟩ := best_fit_ok (c := c) h1 hn
  refine ⟨o, hb, hbf, ?_⟩
  have hp := hb.perm
  have hw : ∀ i < n, ∀ j < n, (stp c o (tk o i) j).natAbs ≤ 2000 := fun i hi j hj => by
    unfold stp
    obtain ⟨w1, w2⟩ := own hp hi
    rw [w1]
    have := hc i hi j hj
    have := hc i hi _ w2
    omega
  refine dfun_wp rfl ?_
  simp only [List.map_cons, List.map_nil, List.replicate_succ, List.replicate_zero, List.nil_append, List.cons_append, List.append_nil, Nat.reduceSub, Nat.reduceAdd, setsD, zeros, stt, setsO, setsJ, List.foldl_cons, List.foldl_nil, List.set_cons_zero, List.set_cons_succ, demote]
  refine wp_seq (wp_set (d := nat n) ?_ rfl ?_)
  · rw [eCB_a, aCons_a, aNil_a, eVar_0, o2_ss, o1_s, d1_1, tb_len]
    rfl
  simp only [List.map_cons, List.map_nil, List.replicate_succ, List.replicate_zero, List.nil_append, List.cons_append, List.append_nil, Nat.reduceSub, Nat.reduceAdd, setsD, zeros, stt, setsO, setsJ, List.foldl_cons, List.foldl_nil, List.set_cons_zero, List.set_cons_succ, demote]
  refine wp_seq (wp_tup (d := co (pc c) o) (m := [(2, .int (pc c o)), (3, nt o)]) ?_ rfl (co_flat o) ?_)
  · simp only [eCall_1, eVar_0, o1_s]
    exact hbf
  simp only [List.map_cons, List.map_nil, List.replicate_succ, List.replicate_zero, List.nil_append, List.cons_append, List.append_nil, Nat.reduceSub, Nat.reduceAdd, setsD, zeros, stt, setsO, setsJ, List.foldl_cons, List.foldl_nil, List.set_cons_zero, List.set_cons_succ, demote]
  refine wp_seq (wp_setL (L' := [0, 0, 0, 0, 1, 0, 0, 0, 0, 0, 0, 0]) (d := kd kD2 PyData.int (stps n c o 0)) rfl rfl rfl ?_)
  simp only [List.map_cons, List.map_nil, List.replicate_succ, List.replicate_zero, List.nil_append, List.cons_append, List.append_nil, Nat.reduceSub, Nat.reduceAdd, setsD, zeros, stt, setsO, setsJ, List.foldl_cons, List.foldl_nil, List.set_cons_zero, List.set_cons_succ, demote]
  refine wp_seq (wp_for (ds := (List.range n).map nat) (fun i s' => ∃ x5 x6, s' = ([some (tb n c), some (nat n), some (.int (pc c o)), some (nt o), some (kd kD2 PyData.int (stps n c o i)), x5, x6, none, none, none, none, none], [0, 0, 0, 0, 1, 0, 0, 0, 0, 0, 0, 0])) (range1_nat (n := n) rfl (by omega)) ⟨_, _, rfl⟩ (fun i d s' hd hs => ?_) fun s' hs => ?_)
  · obtain ⟨x5, x6, rfl⟩ := hs
    have hi : i < n := by
      have := (List.getElem?_eq_some_iff.mp hd).1
      simpa using this
    obtain rfl : d = nat i := by
      rw [List.getElem?_map, List.getElem?_range hi] at hd
      exact (Option.some.inj hd).symm
    clear hd
    have hti := nt_tk hp hi
    have htb := tb_at (c := c) hi
    have hto := (own hp hi).2
    have hcc := trow_at (f := c i) hto
    refine ⟨[(5, nat i)], rfl, ?_⟩
    simp only [List.map_cons, List.map_nil, List.replicate_succ, List.replicate_zero, List.nil_append, List.cons_append, List.append_nil, Nat.reduceSub, Nat.reduceAdd, setsD, zeros, stt, setsO, setsJ, List.foldl_cons, List.foldl_nil, List.set_cons_zero, List.set_cons_succ, demote]
    refine wp_for (ds := (List.range n).map nat) (fun j s' => ∃ x6, s' = ([some (tb n c), some (nat n), some (.int (pc c o)), some (nt o), some (kd kD2 PyData.int (stps n c o i ++ stpr c o i j)), some (nat i), x6, none, none, none, none, none], [0, 0, 0, 0, 1, 0, 0, 0, 0, 0, 0, 0])) (range1_nat (n := n) rfl (by omega)) ⟨x6, ?_⟩ (fun j d s' hd hs => ?_) fun s' hs => ?_
    · show _ = ([some (tb n c), some (nat n), some (.int (pc c o)), some (nt o), some (kd kD2 PyData.int (stps n c o i ++ [])), some (nat i), x6, none, none, none, none, none], [0, 0, 0, 0, 1, 0, 0, 0, 0, 0, 0, 0])
      rw [List.append_nil]
      rfl
    · obtain ⟨y6, rfl⟩ := hs
      have hj : j < n := by
        have := (List.getElem?_eq_some_iff.mp hd).1
        simpa using this
      obtain rfl : d = nat j := by
        rw [List.getElem?_map, List.getElem?_range hj] at hd
        exact (Option.some.inj hd).symm
      clear hd
      refine ⟨[(6, nat j)], rfl, ?_⟩
      simp only [List.map_cons, List.map_nil, List.replicate_succ, List.replicate_zero, List.nil_append, List.cons_append, List.append_nil, Nat.reduceSub, Nat.reduceAdd, setsD, zeros, stt, setsO, setsJ, List.foldl_cons, List.foldl_nil, List.set_cons_zero, List.set_cons_succ, demote]
      have hnew := stps_new (c := c) hp hi hj
      have hcj := trow_at (f := c i) hj
      have ek : eTup (aCons (eIx (eVar 3) (eVar 5)) (aCons (eVar 6) aNil)) [some (tb n c), some (nat n), some (.int (pc c o)), some (nt o), some (kd kD2 PyData.int (stps n c o i ++ stpr c o i j)), some (nat i), some (nat j), none, none, none, none, none] = some (kD2 (tk o i, j)) := by
        refine eTup_2 (x := nat (tk o i)) (y := nat j) ?_ rfl
        simp only [eIx_a, eVar_0, eVar_s, o2_ss, hti]
      have hst : c i j - c i (tk o i) = stp c o (tk o i) j := by
        unfold stp
        rw [(own hp hi).1]
      have hb2 := hw i hi j hj
      refine wp_putDk (k := kD2 (tk o i, j)) (d := .int (stp c o (tk o i) j)) (es := kl kD2 PyData.int (stps n c o i ++ stpr c o i j)) ?_ rfl ek rfl (kl_kind kD2_key _ _) ?_ rfl ⟨some (nat j), ?_⟩
      · have e1 : eGet (eVar 4) (eTup (aCons (eIx (eVar 3) (eVar 5)) (aCons (eVar 6) aNil))) (eOp dPow (eC (.int 10)) (eC (.int 9))) [some (tb n c), some (nat n), some (.int (pc c o)), some (nt o), some (kd kD2 PyData.int (stps n c o i ++ stpr c o i j)), some (nat i), some (nat j), none, none, none, none, none] = some (.int 1000000000) := by
          have e2 : eOp dPow (eC (.int 10)) (eC (.int 9)) [some (tb n c), some (nat n), some (.int (pc c o)), some (nt o), some (kd kD2 PyData.int (stps n c o i ++ stpr c o i j)), some (nat i), some (nat j), none, none, none, none, none] = some (.int 1000000000) := by
            rw [eOp_a, eC_a, eC_a, o2_ss]
            first | rfl | (show (if _ then _ else _) = _; rw [if_pos (by decide +kernel)]; rfl)
          unfold eGet
          rw [ek, e2]
          simp only [eVar_0, eVar_s]
          exact get_new hnew
        have e3 : eOp dSub (eIx (eIx (eVar 0) (eVar 5)) (eVar 6)) (eIx (eIx (eVar 0) (eVar 5)) (eIx (eVar 3) (eVar 5))) [some (tb n c), some (nat n), some (.int (pc c o)), some (nt o), some (kd kD2 PyData.int (stps n c o i ++ stpr c o i j)), some (nat i), some (nat j), none, none, none, none, none] = some (.int (stp c o (tk o i) j)) := by
          simp only [eOp_a, eIx_a, eVar_0, eVar_s, o2_ss, htb, hti, hcj, hcc, dSub_i, hst]
        rw [eCB_a, aCons_a, aCons_a, aNil_a, e1, e3, o2_ss, o2_ss, o1_s]
        show some (PyData.int (if stp c o (tk o i) j < 1000000000 then stp c o (tk o i) j else 1000000000)) = _
        rw [if_pos (by omega)]
      · have h1 : (kl kD2 PyData.int (stps n c o i ++ stpr c o i j)).length = i * n + j := by
          simp [kl, stps_len, stpr]
        have h2 : i * n ≤ 5 * 5 := Nat.mul_le_mul (by omega) hn
        have hz : sz = 16777216 := rfl
        omega
      · simp only [List.map_cons, List.map_nil, List.replicate_succ, List.replicate_zero, List.nil_append, List.cons_append, List.append_nil, Nat.reduceSub, Nat.reduceAdd, setsD, zeros, stt, setsO, setsJ, List.foldl_cons, List.foldl_nil, List.set_cons_zero, List.set_cons_succ, demote]
        rw [kl_put kD2_key, kput_new hnew, stpr_succ, List.append_assoc]
        rfl
    · obtain ⟨y6, rfl⟩ := hs
      refine ⟨some (nat i), y6, ?_⟩
      rw [List.length_map, List.length_range, stps_succ]
  · obtain ⟨x5, x6, rfl⟩ := hs
    rw [List.length_map, List.length_range]
    have hne : stps n c o n ≠ [] := fun z => by
      have := stps_len (n := n) (c := c) (o := o) n
      rw [z] at this
      have h2 : 1 * 1 ≤ n * n := Nat.mul_le_mul h1 h1
      simp at this
      omega
    refine wp_seq (wp_setL (L' := [0, 0, 0, 0, 1, 0, 0, 1, 0, 0, 0, 0]) (d := lrow n (bf (stp c o) (stpE n c o) 0)) ?_ rfl rfl ?_)
    · have := rep_any (x := .int 0) (m := n) (by omega)
      rw [eOp_a, eVar_s, eVar_0]
      rw [show eLst (aCons (eC (.int 0)) aNil) [some (tb n c), some (nat n), some (.int (pc c o)), some (nt o), some (kd kD2 PyData.int (stps n c o n)), x5, x6, none, none, none, none, none] = some (.list [.int 0]) from rfl]
      exact this
    simp only [List.map_cons, List.map_nil, List.replicate_succ, List.replicate_zero, List.nil_append, List.cons_append, List.append_nil, Nat.reduceSub, Nat.reduceAdd, setsD, zeros, stt, setsO, setsJ, List.foldl_cons, List.foldl_nil, List.set_cons_zero, List.set_cons_succ, demote]
    refine wp_seq (wp_for (ds := (List.range n).map nat) (fun k s' => ∃ x8 x9 x10 x11, s' = ([some (tb n c), some (nat n), some (.int (pc c o)), some (nt o), some (kd kD2 PyData.int (stps n c o n)), x5, x6, some (lrow n (bf (stp c o) (stpE n c o) k)), x8, x9, x10, x11], [0, 0, 0, 0, 1, 0, 0, 1, 0, 0, 0, 0])) (range1_nat (n := n) rfl (by omega)) ⟨_, _, _, _, rfl⟩ (fun k d s' hd hs => ?_) fun s' hs => ?_)
    · obtain ⟨x8, x9, x10, x11, rfl⟩ := hs
      refine ⟨[(8, d)], rfl, ?_⟩
      simp only [List.map_cons, List.map_nil, List.replicate_succ, List.replicate_zero, List.nil_append, List.cons_append, List.append_nil, Nat.reduceSub, Nat.reduceAdd, setsD, zeros, stt, setsO, setsJ, List.foldl_cons, List.foldl_nil, List.set_cons_zero, List.set_cons_succ, demote]
      clear hd
      generalize hH : bf (stp c o) (stpE n c o) k = H
      have hst := fun (k : Nat) (p : (Nat × Nat) × Int) (h : (srtW (stps n c o n))[k]? = some p) => srtW_step h
      have hbd : ∀ (k : Nat) (p : (Nat × Nat) × Int), (srtW (stps n c o n))[k]? = some p → p.1.1 < n ∧ p.1.2 < n := fun k p h => (stpE_mem hp p.1).mp (List.mem_map.mpr ⟨p, List.mem_of_getElem? h, rfl⟩)
      have hso := sortIt_ok hne
      have hE : stpE n c o = (srtW (stps n c o n)).map (·.1) := rfl
      obtain ⟨P, hP⟩ : ∃ P, P = srtW (stps n c o n) := ⟨_, rfl⟩
      rw [← hP] at hst hbd hso hE
      refine wp_for (ds := P.map prW) (fun q s' => ∃ x9 x10 x11, s' = ([some (tb n c), some (nat n), some (.int (pc c o)), some (nt o), some (kd kD2 PyData.int (stps n c o n)), x5, x6, some (lrow n (rnd (stp c o) ((P.take q).map Prod.fst) H)), some d, x9, x10, x11], [0, 0, 0, 0, 1, 0, 0, 1, 0, 0, 0, 0])) ?_ ⟨x9, x10, x11, rfl⟩ (fun q d' s' hd hs => ?_) fun s' hs => ?_
      · rw [iSeq_a]
        unfold eSortIt
        simp only [eVar_0, eVar_s, o1_s]
        rw [hso]
        rfl
      · obtain ⟨y9, y10, y11, rfl⟩ := hs
        rw [List.getElem?_map] at hd
        obtain ⟨p, hpq, rfl⟩ := Option.map_eq_some_iff.mp hd
        clear hd
        have hs := hst q p hpq
        obtain ⟨b1, b2⟩ := hbd q p hpq
        obtain ⟨⟨s, g⟩, w⟩ := p
        dsimp only at hs b1 b2
        subst hs
        generalize hR : rnd (stp c o) ((P.take q).map Prod.fst) H = R
        have hR2 : rnd (stp c o) ((P.take (q + 1)).map Prod.fst) H = rlx (stp c o) R (s, g) := by
          rw [List.take_add_one, hpq, ← hR]
          unfold rnd
          simp only [Option.toList_some, List.map_append, List.map_cons, List.map_nil, List.foldl_append, List.foldl_cons, List.foldl_nil]
        refine ⟨[(9, nat s), (10, nat g), (11, .int (stp c o s g))], rfl, ?_⟩
        simp only [List.map_cons, List.map_nil, List.replicate_succ, List.replicate_zero, List.nil_append, List.cons_append, List.append_nil, Nat.reduceSub, Nat.reduceAdd, setsD, zeros, stt, setsO, setsJ, List.foldl_cons, List.foldl_nil, List.set_cons_zero, List.set_cons_succ, demote]
        have rg := lrow_at (h := R) b2
        have rs := lrow_at (h := R) b1
        refine wp_put (d := .int (min (R g) (R s + stp c o s g))) (x := (g : Int)) (m := g) ?_ rfl rfl (row_ixN b2) rfl rfl ⟨some (nat s), some (nat g), some (.int (stp c o s g)), ?_⟩
        · rw [eCB_a, aCons_a, aCons_a, aNil_a]
          simp only [eOp_a, eIx_a, eVar_0, eVar_s, o2_ss, rg, rs, dAdd_i, o1_s]
          show some (PyData.int (if R s + stp c o s g < R g then R s + stp c o s g else R g)) = _
          congr 2
          split <;> omega
        · simp only [List.map_cons, List.map_nil, List.replicate_succ, List.replicate_zero, List.nil_append, List.cons_append, List.append_nil, Nat.reduceSub, Nat.reduceAdd, setsD, zeros, stt, setsO, setsJ, List.foldl_cons, List.foldl_nil, List.set_cons_zero, List.set_cons_succ, demote]
          rw [row_set g (min (R g) (R s + stp c o s g)) (rlx (stp c o) R (s, g)) fun k => rfl, hR2]
          rfl
      · obtain ⟨y9, y10, y11, rfl⟩ := hs
        refine ⟨some d, y9, y10, y11, ?_⟩
        have : rnd (stp c o) ((P.take (P.map prW).length).map Prod.fst) H = bf (stp c o) (stpE n c o) (k + 1) := by
          rw [List.length_map, List.take_length]
          show _ = rnd (stp c o) (stpE n c o) (bf (stp c o) (stpE n c o) k)
          rw [hH, hE]
        rw [this]
    · obtain ⟨x8, x9, x10, x11, rfl⟩ := hs
      rw [List.length_map, List.length_range]
      refine wp_ret (d := .tuple [trow n (frs n c o (hts n c o)), trow n (hts n c o)]) ?_ rfl
      refine eTup_2 ?_ rfl
      rw [eCB_a, aCons_a, aNil_a]
      rw [eLc_of nat (fun i => .int (frs n c o (hts n c o) i)) (l := List.range n) (range1_nat (n := n) rfl (by omega)) (by rw [List.length_range]; omega) fun i hi => ⟨[(5, nat i)], rfl, ?_⟩]
      · rfl
      · have hi := List.mem_range.mp hi
        have hti := nt_tk hp hi
        have htb := tb_at (c := c) hi
        have hto := (own hp hi).2
        have hcc := trow_at (f := c i) hto
        have hh := lrow_at (h := bf (stp c o) (stpE n c o) n) hto
        show o2 (o2 (o2 (some (tb n c)) (some (nat i)) dIx) (o2 (some (nt o)) (some (nat i)) dIx) dIx) (o2 (some (lrow n (bf (stp c o) (stpE n c o) n))) (o2 (some (nt o)) (some (nat i)) dIx) dIx) dSub = _
        rw [o2_ss, o2_ss, htb, hti, o2_ss, hcc, o2_ss, hh, o2_ss, dSub_i]
        rfl
end Fit
end
section
set_option Elab.async false
set_option linter.all false
set_option maxRecDepth 10000
namespace Fit
open Lib
variable {n : Nat} {c : Nat → Nat → Int} {o : List Nat}
def inv (n : Nat) (o : List Nat) : List Nat := (List.range n).map fun j => o.idxOf j
theorem inv_tk {j : Nat} (hj : j < n) : tk (inv n o) j = o.idxOf j := by
  unfold tk inv
  rw [List.getD_eq_getElem?_getD, List.getElem?_map, List.getElem?_range hj]
  rfl
theorem inv_perm (hp : o.Perm (List.range n)) : (inv n o).Perm (List.range n) := by
  refine inj_perm.mp ⟨by simp [inv], ?_, fun x hx => ?_⟩
  · unfold inv
    rw [List.nodup_iff_pairwise_ne, List.pairwise_map]
    refine List.nodup_range.imp_of_mem fun {a b} ha hb h e => h ?_
    have h1 := (own' hp (List.mem_range.mp ha)).2
    have h2 := (own' hp (List.mem_range.mp hb)).2
    rw [← h1, e, h2]
  · obtain ⟨j, hj, rfl⟩ := List.mem_map.mp hx
    exact (own' hp (List.mem_range.mp hj)).1
theorem inv_idx (hp : o.Perm (List.range n)) {i : Nat} (hi : i < n) : (inv n o).idxOf i = tk o i := by
  obtain ⟨h1, h2⟩ := own hp hi
  have h3 := own (inv_perm hp) h2
  rw [inv_tk h2, h1] at h3
  exact h3.1
def tr (c : Nat → Nat → Int) (j i : Nat) : Int := c i j
theorem cost_inv {t : List Nat} (ht : t.Perm (List.range n)) : cost n (tr c) t = cost n c (inv n t) := by
  have h1 : cost n (tr c) t = (t.map fun i => c i (t.idxOf i)).sum := by
    have e : (t.map fun i => c i (t.idxOf i)) = (List.range n).map fun j => c (tk t j) (t.idxOf (tk t j)) := by
      have := congrArg (List.map fun i => c i (t.idxOf i)) (ord_tk ht)
      rw [List.map_map] at this
      exact this.symm
    rw [e]
    unfold cost tr
    congr 1
    refine List.map_congr_left fun j hj => ?_
    rw [(own ht (List.mem_range.mp hj)).1]
  rw [h1, sum_perm (ht.map _)]
  unfold cost
  congr 1
  refine List.map_congr_left fun i hi => ?_
  rw [inv_tk (List.mem_range.mp hi)]
theorem inv_inv (hp : o.Perm (List.range n)) : inv n (inv n o) = o := by
  rw [← ord_tk hp]
  unfold inv
  refine List.map_congr_left fun i hi => ?_
  have := inv_idx hp (List.mem_range.mp hi)
  unfold inv at this
  rw [ord_tk hp]
  exact this
def lnk (c : Nat → Nat → Int) (o : List Nat) (q p : Nat) : Int := c p (tk o q) - c q (tk o q)
theorem lnk_ring (hp : o.Perm (List.range n)) (opt : ∀ t : List Nat, t.Perm (List.range n) → cost n c o ≤ cost n c t) : Ring n (lnk c o) := by
  intro a p nd hn
  have h := ring_ok (c := tr c) (o := inv n o) (inv_perm hp) (fun t ht => by
    rw [cost_inv (inv_perm hp), cost_inv ht, inv_inv hp]
    exact opt _ (inv_perm ht)) nd hn
  have e : List.zipWith (stp (tr c) (inv n o)) (a :: p) (p ++ [a]) = List.zipWith (lnk c o) (a :: p) (p ++ [a]) := by
    have : ∀ (l m : List Nat), (∀ x ∈ l, x < n) → List.zipWith (stp (tr c) (inv n o)) l m = List.zipWith (lnk c o) l m := fun l => by
      induction l with
      | nil => intro m _; rfl
      | cons x l ih =>
        intro m hl
        cases m with
        | nil => rfl
        | cons y m =>
          rw [List.zipWith_cons_cons, List.zipWith_cons_cons, ih m fun z hz => hl z (.tail _ hz)]
          congr 1
          unfold stp lnk tr
          rw [inv_idx hp (hl x (.head _))]
    exact this _ _ hn
  rw [e] at h
  exact h
def imx (x : Int) (xs : List Int) : Int := xs.foldl (fun a y => if a < y then y else a) x
theorem imx_spec : ∀ (xs : List Int) (x : Int), imx x xs ∈ x :: xs ∧ ∀ y ∈ x :: xs, y ≤ imx x xs
  | [], x => ⟨by simp [imx], by simp [imx]⟩
  | y :: xs, x => by
    have e : imx x (y :: xs) = imx (if x < y then y else x) xs := rfl
    rw [e]
    obtain ⟨a, b⟩ := imx_spec xs (if x < y then y else x)
    refine ⟨?_, fun z hz => ?_⟩
    · rcases List.mem_cons.mp a with h | h
      · rw [h]; split <;> simp
      · simp [h]
    · have b0 := b (if x < y then y else x) (.head _)
      generalize imx (if x < y then y else x) xs = M at b0 b ⊢
      rcases List.mem_cons.mp hz with h | h
      · subst h; split at b0 <;> omega
      · rcases List.mem_cons.mp h with h | h
        · subst h; split at b0 <;> omega
        · exact b z (.tail _ h)
def mxr (n : Nat) (f : Nat → Int) : Int := match (List.range n).map f with
  | [] => 0
  | x :: xs => imx x xs
theorem mxr_spec (h1 : 1 ≤ n) (f : Nat → Int) : (∃ q < n, mxr n f = f q) ∧ ∀ q < n, f q ≤ mxr n f := by
  unfold mxr
  cases e : (List.range n).map f with
  | nil =>
    have := congrArg List.length e
    simp at this
    omega
  | cons x xs =>
    dsimp only
    obtain ⟨a, b⟩ := imx_spec xs x
    rw [← e] at a b
    refine ⟨?_, fun q hq => b _ (List.mem_map.mpr ⟨q, List.mem_range.mpr hq, rfl⟩)⟩
    obtain ⟨q, hq, h⟩ := List.mem_map.mp a
    exact ⟨q, List.mem_range.mp hq, h.symm⟩
def jx (n : Nat) (w : Nat → Nat → Int) : Nat → Nat → Int
  | 0, _ => 0
  | k + 1, p => mxr n fun q => jx n w k q - w q p
section
variable {w : Nat → Nat → Int}
theorem jx_to (h1 : 1 ≤ n) : ∀ (k p : Nat), p < n → To n w p (-(jx n w k p))
  | 0, p, hp => ⟨p, [], rfl, fun y hy => by rw [List.mem_singleton.mp hy]; exact hp, by simp [ww, jx]⟩
  | k + 1, p, hp => by
    obtain ⟨⟨q, hq, e⟩, _⟩ := mxr_spec h1 fun q => jx n w k q - w q p
    show To n w p (-(mxr n fun q => jx n w k q - w q p))
    rw [e]
    have := (jx_to h1 k q hq).step (w := w) hp
    have e2 : -(jx n w k q) + w q p = -(jx n w k q - w q p) := by omega
    rw [e2] at this
    exact this
theorem jx_walk (h1 : 1 ≤ n) (w0 : ∀ p < n, w p p = 0) : ∀ (k : Nat) (l : List Nat) (a j : Nat), l.length ≤ k → (a :: l).getLast? = some j → (∀ y ∈ a :: l, y < n) → -(jx n w k j) ≤ ww w (a :: l)
  | k, [], a, j, _, hj, hy => by
    have haj : a = j := by simpa using hj
    subst haj
    have ha := hy a (.head _)
    have : ∀ k : Nat, 0 ≤ jx n w k a := fun k => by
      induction k with
      | zero => exact Int.le_refl _
      | succ k ih =>
        have := (mxr_spec h1 fun q => jx n w k q - w q a).2 a ha
        have := w0 a ha
        show 0 ≤ mxr n fun q => jx n w k q - w q a
        omega
    have := this k
    simp only [ww]
    omega
  | 0, b :: l, a, j, h, _, _ => by simp at h
  | k + 1, b :: l, a, j, h, hj, hy => by
    obtain ⟨l', s, e1, e2, e3, q, e4⟩ := snoc_of l a b
    rw [e1] at hj hy ⊢
    have : s = j := by rw [e3] at hj; exact Option.some.inj hj
    subst this
    rw [ww_snoc s l' a q e4]
    have hq : q < n := hy q (by
      have := List.mem_of_getLast? e4
      rcases List.mem_cons.mp this with z | z
      · rw [z]; exact .head _
      · exact .tail _ (List.mem_append_left _ z))
    have ih := jx_walk h1 w0 k l' a q (by rw [e2]; rw [List.length_cons] at h; omega) e4 fun y hy' => by
      rcases List.mem_cons.mp hy' with z | z
      · exact hy y (by rw [z]; exact .head _)
      · exact hy y (.tail _ (List.mem_append_left _ z))
    have := (mxr_spec h1 fun q => jx n w k q - w q s).2 q hq
    show -(mxr n fun q => jx n w k q - w q s) ≤ _
    omega
theorem jx_done (h1 : 1 ≤ n) (w0 : ∀ p < n, w p p = 0) (R : Ring n w) {q p : Nat} (hq : q < n) (hp : p < n) : jx n w n q - w q p ≤ jx n w n p := by
  obtain ⟨a, l, e1, e2, e3⟩ := (jx_to (w := w) h1 n q hq).step hp
  obtain ⟨l', n1, n2, n3, n4⟩ := shorten R l a e2
  have hlen := nodup_lt_len n1 n3
  have := jx_walk (w := w) (n := n) h1 w0 n l' a p (by rw [List.length_cons] at hlen; omega) (by rw [n2]; exact e1) n3
  omega
end
theorem leads_ok (h1 : 1 ≤ n) (hp : o.Perm (List.range n)) (opt : ∀ t : List Nat, t.Perm (List.range n) → cost n c o ≤ cost n c t) {q p : Nat} (hq : q < n) (hpn : p < n) : jx n (lnk c o) n q - lnk c o q p ≤ jx n (lnk c o) n p :=
  jx_done h1 (fun p _ => by unfold lnk; omega) (lnk_ring hp opt) hq hpn
end Fit
end
section
set_option Elab.async false
set_option linter.all false
set_option maxRecDepth 10000
namespace Fit
open Lib
def amxs (f : List Nat → Int) (b : Option (List Nat)) (o : List Nat) : Option (List Nat) := match b with
  | none => some o
  | some b => if f b < f o then some o else some b
def amx (f : List Nat → Int) (l : List (List Nat)) : Option (List Nat) := l.foldl (amxs f) none
theorem amx_take (f : List Nat → Int) {l : List (List Nat)} {k : Nat} {o : List Nat} (h : l[k]? = some o) : amx f (l.take (k + 1)) = amxs f (amx f (l.take k)) o := by
  unfold amx
  rw [List.take_add_one, h]
  simp only [Option.toList_some, List.foldl_append, List.foldl_cons, List.foldl_nil]
theorem amx_ok {f : List Nat → Int} {l : List (List Nat)} (hs : l.Pairwise fun a b => llt a b = true) : ∀ k, k ≤ l.length → (k = 0 ∧ amx f (l.take k) = none) ∨ ∃ b, amx f (l.take k) = some b ∧ b ∈ l.take k ∧ ∀ t ∈ l.take k, f t ≤ f b ∧ (f t = f b → llt t b = false)
  | 0, _ => .inl ⟨rfl, rfl⟩
  | k + 1, hk => by
    right
    obtain ⟨o, ho⟩ : ∃ o, l[k]? = some o := ⟨_, List.getElem?_eq_getElem (by omega)⟩
    have ht : l.take (k + 1) = l.take k ++ [o] := by rw [List.take_add_one, ho]; rfl
    have hlt : ∀ t ∈ l.take k, llt t o = true := fun t h => by
      have hp : (l.take k ++ [o]).Pairwise fun a b => llt a b = true := by
        rw [← ht]
        exact hs.sublist (List.take_sublist _ _)
      exact (List.pairwise_append.mp hp).2.2 t h o (.head _)
    rw [amx_take f ho]
    rcases amx_ok hs k (by omega) with ⟨rfl, e⟩ | ⟨b, e, hb, hall⟩
    · rw [e]
      refine ⟨o, rfl, ?_, fun t h => ?_⟩
      · rw [ht]; simp
      · rw [ht] at h
        have : t = o := by simpa using h
        subst this
        exact ⟨Int.le_refl _, fun _ => llt_irrefl _⟩
    · rw [e]
      unfold amxs
      dsimp only
      by_cases q : f b < f o
      · rw [if_pos q]
        refine ⟨o, rfl, ?_, fun t h => ?_⟩
        · rw [ht]; simp
        · rw [ht] at h
          rcases List.mem_append.mp h with h | h
          · have := (hall t h).1
            exact ⟨by omega, fun z => by omega⟩
          · have : t = o := by simpa using h
            subst this
            exact ⟨Int.le_refl _, fun _ => llt_irrefl _⟩
      · rw [if_neg q]
        refine ⟨b, rfl, ?_, fun t h => ?_⟩
        · rw [ht]; exact List.mem_append_left _ hb
        · rw [ht] at h
          rcases List.mem_append.mp h with h | h
          · exact hall t h
          · have : t = o := by simpa using h
            subst this
            refine ⟨by omega, fun _ => ?_⟩
            have h2 := hlt b hb
            cases z : llt t b with
            | false => rfl
            | true =>
              have := llt_trans h2 z
              rw [llt_irrefl] at this
              cases this
section
variable {n : Nat} {w : Nat → Nat → Int} {B : Int} {o : List Nat}
def lack (B : Int) (w : Nat → Nat → Int) (i j : Nat) : Int := B - w i j
theorem cost_lack (t : List Nat) : cost n (lack B w) t = n * B - cost n w t := by
  unfold cost lack
  have : ∀ l : List Nat, (l.map fun i => B - w i (tk t i)).sum = l.length * B - (l.map fun i => w i (tk t i)).sum := fun l => by
    induction l with
    | nil => simp
    | cons a l ih =>
      rw [List.map_cons, List.map_cons, List.sum_cons, List.sum_cons, ih, List.length_cons]
      have : ((l.length + 1 : Nat) : Int) * B = l.length * B + B := by
        rw [show ((l.length + 1 : Nat) : Int) = (l.length : Int) + 1 by omega, Int.add_mul, Int.one_mul]
      omega
  rw [this, List.length_range]
theorem row_perm {t : List Nat} : t ∈ ords n n ↔ t.Perm (List.range n) := by
  rw [mem_ords, ← inj_perm]
  constructor
  · rintro ⟨h1, h2, h3⟩
    exact ⟨h1, h2, h3⟩
  · rintro ⟨h1, h2, h3⟩
    exact ⟨h1, h2, h3⟩
theorem best_of_amx {f : List Nat → Int} (hf : ∀ t : List Nat, t.Perm (List.range n) → f t = cost n w t) : ∃ o, amx f (ords n n) = some o ∧ Best n (lack B w) o := by
  have h := amx_ok (f := f) (ords_sorted n n) (ords n n).length (Nat.le_refl _)
  rw [List.take_length] at h
  rcases h with ⟨h, _⟩ | ⟨b, e, hb, hall⟩
  · exact absurd (List.length_eq_zero_iff.mp h) (ords_ne n)
  refine ⟨b, e, row_perm.mp hb, fun t ht => ?_⟩
  obtain ⟨h1, h2⟩ := hall t (row_perm.mpr ht)
  have hbp := row_perm.mp hb
  rw [hf t ht, hf b hbp] at h1 h2
  have l1 : t.length = n := by have := ht.length_eq; simpa using this
  have l2 : b.length = n := by have := hbp.length_eq; simpa using this
  cases z : ltl (pc (lack B w)) t b with
  | false => rfl
  | true =>
    rw [ltl_iff] at z
    unfold pc at z
    rw [l1, l2, cost_lack, cost_lack] at z
    rcases z with z | ⟨z1, z2⟩
    · omega
    · rw [h2 (by omega)] at z2
      cases z2
theorem Best.uniq {c : Nat → Nat → Int} {o o' : List Nat} (h : Best n c o) (h' : Best n c o') : o = o' := ltl_tri (pc c) (h'.le o h.perm) (h.le o' h'.perm)
def Fair (n : Nat) (w : Nat → Nat → Int) (o : List Nat) (p : Nat → Rat) : Prop := ∀ i < n, ∀ r < n, (w i r : Rat) - p r ≤ (w i (tk o i) : Rat) - p (tk o i)
theorem fair_turn {c : Nat → Nat → Int} (hc : c = lack B w) (hp : o.Perm (List.range n)) {H : Nat → Int} (hf : ∀ i < n, ∀ j < n, (c i (tk o i) - H (tk o i)) + H j ≤ c i j) (K : Rat) : Fair n w o fun j => K - (H j : Rat) := by
  intro i hi r hr
  have := hf i hi r hr
  rw [hc] at this
  unfold lack at this
  have : w i r + H r ≤ w i (tk o i) + H (tk o i) := by omega
  have : ((w i r + H r : Int) : Rat) ≤ ((w i (tk o i) + H (tk o i) : Int) : Rat) := by exact_mod_cast this
  rw [Rat.intCast_add, Rat.intCast_add] at this
  grind
def wpr (w : Nat → Nat → Int) (o : List Nat) (L : Nat → Int) (G : Rat) (r : Nat) : Rat := ((w (o.idxOf r) r - L (o.idxOf r) : Int) : Rat) - G
theorem fair_wide (hp : o.Perm (List.range n)) {L : Nat → Int} (hL : ∀ q < n, ∀ p < n, L q - lnk (lack B w) o q p ≤ L p) (G : Rat) : Fair n w o (wpr w o L G) := by
  intro i hi r hr
  obtain ⟨w1, w2⟩ := own' hp hr
  obtain ⟨v1, v2⟩ := own hp hi
  have := hL _ w1 i hi
  unfold lnk lack at this
  rw [w2] at this
  unfold wpr
  rw [v1]
  have h : w i r - (w (o.idxOf r) r - L (o.idxOf r)) ≤ L i := by omega
  have : ((w i r - (w (o.idxOf r) r - L (o.idxOf r)) : Int) : Rat) ≤ (L i : Rat) := by exact_mod_cast h
  simp only [Rat.intCast_sub] at this ⊢
  grind
def rsm (f : Nat → Rat) : Nat → Rat
  | 0 => 0
  | k + 1 => rsm f k + f k
theorem rsm_le {f g : Nat → Rat} : ∀ {k : Nat}, (∀ i < k, f i ≤ g i) → rsm f k ≤ rsm g k
  | 0, _ => by simp [rsm]
  | k + 1, h => by
    have := rsm_le fun i (hi : i < k) => h i (by omega)
    have := h k (by omega)
    simp only [rsm]
    grind
theorem rsm_sub (f g : Nat → Rat) : ∀ k : Nat, rsm (fun i => f i - g i) k = rsm f k - rsm g k
  | 0 => by
    show (0 : Rat) = 0 - 0
    grind
  | k + 1 => by
    simp only [rsm]
    rw [rsm_sub f g k]
    grind
theorem rsm_int (f : Nat → Int) : ∀ k : Nat, rsm (fun i => (f i : Rat)) k = ((((List.range k).map f).sum : Int) : Rat)
  | 0 => by simp [rsm]
  | k + 1 => by
    rw [List.range_succ, List.map_append, List.sum_append, Rat.intCast_add]
    simp only [rsm]
    rw [rsm_int f k]
    simp
def rl (l : List Rat) : Rat := l.foldr (· + ·) 0
theorem rl_perm {l l' : List Rat} (h : l.Perm l') : rl l = rl l' := by
  induction h with
  | nil => rfl
  | cons a _ ih => show a + rl _ = a + rl _; rw [ih]
  | swap a b l => show b + (a + rl l) = a + (b + rl l); grind
  | trans _ _ h1 h2 => rw [h1, h2]
theorem rl_append : ∀ a b : List Rat, rl (a ++ b) = rl a + rl b
  | [], b => by show rl b = 0 + rl b; grind
  | x :: a, b => by
    show x + rl (a ++ b) = x + rl a + rl b
    rw [rl_append a b]
    grind
theorem rsm_rl (f : Nat → Rat) : ∀ k : Nat, rsm f k = rl ((List.range k).map f)
  | 0 => rfl
  | k + 1 => by
    rw [List.range_succ, List.map_append, rl_append, ← rsm_rl f k]
    show _ = _ + (f k + 0)
    simp only [rsm]
    grind
theorem rsm_tk (hp : o.Perm (List.range n)) (f : Nat → Rat) : rsm (fun i => f (tk o i)) n = rsm f n := by
  rw [rsm_rl, rsm_rl, ← rl_perm (hp.map f)]
  conv => rhs; rw [← ord_tk hp]
  rw [List.map_map]
  rfl
theorem Fair.most {t o : List Nat} {p : Nat → Rat} (ht : t.Perm (List.range n)) (ho : o.Perm (List.range n)) (h : Fair n w t p) : cost n w o ≤ cost n w t := by
  have h1 : rsm (fun i => (w i (tk o i) : Rat) - p (tk o i)) n ≤ rsm (fun i => (w i (tk t i) : Rat) - p (tk t i)) n := rsm_le fun i hi => h i hi _ (own ho hi).2
  rw [rsm_sub, rsm_sub, rsm_tk ho p, rsm_tk ht p, rsm_int (fun i => w i (tk o i)), rsm_int (fun i => w i (tk t i))] at h1
  have : ((cost n w o : Int) : Rat) ≤ ((cost n w t : Int) : Rat) := by
    unfold cost
    grind
  exact_mod_cast this
theorem moved_unfair (hp : o.Perm (List.range n)) (hw : ∀ i < n, ∀ j < n, 0 ≤ w i j ∧ w i j ≤ 50) {p p' : Nat → Rat} (h : Fair n w o p) {a b : Nat} (ha : a < n) (hb : b < n) (hab : a ≠ b) (hpa : p' a = p a + 200) (hpb : p' b = p b - 200) : ¬ Fair n w o p' := by
  intro h'
  obtain ⟨u1, u2⟩ := own' hp ha
  obtain ⟨v1, v2⟩ := own' hp hb
  have e1 := h' _ u1 b hb
  have e2 := h _ v1 a ha
  rw [u2, hpa, hpb] at e1
  rw [v2] at e2
  have x1 := hw _ u1 b hb
  have x2 := hw _ u1 a ha
  have x3 := hw _ v1 a ha
  have x4 := hw _ v1 b hb
  have y1 : (0 : Rat) ≤ (w (o.idxOf a) b : Rat) := by exact_mod_cast x1.1
  have y2 : (w (o.idxOf a) a : Rat) ≤ 50 := by exact_mod_cast x2.2
  have y3 : (0 : Rat) ≤ (w (o.idxOf b) a : Rat) := by exact_mod_cast x3.1
  have y4 : (w (o.idxOf b) b : Rat) ≤ 50 := by exact_mod_cast x4.2
  grind
end
end Fit
end
section
set_option Elab.async false
set_option linter.all false
set_option maxRecDepth 10000
namespace K50
open DS PySem K27 Fit
open K71 (wp_forB rep_any rI rI_rt smI)
open K52 (tq tq_flat den_as_ratio den_is_whole den_is_ratio den_is_ratio_row is_ratio_row_ok as_int as_rt cSum_row SmI num_of)
open Lib hiding den__law_sets law_sets_ok pl
def den_best_rooms : Fn := dfun 6 1 (sSeq (sSet 1 0 (eC .none) [])
  (sSeq (sFor (iSeq (eCall 1 den_all_orders (aCons (eCB (d1 dLen) (aCons (eVar 0) aNil)) aNil))) ([] ++ []) (.nm 2)
  (sSeq (sSet 3 0 (eCB (d1 dSum) (aCons (eLc (iEnumD (eVar 2)) (.tp [(.nm 4), (.nm 5)]) tTrue (eIx (eIx (eVar 0) (eVar 4)) (eVar 5)) [4, 5]) aNil)) [])
  (sIf (tOrD (tIsND (eVar 1)) (tCmp dGt (eVar 3) (eIx (eVar 1) (eC (.int 0)))))
  (sSet 1 0 (eTup (aCons (eVar 3) (aCons (eVar 2) aNil))) ([(3, 0)] ++ ([(2, 0)] ++ [])))
  sNil)))
  (sRet (eIx (eVar 1) (eC (.int 1))))))
def den__law_best : Fn := dfun 5 1 (sSeq (sSet 1 0 (eC .none) [])
  (sSeq (sFor (iSeq (eCall 1 den__law_orders (aCons (eCB (d1 dLen) (aCons (eVar 0) aNil)) aNil))) ([] ++ []) (.nm 2)
  (sSeq (sSet 3 0 (eCB (d1 dSum) (aCons (eLc (iRange1 (eCB (d1 dLen) (aCons (eVar 0) aNil))) (.nm 4) tTrue (eIx (eIx (eVar 0) (eVar 4)) (eIx (eVar 2) (eVar 4))) [4]) aNil)) [])
  (sIf (tOrD (tIsND (eVar 1)) (tCmp dGt (eVar 3) (eIx (eVar 1) (eC (.int 0)))))
  (sSet 1 0 (eTup (aCons (eVar 3) (aCons (eVar 2) aNil))) ([(3, 0)] ++ ([(2, 0)] ++ [])))
  sNil)))
  (sRet (eVar 1))))
variable {n : Nat} {w : Nat → Nat → Int}
def bsD (n : Nat) (w : Nat → Nat → Int) : Option (List Nat) → D
  | none => .none
  | some b => .tuple [.int (cost n w b), nt b]
theorem bsD_flat (b : Option (List Nat)) : flat (bsD n w b) = true := by
  cases b with
  | none => rfl
  | some b => simp [bsD, flat, flats, nt_flat]
theorem sum_row (f : Nat → Int) : dSum (.list ((List.range n).map fun k => .int (f k))) = some (.int ((List.range n).map f).sum) := by
  have := dSum_ok ((List.range n).map f)
  rw [List.map_map] at this
  exact this
theorem best_step {N B C : S → Prop} {R : D → Prop} {i j : Nat} {ρ : PEnv} {L : List Nat} {cc : Esc} {b : Option (List Nat)} {o : List Nat} {fx : FE} (h1 : eVar i ρ = some (bsD n w b)) (h3 : fx ρ = some (.int (cost n w o)))
    (h2 : eTup (aCons fx (aCons (eVar j) aNil)) ρ = some (.tuple [.int (cost n w o), nt o])) (q1 : ∀ L', L' = L.set i 0 → N (ρ.set i (some (bsD n w (amxs (cost n w) b o))), L')) (q2 : bsD n w (amxs (cost n w) b o) = bsD n w b → N (ρ, L)) :
    WP (sIf (tOrD (tIsND (eVar i)) (tCmp dGt fx (eIx (eVar i) (eC (.int 0))))) (sSet i 0 (eTup (aCons fx (aCons (eVar j) aNil))) cc) sNil) (ρ, L) N R B C := by
  have fl : flat (.tuple [.int (cost n w o), nt o] : D) = true := bsD_flat (n := n) (w := w) (some o)
  cases b with
  | none =>
    refine wp_ift ?_ (wp_set h2 fl (q1 _ rfl))
    unfold tOrD tIsND
    rw [h1]
    rfl
  | some b =>
    have t0 : tIsND (eVar i) ρ = some false := by
      unfold tIsND
      rw [h1]
      rfl
    have t1 : tCmp dGt fx (eIx (eVar i) (eC (.int 0))) ρ = some (decide (cost n w b < cost n w o)) := by
      rw [tCmp_a, h3, eIx_a, h1, eC_a, o2_ss]
      show o2 (some (PyData.int (cost n w o))) (some (PyData.int (cost n w b))) dGt = _
      rw [o2_ss, dGt_i]
    refine wp_if (t := decide (cost n w b < cost n w o)) ?_ (fun ht => ?_) fun hf => ?_
    · unfold tOrD
      rw [t0]
      exact t1
    · have ht := of_decide_eq_true ht
      have e : amxs (cost n w) (some b) o = some o := by unfold amxs; dsimp only; rw [if_pos ht]
      have := q1 _ rfl
      rw [e] at this
      exact wp_set h2 fl this
    · have hf := of_decide_eq_false hf
      have e : amxs (cost n w) (some b) o = some b := by unfold amxs; dsimp only; rw [if_neg hf]
      exact wp_nil (q2 (by rw [e]))
theorem best_rooms_ok (hn : n ≤ 5) : den_best_rooms [tb n w] = some ((amx (cost n w) (ords n n)).elim .none nt) := by
  obtain ⟨o, ho, _⟩ := best_of_amx (n := n) (w := w) (B := 0) (f := cost n w) fun _ _ => rfl
  refine dfun_wp rfl ?_
  simp only [List.map_cons, List.map_nil, List.replicate_succ, List.replicate_zero, List.nil_append, List.cons_append, List.append_nil, Nat.reduceSub, Nat.reduceAdd, setsD, zeros, stt, setsO, setsJ, List.foldl_cons, List.foldl_nil, List.set_cons_zero, List.set_cons_succ, demote]
  refine wp_seq (wp_set (d := .none) rfl rfl ?_)
  simp only [List.map_cons, List.map_nil, List.replicate_succ, List.replicate_zero, List.nil_append, List.cons_append, List.append_nil, Nat.reduceSub, Nat.reduceAdd, setsD, zeros, stt, setsO, setsJ, List.foldl_cons, List.foldl_nil, List.set_cons_zero, List.set_cons_succ, demote]
  refine wp_seq (wp_for (ds := (ords n n).map nt) (fun k s' => ∃ x2 x3, s' = ([some (tb n w), some (bsD n w (amx (cost n w) ((ords n n).take k))), x2, x3, none, none], [0, 0, 0, 0, 0, 0])) ?_ ⟨none, none, rfl⟩ (fun k d s' hd hs => ?_) fun s' hs => ?_)
  · rw [iSeq_a, eCall_1, eCB_a, aCons_a, aNil_a, eVar_0, o2_ss, o1_s, d1_1, tb_len, o1_s, all_orders_ok (by omega), o1_s]
    rfl
  · obtain ⟨x2, x3, rfl⟩ := hs
    rw [List.getElem?_map] at hd
    obtain ⟨t, ht, rfl⟩ := Option.map_eq_some_iff.mp hd
    have hp := row_perm.mp (List.mem_of_getElem? ht)
    have hl : t.length = n := by have := hp.length_eq; simpa using this
    refine ⟨[(2, nt t)], rfl, ?_⟩
    simp only [List.map_cons, List.map_nil, List.replicate_succ, List.replicate_zero, List.nil_append, List.cons_append, List.append_nil, Nat.reduceSub, Nat.reduceAdd, setsD, zeros, stt, setsO, setsJ, List.foldl_cons, List.foldl_nil, List.set_cons_zero, List.set_cons_succ, demote]
    refine wp_seq (wp_set (d := .int (cost n w t)) ?_ rfl ?_)
    · rw [eCB_a, aCons_a, aNil_a]
      rw [eLc_of (fun i => .tuple [nat i, nat (tk t i)]) (fun i => .int (w i (tk t i))) (l := List.range n) ?_ (by rw [List.length_range]; omega) fun i hi => ⟨[(4, nat i), (5, nat (tk t i))], rfl, ?_⟩]
      · rw [o2_ss, o1_s, d1_1, sum_row fun i => w i (tk t i)]
        rfl
      · show some (enumD (t.map nat)) = _
        rw [enum_map nat t 0, hl]
        rfl
      · have hi := List.mem_range.mp hi
        have a1 := tb_at (c := w) hi
        have a2 := trow_at (f := w i) (own hp hi).2
        show o2 (o2 (some (tb n w)) (some (nat i)) dIx) (some (nat (tk t i))) dIx = _
        rw [o2_ss, a1, o2_ss, a2]
    simp only [List.map_cons, List.map_nil, List.replicate_succ, List.replicate_zero, List.nil_append, List.cons_append, List.append_nil, Nat.reduceSub, Nat.reduceAdd, setsD, zeros, stt, setsO, setsJ, List.foldl_cons, List.foldl_nil, List.set_cons_zero, List.set_cons_succ, demote]
    refine best_step (n := n) (w := w) (b := amx (cost n w) ((ords n n).take k)) (o := t) rfl rfl (eTup_2 rfl rfl) (fun L' e => ⟨some (nt t), some (.int (cost n w t)), ?_⟩) fun e => ⟨some (nt t), some (.int (cost n w t)), ?_⟩
    · rw [e, amx_take _ ht]
      rfl
    · rw [amx_take _ ht, e]
  · obtain ⟨x2, x3, rfl⟩ := hs
    rw [List.length_map, List.take_length, ho]
    exact wp_ret rfl rfl
theorem law_best_ok (hn : n ≤ 5) : den__law_best [tb n w] = some (bsD n w (amx (cost n w) (ords n n))) := by
  obtain ⟨o, ho, _⟩ := best_of_amx (n := n) (w := w) (B := 0) (f := cost n w) fun _ _ => rfl
  refine dfun_wp rfl ?_
  simp only [List.map_cons, List.map_nil, List.replicate_succ, List.replicate_zero, List.nil_append, List.cons_append, List.append_nil, Nat.reduceSub, Nat.reduceAdd, setsD, zeros, stt, setsO, setsJ, List.foldl_cons, List.foldl_nil, List.set_cons_zero, List.set_cons_succ, demote]
  refine wp_seq (wp_set (d := .none) rfl rfl ?_)
  simp only [List.map_cons, List.map_nil, List.replicate_succ, List.replicate_zero, List.nil_append, List.cons_append, List.append_nil, Nat.reduceSub, Nat.reduceAdd, setsD, zeros, stt, setsO, setsJ, List.foldl_cons, List.foldl_nil, List.set_cons_zero, List.set_cons_succ, demote]
  refine wp_seq (wp_for (ds := (ords n n).map nt) (fun k s' => ∃ x2 x3, s' = ([some (tb n w), some (bsD n w (amx (cost n w) ((ords n n).take k))), x2, x3, none], [0, 0, 0, 0, 0])) ?_ ⟨none, none, rfl⟩ (fun k d s' hd hs => ?_) fun s' hs => ?_)
  · rw [iSeq_a, eCall_1, eCB_a, aCons_a, aNil_a, eVar_0, o2_ss, o1_s, d1_1, tb_len, o1_s, law_orders_ok (by omega), o1_s]
    rfl
  · obtain ⟨x2, x3, rfl⟩ := hs
    rw [List.getElem?_map] at hd
    obtain ⟨t, ht, rfl⟩ := Option.map_eq_some_iff.mp hd
    have hp := row_perm.mp (List.mem_of_getElem? ht)
    refine ⟨[(2, nt t)], rfl, ?_⟩
    simp only [List.map_cons, List.map_nil, List.replicate_succ, List.replicate_zero, List.nil_append, List.cons_append, List.append_nil, Nat.reduceSub, Nat.reduceAdd, setsD, zeros, stt, setsO, setsJ, List.foldl_cons, List.foldl_nil, List.set_cons_zero, List.set_cons_succ, demote]
    refine wp_seq (wp_set (d := .int (cost n w t)) ?_ rfl ?_)
    · rw [eCB_a, aCons_a, aNil_a]
      rw [eLc_of nat (fun i => .int (w i (tk t i))) (l := List.range n) (range1_nat (n := n) (by rw [eCB_a, aCons_a, aNil_a, eVar_0, o2_ss, o1_s, d1_1, tb_len]) (by omega)) (by rw [List.length_range]; omega) fun i hi => ⟨[(4, nat i)], rfl, ?_⟩]
      · rw [o2_ss, o1_s, d1_1, sum_row fun i => w i (tk t i)]
        rfl
      · have hi := List.mem_range.mp hi
        have a1 := tb_at (c := w) hi
        have a2 := trow_at (f := w i) (own hp hi).2
        have a3 := nt_tk hp hi
        show o2 (o2 (some (tb n w)) (some (nat i)) dIx) (o2 (some (nt t)) (some (nat i)) dIx) dIx = _
        rw [o2_ss, a1, o2_ss, a3, o2_ss, a2]
    simp only [List.map_cons, List.map_nil, List.replicate_succ, List.replicate_zero, List.nil_append, List.cons_append, List.append_nil, Nat.reduceSub, Nat.reduceAdd, setsD, zeros, stt, setsO, setsJ, List.foldl_cons, List.foldl_nil, List.set_cons_zero, List.set_cons_succ, demote]
    refine best_step (n := n) (w := w) (b := amx (cost n w) ((ords n n).take k)) (o := t) rfl rfl (eTup_2 rfl rfl) (fun L' e => ⟨some (nt t), some (.int (cost n w t)), ?_⟩) fun e => ⟨some (nt t), some (.int (cost n w t)), ?_⟩
    · rw [e, amx_take _ ht]
      rfl
    · rw [amx_take _ ht, e]
  · obtain ⟨x2, x3, rfl⟩ := hs
    rw [List.length_map, List.take_length]
    exact wp_ret rfl rfl
end K50
end
section
set_option Elab.async false
set_option linter.all false
set_option maxRecDepth 10000
namespace Fit
open DS PySem K27
open K71 (wp_forB rep_any)
open Lib hiding den__law_sets law_sets_ok pl
def den_are_integers : Fn := dfun 3 2 (sSeq (sIf (tOrD (tNotD (tTru (eIsi "tuple" (eVar 0)))) (tCmp dNe (eCB (d1 dLen) (aCons (eVar 0) aNil)) (eVar 1)))
  (sRet (eC (.bool false)))
  sNil)
  (sRet (eCB (d1 dAll) (aCons (eLc (iSeq (eVar 0)) (.nm 2) tTrue (eAndD (eIsi "int" (eVar 2)) (eB (tNotD (tTru (eIsi "bool" (eVar 2)))))) [2]) aNil))))
def den_judge_prices : Fn := dfun 6 3 (sSeq (sSet 3 0 (eCB (d1 dLen) (aCons (eVar 0) aNil)) [])
  (sSeq (sIf (tOrD (tNotD (tTru (eCall 2 den_are_integers (aCons (eVar 1) (aCons (eVar 3) aNil))))) (tNotD (tTru (eCall 2 den_are_integers (aCons (eVar 2) (aCons (eVar 3) aNil))))))
  (sRet (eC (.bool false)))
  sNil)
  (sSeq (sFor (iRange1 (eVar 3)) [] (.nm 4)
  (sIf (tTru (eCB (d1 dAny) (aCons (eLc (iRange1 (eVar 3)) (.nm 5) tTrue (eB (tCmp dGt (eOp dAdd (eIx (eVar 1) (eVar 4)) (eIx (eVar 2) (eVar 5))) (eIx (eIx (eVar 0) (eVar 4)) (eVar 5)))) [5]) aNil)))
  (sRet (eC (.bool false)))
  sNil))
  (sRet (eB (tCmp dEq (eOp dAdd (eCB (d1 dSum) (aCons (eVar 1) aNil)) (eCB (d1 dSum) (aCons (eVar 2) aNil))) (eIx (eCall 1 den_best_fit (aCons (eVar 0) aNil)) (eC (.int 0)))))))))
variable {n : Nat} {c : Nat → Nat → Int} {f g : Nat → Int}
theorem all_bools (f : Nat → Bool) : dAll (.list ((List.range n).map fun k => .bool (f k))) = some (.bool ((List.range n).all f)) := by
  have := dAll_ok ((List.range n).map f)
  rw [List.map_map, List.all_map] at this
  exact this
theorem dAny_ok (l : List Bool) : dAny (.list (l.map PyData.bool)) = some (.bool (l.any id)) := by
  simp [dAny, bools_map]
theorem any_bools (f : Nat → Bool) : dAny (.list ((List.range n).map fun k => .bool (f k))) = some (.bool ((List.range n).any f)) := by
  have := dAny_ok ((List.range n).map f)
  rw [List.map_map, List.any_map] at this
  exact this
theorem are_integers_ok (hn : n ≤ 100) : den_are_integers [trow n f, nat n] = some (.bool true) := by
  refine dfun_wp rfl ?_
  simp only [List.map_cons, List.map_nil, List.replicate_succ, List.replicate_zero, List.nil_append, List.cons_append, List.append_nil, Nat.reduceSub, Nat.reduceAdd, setsD, zeros, stt, setsO, setsJ, List.foldl_cons, List.foldl_nil, List.set_cons_zero, List.set_cons_succ, demote]
  refine wp_seq (wp_pass ?_ ?_)
  · have e : tCmp dNe (eCB (d1 dLen) (aCons (eVar 0) aNil)) (eVar 1) [some (trow n f), some (nat n), none] = some false := by
      simp only [tCmp_a, eCB_a, aCons_a, aNil_a, eVar_0, eVar_s, o2_ss, o1_s, d1_1, trow_len, nat, dNe_i, decide_true, Bool.not_true]
    unfold tOrD
    rw [e]
    rfl
  refine wp_ret (d := .bool true) ?_ rfl
  rw [eCB_a, aCons_a, aNil_a]
  rw [eLc_of (fun k => .int (f k)) (fun _ => .bool true) (l := List.range n) rfl (by rw [List.length_range]; omega) fun k hk => ⟨[(2, .int (f k))], rfl, rfl⟩]
  rw [o2_ss, o1_s, d1_1, all_bools]
  simp
def jrow (n : Nat) (c : Nat → Nat → Int) (f g : Nat → Int) (i : Nat) : Bool := !(List.range n).any fun j => decide (c i j < f i + g j)
def jpb (n : Nat) (c : Nat → Nat → Int) (f g : Nat → Int) (m : Int) : Bool := (List.range n).all (jrow n c f g) && decide (rsum f n + rsum g n = m)
theorem cSum_trow (f : Nat → Int) : dSum (trow n f) = some (.int (rsum f n)) := K52.cSum_row (n := n) (c := f)
theorem judge_prices_ok (h1 : 1 ≤ n) (hn : n ≤ 5) {o : List Nat} (hb : den_best_fit [tb n c] = some (co (pc c) o)) : den_judge_prices [tb n c, trow n f, trow n g] = some (.bool (jpb n c f g (pc c o))) := by
  have i1 := are_integers_ok (f := f) (n := n) (by omega)
  have i2 := are_integers_ok (f := g) (n := n) (by omega)
  refine dfun_wp rfl ?_
  simp only [List.map_cons, List.map_nil, List.replicate_succ, List.replicate_zero, List.nil_append, List.cons_append, List.append_nil, Nat.reduceSub, Nat.reduceAdd, setsD, zeros, stt, setsO, setsJ, List.foldl_cons, List.foldl_nil, List.set_cons_zero, List.set_cons_succ, demote]
  refine wp_seq (wp_set (d := nat n) ?_ rfl ?_)
  · rw [eCB_a, aCons_a, aNil_a, eVar_0, o2_ss, o1_s, d1_1, tb_len]
    rfl
  simp only [List.map_cons, List.map_nil, List.replicate_succ, List.replicate_zero, List.nil_append, List.cons_append, List.append_nil, Nat.reduceSub, Nat.reduceAdd, setsD, zeros, stt, setsO, setsJ, List.foldl_cons, List.foldl_nil, List.set_cons_zero, List.set_cons_succ, demote]
  refine wp_seq (wp_pass ?_ ?_)
  · have e1 : eCall 2 den_are_integers (aCons (eVar 1) (aCons (eVar 3) aNil)) [some (tb n c), some (trow n f), some (trow n g), some (nat n), none, none] = some (.bool true) := by
      simp only [eCall_2, eVar_0, eVar_s, o1_s]
      exact i1
    have e2 : eCall 2 den_are_integers (aCons (eVar 2) (aCons (eVar 3) aNil)) [some (tb n c), some (trow n f), some (trow n g), some (nat n), none, none] = some (.bool true) := by
      simp only [eCall_2, eVar_0, eVar_s, o1_s]
      exact i2
    unfold tOrD tNotD tTru
    rw [e1, e2]
    rfl
  refine wp_seq (wp_for (ds := (List.range n).map nat) (fun k s' => ∃ x4, s' = ([some (tb n c), some (trow n f), some (trow n g), some (nat n), x4, none], [0, 0, 0, 0, 0, 0]) ∧ ∀ i < k, jrow n c f g i = true) (range1_nat (n := n) rfl (by omega)) ⟨none, rfl, fun i hi => by omega⟩ (fun k d s' hd hs => ?_) fun s' hs => ?_)
  · obtain ⟨x4, rfl, hall⟩ := hs
    have hk : k < n := by
      have := (List.getElem?_eq_some_iff.mp hd).1
      simpa using this
    obtain rfl : d = nat k := by
      rw [List.getElem?_map, List.getElem?_range hk] at hd
      exact (Option.some.inj hd).symm
    refine ⟨[(4, nat k)], rfl, ?_⟩
    simp only [List.map_cons, List.map_nil, List.replicate_succ, List.replicate_zero, List.nil_append, List.cons_append, List.append_nil, Nat.reduceSub, Nat.reduceAdd, setsD, zeros, stt, setsO, setsJ, List.foldl_cons, List.foldl_nil, List.set_cons_zero, List.set_cons_succ, demote]
    have e : eCB (d1 dAny) (aCons (eLc (iRange1 (eVar 3)) (.nm 5) tTrue (eB (tCmp dGt (eOp dAdd (eIx (eVar 1) (eVar 4)) (eIx (eVar 2) (eVar 5))) (eIx (eIx (eVar 0) (eVar 4)) (eVar 5)))) [5]) aNil) [some (tb n c), some (trow n f), some (trow n g), some (nat n), some (nat k), none] = some (.bool (!jrow n c f g k)) := by
      rw [eCB_a, aCons_a, aNil_a]
      rw [eLc_of nat (fun j => .bool (decide (c k j < f k + g j))) (l := List.range n) (range1_nat (n := n) rfl (by omega)) (by rw [List.length_range]; omega) fun j hj => ⟨[(5, nat j)], rfl, ?_⟩]
      · rw [o2_ss, o1_s, d1_1, any_bools]
        unfold jrow
        rw [Bool.not_not]
      · have hj := List.mem_range.mp hj
        have a1 := trow_at (f := f) hk
        have a2 := trow_at (f := g) hj
        have a3 := tb_at (c := c) hk
        have a4 := trow_at (f := c k) hj
        have t : tCmp dGt (eOp dAdd (eIx (eVar 1) (eVar 4)) (eIx (eVar 2) (eVar 5))) (eIx (eIx (eVar 0) (eVar 4)) (eVar 5)) [some (tb n c), some (trow n f), some (trow n g), some (nat n), some (nat k), some (nat j)] = some (decide (c k j < f k + g j)) := by
          simp only [tCmp_a, eOp_a, eIx_a, eVar_0, eVar_s, o2_ss, a1, a2, a3, a4, dAdd_i, dGt_i]
        have t' : tCmp dGt (eOp dAdd (eIx (eVar 1) (eVar 4)) (eIx (eVar 2) (eVar 5))) (eIx (eIx (eVar 0) (eVar 4)) (eVar 5)) (setsD (wipeD [some (tb n c), some (trow n f), some (trow n g), some (nat n), some (nat k), none] [5]) [(5, nat j)]) = some (decide (c k j < f k + g j)) := t
        unfold eB
        rw [t']
        rfl
    refine wp_if (t := !jrow n c f g k) ?_ (fun ht => ?_) fun hf => ?_
    · unfold tTru
      rw [e]
      rfl
    · refine wp_ret (d := .bool false) rfl ?_
      have : jpb n c f g (pc c o) = false := by
        unfold jpb
        have : (List.range n).all (jrow n c f g) = false := by
          rw [List.all_eq_false]
          exact ⟨k, List.mem_range.mpr hk, by simpa using ht⟩
        rw [this]
        rfl
      rw [this]
    · refine wp_nil ⟨some (nat k), rfl, fun i hi => ?_⟩
      by_cases z : i = k
      · rw [z]; simpa using hf
      · exact hall i (by omega)
  · obtain ⟨x4, rfl, hall⟩ := hs
    rw [List.length_map, List.length_range] at hall
    refine wp_ret (d := .bool (jpb n c f g (pc c o))) ?_ rfl
    have ha : (List.range n).all (jrow n c f g) = true := by
      rw [List.all_eq_true]
      intro i hi
      exact hall i (List.mem_range.mp hi)
    have e1 : eIx (eCall 1 den_best_fit (aCons (eVar 0) aNil)) (eC (.int 0)) [some (tb n c), some (trow n f), some (trow n g), some (nat n), x4, none] = some (.int (pc c o)) := by
      have e0 : eCall 1 den_best_fit (aCons (eVar 0) aNil) [some (tb n c), some (trow n f), some (trow n g), some (nat n), x4, none] = some (co (pc c) o) := by
        simp only [eCall_1, eVar_0, o1_s]
        exact hb
      rw [eIx_a, e0, eC_a, o2_ss]
      rfl
    have t : tCmp dEq (eOp dAdd (eCB (d1 dSum) (aCons (eVar 1) aNil)) (eCB (d1 dSum) (aCons (eVar 2) aNil))) (eIx (eCall 1 den_best_fit (aCons (eVar 0) aNil)) (eC (.int 0))) [some (tb n c), some (trow n f), some (trow n g), some (nat n), x4, none] = some (decide (rsum f n + rsum g n = pc c o)) := by
      rw [tCmp_a, e1]
      simp only [eOp_a, eCB_a, aCons_a, aNil_a, eVar_0, eVar_s, o2_ss, o1_s, d1_1, cSum_trow, dAdd_i, dEq_i]
    unfold eB
    rw [t]
    unfold jpb
    rw [ha]
    rfl
end Fit
end
section
set_option Elab.async false
set_option linter.all false
set_option maxRecDepth 10000
namespace K50
open DS PySem K27 Fit
open K71 (wp_forB rep_any rI rI_rt smI)
open K52 (tq tq_flat den_as_ratio den_is_whole den_is_ratio den_is_ratio_row is_ratio_row_ok as_int as_rt cSum_row SmI num_of)
open Lib hiding den__law_sets law_sets_ok pl
def den_least_leads : Fn := dfun 9 2 (sSeq (sSet 2 0 (eCB (d1 dLen) (aCons (eVar 1) aNil)) [])
  (sSeq (sSet 3 1 (eOp dMul (eLst (aCons (eC (.int 0)) aNil)) (eVar 2)) (([] ++ []) ++ [(2, 1)]))
  (sSeq (sFor (iRange1 (eVar 2)) [] (.nm 4)
  (sSeq (sSet 5 0 (eVar 3) [(3, 0)])
  (sSeq (sSet 3 1 (eLst aNil) [])
  (sFor (iRange1 (eVar 2)) [] (.nm 6)
  (sSeq (sSet 7 0 (eLc (iRange1 (eVar 2)) (.nm 8) tTrue (eOp dSub (eOp dAdd (eIx (eVar 5) (eVar 8)) (eIx (eIx (eVar 0) (eVar 6)) (eIx (eVar 1) (eVar 8)))) (eIx (eIx (eVar 0) (eVar 8)) (eIx (eVar 1) (eVar 8)))) [8]) ([] ++ (([(5, 2)] ++ [(0, 3)]) ++ [(0, 3)])))
  (sApp 3 (eCB (d1 dMax1) (aCons (eVar 7) aNil)) []))))))
  (sRet (eVar 3)))))
variable {n : Nat} {w : Nat → Nat → Int} {o : List Nat}
theorem maxD_int : ∀ (xs : List Int) (x : Int), PySem.W.maxD (.int x) (xs.map PyData.int) = .int (imx x xs)
  | [], _ => rfl
  | y :: xs, x => by
    show PySem.W.maxD (if PySem.W.dataLt (.int x) (.int y) = true then .int y else .int x) (xs.map PyData.int) = .int (imx (if x < y then y else x) xs)
    rw [PySem.W.dataLt_int]
    by_cases h : x < y
    · rw [if_pos h, if_pos (decide_eq_true h)]; exact maxD_int xs y
    · rw [if_neg h, if_neg (by simpa using h)]; exact maxD_int xs x
theorem dMax1_row (h1 : 1 ≤ n) (f : Nat → Int) : dMax1 (.list ((List.range n).map fun k => .int (f k))) = some (.int (mxr n f)) := by
  have e : ((List.range n).map fun k => PyData.int (f k)) = ((List.range n).map f).map PyData.int := by rw [List.map_map]; rfl
  rw [e]
  unfold mxr
  cases h : (List.range n).map f with
  | nil =>
    have := congrArg List.length h
    simp at this
    omega
  | cons x xs =>
    dsimp only
    have m := maxD_int xs x
    have ok : allCmp (.int x :: xs.map PyData.int) = true := Lib.allCmp_ints (x :: xs)
    show bestOf PySem.W.maxD (.int x :: xs.map PyData.int) = _
    unfold bestOf
    simp only [m, ok]
    rfl
def lds (n : Nat) (w : Nat → Nat → Int) (o : List Nat) (k : Nat) : Nat → Int := jx n (lnk (lack 50 w) o) k
def askd (n : Nat) (w : Nat → Nat → Int) (o : List Nat) (L : Nat → Int) (p q : Nat) : Int := L q + w p (tk o q) - w q (tk o q)
theorem lds_succ (k p : Nat) : lds n w o (k + 1) p = mxr n (askd n w o (lds n w o k) p) := by
  show (mxr n fun q => jx n (lnk (lack 50 w) o) k q - lnk (lack 50 w) o q p) = _
  congr 1
  funext q
  unfold askd lds lnk lack
  omega
theorem lrow_snoc (f : Nat → Int) (k : Nat) : ((List.range k).map fun i => PyData.int (f i)) ++ [.int (f k)] = (List.range (k + 1)).map fun i => .int (f i) := by
  rw [List.range_succ, List.map_append]
  rfl
theorem asked_ok {ρ : PEnv} {iv : Nat} {L : Nat → Int} {fi : FE} {p : Nat} {vs : List Nat} (hn : n ≤ 5) (h : fi ρ = some (nat n)) {fe : FE} (he : ∀ q < n, fe ((wipeD ρ vs).set iv (some (nat q))) = some (.int (askd n w o L p q))) :
    eLc (iRange1 fi) (.nm iv) tTrue fe vs ρ = some (.list ((List.range n).map fun q => .int (askd n w o L p q))) :=
  eLc_of nat (fun q => .int (askd n w o L p q)) (l := List.range n) (range1_nat h (by omega)) (by rw [List.length_range]; omega) fun q hq => ⟨[(iv, nat q)], rfl, he q (List.mem_range.mp hq)⟩
theorem ask_term (hp : o.Perm (List.range n)) {L : Nat → Int} {p q : Nat} (h : p < n) (hq : q < n) :
    o2 (o2 (o2 (some (lrow n L)) (some (nat q)) dIx) (o2 (o2 (some (tb n w)) (some (nat p)) dIx) (o2 (some (nt o)) (some (nat q)) dIx) dIx) dAdd) (o2 (o2 (some (tb n w)) (some (nat q)) dIx) (o2 (some (nt o)) (some (nat q)) dIx) dIx) dSub = some (.int (askd n w o L p q)) := by
  have t := (own hp hq).2
  rw [o2_ss, o2_ss, o2_ss, o2_ss, lrow_at hq, tb_at h, nt_tk hp hq, tb_at hq, o2_ss, o2_ss, trow_at t, trow_at t, o2_ss, dAdd_i, o2_ss, dSub_i]
  rfl
theorem leads_walk (hp : o.Perm (List.range n)) (h1 : 1 ≤ n) (hn : n ≤ 5) : den_least_leads [tb n w, nt o] = some (lrow n (lds n w o n)) := by
  have hl : o.length = n := by have := hp.length_eq; simpa using this
  refine dfun_wp rfl ?_
  simp only [List.map_cons, List.map_nil, List.replicate_succ, List.replicate_zero, List.nil_append, List.cons_append, List.append_nil, Nat.reduceSub, Nat.reduceAdd, setsD, zeros, stt, setsO, setsJ, List.foldl_cons, List.foldl_nil, List.set_cons_zero, List.set_cons_succ, demote]
  refine wp_seq (wp_set (d := nat n) ?_ rfl ?_)
  · rw [eCB_a, aCons_a, aNil_a, eVar_s, eVar_0, o2_ss, o1_s, d1_1, Lib.nt_len, hl]
    rfl
  simp only [List.map_cons, List.map_nil, List.replicate_succ, List.replicate_zero, List.nil_append, List.cons_append, List.append_nil, Nat.reduceSub, Nat.reduceAdd, setsD, zeros, stt, setsO, setsJ, List.foldl_cons, List.foldl_nil, List.set_cons_zero, List.set_cons_succ, demote]
  refine wp_seq (wp_setL (L' := [0, 0, 0, 1, 0, 0, 0, 0, 0]) (d := lrow n (lds n w o 0)) ?_ rfl rfl ?_)
  · have := rep_any (x := .int 0) (m := n) (by omega)
    rw [eOp_a, eVar_s, eVar_s, eVar_0]
    rw [show eLst (aCons (eC (.int 0)) aNil) [some (tb n w), some (nt o), some (nat n), none, none, none, none, none, none] = some (.list [.int 0]) from rfl]
    exact this
  simp only [List.map_cons, List.map_nil, List.replicate_succ, List.replicate_zero, List.nil_append, List.cons_append, List.append_nil, Nat.reduceSub, Nat.reduceAdd, setsD, zeros, stt, setsO, setsJ, List.foldl_cons, List.foldl_nil, List.set_cons_zero, List.set_cons_succ, demote]
  refine wp_seq (wp_for (ds := (List.range n).map nat) (fun k s' => ∃ x4 x5 x6 x7, s' = ([some (tb n w), some (nt o), some (nat n), some (lrow n (lds n w o k)), x4, x5, x6, x7, none], [0, 0, 0, 1, 0, 0, 0, 0, 0])) (range1_nat (n := n) rfl (by omega)) ⟨_, _, _, _, rfl⟩ (fun k d s' hd hs => ?_) fun s' hs => ?_)
  · obtain ⟨x4, x5, x6, x7, rfl⟩ := hs
    refine ⟨[(4, d)], rfl, ?_⟩
    simp only [List.map_cons, List.map_nil, List.replicate_succ, List.replicate_zero, List.nil_append, List.cons_append, List.append_nil, Nat.reduceSub, Nat.reduceAdd, setsD, zeros, stt, setsO, setsJ, List.foldl_cons, List.foldl_nil, List.set_cons_zero, List.set_cons_succ, demote]
    clear hd
    refine wp_seq (wp_setL (L' := [0, 0, 0, 0, 0, 0, 0, 0, 0]) (d := lrow n (lds n w o k)) rfl rfl rfl ?_)
    simp only [List.map_cons, List.map_nil, List.replicate_succ, List.replicate_zero, List.nil_append, List.cons_append, List.append_nil, Nat.reduceSub, Nat.reduceAdd, setsD, zeros, stt, setsO, setsJ, List.foldl_cons, List.foldl_nil, List.set_cons_zero, List.set_cons_succ, demote]
    refine wp_seq (wp_setL (L' := [0, 0, 0, 1, 0, 0, 0, 0, 0]) (d := .list []) rfl rfl rfl ?_)
    simp only [List.map_cons, List.map_nil, List.replicate_succ, List.replicate_zero, List.nil_append, List.cons_append, List.append_nil, Nat.reduceSub, Nat.reduceAdd, setsD, zeros, stt, setsO, setsJ, List.foldl_cons, List.foldl_nil, List.set_cons_zero, List.set_cons_succ, demote]
    refine wp_for (ds := (List.range n).map nat) (fun p s' => ∃ x6 x7, s' = ([some (tb n w), some (nt o), some (nat n), some (.list ((List.range p).map fun i => .int (lds n w o (k + 1) i))), some d, some (lrow n (lds n w o k)), x6, x7, none], [0, 0, 0, 1, 0, 0, 0, 0, 0])) (range1_nat (n := n) rfl (by omega)) ⟨x6, x7, rfl⟩ (fun p d' s' hd hs => ?_) fun s' hs => ?_
    · obtain ⟨y6, y7, rfl⟩ := hs
      have hpn : p < n := by
        have := (List.getElem?_eq_some_iff.mp hd).1
        simpa using this
      obtain rfl : d' = nat p := by
        rw [List.getElem?_map, List.getElem?_range hpn] at hd
        exact (Option.some.inj hd).symm
      clear hd
      refine ⟨[(6, nat p)], rfl, ?_⟩
      simp only [List.map_cons, List.map_nil, List.replicate_succ, List.replicate_zero, List.nil_append, List.cons_append, List.append_nil, Nat.reduceSub, Nat.reduceAdd, setsD, zeros, stt, setsO, setsJ, List.foldl_cons, List.foldl_nil, List.set_cons_zero, List.set_cons_succ, demote]
      refine wp_seq (wp_setL (L' := [0, 0, 0, 1, 0, 0, 0, 0, 0]) (d := .list ((List.range n).map fun q => .int (askd n w o (lds n w o k) p q))) ?_ rfl rfl ?_)
      · exact asked_ok hn rfl fun q hq => ask_term hp hpn hq
      simp only [List.map_cons, List.map_nil, List.replicate_succ, List.replicate_zero, List.nil_append, List.cons_append, List.append_nil, Nat.reduceSub, Nat.reduceAdd, setsD, zeros, stt, setsO, setsJ, List.foldl_cons, List.foldl_nil, List.set_cons_zero, List.set_cons_succ, demote]
      refine wp_app (d := .int (lds n w o (k + 1) p)) ?_ rfl rfl (by rw [List.length_map, List.length_range]; omega) rfl ⟨some (nat p), some (.list ((List.range n).map fun q => .int (askd n w o (lds n w o k) p q))), ?_⟩
      · rw [eCB_a, aCons_a, aNil_a]
        show o1 (o2 (some (PyData.list ((List.range n).map fun q => PyData.int (askd n w o (lds n w o k) p q)))) (some []) fun d ds => some (d :: ds)) (d1 dMax1) = _
        rw [o2_ss, o1_s, d1_1, dMax1_row h1, lds_succ]
      · simp only [List.map_cons, List.map_nil, List.replicate_succ, List.replicate_zero, List.nil_append, List.cons_append, List.append_nil, Nat.reduceSub, Nat.reduceAdd, setsD, zeros, stt, setsO, setsJ, List.foldl_cons, List.foldl_nil, List.set_cons_zero, List.set_cons_succ, demote]
        rw [lrow_snoc]
    · obtain ⟨y6, y7, rfl⟩ := hs
      rw [List.length_map, List.length_range]
      exact ⟨some d, some (lrow n (lds n w o k)), y6, y7, rfl⟩
  · obtain ⟨x4, x5, x6, x7, rfl⟩ := hs
    rw [List.length_map, List.length_range]
    exact wp_ret rfl rfl
end K50
end
section
set_option Elab.async false
set_option linter.all false
set_option maxRecDepth 10000
namespace K50
open DS PySem K27 Fit
open K71 (wp_forB rep_any rI rI_rt smI)
open K24 (set_done all_done)
open K52 (tq tq_flat den_parted parted_ok den_as_ratio den_is_whole den_is_ratio den_is_ratio_row is_ratio_row_ok as_int as_rt cSum_row SmI num_of)
open Lib hiding den__law_sets law_sets_ok pl
def den_widest_plan : Fn := dfun 10 2 (sSeq (sSet 2 0 (eCB (d1 dLen) (aCons (eVar 0) aNil)) [])
  (sSeq (sSet 3 0 (eCall 1 den_best_rooms (aCons (eVar 0) aNil)) ([(0, 0)] ++ []))
  (sSeq (sSet 4 0 (eCall 2 den_least_leads (aCons (eVar 0) (aCons (eVar 3) aNil))) ([(0, 0)] ++ ([(3, 0)] ++ [])))
  (sSeq (sSet 7 0 (eLc (iEnumD (eVar 3)) (.tp [(.nm 5), (.nm 6)]) tTrue (eIx (eIx (eVar 0) (eVar 5)) (eVar 6)) [5, 6]) ([(3, 1)] ++ [(0, 2)]))
  (sSeq (sSet 8 0 (eCall 2 den_parted (aCons (eCall 2 den_minus (aCons (eTup (aCons (eOp dSub (eCB (d1 dSum) (aCons (eVar 7) aNil)) (eCB (d1 dSum) (aCons (eVar 4) aNil))) (aCons (eC (.int 1)) aNil))) (aCons (eCall 1 den_as_ratio (aCons (eVar 1) aNil)) aNil))) (aCons (eTup (aCons (eVar 2) (aCons (eC (.int 1)) aNil))) aNil))) (((([] ++ []) ++ ([] ++ [])) ++ (([(1, 0)] ++ []) ++ [])) ++ (([(2, 0)] ++ ([] ++ [])) ++ [])))
  (sSeq (sSet 9 1 (eOp dMul (eLst (aCons (eVar 8) aNil)) (eVar 2)) (([(8, 0)] ++ []) ++ [(2, 1)]))
  (sSeq (sFor (iEnumD (eVar 3)) [(3, 0)] (.tp [(.nm 5), (.nm 6)])
  (sPut 9 (eVar 6) (eCall 2 den_minus (aCons (eTup (aCons (eOp dSub (eIx (eVar 7) (eVar 5)) (eIx (eVar 4) (eVar 5))) (aCons (eC (.int 1)) aNil))) (aCons (eVar 8) aNil))) ((([(7, 2)] ++ [(4, 2)]) ++ ([] ++ [])) ++ ([(8, 0)] ++ []))))
  (sRet (eTup (aCons (eVar 3) (aCons (eCB (d1 dTuple) (aCons (eVar 9) aNil)) (aCons (eVar 8) aNil))))))))))))
variable {n : Nat} {w : Nat → Nat → Int} {o : List Nat} {rent : Int}
structure Wt (n : Nat) (w : Nat → Nat → Int) (rent : Int) : Prop where
  one : 1 ≤ n
  four : n ≤ 4
  bd : ∀ i < n, ∀ j < n, 0 ≤ w i j ∧ w i j ≤ 50
  r : 0 ≤ rent ∧ rent ≤ 120
theorem Wt.five (h : Wt n w rent) : n ≤ 5 := by have := h.four; omega
theorem lds_bd (h : Wt n w rent) (hp : o.Perm (List.range n)) : ∀ k p, p < n → 0 ≤ lds n w o k p ∧ lds n w o k p ≤ 50 * k
  | 0, p, _ => by simp [lds, jx]
  | k + 1, p, hpn => by
    rw [lds_succ]
    obtain ⟨⟨q, hq, e⟩, h2⟩ := mxr_spec h.one (askd n w o (lds n w o k) p)
    have b1 := lds_bd h hp k q hq
    have b2 := lds_bd h hp k p hpn
    have b3 := h2 p hpn
    have w1 := h.bd p hpn _ (own hp hq).2
    have w2 := h.bd q hq _ (own hp hq).2
    rw [e] at b3 ⊢
    unfold askd at b3 ⊢
    omega
theorem sum_bd {f : Nat → Int} {B : Int} : ∀ l : List Nat, (∀ i ∈ l, 0 ≤ f i ∧ f i ≤ B) → 0 ≤ (l.map f).sum ∧ (l.map f).sum ≤ l.length * B
  | [], _ => by simp
  | a :: l, h => by
    have h1 := sum_bd l fun i hi => h i (.tail _ hi)
    have h2 := h a (.head _)
    rw [List.map_cons, List.sum_cons, List.length_cons]
    have : ((l.length + 1 : Nat) : Int) * B = l.length * B + B := by
      rw [show ((l.length + 1 : Nat) : Int) = (l.length : Int) + 1 by omega, Int.add_mul, Int.one_mul]
    omega
theorem cost_bd (h : Wt n w rent) (hp : o.Perm (List.range n)) : 0 ≤ cost n w o ∧ cost n w o ≤ 200 := by
  have := sum_bd (f := fun i => w i (tk o i)) (B := 50) (List.range n) fun i hi => h.bd i (List.mem_range.mp hi) _ (own hp (List.mem_range.mp hi)).2
  rw [List.length_range] at this
  have h4 := h.four
  unfold cost
  omega
def lsum (n : Nat) (w : Nat → Nat → Int) (o : List Nat) : Int := ((List.range n).map (lds n w o n)).sum
theorem lsum_bd (h : Wt n w rent) (hp : o.Perm (List.range n)) : 0 ≤ lsum n w o ∧ lsum n w o ≤ 800 := by
  have h4 := h.four
  have := sum_bd (f := lds n w o n) (B := 200) (List.range n) fun i hi => by
    have := lds_bd h hp n i (List.mem_range.mp hi)
    omega
  rw [List.length_range] at this
  unfold lsum
  omega
def gnn (n : Nat) (w : Nat → Nat → Int) (o : List Nat) (rent : Int) : Rat := ((cost n w o - lsum n w o : Int) - (rent : Rat)) / ((n : Int) : Rat)
theorem gnn_sm (h : Wt n w rent) (hp : o.Perm (List.range n)) : Sm 40 (gnn n w o rent) := by
  have b1 := cost_bd h hp
  have b2 := lsum_bd h hp
  have b3 := h.r
  have b4 := h.one
  have b5 := h.four
  have s1 : Sm 10 ((cost n w o - lsum n w o : Int) : Rat) := smI (by omega) (by omega)
  have s2 : Sm 10 (rent : Rat) := smI (by omega) (by omega)
  have s3 := Sm.sub s1 s2 (by omega) (by omega) (by omega)
  exact (parted_ok (m := (n : Int)) s3 (by omega) (by omega) (by omega) (by omega)).2.mono (by omega)
theorem wpr_sm (h : Wt n w rent) (hp : o.Perm (List.range n)) {r : Nat} (hr : r < n) : Sm 60 (wpr w o (lds n w o n) (gnn n w o rent) r) := by
  obtain ⟨w1, w2⟩ := own' hp hr
  have b1 := lds_bd h hp n _ w1
  have b2 := h.bd _ w1 r hr
  have b5 := h.four
  have s1 : Sm 10 ((w (o.idxOf r) r - lds n w o n (o.idxOf r) : Int) : Rat) := smI (by omega) (by omega)
  exact (Sm.sub s1 (gnn_sm h hp) (by omega) (by omega) (by omega)).mono (by omega)
theorem plan_ok (h : Wt n w rent) (hb : den_best_rooms [tb n w] = some (nt o)) (hp : o.Perm (List.range n)) : den_widest_plan [tb n w, .int rent] = some (.tuple [nt o, tq n (wpr w o (lds n w o n) (gnn n w o rent)), rt (gnn n w o rent)]) := by
  have hl : o.length = n := by have := hp.length_eq; simpa using this
  have hld := leads_walk (w := w) hp h.one h.five
  have b1 := cost_bd h hp
  have b2 := lsum_bd h hp
  have b3 := h.r
  have b4 := h.one
  have b5 := h.four
  refine dfun_wp rfl ?_
  simp only [List.map_cons, List.map_nil, List.replicate_succ, List.replicate_zero, List.nil_append, List.cons_append, List.append_nil, Nat.reduceSub, Nat.reduceAdd, setsD, zeros, stt, setsO, setsJ, List.foldl_cons, List.foldl_nil, List.set_cons_zero, List.set_cons_succ, demote]
  refine wp_seq (wp_set (d := nat n) ?_ rfl ?_)
  · rw [eCB_a, aCons_a, aNil_a, eVar_0, o2_ss, o1_s, d1_1, tb_len]
    rfl
  simp only [List.map_cons, List.map_nil, List.replicate_succ, List.replicate_zero, List.nil_append, List.cons_append, List.append_nil, Nat.reduceSub, Nat.reduceAdd, setsD, zeros, stt, setsO, setsJ, List.foldl_cons, List.foldl_nil, List.set_cons_zero, List.set_cons_succ, demote]
  refine wp_seq (wp_set (d := nt o) ?_ (nt_flat o) ?_)
  · simp only [eCall_1, eVar_0, o1_s]
    exact hb
  simp only [List.map_cons, List.map_nil, List.replicate_succ, List.replicate_zero, List.nil_append, List.cons_append, List.append_nil, Nat.reduceSub, Nat.reduceAdd, setsD, zeros, stt, setsO, setsJ, List.foldl_cons, List.foldl_nil, List.set_cons_zero, List.set_cons_succ, demote]
  refine wp_seq (wp_setL (L' := [0, 0, 0, 0, 0, 0, 0, 0, 0, 0]) (d := lrow n (lds n w o n)) ?_ rfl rfl ?_)
  · simp only [eCall_2, eVar_0, eVar_s, o1_s]
    exact hld
  simp only [List.map_cons, List.map_nil, List.replicate_succ, List.replicate_zero, List.nil_append, List.cons_append, List.append_nil, Nat.reduceSub, Nat.reduceAdd, setsD, zeros, stt, setsO, setsJ, List.foldl_cons, List.foldl_nil, List.set_cons_zero, List.set_cons_succ, demote]
  refine wp_seq (wp_setL (L' := [0, 0, 0, 0, 0, 0, 0, 0, 0, 0]) (d := .list ((List.range n).map fun i => .int (w i (tk o i)))) ?_ rfl rfl ?_)
  · have e0 : iEnumD (eVar 3) [some (tb n w), some (.int rent), some (nat n), some (nt o), some (lrow n (lds n w o n)), none, none, none, none, none] = some ((List.range n).map fun i => .tuple [nat i, nat (tk o i)]) := by
      show some (enumD (o.map nat)) = _
      rw [enum_map nat o 0, hl]
      rfl
    refine eLc_of (fun i => .tuple [nat i, nat (tk o i)]) (fun i => .int (w i (tk o i))) (l := List.range n) e0 (by rw [List.length_range]; omega) fun i hi => ⟨[(5, nat i), (6, nat (tk o i))], rfl, ?_⟩
    have hi := List.mem_range.mp hi
    have a1 := tb_at (c := w) hi
    have a2 := trow_at (f := w i) (own hp hi).2
    show o2 (o2 (some (tb n w)) (some (nat i)) dIx) (some (nat (tk o i))) dIx = _
    rw [o2_ss, a1, o2_ss, a2]
  simp only [List.map_cons, List.map_nil, List.replicate_succ, List.replicate_zero, List.nil_append, List.cons_append, List.append_nil, Nat.reduceSub, Nat.reduceAdd, setsD, zeros, stt, setsO, setsJ, List.foldl_cons, List.foldl_nil, List.set_cons_zero, List.set_cons_succ, demote]
  have s1 : Sm 10 ((cost n w o - lsum n w o : Int) : Rat) := smI (by omega) (by omega)
  have s2 : Sm 10 (rent : Rat) := smI (by omega) (by omega)
  obtain ⟨q1, s3⟩ := minus_ok s1 s2 (by omega) (by omega) (by omega)
  obtain ⟨q2, s4⟩ := parted_ok (m := (n : Int)) s3 (by omega) (by omega) (by omega) (by omega)
  have sG := gnn_sm h hp
  refine wp_seq (wp_set (d := rt (gnn n w o rent)) ?_ rfl ?_)
  · have a1 : eTup (aCons (eOp dSub (eCB (d1 dSum) (aCons (eVar 7) aNil)) (eCB (d1 dSum) (aCons (eVar 4) aNil))) (aCons (eC (.int 1)) aNil)) [some (tb n w), some (.int rent), some (nat n), some (nt o), some (lrow n (lds n w o n)), none, none, some (.list ((List.range n).map fun i => .int (w i (tk o i)))), none, none] = some (rt ((cost n w o - lsum n w o : Int) : Rat)) := by
      refine eTup_2 (x := .int (cost n w o - lsum n w o)) (y := .int 1) ?_ rfl
      have z1 := sum_row (n := n) fun i => w i (tk o i)
      have z2 : dSum (lrow n (lds n w o n)) = some (.int (lsum n w o)) := sum_row (n := n) (lds n w o n)
      rw [eOp_a, eCB_a, aCons_a, aNil_a, eCB_a, aCons_a, aNil_a, eVar_s, eVar_s, eVar_s, eVar_s, eVar_s, eVar_s, eVar_s, eVar_0, o2_ss, o1_s, d1_1, z1]
      simp only [eVar_0, eVar_s, o2_ss, o1_s, d1_1, z2, dSub_i]
      rfl
    have a2 : eCall 1 den_as_ratio (aCons (eVar 1) aNil) [some (tb n w), some (.int rent), some (nat n), some (nt o), some (lrow n (lds n w o n)), none, none, some (.list ((List.range n).map fun i => .int (w i (tk o i)))), none, none] = some (rt (rent : Rat)) := by
      simp only [eCall_1, eVar_0, eVar_s, o1_s]
      exact as_int rent
    have a3 : eCall 2 den_minus (aCons (eTup (aCons (eOp dSub (eCB (d1 dSum) (aCons (eVar 7) aNil)) (eCB (d1 dSum) (aCons (eVar 4) aNil))) (aCons (eC (.int 1)) aNil))) (aCons (eCall 1 den_as_ratio (aCons (eVar 1) aNil)) aNil)) [some (tb n w), some (.int rent), some (nat n), some (nt o), some (lrow n (lds n w o n)), none, none, some (.list ((List.range n).map fun i => .int (w i (tk o i)))), none, none] = some (rt (((cost n w o - lsum n w o : Int) : Rat) - (rent : Rat))) := by
      rw [eCall_2, a1, a2]
      simp only [o1_s]
      exact q1
    have a4 : eTup (aCons (eVar 2) (aCons (eC (.int 1)) aNil)) [some (tb n w), some (.int rent), some (nat n), some (nt o), some (lrow n (lds n w o n)), none, none, some (.list ((List.range n).map fun i => .int (w i (tk o i)))), none, none] = some (rt ((n : Int) : Rat)) := eTup_2 rfl rfl
    rw [eCall_2, a3, a4]
    simp only [o1_s]
    exact q2
  simp only [List.map_cons, List.map_nil, List.replicate_succ, List.replicate_zero, List.nil_append, List.cons_append, List.append_nil, Nat.reduceSub, Nat.reduceAdd, setsD, zeros, stt, setsO, setsJ, List.foldl_cons, List.foldl_nil, List.set_cons_zero, List.set_cons_succ, demote]
  refine wp_seq (wp_setL (L' := [0, 0, 0, 0, 0, 0, 0, 0, 0, 1]) (d := .list ((List.range n).map fun i => if o.idxOf i < 0 then rt (wpr w o (lds n w o n) (gnn n w o rent) i) else rt (gnn n w o rent))) ?_ rfl rfl ?_)
  · have := rep_any (x := rt (gnn n w o rent)) (m := n) (by omega)
    simp only [Nat.not_lt_zero, if_false]
    rw [eOp_a]
    show o2 (some (PyData.list [rt (gnn n w o rent)])) (some (nat n)) dMul = _
    rw [o2_ss]
    exact this
  simp only [List.map_cons, List.map_nil, List.replicate_succ, List.replicate_zero, List.nil_append, List.cons_append, List.append_nil, Nat.reduceSub, Nat.reduceAdd, setsD, zeros, stt, setsO, setsJ, List.foldl_cons, List.foldl_nil, List.set_cons_zero, List.set_cons_succ, demote]
  refine wp_seq (wp_forV (ds := (List.range n).map fun i => .tuple [nat i, nat (tk o i)]) [5, 6] (fun k => [(9, .list ((List.range n).map fun i => if o.idxOf i < k then rt (wpr w o (lds n w o n) (gnn n w o rent) i) else rt (gnn n w o rent)))]) ?_ (fun p hp => ?_) (fun k d xs hd => ?_) fun xs => ?_)
  · show some (enumD (o.map nat)) = _
    rw [enum_map nat o 0, hl]
    rfl
  · simp only [List.mem_singleton] at hp
    subst hp
    rfl
  · have hk : k < n := by
      have := (List.getElem?_eq_some_iff.mp hd).1
      simpa using this
    obtain rfl : d = .tuple [nat k, nat (tk o k)] := by
      rw [List.getElem?_map, List.getElem?_range hk] at hd
      exact (Option.some.inj hd).symm
    clear hd
    obtain ⟨v1, v2⟩ := own hp hk
    have ha : o[k]? = some (tk o k) := by
      unfold tk
      rw [List.getD_eq_getElem?_getD, List.getElem?_eq_getElem (by omega)]
      rfl
    refine ⟨[(5, nat k), (6, nat (tk o k))], rfl, ?_⟩
    simp only [List.map_cons, List.map_nil, List.replicate_succ, List.replicate_zero, List.nil_append, List.cons_append, List.append_nil, Nat.reduceSub, Nat.reduceAdd, setsD, zeros, stt, setsO, setsJ, List.foldl_cons, List.foldl_nil, List.set_cons_zero, List.set_cons_succ, demote]
    have c1 := lds_bd h hp n k hk
    have c2 := h.bd k hk _ v2
    have t1 : Sm 10 ((w k (tk o k) - lds n w o n k : Int) : Rat) := smI (by omega) (by omega)
    obtain ⟨q3, _⟩ := minus_ok t1 sG (by omega) (by omega) (by omega)
    have hix : L2.ixN ((List.range n).map fun i => if o.idxOf i < k then rt (wpr w o (lds n w o n) (gnn n w o rent) i) else rt (gnn n w o rent)).length ((tk o k : Nat) : Int) = some (tk o k) := by
      rw [List.length_map, List.length_range]
      unfold L2.ixN
      rw [if_pos (by omega), if_pos (by omega)]
      rfl
    have ev : wpr w o (lds n w o n) (gnn n w o rent) (tk o k) = ((w k (tk o k) - lds n w o n k : Int) : Rat) - gnn n w o rent := by
      unfold wpr
      rw [v1]
    refine wp_put (d := rt (wpr w o (lds n w o n) (gnn n w o rent) (tk o k))) (m := tk o k) ?_ rfl rfl hix rfl rfl ?_
    · have x1 := map_ix (g := fun i => PyData.int (w i (tk o i))) hk
      have x2 := lrow_at (h := lds n w o n) hk
      rw [ev]
      have a1 : ∀ x9 : Option D, eTup (aCons (eOp dSub (eIx (eVar 7) (eVar 5)) (eIx (eVar 4) (eVar 5))) (aCons (eC (.int 1)) aNil)) [some (tb n w), some (.int rent), some (nat n), some (nt o), some (lrow n (lds n w o n)), some (nat k), some (nat (tk o k)), some (.list ((List.range n).map fun i => .int (w i (tk o i)))), some (rt (gnn n w o rent)), x9] = some (rt ((w k (tk o k) - lds n w o n k : Int) : Rat)) := fun x9 => by
        refine eTup_2 (x := .int (w k (tk o k) - lds n w o n k)) (y := .int 1) ?_ rfl
        show o2 (o2 (some (PyData.list ((List.range n).map fun i => PyData.int (w i (tk o i))))) (some (PyData.int (k : Int))) dIx) (o2 (some (lrow n (lds n w o n))) (some (nat k)) dIx) dSub = _
        rw [o2_ss, x1, o2_ss, x2, o2_ss, dSub_i]
      rw [eCall_2, a1]
      simp only [eVar_0, eVar_s, o1_s]
      exact q3
    · simp only [List.map_cons, List.map_nil, List.replicate_succ, List.replicate_zero, List.nil_append, List.cons_append, List.append_nil, Nat.reduceSub, Nat.reduceAdd, setsD, zeros, stt, setsO, setsJ, List.foldl_cons, List.foldl_nil, List.set_cons_zero, List.set_cons_succ, demote]
      rw [set_done (fun i => rt (wpr w o (lds n w o n) (gnn n w o rent) i)) (fun _ => rt (gnn n w o rent)) hp ha]
      exact Lib.cl rfl
  · simp only [List.map_cons, List.map_nil, List.replicate_succ, List.replicate_zero, List.nil_append, List.cons_append, List.append_nil, Nat.reduceSub, Nat.reduceAdd, setsD, zeros, stt, setsO, setsJ, List.foldl_cons, List.foldl_nil, List.set_cons_zero, List.set_cons_succ, demote]
    have := all_done (fun i => rt (wpr w o (lds n w o n) (gnn n w o rent) i)) (fun _ => rt (gnn n w o rent)) hp
    rw [hl] at this
    rw [List.length_map, List.length_range, this]
    refine wp_ret (d := .tuple [nt o, tq n (wpr w o (lds n w o n) (gnn n w o rent)), rt (gnn n w o rent)]) ?_ rfl
    exact eTup_3 rfl rfl rfl
end K50
end
section
set_option Elab.async false
set_option linter.all false
set_option maxRecDepth 10000
namespace K50
open DS PySem K27 Fit
open K71 (wp_forB rep_any rI rI_rt smI)
open K24 (set_done all_done)
open K52 (tq tq_flat den_parted parted_ok den_as_ratio den_is_whole den_is_ratio den_is_ratio_row is_ratio_row_ok as_int as_rt cSum_row SmI num_of)
open Lib hiding den__law_sets law_sets_ok pl
def den_total : Fn := dfun 3 1 (sSeq (sSet 1 0 (eTup (aCons (eC (.int 0)) (aCons (eC (.int 1)) aNil))) ([] ++ ([] ++ [])))
  (sSeq (sFor (iSeq (eVar 0)) [(0, 0)] (.nm 2)
  (sSet 1 0 (eCall 2 den_plus (aCons (eVar 1) (aCons (eVar 2) aNil))) ([(1, 0)] ++ ([(2, 0)] ++ []))))
  (sRet (eVar 1))))
def den_is_room_row : Fn := dfun 3 2 (sSeq (sIf (tOrD (tNotD (tTru (eIsi "tuple" (eVar 0)))) (tNotD (tTru (eCB (d1 dAll) (aCons (eLc (iSeq (eVar 0)) (.nm 2) tTrue (eCall 1 den_is_whole (aCons (eVar 2) aNil)) [2]) aNil)))))
  (sRet (eC (.bool false)))
  sNil)
  (sRet (eB (tCmp dEq (eCB (d1 dSortC) (aCons (eVar 0) aNil)) (eRg .list (eC (.int 0)) (eVar 1))))))
def den_is_fair_rents : Fn := dfun 11 4 (sSeq (sSet 4 0 (eCB (d1 dLen) (aCons (eVar 0) aNil)) [])
  (sSeq (sIf (tOrD (tNotD (tTru (eCall 2 den_is_room_row (aCons (eVar 2) (aCons (eVar 4) aNil))))) (tNotD (tTru (eCall 2 den_is_ratio_row (aCons (eVar 3) (aCons (eVar 4) aNil))))))
  (sRet (eC (.bool false)))
  sNil)
  (sSeq (sIf (tCmp dNe (eCall 1 den_total (aCons (eVar 3) aNil)) (eCall 1 den_as_ratio (aCons (eVar 1) aNil)))
  (sRet (eC (.bool false)))
  sNil)
  (sSeq (sFor (iEnumD (eVar 2)) [(2, 0)] (.tp [(.nm 5), (.nm 6)])
  (sSeq (sSet 7 0 (eLc (iZip2 (eIx (eVar 0) (eVar 5)) (eVar 3)) (.tp [(.nm 8), (.nm 9)]) tTrue (eCall 2 den_minus (aCons (eTup (aCons (eVar 8) (aCons (eC (.int 1)) aNil))) (aCons (eVar 9) aNil))) [8, 9]) (([(0, 2)] ++ [(3, 1)]) ++ (([(8, 0)] ++ ([] ++ [])) ++ ([(9, 0)] ++ []))))
  (sIf (tTru (eCB (d1 dAny) (aCons (eLc (iSeq (eVar 7)) (.nm 10) tTrue (eCall 2 den_is_less (aCons (eIx (eVar 7) (eVar 6)) (aCons (eVar 10) aNil))) [10]) aNil)))
  (sRet (eC (.bool false)))
  sNil)))
  (sRet (eC (.bool true)))))))
variable {n : Nat} {w : Nat → Nat → Int} {o t : List Nat} {rent : Int} {p : Nat → Rat}
theorem total_ok {m : Nat} (hn : n ≤ 5) (hm : 0 < m) (hm2 : m ≤ 500) (hs : ∀ k < n, Sm m (p k)) : den_total [tq n p] = some (rt (rsm p n)) ∧ Sm (n * (m + 1) + 1) (rsm p n) := by
  have sk : ∀ k, k ≤ n → Sm (k * (m + 1) + 1) (rsm p k) := fun k => by
    induction k with
    | zero =>
      intro _
      rw [Nat.zero_mul]
      show Sm 1 (0 : Rat)
      exact ⟨by decide, by decide⟩
    | succ k ih =>
      intro hk
      have h1 := ih (by omega)
      have h2 := hs k (by omega)
      have hb : k * (m + 1) ≤ 5 * 501 := Nat.mul_le_mul (by omega) (by omega)
      refine (Sm.add h1 h2 (by omega) hm (by omega)).mono ?_
      rw [Nat.succ_mul]
      omega
  refine ⟨?_, sk n (Nat.le_refl _)⟩
  refine dfun_wp rfl ?_
  simp only [List.map_cons, List.map_nil, List.replicate_succ, List.replicate_zero, List.nil_append, List.cons_append, List.append_nil, Nat.reduceSub, Nat.reduceAdd, setsD, zeros, stt, setsO, setsJ, List.foldl_cons, List.foldl_nil, List.set_cons_zero, List.set_cons_succ, demote]
  refine wp_seq (wp_set (d := rt 0) rfl rfl ?_)
  simp only [List.map_cons, List.map_nil, List.replicate_succ, List.replicate_zero, List.nil_append, List.cons_append, List.append_nil, Nat.reduceSub, Nat.reduceAdd, setsD, zeros, stt, setsO, setsJ, List.foldl_cons, List.foldl_nil, List.set_cons_zero, List.set_cons_succ, demote]
  refine wp_seq (wp_forV (ds := (List.range n).map fun k => rt (p k)) [2] (fun k => [(1, rt (rsm p k))]) rfl (fun q hq => ?_) (fun k d xs hd => ?_) fun xs => ?_)
  · simp only [List.mem_singleton] at hq
    subst hq
    rfl
  · have hk : k < n := by
      have := (List.getElem?_eq_some_iff.mp hd).1
      simpa using this
    obtain rfl : d = rt (p k) := by
      rw [List.getElem?_map, List.getElem?_range hk] at hd
      exact (Option.some.inj hd).symm
    have hb : k * (m + 1) ≤ 5 * 501 := Nat.mul_le_mul (by omega) (by omega)
    have q := (plus_ok (sk k (by omega)) (hs k hk) (by omega) hm (by omega)).1
    refine ⟨[(2, rt (p k))], rfl, ?_⟩
    simp only [List.map_cons, List.map_nil, List.replicate_succ, List.replicate_zero, List.nil_append, List.cons_append, List.append_nil, Nat.reduceSub, Nat.reduceAdd, setsD, zeros, stt, setsO, setsJ, List.foldl_cons, List.foldl_nil, List.set_cons_zero, List.set_cons_succ, demote]
    refine wp_set (d := rt (rsm p (k + 1))) ?_ rfl ?_
    · simp only [eCall_2, eVar_0, eVar_s, o1_s]
      exact q
    · simp only [List.map_cons, List.map_nil, List.replicate_succ, List.replicate_zero, List.nil_append, List.cons_append, List.append_nil, Nat.reduceSub, Nat.reduceAdd, setsD, zeros, stt, setsO, setsJ, List.foldl_cons, List.foldl_nil, List.set_cons_zero, List.set_cons_succ, demote]
      exact Lib.cl rfl
  · simp only [List.map_cons, List.map_nil, List.replicate_succ, List.replicate_zero, List.nil_append, List.cons_append, List.append_nil, Nat.reduceSub, Nat.reduceAdd, setsD, zeros, stt, setsO, setsJ, List.foldl_cons, List.foldl_nil, List.set_cons_zero, List.set_cons_succ, demote]
    rw [List.length_map, List.length_range]
    exact wp_ret rfl rfl
theorem room_row_ok (hp : t.Perm (List.range n)) (hn : n ≤ 5) : den_is_room_row [nt t, nat n] = some (.bool true) := by
  have hl : t.length = n := by have := hp.length_eq; simpa using this
  refine dfun_wp rfl ?_
  simp only [List.map_cons, List.map_nil, List.replicate_succ, List.replicate_zero, List.nil_append, List.cons_append, List.append_nil, Nat.reduceSub, Nat.reduceAdd, setsD, zeros, stt, setsO, setsJ, List.foldl_cons, List.foldl_nil, List.set_cons_zero, List.set_cons_succ, demote]
  refine wp_seq (wp_pass ?_ ?_)
  · have e : eCB (d1 dAll) (aCons (eLc (iSeq (eVar 0)) (.nm 2) tTrue (eCall 1 den_is_whole (aCons (eVar 2) aNil)) [2]) aNil) [some (nt t), some (nat n), none] = some (.bool true) := by
      rw [eCB_a, aCons_a, aNil_a]
      rw [eLc_of nat (fun _ => .bool true) (l := t) rfl (by omega) fun k hk => ⟨[(2, nat k)], rfl, by rw [eCall_1]; rfl⟩]
      rw [o2_ss, o1_s, d1_1]
      have := dAll_ok (t.map fun _ => true)
      rw [List.map_map, List.all_map] at this
      have h2 : (t.all (id ∘ fun _ => true)) = true := by simp
      rw [h2] at this
      exact this
    unfold tOrD tNotD tTru
    rw [e]
    rfl
  refine wp_ret (d := .bool true) ?_ rfl
  have hok : DS.rgOk 0 (n : Int) = true := by
    unfold DS.rgOk rngOk
    simp only [Bool.and_eq_true, decide_eq_true_eq]
    omega
  have er := K27.eRg_of (t := .list) (f := eC (.int 0)) (g := eVar 1) (ρ := [some (nt t), some (nat n), none]) (i := 0) (j := n) rfl rfl hok
  rw [show ((n : Int) - 0).toNat = n by omega, rngD_0] at er
  have es : eCB (d1 dSortC) (aCons (eVar 0) aNil) [some (nt t), some (nat n), none] = some (.list ((List.range n).map nat)) := by
    rw [eCB_a, aCons_a, aNil_a, eVar_0, o2_ss, o1_s, d1_1]
    exact K27.sorted_range hp
  have ne := K27.list_ne (List.range n)
  have eq : dEq (.list ((List.range n).map nat)) (.list ((List.range n).map nat)) = some true := by
    unfold dNe at ne
    unfold dEq
    split at ne
    · rename_i h
      rw [if_pos h]
      have := Option.some.inj ne
      simp only [Bool.not_eq_false'] at this
      rw [this]
    · cases ne
  unfold eB
  rw [tCmp_a, es, er, o2_ss, eq]
  rfl
def fro (n : Nat) (w : Nat → Nat → Int) (t : List Nat) (p : Nat → Rat) (i : Nat) : Bool := !(List.range n).any fun r => decide ((w i (tk t i) : Rat) - p (tk t i) < (w i r : Rat) - p r)
def frb (n : Nat) (w : Nat → Nat → Int) (rent : Int) (t : List Nat) (p : Nat → Rat) : Bool := decide (rsm p n = (rent : Rat)) && (List.range n).all (fro n w t p)
theorem fro_iff : (List.range n).all (fro n w t p) = true ↔ Fair n w t p := by
  rw [List.all_eq_true]
  constructor
  · intro h i hi r hr
    have := h i (List.mem_range.mpr hi)
    unfold fro at this
    rw [Bool.not_eq_true', List.any_eq_false] at this
    have := this r (List.mem_range.mpr hr)
    simp only [decide_eq_true_eq] at this
    exact Rat.not_lt.mp this
  · intro h i hi
    unfold fro
    rw [Bool.not_eq_true', List.any_eq_false]
    intro r hr
    simp only [decide_eq_true_eq]
    exact Rat.not_lt.mpr (h i (List.mem_range.mp hi) r (List.mem_range.mp hr))
theorem rt_ne (p q : Rat) : dNe (rt p) (rt q) = some (!decide (p = q)) := by
  have h := K52.rt_dEq p q
  unfold dEq at h
  unfold dNe
  split at h
  · rename_i hs
    rw [if_pos hs]
    rw [Option.some.inj h]
  · cases h
theorem is_fair_ok {m : Nat} (h : Wt n w rent) (hp : t.Perm (List.range n)) (hm : 10 ≤ m) (hm2 : m ≤ 400) (hs : ∀ k < n, Sm m (p k)) : den_is_fair_rents [tb n w, .int rent, nt t, tq n p] = some (.bool (frb n w rent t p)) := by
  have hl : t.length = n := by have := hp.length_eq; simpa using this
  have h5 := h.five
  have hr := h.r
  obtain ⟨tt, _⟩ := total_ok h5 (by omega) (by omega) hs
  have rr := room_row_ok hp h5
  have qr := is_ratio_row_ok (m := m) h5 (by omega) hs
  have qr : den_is_ratio_row [tq n p, nat n] = some (.bool true) := qr
  refine dfun_wp rfl ?_
  simp only [List.map_cons, List.map_nil, List.replicate_succ, List.replicate_zero, List.nil_append, List.cons_append, List.append_nil, Nat.reduceSub, Nat.reduceAdd, setsD, zeros, stt, setsO, setsJ, List.foldl_cons, List.foldl_nil, List.set_cons_zero, List.set_cons_succ, demote]
  refine wp_seq (wp_set (d := nat n) ?_ rfl ?_)
  · rw [eCB_a, aCons_a, aNil_a, eVar_0, o2_ss, o1_s, d1_1, tb_len]
    rfl
  simp only [List.map_cons, List.map_nil, List.replicate_succ, List.replicate_zero, List.nil_append, List.cons_append, List.append_nil, Nat.reduceSub, Nat.reduceAdd, setsD, zeros, stt, setsO, setsJ, List.foldl_cons, List.foldl_nil, List.set_cons_zero, List.set_cons_succ, demote]
  refine wp_seq (wp_pass ?_ ?_)
  · have e1 : eCall 2 den_is_room_row (aCons (eVar 2) (aCons (eVar 4) aNil)) [some (tb n w), some (.int rent), some (nt t), some (tq n p), some (nat n), none, none, none, none, none, none] = some (.bool true) := by
      simp only [eCall_2, eVar_0, eVar_s, o1_s]
      exact rr
    have e2 : eCall 2 den_is_ratio_row (aCons (eVar 3) (aCons (eVar 4) aNil)) [some (tb n w), some (.int rent), some (nt t), some (tq n p), some (nat n), none, none, none, none, none, none] = some (.bool true) := by
      simp only [eCall_2, eVar_0, eVar_s, o1_s]
      exact qr
    unfold tOrD tNotD tTru
    rw [e1, e2]
    rfl
  refine wp_seq ?_
  refine wp_if (t := !decide (rsm p n = (rent : Rat))) ?_ (fun ht => ?_) fun hf => ?_
  · have e1 : eCall 1 den_total (aCons (eVar 3) aNil) [some (tb n w), some (.int rent), some (nt t), some (tq n p), some (nat n), none, none, none, none, none, none] = some (rt (rsm p n)) := by
      simp only [eCall_1, eVar_0, eVar_s, o1_s]
      exact tt
    have e2 : eCall 1 den_as_ratio (aCons (eVar 1) aNil) [some (tb n w), some (.int rent), some (nt t), some (tq n p), some (nat n), none, none, none, none, none, none] = some (rt (rent : Rat)) := by
      simp only [eCall_1, eVar_0, eVar_s, o1_s]
      exact as_int rent
    rw [tCmp_a, e1, e2, o2_ss, rt_ne]
  · refine wp_ret (d := .bool false) rfl ?_
    have : decide (rsm p n = (rent : Rat)) = false := by simpa using ht
    unfold frb
    rw [this]
    rfl
  refine wp_nil ?_
  have hsum : decide (rsm p n = (rent : Rat)) = true := by simpa using hf
  have hen : enumD (t.map nat) = (List.range n).map fun i => .tuple [nat i, nat (tk t i)] := by
    rw [enum_map nat t 0, hl]
    rfl
  refine wp_seq (wp_for (ds := (List.range n).map fun i => .tuple [nat i, nat (tk t i)]) (fun k s' => ∃ x5 x6 x7 L, s' = ([some (tb n w), some (.int rent), some (nt t), some (tq n p), some (nat n), x5, x6, x7, none, none, none], L) ∧ (L = [0, 0, 0, 0, 0, 0, 0, 0, 0, 0, 0]) ∧ ∀ i < k, fro n w t p i = true) (by
    show some (enumD (t.map nat)) = _
    rw [hen]) ⟨none, none, none, _, rfl, rfl, fun i hi => by omega⟩ (fun k d s' hd hs' => ?_) fun s' hs' => ?_)
  · obtain ⟨x5, x6, x7, L, rfl, rfl, hall⟩ := hs'
    have hk : k < n := by
      have := (List.getElem?_eq_some_iff.mp hd).1
      simpa using this
    obtain rfl : d = .tuple [nat k, nat (tk t k)] := by
      rw [List.getElem?_map, List.getElem?_range hk] at hd
      exact (Option.some.inj hd).symm
    clear hd
    obtain ⟨v1, v2⟩ := own hp hk
    have sg : ∀ r < n, Sm (m + 8) ((w k r : Rat) - p r) ∧ den_minus [rt (w k r : Rat), rt (p r)] = some (rt ((w k r : Rat) - p r)) := fun r hr' => by
      have b := h.bd k hk r hr'
      have s1 : Sm 6 (w k r : Rat) := smI (by omega) (by omega)
      obtain ⟨q1, q2⟩ := minus_ok s1 (hs r hr') (by omega) (by omega) (by omega)
      exact ⟨q2.mono (by omega), q1⟩
    refine ⟨[(5, nat k), (6, nat (tk t k))], rfl, ?_⟩
    simp only [List.map_cons, List.map_nil, List.replicate_succ, List.replicate_zero, List.nil_append, List.cons_append, List.append_nil, Nat.reduceSub, Nat.reduceAdd, setsD, zeros, stt, setsO, setsJ, List.foldl_cons, List.foldl_nil, List.set_cons_zero, List.set_cons_succ, demote]
    refine wp_seq (wp_setL (L' := [0, 0, 0, 0, 0, 0, 0, 0, 0, 0, 0]) (d := .list ((List.range n).map fun r => rt ((w k r : Rat) - p r))) ?_ rfl rfl ?_)
    · have e1 : iZip2 (eIx (eVar 0) (eVar 5)) (eVar 3) [some (tb n w), some (.int rent), some (nt t), some (tq n p), some (nat n), some (nat k), some (nat (tk t k)), x7, none, none, none] = some ((List.range n).map fun r => .tuple [.int (w k r), rt (p r)]) := by
        have a1 := tb_at (c := w) hk
        unfold iZip2
        simp only [eIx_a, eVar_0, eVar_s, o2_ss, a1]
        show some ((((List.range n).map fun v => PyData.int (w k v)).zip ((List.range n).map fun k => rt (p k))).map fun p => PyData.tuple [p.1, p.2]) = _
        rw [List.zip_map', List.map_map]
        rfl
      refine eLc_of (fun r => .tuple [.int (w k r), rt (p r)]) (fun r => rt ((w k r : Rat) - p r)) e1 (by rw [List.length_range]; omega) fun r hr' => ⟨[(8, .int (w k r)), (9, rt (p r))], rfl, ?_⟩
      have q := (sg r (List.mem_range.mp hr')).2
      show eCall 2 den_minus (aCons (eTup (aCons (eVar 8) (aCons (eC (.int 1)) aNil))) (aCons (eVar 9) aNil)) [some (tb n w), some (.int rent), some (nt t), some (tq n p), some (nat n), some (nat k), some (nat (tk t k)), x7, some (.int (w k r)), some (rt (p r)), none] = _
      have x2 : eTup (aCons (eVar 8) (aCons (eC (.int 1)) aNil)) [some (tb n w), some (.int rent), some (nt t), some (tq n p), some (nat n), some (nat k), some (nat (tk t k)), x7, some (.int (w k r)), some (rt (p r)), none] = some (rt (w k r : Rat)) := eTup_2 rfl rfl
      rw [eCall_2, x2]
      simp only [eVar_0, eVar_s, o1_s]
      exact q
    simp only [List.map_cons, List.map_nil, List.replicate_succ, List.replicate_zero, List.nil_append, List.cons_append, List.append_nil, Nat.reduceSub, Nat.reduceAdd, setsD, zeros, stt, setsO, setsJ, List.foldl_cons, List.foldl_nil, List.set_cons_zero, List.set_cons_succ, demote]
    have e : eCB (d1 dAny) (aCons (eLc (iSeq (eVar 7)) (.nm 10) tTrue (eCall 2 den_is_less (aCons (eIx (eVar 7) (eVar 6)) (aCons (eVar 10) aNil))) [10]) aNil) [some (tb n w), some (.int rent), some (nt t), some (tq n p), some (nat n), some (nat k), some (nat (tk t k)), some (.list ((List.range n).map fun r => rt ((w k r : Rat) - p r))), none, none, none] = some (.bool (!fro n w t p k)) := by
      rw [eCB_a, aCons_a, aNil_a]
      rw [eLc_of (fun r => rt ((w k r : Rat) - p r)) (fun r => .bool (decide ((w k (tk t k) : Rat) - p (tk t k) < (w k r : Rat) - p r))) (l := List.range n) rfl (by rw [List.length_range]; omega) fun r hr' => ⟨[(10, rt ((w k r : Rat) - p r))], rfl, ?_⟩]
      · rw [o2_ss, o1_s, d1_1, any_bools]
        unfold fro
        rw [Bool.not_not]
      · have hr' := List.mem_range.mp hr'
        have q := is_less_ok (sg _ v2).1 (sg r hr').1 (by omega) (by omega) (by omega)
        have a1 := map_ix (g := fun r => rt ((w k r : Rat) - p r)) v2
        show eCall 2 den_is_less (aCons (eIx (eVar 7) (eVar 6)) (aCons (eVar 10) aNil)) [some (tb n w), some (.int rent), some (nt t), some (tq n p), some (nat n), some (nat k), some (nat (tk t k)), some (.list ((List.range n).map fun r => rt ((w k r : Rat) - p r))), none, none, some (rt ((w k r : Rat) - p r))] = _
        have x1 : eIx (eVar 7) (eVar 6) [some (tb n w), some (.int rent), some (nt t), some (tq n p), some (nat n), some (nat k), some (nat (tk t k)), some (.list ((List.range n).map fun r => rt ((w k r : Rat) - p r))), none, none, some (rt ((w k r : Rat) - p r))] = some (rt ((w k (tk t k) : Rat) - p (tk t k))) := a1
        rw [eCall_2, x1]
        simp only [eVar_0, eVar_s, o1_s]
        exact q
    refine wp_if (t := !fro n w t p k) ?_ (fun ht => ?_) fun hf => ?_
    · unfold tTru
      rw [e]
      rfl
    · refine wp_ret (d := .bool false) rfl ?_
      have : (List.range n).all (fro n w t p) = false := by
        rw [List.all_eq_false]
        exact ⟨k, List.mem_range.mpr hk, by simpa using ht⟩
      unfold frb
      rw [this, Bool.and_false]
    · refine wp_nil ⟨_, _, _, _, rfl, rfl, fun i hi => ?_⟩
      by_cases z : i = k
      · rw [z]; simpa using hf
      · exact hall i (by omega)
  · obtain ⟨x5, x6, x7, L, rfl, rfl, hall⟩ := hs'
    rw [List.length_map, List.length_range] at hall
    refine wp_ret (d := .bool true) rfl ?_
    have ha : (List.range n).all (fro n w t p) = true := by
      rw [List.all_eq_true]
      intro i hi
      exact hall i (List.mem_range.mp hi)
    unfold frb
    rw [hsum, ha]
    rfl
end K50
end
section
set_option Elab.async false
set_option linter.all false
set_option maxRecDepth 10000
namespace K50
open DS PySem K27 Fit
open K71 (wp_forB rep_any rI rI_rt smI)
open K24 (set_done all_done)
open K52 (tq tq_flat den_parted parted_ok den_as_ratio den_is_whole den_is_ratio den_is_ratio_row is_ratio_row_ok as_int as_rt cSum_row SmI num_of)
open Lib hiding den__law_sets law_sets_ok pl
def den_fair_rents : Fn := dfun 5 2 (sSeq (sTup (.tp [(.nm 2), (.nm 3), (.nm 4)]) (eCall 2 den_widest_plan (aCons (eVar 0) (aCons (eVar 1) aNil))) ([(0, 0)] ++ ([(1, 0)] ++ [])))
  (sRet (eTup (aCons (eVar 2) (aCons (eVar 3) aNil)))))
def den_widest_rents : Fn := dfun 5 2 (sSeq (sTup (.tp [(.nm 2), (.nm 3), (.nm 4)]) (eCall 2 den_widest_plan (aCons (eVar 0) (aCons (eVar 1) aNil))) ([(0, 0)] ++ ([(1, 0)] ++ [])))
  (sRet (eTup (aCons (eVar 3) (aCons (eVar 4) aNil)))))
def den__law_widest : Fn := dfun 12 3 (sSeq (sTup (.tp [(.nm 3), (.nm 4)]) (eTup (aCons (eCB (d1 dLen) (aCons (eVar 0) aNil)) (aCons (eIx (eVar 2) (eC (.int 1))) aNil))) ([] ++ ([(2, 1)] ++ [])))
  (sSeq (sSet 5 0 (eOp dMul (eLst (aCons (eC (.int 0)) aNil)) (eVar 3)) (([] ++ []) ++ [(3, 1)]))
  (sSeq (sFor (iRange1 (eVar 3)) [] (.nm 6)
  (sSeq (sSet 7 1 (eLst aNil) [])
  (sSeq (sFor (iRange1 (eVar 3)) [] (.nm 8)
  (sApp 7 (eCB (d1 dMax1) (aCons (eLc (iRange1 (eVar 3)) (.nm 11) tTrue (eOp dSub (eOp dAdd (eIx (eVar 5) (eVar 11)) (eIx (eIx (eVar 0) (eVar 8)) (eIx (eVar 4) (eVar 11)))) (eIx (eIx (eVar 0) (eVar 11)) (eIx (eVar 4) (eVar 11)))) [11]) aNil)) []))
  (sSet 5 0 (eVar 7) [(7, 0)]))))
  (sSeq (sSet 9 0 (eCall 2 den__law_ratio (aCons (eOp dSub (eOp dSub (eIx (eVar 2) (eC (.int 0))) (eVar 1)) (eCB (d1 dSum) (aCons (eVar 5) aNil))) (aCons (eVar 3) aNil))) ((([(2, 2)] ++ [(1, 1)]) ++ []) ++ ([(3, 0)] ++ [])))
  (sSeq (sSet 10 1 (eOp dMul (eLst (aCons (eTup (aCons (eC (.int 0)) (aCons (eC (.int 1)) aNil))) aNil)) (eVar 3)) ((([] ++ ([] ++ [])) ++ []) ++ [(3, 1)]))
  (sSeq (sFor (iRange1 (eVar 3)) [] (.nm 8)
  (sPut 10 (eIx (eVar 4) (eVar 8)) (eCall 2 den__law_add (aCons (eTup (aCons (eOp dSub (eIx (eIx (eVar 0) (eVar 8)) (eIx (eVar 4) (eVar 8))) (eIx (eVar 5) (eVar 8))) (aCons (eC (.int 1)) aNil))) (aCons (eTup (aCons (eUn dNeg (eIx (eVar 9) (eC (.int 0)))) (aCons (eIx (eVar 9) (eC (.int 1))) aNil))) aNil))) ((([(0, 3)] ++ [(5, 2)]) ++ ([] ++ [])) ++ (([] ++ ([(9, 1)] ++ [])) ++ []))))
  (sRet (eTup (aCons (eCB (d1 dTuple) (aCons (eVar 10) aNil)) (aCons (eVar 9) aNil))))))))))
variable {n : Nat} {w : Nat → Nat → Int} {o t : List Nat} {rent : Int} {p : Nat → Rat}
theorem tq_flat' (p : Nat → Rat) : flat (tq n p) = true := tq_flat
theorem flats_cons {d : D} {ds : List D} (h : flat d = true) (h' : flats ds = true) : flats (d :: ds) = true := by
  unfold flats
  rw [h, h']
  rfl
theorem flat3 {a b c : D} (ha : flat a = true) (hb : flat b = true) (hc : flat c = true) : flat (.tuple [a, b, c]) = true := by
  unfold flat
  exact flats_cons ha (flats_cons hb (flats_cons hc rfl))
theorem flat2 {a b : D} (ha : flat a = true) (hb : flat b = true) : flat (.tuple [a, b]) = true := by
  unfold flat
  exact flats_cons ha (flats_cons hb rfl)
theorem fair_rents_ok (h : Wt n w rent) (hb : den_best_rooms [tb n w] = some (nt o)) (hp : o.Perm (List.range n)) : den_fair_rents [tb n w, .int rent] = some (.tuple [nt o, tq n (wpr w o (lds n w o n) (gnn n w o rent))]) := by
  have q := plan_ok h hb hp
  refine dfun_wp rfl ?_
  simp only [List.map_cons, List.map_nil, List.replicate_succ, List.replicate_zero, List.nil_append, List.cons_append, List.append_nil, Nat.reduceSub, Nat.reduceAdd, setsD, zeros, stt, setsO, setsJ, List.foldl_cons, List.foldl_nil, List.set_cons_zero, List.set_cons_succ, demote]
  refine wp_seq (wp_tup (d := .tuple [nt o, tq n (wpr w o (lds n w o n) (gnn n w o rent)), rt (gnn n w o rent)]) (m := [(2, nt o), (3, tq n (wpr w o (lds n w o n) (gnn n w o rent))), (4, rt (gnn n w o rent))]) ?_ rfl (flat3 (nt_flat o) (tq_flat' _) rfl) ?_)
  · simp only [eCall_2, eVar_0, eVar_s, o1_s]
    exact q
  simp only [List.map_cons, List.map_nil, List.replicate_succ, List.replicate_zero, List.nil_append, List.cons_append, List.append_nil, Nat.reduceSub, Nat.reduceAdd, setsD, zeros, stt, setsO, setsJ, List.foldl_cons, List.foldl_nil, List.set_cons_zero, List.set_cons_succ, demote]
  exact wp_ret (eTup_2 rfl rfl) rfl
theorem widest_rents_ok (h : Wt n w rent) (hb : den_best_rooms [tb n w] = some (nt o)) (hp : o.Perm (List.range n)) : den_widest_rents [tb n w, .int rent] = some (.tuple [tq n (wpr w o (lds n w o n) (gnn n w o rent)), rt (gnn n w o rent)]) := by
  have q := plan_ok h hb hp
  refine dfun_wp rfl ?_
  simp only [List.map_cons, List.map_nil, List.replicate_succ, List.replicate_zero, List.nil_append, List.cons_append, List.append_nil, Nat.reduceSub, Nat.reduceAdd, setsD, zeros, stt, setsO, setsJ, List.foldl_cons, List.foldl_nil, List.set_cons_zero, List.set_cons_succ, demote]
  refine wp_seq (wp_tup (d := .tuple [nt o, tq n (wpr w o (lds n w o n) (gnn n w o rent)), rt (gnn n w o rent)]) (m := [(2, nt o), (3, tq n (wpr w o (lds n w o n) (gnn n w o rent))), (4, rt (gnn n w o rent))]) ?_ rfl (flat3 (nt_flat o) (tq_flat' _) rfl) ?_)
  · simp only [eCall_2, eVar_0, eVar_s, o1_s]
    exact q
  simp only [List.map_cons, List.map_nil, List.replicate_succ, List.replicate_zero, List.nil_append, List.cons_append, List.append_nil, Nat.reduceSub, Nat.reduceAdd, setsD, zeros, stt, setsO, setsJ, List.foldl_cons, List.foldl_nil, List.set_cons_zero, List.set_cons_succ, demote]
  exact wp_ret (eTup_2 rfl rfl) rfl
theorem law_widest_ok (h : Wt n w rent) (hp : o.Perm (List.range n)) : den__law_widest [tb n w, .int rent, .tuple [.int (cost n w o), nt o]] = some (.tuple [tq n (wpr w o (lds n w o n) (gnn n w o rent)), rt (gnn n w o rent)]) := by
  have hl : o.length = n := by have := hp.length_eq; simpa using this
  have b4 := h.one
  have b5 := h.four
  have hn := h.five
  refine dfun_wp rfl ?_
  simp only [List.map_cons, List.map_nil, List.replicate_succ, List.replicate_zero, List.nil_append, List.cons_append, List.append_nil, Nat.reduceSub, Nat.reduceAdd, setsD, zeros, stt, setsO, setsJ, List.foldl_cons, List.foldl_nil, List.set_cons_zero, List.set_cons_succ, demote]
  refine wp_seq (wp_tup (d := .tuple [nat n, nt o]) (m := [(3, nat n), (4, nt o)]) ?_ rfl (flat2 rfl (nt_flat o)) ?_)
  · refine eTup_2 ?_ rfl
    rw [eCB_a, aCons_a, aNil_a, eVar_0, o2_ss, o1_s, d1_1, tb_len]
    rfl
  simp only [List.map_cons, List.map_nil, List.replicate_succ, List.replicate_zero, List.nil_append, List.cons_append, List.append_nil, Nat.reduceSub, Nat.reduceAdd, setsD, zeros, stt, setsO, setsJ, List.foldl_cons, List.foldl_nil, List.set_cons_zero, List.set_cons_succ, demote]
  refine wp_seq (wp_setL (L' := [0, 0, 0, 0, 0, 0, 0, 0, 0, 0, 0, 0]) (d := lrow n (lds n w o 0)) ?_ rfl rfl ?_)
  · have := rep_any (x := .int 0) (m := n) (by omega)
    rw [eOp_a]
    show o2 (some (PyData.list [.int 0])) (some (nat n)) dMul = _
    rw [o2_ss]
    exact this
  simp only [List.map_cons, List.map_nil, List.replicate_succ, List.replicate_zero, List.nil_append, List.cons_append, List.append_nil, Nat.reduceSub, Nat.reduceAdd, setsD, zeros, stt, setsO, setsJ, List.foldl_cons, List.foldl_nil, List.set_cons_zero, List.set_cons_succ, demote]
  refine wp_seq (wp_for (ds := (List.range n).map nat) (fun k s' => ∃ x6 x7 x8, s' = ([some (tb n w), some (.int rent), some (.tuple [.int (cost n w o), nt o]), some (nat n), some (nt o), some (lrow n (lds n w o k)), x6, x7, x8, none, none, none], [0, 0, 0, 0, 0, 0, 0, 0, 0, 0, 0, 0])) (range1_nat (n := n) rfl (by omega)) ⟨_, _, _, rfl⟩ (fun k d s' hd hs => ?_) fun s' hs => ?_)
  · obtain ⟨x6, x7, x8, rfl⟩ := hs
    refine ⟨[(6, d)], rfl, ?_⟩
    simp only [List.map_cons, List.map_nil, List.replicate_succ, List.replicate_zero, List.nil_append, List.cons_append, List.append_nil, Nat.reduceSub, Nat.reduceAdd, setsD, zeros, stt, setsO, setsJ, List.foldl_cons, List.foldl_nil, List.set_cons_zero, List.set_cons_succ, demote]
    clear hd
    refine wp_seq (wp_setL (L' := [0, 0, 0, 0, 0, 0, 0, 1, 0, 0, 0, 0]) (d := .list []) rfl rfl rfl ?_)
    simp only [List.map_cons, List.map_nil, List.replicate_succ, List.replicate_zero, List.nil_append, List.cons_append, List.append_nil, Nat.reduceSub, Nat.reduceAdd, setsD, zeros, stt, setsO, setsJ, List.foldl_cons, List.foldl_nil, List.set_cons_zero, List.set_cons_succ, demote]
    refine wp_seq (wp_for (ds := (List.range n).map nat) (fun q s' => ∃ x8, s' = ([some (tb n w), some (.int rent), some (.tuple [.int (cost n w o), nt o]), some (nat n), some (nt o), some (lrow n (lds n w o k)), some d, some (.list ((List.range q).map fun i => .int (lds n w o (k + 1) i))), x8, none, none, none], [0, 0, 0, 0, 0, 0, 0, 1, 0, 0, 0, 0])) (range1_nat (n := n) rfl (by omega)) ⟨x8, rfl⟩ (fun q d' s' hd hs => ?_) fun s' hs => ?_)
    · obtain ⟨y8, rfl⟩ := hs
      have hq : q < n := by
        have := (List.getElem?_eq_some_iff.mp hd).1
        simpa using this
      obtain rfl : d' = nat q := by
        rw [List.getElem?_map, List.getElem?_range hq] at hd
        exact (Option.some.inj hd).symm
      clear hd
      refine ⟨[(8, nat q)], rfl, ?_⟩
      simp only [List.map_cons, List.map_nil, List.replicate_succ, List.replicate_zero, List.nil_append, List.cons_append, List.append_nil, Nat.reduceSub, Nat.reduceAdd, setsD, zeros, stt, setsO, setsJ, List.foldl_cons, List.foldl_nil, List.set_cons_zero, List.set_cons_succ, demote]
      refine wp_app (d := .int (lds n w o (k + 1) q)) ?_ rfl rfl (by rw [List.length_map, List.length_range]; omega) rfl ⟨some (nat q), ?_⟩
      · rw [eCB_a, aCons_a, aNil_a]
        rw [asked_ok (n := n) (w := w) (o := o) (L := lds n w o k) (p := q) hn rfl fun r hr => ask_term hp hq hr]
        rw [o2_ss, o1_s, d1_1, dMax1_row b4, lds_succ]
      · simp only [List.map_cons, List.map_nil, List.replicate_succ, List.replicate_zero, List.nil_append, List.cons_append, List.append_nil, Nat.reduceSub, Nat.reduceAdd, setsD, zeros, stt, setsO, setsJ, List.foldl_cons, List.foldl_nil, List.set_cons_zero, List.set_cons_succ, demote]
        rw [lrow_snoc]
    · obtain ⟨y8, rfl⟩ := hs
      rw [List.length_map, List.length_range]
      exact wp_setL (L' := [0, 0, 0, 0, 0, 0, 0, 0, 0, 0, 0, 0]) (d := lrow n (lds n w o (k + 1))) rfl rfl rfl ⟨some d, _, y8, rfl⟩
  obtain ⟨x6, x7, x8, rfl⟩ := hs
  rw [List.length_map, List.length_range]
  have sG := gnn_sm h hp
  refine wp_seq (wp_set (d := rt (gnn n w o rent)) ?_ rfl ?_)
  · have q := ratio_ok (a := cost n w o - rent - lsum n w o) (b := (n : Int)) (k := 10) (by omega) (by omega) (by omega)
    have e : Rat.divInt (cost n w o - rent - lsum n w o) (n : Int) = gnn n w o rent := by
      rw [Rat.divInt_eq_div]
      unfold gnn
      rw [Rat.intCast_sub, Rat.intCast_sub, Rat.intCast_sub]
      congr 1
      grind
    rw [e] at q
    have z2 : dSum (lrow n (lds n w o n)) = some (.int (lsum n w o)) := sum_row (n := n) (lds n w o n)
    have a1 : eOp dSub (eOp dSub (eIx (eVar 2) (eC (.int 0))) (eVar 1)) (eCB (d1 dSum) (aCons (eVar 5) aNil)) [some (tb n w), some (.int rent), some (.tuple [.int (cost n w o), nt o]), some (nat n), some (nt o), some (lrow n (lds n w o n)), x6, x7, x8, none, none, none] = some (.int (cost n w o - rent - lsum n w o)) := by
      rw [eOp_a, eOp_a, eCB_a, aCons_a, aNil_a]
      show o2 (o2 (some (PyData.int (cost n w o))) (some (PyData.int rent)) dSub) (o1 (o2 (some (lrow n (lds n w o n))) (some []) fun d ds => some (d :: ds)) (d1 dSum)) dSub = _
      rw [o2_ss, o2_ss, o1_s, d1_1, z2, dSub_i, o2_ss, dSub_i]
    rw [eCall_2, a1]
    simp only [eVar_0, eVar_s, o1_s]
    exact q
  simp only [List.map_cons, List.map_nil, List.replicate_succ, List.replicate_zero, List.nil_append, List.cons_append, List.append_nil, Nat.reduceSub, Nat.reduceAdd, setsD, zeros, stt, setsO, setsJ, List.foldl_cons, List.foldl_nil, List.set_cons_zero, List.set_cons_succ, demote]
  refine wp_seq (wp_setL (L' := [0, 0, 0, 0, 0, 0, 0, 0, 0, 0, 1, 0]) (d := .list ((List.range n).map fun i => if o.idxOf i < 0 then rt (wpr w o (lds n w o n) (gnn n w o rent) i) else rt 0)) ?_ rfl rfl ?_)
  · have := rep_any (x := rt 0) (m := n) (by omega)
    simp only [Nat.not_lt_zero, if_false]
    rw [eOp_a]
    show o2 (some (PyData.list [rt 0])) (some (nat n)) dMul = _
    rw [o2_ss]
    exact this
  simp only [List.map_cons, List.map_nil, List.replicate_succ, List.replicate_zero, List.nil_append, List.cons_append, List.append_nil, Nat.reduceSub, Nat.reduceAdd, setsD, zeros, stt, setsO, setsJ, List.foldl_cons, List.foldl_nil, List.set_cons_zero, List.set_cons_succ, demote]
  refine wp_seq (wp_forV (ds := (List.range n).map nat) [8] (fun k => [(10, .list ((List.range n).map fun i => if o.idxOf i < k then rt (wpr w o (lds n w o n) (gnn n w o rent) i) else rt 0))]) (range1_nat (n := n) rfl (by omega)) (fun p hp => ?_) (fun k d xs hd => ?_) fun xs => ?_)
  · simp only [List.mem_singleton] at hp
    subst hp
    rfl
  · have hk : k < n := by
      have := (List.getElem?_eq_some_iff.mp hd).1
      simpa using this
    obtain rfl : d = nat k := by
      rw [List.getElem?_map, List.getElem?_range hk] at hd
      exact (Option.some.inj hd).symm
    clear hd
    obtain ⟨v1, v2⟩ := own hp hk
    have ha : o[k]? = some (tk o k) := by
      unfold tk
      rw [List.getD_eq_getElem?_getD, List.getElem?_eq_getElem (by omega)]
      rfl
    refine ⟨[(8, nat k)], rfl, ?_⟩
    simp only [List.map_cons, List.map_nil, List.replicate_succ, List.replicate_zero, List.nil_append, List.cons_append, List.append_nil, Nat.reduceSub, Nat.reduceAdd, setsD, zeros, stt, setsO, setsJ, List.foldl_cons, List.foldl_nil, List.set_cons_zero, List.set_cons_succ, demote]
    have c1 := lds_bd h hp n k hk
    have c2 := h.bd k hk _ v2
    have t1 : Sm 10 ((w k (tk o k) - lds n w o n k : Int) : Rat) := smI (by omega) (by omega)
    have q3 := ladd_ok' t1 (K52.Sm.neg sG) (by omega) (by omega) (by omega)
    have hix : L2.ixN ((List.range n).map fun i => if o.idxOf i < k then rt (wpr w o (lds n w o n) (gnn n w o rent) i) else rt 0).length ((tk o k : Nat) : Int) = some (tk o k) := by
      rw [List.length_map, List.length_range]
      unfold L2.ixN
      rw [if_pos (by omega), if_pos (by omega)]
      rfl
    have ev : wpr w o (lds n w o n) (gnn n w o rent) (tk o k) = ((w k (tk o k) - lds n w o n k : Int) : Rat) + -gnn n w o rent := by
      unfold wpr
      rw [v1]
      grind
    have x1 := tb_at (c := w) hk
    have x2 := lrow_at (h := lds n w o n) hk
    have x3 := nt_tk hp hk
    have x4 := trow_at (f := w k) v2
    refine wp_put (d := rt (wpr w o (lds n w o n) (gnn n w o rent) (tk o k))) (x := ((tk o k : Nat) : Int)) (m := tk o k) ?_ rfl ?_ hix rfl rfl ?_
    · rw [ev]
      have a1 : ∀ x8 x10 : Option D, eTup (aCons (eOp dSub (eIx (eIx (eVar 0) (eVar 8)) (eIx (eVar 4) (eVar 8))) (eIx (eVar 5) (eVar 8))) (aCons (eC (.int 1)) aNil)) [some (tb n w), some (.int rent), some (.tuple [.int (cost n w o), nt o]), some (nat n), some (nt o), some (lrow n (lds n w o n)), x6, x7, some (nat k), some (rt (gnn n w o rent)), x10, none] = some (rt ((w k (tk o k) - lds n w o n k : Int) : Rat)) := fun x8 x10 => by
        refine eTup_2 (x := .int (w k (tk o k) - lds n w o n k)) (y := .int 1) ?_ rfl
        show o2 (o2 (o2 (some (tb n w)) (some (nat k)) dIx) (o2 (some (nt o)) (some (nat k)) dIx) dIx) (o2 (some (lrow n (lds n w o n))) (some (nat k)) dIx) dSub = _
        rw [o2_ss, x1, o2_ss, x3, o2_ss, x4, o2_ss, x2, o2_ss, dSub_i]
      have a2 : ∀ x10 : Option D, eTup (aCons (eUn dNeg (eIx (eVar 9) (eC (.int 0)))) (aCons (eIx (eVar 9) (eC (.int 1))) aNil)) [some (tb n w), some (.int rent), some (.tuple [.int (cost n w o), nt o]), some (nat n), some (nt o), some (lrow n (lds n w o n)), x6, x7, some (nat k), some (rt (gnn n w o rent)), x10, none] = some (rt (-gnn n w o rent)) := fun x10 => by
        rw [← K52.rt_neg]
        refine eTup_2 (x := .int (-(gnn n w o rent).num)) (y := .int (gnn n w o rent).den) ?_ ?_
        · rfl
        · rfl
      rw [eCall_2, a1 none, a2]
      simp only [o1_s]
      exact q3
    · simp only [eIx_a, eVar_0, eVar_s, o2_ss, x3]
      rfl
    · simp only [List.map_cons, List.map_nil, List.replicate_succ, List.replicate_zero, List.nil_append, List.cons_append, List.append_nil, Nat.reduceSub, Nat.reduceAdd, setsD, zeros, stt, setsO, setsJ, List.foldl_cons, List.foldl_nil, List.set_cons_zero, List.set_cons_succ, demote]
      rw [set_done (fun i => rt (wpr w o (lds n w o n) (gnn n w o rent) i)) (fun _ => rt 0) hp ha]
      exact Lib.cl rfl
  · simp only [List.map_cons, List.map_nil, List.replicate_succ, List.replicate_zero, List.nil_append, List.cons_append, List.append_nil, Nat.reduceSub, Nat.reduceAdd, setsD, zeros, stt, setsO, setsJ, List.foldl_cons, List.foldl_nil, List.set_cons_zero, List.set_cons_succ, demote]
    have := all_done (fun i => rt (wpr w o (lds n w o n) (gnn n w o rent) i)) (fun _ => rt 0) hp
    rw [hl] at this
    rw [List.length_map, List.length_range, this]
    refine wp_ret (d := .tuple [tq n (wpr w o (lds n w o n) (gnn n w o rent)), rt (gnn n w o rent)]) ?_ rfl
    exact eTup_2 rfl rfl
end K50
end
section
set_option Elab.async false
set_option linter.all false
set_option maxRecDepth 10000
namespace K52
open DS PySem K27
open K71 (wp_forB rep_any rI rI_rt wp_parF27 asc_sorted smI)
open K24 (dkey_cmp dkey_lt sort_ord set_done all_done)
open Lib hiding den__law_sets law_sets_ok pl
variable {n : Nat} {c : Nat → Int} {s : Nat → Rat}
end K52
end
section
set_option Elab.async false
set_option linter.all false
set_option maxRecDepth 10000
namespace K52
open DS PySem K27
open K71 (wp_forB rep_any rI rI_rt wp_parF27 asc_sorted smI)
open K24 (dkey_cmp dkey_lt sort_ord set_done all_done)
open Lib hiding den__law_sets law_sets_ok pl
def den__law_under : Fn := dfun 2 2 (sRet (eB (tCmp dLt (eOp dMul (eIx (eVar 0) (eC (.int 0))) (eIx (eVar 1) (eC (.int 1)))) (eOp dMul (eIx (eVar 1) (eC (.int 0))) (eIx (eVar 0) (eC (.int 1)))))))
variable {n : Nat} {c : Nat → Int} {s : Nat → Rat}
theorem lunder_ok {p q : Rat} {m n : Nat} (hp : Sm m p) (hq : Sm n q) (h0 : 0 < m) (h1 : 0 < n) (h : m + n ≤ 8000) : den__law_under [rt p, rt q] = some (.bool (decide (p < q))) := by
  have := is_less_ok hp hq h0 h1 h
  exact this
theorem set_row (f : Nat → D) (g : Nat) (v : D) : ((List.range n).map f).set g v = (List.range n).map fun k => if k = g then v else f k := by
  refine List.ext_getElem? fun i => ?_
  rw [List.getElem?_set, List.length_map, List.length_range, List.getElem?_map, List.getElem?_map]
  by_cases hi : i < n
  · rw [List.getElem?_range hi]
    by_cases q : g = i
    · subst q
      simp [hi]
    · rw [if_neg q]
      simp [Ne.symm q]
  · rw [List.getElem?_eq_none (by simpa using hi)]
    by_cases q : g = i
    · subst q
      simp [hi]
    · rw [if_neg q]
      rfl
end K52
end
section
set_option Elab.async false
set_option linter.all false
set_option maxRecDepth 10000
namespace K50
open DS PySem K27 Fit
open K71 (wp_forB rep_any rI rI_rt smI)
open K24 (set_done all_done)
open K52 (tq tq_flat den_parted parted_ok den_as_ratio den_is_whole den_is_ratio den_is_ratio_row is_ratio_row_ok as_int as_rt cSum_row SmI num_of den__law_under)
open Lib hiding den__law_sets law_sets_ok pl
def den__law_is_ratio : Fn := dfun 1 1 (sSeq (sIf (tOrD (tNotD (tTru (eIsi "tuple" (eVar 0)))) (tOrD (tCmp dNe (eCB (d1 dLen) (aCons (eVar 0) aNil)) (eC (.int 2))) (tOrD (tNotD (tTru (eCall 1 den__law_is_int (aCons (eIx (eVar 0) (eC (.int 0))) aNil)))) (tNotD (tTru (eCall 1 den__law_is_int (aCons (eIx (eVar 0) (eC (.int 1))) aNil)))))))
  (sRet (eC (.bool false)))
  sNil)
  (sRet (eAndD (eB (tCmp dGt (eIx (eVar 0) (eC (.int 1))) (eC (.int 0)))) (eB (tCmp dEq (eCall 2 den__law_common (aCons (eIx (eVar 0) (eC (.int 0))) (aCons (eIx (eVar 0) (eC (.int 1))) aNil))) (eC (.int 1)))))))
def den__law_ratio_row : Fn := dfun 3 2 (sRet (eAndD (eIsi "tuple" (eVar 0)) (eAndD (eB (tCmp dEq (eCB (d1 dLen) (aCons (eVar 0) aNil)) (eVar 1))) (eCB (d1 dAll) (aCons (eLc (iSeq (eVar 0)) (.nm 2) tTrue (eCall 1 den__law_is_ratio (aCons (eVar 2) aNil)) [2]) aNil)))))
def den__law_dot : Fn := dfun 4 2 (sSeq (sSet 2 0 (eTup (aCons (eC (.int 0)) (aCons (eC (.int 1)) aNil))) ([] ++ ([] ++ [])))
  (sSeq (sFor (iRange1 (eCB (d1 dLen) (aCons (eVar 1) aNil))) [] (.nm 3)
  (sSet 2 0 (eCall 2 den__law_add (aCons (eVar 2) (aCons (eCall 2 den__law_ratio (aCons (eOp dMul (eIx (eIx (eVar 0) (eVar 3)) (eC (.int 0))) (eIx (eVar 1) (eVar 3))) (aCons (eIx (eIx (eVar 0) (eVar 3)) (eC (.int 1))) aNil))) aNil))) ([(2, 0)] ++ ((([(0, 3)] ++ [(1, 2)]) ++ ([(0, 2)] ++ [])) ++ []))))
  (sRet (eVar 2))))
def den__law_fair : Fn := dfun 7 4 (sSeq (sIf (tOrD (tNotD (tTru (eCall 2 den__law_ratio_row (aCons (eVar 3) (aCons (eCB (d1 dLen) (aCons (eVar 0) aNil)) aNil))))) (tCmp dNe (eCall 2 den__law_dot (aCons (eVar 3) (aCons (eOp dMul (eLst (aCons (eC (.int 1)) aNil)) (eCB (d1 dLen) (aCons (eVar 0) aNil))) aNil))) (eTup (aCons (eVar 1) (aCons (eC (.int 1)) aNil)))))
  (sRet (eC (.bool false)))
  sNil)
  (sSeq (sFor (iRange1 (eCB (d1 dLen) (aCons (eVar 0) aNil))) [] (.nm 4)
  (sSeq (sSet 5 0 (eCall 2 den__law_add (aCons (eTup (aCons (eIx (eIx (eVar 0) (eVar 4)) (eIx (eVar 2) (eVar 4))) (aCons (eC (.int 1)) aNil))) (aCons (eTup (aCons (eUn dNeg (eIx (eIx (eVar 3) (eIx (eVar 2) (eVar 4))) (eC (.int 0)))) (aCons (eIx (eIx (eVar 3) (eIx (eVar 2) (eVar 4))) (eC (.int 1))) aNil))) aNil))) (([(0, 2)] ++ ([] ++ [])) ++ (([] ++ ([(3, 2)] ++ [])) ++ [])))
  (sFor (iRange1 (eCB (d1 dLen) (aCons (eVar 0) aNil))) [] (.nm 6)
  (sIf (tTru (eCall 2 den__law_under (aCons (eVar 5) (aCons (eCall 2 den__law_add (aCons (eTup (aCons (eIx (eIx (eVar 0) (eVar 4)) (eVar 6)) (aCons (eC (.int 1)) aNil))) (aCons (eTup (aCons (eUn dNeg (eIx (eIx (eVar 3) (eVar 6)) (eC (.int 0)))) (aCons (eIx (eIx (eVar 3) (eVar 6)) (eC (.int 1))) aNil))) aNil))) aNil))))
  (sRet (eC (.bool false)))
  sNil))))
  (sRet (eC (.bool true)))))
variable {n : Nat} {w : Nat → Nat → Int} {o t : List Nat} {rent : Int} {p : Nat → Rat}
theorem law_is_ratio_ok {q : Rat} {m : Nat} (hq : Sm m q) (hm : m ≤ 4000) : den__law_is_ratio [rt q] = some (.bool true) := by
  have hd := den_pos q
  have g1 := common_ok (a := q.num) (b := (q.den : Int)) (k := m) (by simpa using hq.2) (by omega)
  have g2 : Int.gcd q.num (q.den : Int) = 1 := by
    have := q.reduced
    unfold Nat.Coprime at this
    exact this
  rw [g2] at g1
  refine dfun_wp rfl ?_
  simp only [List.map_cons, List.map_nil, List.replicate_succ, List.replicate_zero, List.nil_append, List.cons_append, List.append_nil, Nat.reduceSub, Nat.reduceAdd, setsD, zeros, stt, setsO, setsJ, List.foldl_cons, List.foldl_nil, List.set_cons_zero, List.set_cons_succ, demote]
  refine wp_seq (wp_pass rfl ?_)
  refine wp_ret (d := .bool true) ?_ rfl
  have e1 : eB (tCmp dGt (eIx (eVar 0) (eC (.int 1))) (eC (.int 0))) [some (rt q)] = some (.bool true) := by
    show (match dGt (.int q.den) (.int 0) with | some b => some (PyData.bool b) | none => none) = _
    rw [show dGt (.int q.den) (.int 0) = some (decide ((0 : Int) < q.den)) from rfl, decide_eq_true hd]
  have e2 : eB (tCmp dEq (eCall 2 den__law_common (aCons (eIx (eVar 0) (eC (.int 0))) (aCons (eIx (eVar 0) (eC (.int 1))) aNil))) (eC (.int 1))) [some (rt q)] = some (.bool true) := by
    unfold eB tCmp
    rw [eCall_2, eIx_a, eIx_a, eVar_0, eC_a, eC_a, o2_ss, o2_ss, rt_0, rt_1, o1_s, o1_s, g1]
    rfl
  unfold eAndD
  rw [e1, e2]
  rfl
theorem law_ratio_row_ok {m : Nat} (hn : n ≤ 5) (hm : m ≤ 4000) (hs : ∀ k < n, Sm m (p k)) : den__law_ratio_row [tq n p, .int n] = some (.bool true) := by
  refine dfun_wp rfl ?_
  simp only [List.map_cons, List.map_nil, List.replicate_succ, List.replicate_zero, List.nil_append, List.cons_append, List.append_nil, Nat.reduceSub, Nat.reduceAdd, setsD, zeros, stt, setsO, setsJ, List.foldl_cons, List.foldl_nil, List.set_cons_zero, List.set_cons_succ, demote]
  refine wp_ret (d := .bool true) ?_ rfl
  have e1 : eB (tCmp dEq (eCB (d1 dLen) (aCons (eVar 0) aNil)) (eVar 1)) [some (tq n p), some (.int n), none] = some (.bool true) := by
    have hl : dLen (tq n p) = some (.int n) := by simp [tq, K52.tq]
    unfold eB
    rw [tCmp_a, eCB_a, aCons_a, aNil_a, eVar_0, o2_ss, o1_s, d1_1, hl, eVar_s, eVar_0, o2_ss, dEq_i, decide_eq_true rfl]
    rfl
  have e2 : eCB (d1 dAll) (aCons (eLc (iSeq (eVar 0)) (.nm 2) tTrue (eCall 1 den__law_is_ratio (aCons (eVar 2) aNil)) [2]) aNil) [some (tq n p), some (.int n), none] = some (.bool true) := by
    rw [eCB_a, aCons_a, aNil_a]
    rw [eLc_of (fun k => rt (p k)) (fun _ => .bool true) (l := List.range n) rfl (by rw [List.length_range]; omega) fun k hk => ⟨[(2, rt (p k))], rfl, ?_⟩]
    · rw [o2_ss, o1_s, d1_1, all_bools]
      simp
    · have q := law_is_ratio_ok (hs k (List.mem_range.mp hk)) hm
      show eCall 1 den__law_is_ratio (aCons (eVar 2) aNil) [some (tq n p), some (.int n), some (rt (p k))] = _
      simp only [eCall_1, eVar_0, eVar_s, o1_s]
      exact q
  unfold eAndD
  rw [e1, e2]
  rfl
theorem law_dot_ok {m : Nat} (hn : n ≤ 5) (hm : 0 < m) (hm2 : m ≤ 500) (hs : ∀ k < n, Sm m (p k)) : den__law_dot [tq n p, .list ((List.range n).map fun _ => .int 1)] = some (rt (rsm p n)) := by
  have sk : ∀ k, k ≤ n → Sm (k * (m + 1) + 1) (rsm p k) := fun k => by
    induction k with
    | zero =>
      intro _
      rw [Nat.zero_mul]
      show Sm 1 (0 : Rat)
      exact ⟨by decide, by decide⟩
    | succ k ih =>
      intro hk
      have h1 := ih (by omega)
      have h2 := hs k (by omega)
      have hb : k * (m + 1) ≤ 5 * 501 := Nat.mul_le_mul (by omega) (by omega)
      refine (Sm.add h1 h2 (by omega) hm (by omega)).mono ?_
      rw [Nat.succ_mul]
      omega
  refine dfun_wp rfl ?_
  simp only [List.map_cons, List.map_nil, List.replicate_succ, List.replicate_zero, List.nil_append, List.cons_append, List.append_nil, Nat.reduceSub, Nat.reduceAdd, setsD, zeros, stt, setsO, setsJ, List.foldl_cons, List.foldl_nil, List.set_cons_zero, List.set_cons_succ, demote]
  refine wp_seq (wp_set (d := rt 0) rfl rfl ?_)
  simp only [List.map_cons, List.map_nil, List.replicate_succ, List.replicate_zero, List.nil_append, List.cons_append, List.append_nil, Nat.reduceSub, Nat.reduceAdd, setsD, zeros, stt, setsO, setsJ, List.foldl_cons, List.foldl_nil, List.set_cons_zero, List.set_cons_succ, demote]
  refine wp_seq (wp_forN (n := n) [3] (fun k => [(2, rt (rsm p k))]) ?_ (by omega) (fun q hq => ?_) (fun k xs hk => ?_) fun xs => ?_)
  · rw [eCB_a, aCons_a, aNil_a]
    show dLen (.list ((List.range n).map fun _ => .int 1)) = _
    simp
  · simp only [List.mem_singleton] at hq
    subst hq
    rfl
  · simp only [List.map_cons, List.map_nil, List.replicate_succ, List.replicate_zero, List.nil_append, List.cons_append, List.append_nil, Nat.reduceSub, Nat.reduceAdd, setsD, zeros, stt, setsO, setsJ, List.foldl_cons, List.foldl_nil, List.set_cons_zero, List.set_cons_succ, demote]
    have hb : k * (m + 1) ≤ 5 * 501 := Nat.mul_le_mul (by omega) (by omega)
    have q := ladd_ok' (sk k (by omega)) (hs k hk) (by omega) hm (by omega)
    have a1 := K52.tq_ix (s := p) hk
    have a2 := map_ix (g := fun _ => PyData.int 1) hk
    have q2 := ratio_ok (a := (p k).num * 1) (b := ((p k).den : Int)) (k := m) (den_pos _) (by simpa using (hs k hk).2) (by omega)
    rw [Int.mul_one, Rat.num_divInt_den] at q2
    refine wp_set (d := rt (rsm p (k + 1))) ?_ rfl ?_
    · have a3 : ∀ x : Option D, eCall 2 den__law_ratio (aCons (eOp dMul (eIx (eIx (eVar 0) (eVar 3)) (eC (.int 0))) (eIx (eVar 1) (eVar 3))) (aCons (eIx (eIx (eVar 0) (eVar 3)) (eC (.int 1))) aNil)) [some (tq n p), some (.list ((List.range n).map fun _ => .int 1)), x, some (nat k)] = some (rt (p k)) := fun x => by
        have m1 : dMul (.int (p k).num) (.int 1) = some (.int ((p k).num * 1)) := dMul_i (mulOk_r (by decide))
        have a2' : dIx (.list ((List.range n).map fun _ => .int 1)) (nat k) = some (.int 1) := a2
        simp only [eCall_2, eOp_a, eIx_a, eC_a, eVar_0, eVar_s, o2_ss, a1, a2', rt_0, rt_1, m1, o1_s, Int.mul_one]
        exact q2
      rw [eCall_2, a3]
      simp only [eVar_0, eVar_s, o1_s]
      exact q
    · simp only [List.map_cons, List.map_nil, List.replicate_succ, List.replicate_zero, List.nil_append, List.cons_append, List.append_nil, Nat.reduceSub, Nat.reduceAdd, setsD, zeros, stt, setsO, setsJ, List.foldl_cons, List.foldl_nil, List.set_cons_zero, List.set_cons_succ, demote]
      exact Lib.cl rfl
  · simp only [List.map_cons, List.map_nil, List.replicate_succ, List.replicate_zero, List.nil_append, List.cons_append, List.append_nil, Nat.reduceSub, Nat.reduceAdd, setsD, zeros, stt, setsO, setsJ, List.foldl_cons, List.foldl_nil, List.set_cons_zero, List.set_cons_succ, demote]
    exact wp_ret rfl rfl
theorem law_fair_ok {m : Nat} (h : Wt n w rent) (hp : t.Perm (List.range n)) (hm : 10 ≤ m) (hm2 : m ≤ 400) (hs : ∀ k < n, Sm m (p k)) (hsum : rsm p n = (rent : Rat)) (hF : Fair n w t p) : den__law_fair [tb n w, .int rent, nt t, tq n p] = some (.bool true) := by
  have h5 := h.five
  have b4 := h.one
  have rr := law_ratio_row_ok (m := m) h5 (by omega) hs
  have dd := law_dot_ok (m := m) h5 (by omega) (by omega) hs
  have len0 : ∀ (x4 x5 x6 : Option D), eCB (d1 dLen) (aCons (eVar 0) aNil) [some (tb n w), some (.int rent), some (nt t), some (tq n p), x4, x5, x6] = some (.int n) := fun _ _ _ => by
    rw [eCB_a, aCons_a, aNil_a, eVar_0, o2_ss, o1_s, d1_1, tb_len]
  refine dfun_wp rfl ?_
  simp only [List.map_cons, List.map_nil, List.replicate_succ, List.replicate_zero, List.nil_append, List.cons_append, List.append_nil, Nat.reduceSub, Nat.reduceAdd, setsD, zeros, stt, setsO, setsJ, List.foldl_cons, List.foldl_nil, List.set_cons_zero, List.set_cons_succ, demote]
  refine wp_seq (wp_pass ?_ ?_)
  · have e1 : eCall 2 den__law_ratio_row (aCons (eVar 3) (aCons (eCB (d1 dLen) (aCons (eVar 0) aNil)) aNil)) [some (tb n w), some (.int rent), some (nt t), some (tq n p), none, none, none] = some (.bool true) := by
      rw [eCall_2, len0]
      simp only [eVar_0, eVar_s, o1_s]
      exact rr
    have e2 : eOp dMul (eLst (aCons (eC (.int 1)) aNil)) (eCB (d1 dLen) (aCons (eVar 0) aNil)) [some (tb n w), some (.int rent), some (nt t), some (tq n p), none, none, none] = some (.list ((List.range n).map fun _ => .int 1)) := by
      have := rep_any (x := .int 1) (m := n) (by omega)
      rw [eOp_a, len0]
      show o2 (some (PyData.list [.int 1])) (some (PyData.int n)) dMul = _
      rw [o2_ss]
      exact this
    have e3 : eCall 2 den__law_dot (aCons (eVar 3) (aCons (eOp dMul (eLst (aCons (eC (.int 1)) aNil)) (eCB (d1 dLen) (aCons (eVar 0) aNil))) aNil)) [some (tb n w), some (.int rent), some (nt t), some (tq n p), none, none, none] = some (rt (rsm p n)) := by
      rw [eCall_2, e2]
      simp only [eVar_0, eVar_s, o1_s]
      exact dd
    have e4 : eTup (aCons (eVar 1) (aCons (eC (.int 1)) aNil)) [some (tb n w), some (.int rent), some (nt t), some (tq n p), none, none, none] = some (rt (rent : Rat)) := eTup_2 rfl rfl
    have e5 : tCmp dNe (eCall 2 den__law_dot (aCons (eVar 3) (aCons (eOp dMul (eLst (aCons (eC (.int 1)) aNil)) (eCB (d1 dLen) (aCons (eVar 0) aNil))) aNil))) (eTup (aCons (eVar 1) (aCons (eC (.int 1)) aNil))) [some (tb n w), some (.int rent), some (nt t), some (tq n p), none, none, none] = some false := by
      rw [tCmp_a, e3, e4, o2_ss, rt_ne, hsum, decide_eq_true rfl]
      rfl
    unfold tOrD tNotD tTru
    rw [e1, e5]
    rfl
  have term : ∀ i < n, ∀ r < n, den__law_add [rt (w i r : Rat), rt (-(p r))] = some (rt ((w i r : Rat) - p r)) ∧ Sm (m + 8) ((w i r : Rat) - p r) := fun i hi r hr => by
    have b := h.bd i hi r hr
    have s1 : Sm 6 (w i r : Rat) := smI (by omega) (by omega)
    have s2 := hs r hr
    have q := ladd_ok' s1 (K52.Sm.neg s2) (by omega) (by omega) (by omega)
    have e : (w i r : Rat) + -(p r) = (w i r : Rat) - p r := by grind
    rw [e] at q
    exact ⟨q, (Sm.sub s1 s2 (by omega) (by omega) (by omega)).mono (by omega)⟩
  refine wp_seq (wp_for (ds := (List.range n).map nat) (fun k s' => ∃ x4 x5 x6, s' = ([some (tb n w), some (.int rent), some (nt t), some (tq n p), x4, x5, x6], [0, 0, 0, 0, 0, 0, 0])) (range1_nat (n := n) (len0 _ _ _) (by omega)) ⟨none, none, none, rfl⟩ (fun k d s' hd hs' => ?_) fun s' hs' => ?_)
  · obtain ⟨x4, x5, x6, rfl⟩ := hs'
    have hk : k < n := by
      have := (List.getElem?_eq_some_iff.mp hd).1
      simpa using this
    obtain rfl : d = nat k := by
      rw [List.getElem?_map, List.getElem?_range hk] at hd
      exact (Option.some.inj hd).symm
    clear hd
    obtain ⟨v1, v2⟩ := own hp hk
    have y1 := tb_at (c := w) hk
    have y2 := nt_tk hp hk
    have y3 := trow_at (f := w k) v2
    have y4 := K52.tq_ix (s := p) v2
    refine ⟨[(4, nat k)], rfl, ?_⟩
    simp only [List.map_cons, List.map_nil, List.replicate_succ, List.replicate_zero, List.nil_append, List.cons_append, List.append_nil, Nat.reduceSub, Nat.reduceAdd, setsD, zeros, stt, setsO, setsJ, List.foldl_cons, List.foldl_nil, List.set_cons_zero, List.set_cons_succ, demote]
    refine wp_seq (wp_set (d := rt ((w k (tk t k) : Rat) - p (tk t k))) ?_ rfl ?_)
    · have a1 : eTup (aCons (eIx (eIx (eVar 0) (eVar 4)) (eIx (eVar 2) (eVar 4))) (aCons (eC (.int 1)) aNil)) [some (tb n w), some (.int rent), some (nt t), some (tq n p), some (nat k), x5, x6] = some (rt (w k (tk t k) : Rat)) := by
        refine eTup_2 (x := .int (w k (tk t k))) (y := .int 1) ?_ rfl
        simp only [eIx_a, eVar_0, eVar_s, o2_ss, y1, y2, y3]
      have a2 : eTup (aCons (eUn dNeg (eIx (eIx (eVar 3) (eIx (eVar 2) (eVar 4))) (eC (.int 0)))) (aCons (eIx (eIx (eVar 3) (eIx (eVar 2) (eVar 4))) (eC (.int 1))) aNil)) [some (tb n w), some (.int rent), some (nt t), some (tq n p), some (nat k), x5, x6] = some (rt (-(p (tk t k)))) := by
        rw [← K52.rt_neg]
        refine eTup_2 ?_ ?_
        · simp only [eUn_a, eIx_a, eC_a, eVar_0, eVar_s, o2_ss, y2, y4, rt_0, o1_s, dNeg_i]
        · simp only [eIx_a, eC_a, eVar_0, eVar_s, o2_ss, y2, y4, rt_1]
      rw [eCall_2, a1, a2]
      simp only [o1_s]
      exact (term k hk _ v2).1
    simp only [List.map_cons, List.map_nil, List.replicate_succ, List.replicate_zero, List.nil_append, List.cons_append, List.append_nil, Nat.reduceSub, Nat.reduceAdd, setsD, zeros, stt, setsO, setsJ, List.foldl_cons, List.foldl_nil, List.set_cons_zero, List.set_cons_succ, demote]
    refine wp_for (ds := (List.range n).map nat) (fun r s' => ∃ x6, s' = ([some (tb n w), some (.int rent), some (nt t), some (tq n p), some (nat k), some (rt ((w k (tk t k) : Rat) - p (tk t k))), x6], [0, 0, 0, 0, 0, 0, 0])) (range1_nat (n := n) (len0 _ _ _) (by omega)) ⟨x6, rfl⟩ (fun r d s' hd hs' => ?_) fun s' hs' => ?_
    · obtain ⟨y6, rfl⟩ := hs'
      have hr : r < n := by
        have := (List.getElem?_eq_some_iff.mp hd).1
        simpa using this
      obtain rfl : d = nat r := by
        rw [List.getElem?_map, List.getElem?_range hr] at hd
        exact (Option.some.inj hd).symm
      clear hd
      refine ⟨[(6, nat r)], rfl, ?_⟩
      simp only [List.map_cons, List.map_nil, List.replicate_succ, List.replicate_zero, List.nil_append, List.cons_append, List.append_nil, Nat.reduceSub, Nat.reduceAdd, setsD, zeros, stt, setsO, setsJ, List.foldl_cons, List.foldl_nil, List.set_cons_zero, List.set_cons_succ, demote]
      have z3 := trow_at (f := w k) hr
      have z4 := K52.tq_ix (s := p) hr
      have a1 : eTup (aCons (eIx (eIx (eVar 0) (eVar 4)) (eVar 6)) (aCons (eC (.int 1)) aNil)) [some (tb n w), some (.int rent), some (nt t), some (tq n p), some (nat k), some (rt ((w k (tk t k) : Rat) - p (tk t k))), some (nat r)] = some (rt (w k r : Rat)) := by
        refine eTup_2 (x := .int (w k r)) (y := .int 1) ?_ rfl
        simp only [eIx_a, eVar_0, eVar_s, o2_ss, y1, z3]
      have a2 : eTup (aCons (eUn dNeg (eIx (eIx (eVar 3) (eVar 6)) (eC (.int 0)))) (aCons (eIx (eIx (eVar 3) (eVar 6)) (eC (.int 1))) aNil)) [some (tb n w), some (.int rent), some (nt t), some (tq n p), some (nat k), some (rt ((w k (tk t k) : Rat) - p (tk t k))), some (nat r)] = some (rt (-(p r))) := by
        rw [← K52.rt_neg]
        refine eTup_2 ?_ ?_
        · simp only [eUn_a, eIx_a, eC_a, eVar_0, eVar_s, o2_ss, z4, rt_0, o1_s, dNeg_i]
        · simp only [eIx_a, eC_a, eVar_0, eVar_s, o2_ss, z4, rt_1]
      have a3 : eCall 2 den__law_add (aCons (eTup (aCons (eIx (eIx (eVar 0) (eVar 4)) (eVar 6)) (aCons (eC (.int 1)) aNil))) (aCons (eTup (aCons (eUn dNeg (eIx (eIx (eVar 3) (eVar 6)) (eC (.int 0)))) (aCons (eIx (eIx (eVar 3) (eVar 6)) (eC (.int 1))) aNil))) aNil)) [some (tb n w), some (.int rent), some (nt t), some (tq n p), some (nat k), some (rt ((w k (tk t k) : Rat) - p (tk t k))), some (nat r)] = some (rt ((w k r : Rat) - p r)) := by
        rw [eCall_2, a1, a2]
        simp only [o1_s]
        exact (term k hk r hr).1
      have lu := K52.lunder_ok (term k hk _ v2).2 (term k hk r hr).2 (by omega) (by omega) (by omega)
      have hnl : decide ((w k (tk t k) : Rat) - p (tk t k) < (w k r : Rat) - p r) = false := decide_eq_false (Rat.not_lt.mpr (hF k hk r hr))
      rw [hnl] at lu
      refine wp_pass ?_ ⟨some (nat r), rfl⟩
      unfold tTru
      rw [eCall_2, a3]
      simp only [eVar_0, eVar_s, o1_s]
      rw [lu]
      rfl
    · obtain ⟨y6, rfl⟩ := hs'
      exact ⟨_, _, _, rfl⟩
  · obtain ⟨x4, x5, x6, rfl⟩ := hs'
    exact wp_ret rfl rfl
end K50
end
section
set_option Elab.async false
set_option linter.all false
set_option maxRecDepth 10000
namespace K50
open DS PySem K27 Fit
open K71 (wp_forB rep_any rI rI_rt smI)
open K24 (set_done all_done)
open K52 (tq tq_flat den_parted parted_ok den_as_ratio den_is_whole den_is_ratio den_is_ratio_row is_ratio_row_ok as_int as_rt cSum_row SmI num_of den__law_under)
open Lib hiding den__law_sets law_sets_ok pl
def den__law_fits_right : Fn := dfun 12 3 (sSeq (sSet 3 0 (eCB (d1 dLen) (aCons (eVar 0) aNil)) [])
  (sSeq (sSet 4 0 (eCB (d1 dTuple) (aCons (eLc (iSeq (eVar 0)) (.nm 8) tTrue (eCB (d1 dTuple) (aCons (eLc (iSeq (eVar 8)) (.nm 11) tTrue (eOp dSub (eC (.int 50)) (eVar 11)) [11]) aNil)) [8]) aNil)) (([(0, 1)] ++ (([(8, 1)] ++ ([] ++ [(11, 1)])) ++ [])) ++ []))
  (sSeq (sIf (tNotD (tTru (eCall 2 (den__law_like 30) (aCons (eCall 1 den_best_fit (aCons (eVar 4) aNil)) (aCons (eTup (aCons (eOp dSub (eOp dMul (eC (.int 50)) (eVar 3)) (eIx (eVar 2) (eC (.int 0)))) (aCons (eIx (eVar 2) (eC (.int 1))) aNil))) aNil)))))
  (sRet (eC .none))
  sNil)
  (sSeq (sTup (.tp [(.nm 5), (.nm 6)]) (eCall 1 den_fit_prices (aCons (eVar 4) aNil)) ([(4, 0)] ++ []))
  (sSeq (sIf (tOrD (tNotD (tTru (eIsi "tuple" (eVar 5)))) (tOrD (tNotD (tTru (eIsi "tuple" (eVar 6)))) (tOrD (tCmp dNe (eCB (d1 dLen) (aCons (eVar 5) aNil)) (eVar 3)) (tCmp dNe (eCB (d1 dLen) (aCons (eVar 6) aNil)) (eVar 3)))))
  (sRet (eC .none))
  sNil)
  (sSeq (sIf (tOrD (tNotD (tTru (eCB (d1 dAll) (aCons (eLc (iSeq (eOp dAdd (eVar 5) (eVar 6))) (.nm 9) tTrue (eCall 1 den__law_is_int (aCons (eVar 9) aNil)) [9]) aNil)))) (tCmp dNe (eCB (d1 dSum) (aCons (eOp dAdd (eVar 5) (eVar 6)) aNil)) (eOp dSub (eOp dMul (eC (.int 50)) (eVar 3)) (eIx (eVar 2) (eC (.int 0))))))
  (sRet (eC .none))
  sNil)
  (sSeq (sFor (iRange1 (eVar 3)) [] (.nm 7)
  (sIf (tTru (eCB (d1 dAny) (aCons (eLc (iRange1 (eVar 3)) (.nm 10) tTrue (eB (tCmp dGt (eOp dAdd (eIx (eVar 5) (eVar 7)) (eIx (eVar 6) (eVar 10))) (eIx (eIx (eVar 4) (eVar 7)) (eVar 10)))) [10]) aNil)))
  (sRet (eC .none))
  sNil))
  (sSeq (sIf (tCmp dIsNot (eCall 3 den_judge_prices (aCons (eVar 4) (aCons (eVar 5) (aCons (eVar 6) aNil)))) (eC (.bool true)))
  (sRet (eC .none))
  sNil)
  (sRet (eCB (d1 dTuple) (aCons (eLc (iSeq (eVar 6)) (.nm 9) tTrue (eCall 2 den__law_ratio (aCons (eOp dSub (eOp dAdd (eVar 1) (eCB (d1 dSum) (aCons (eVar 6) aNil))) (eOp dMul (eVar 3) (eVar 9))) (aCons (eVar 3) aNil))) [9]) aNil)))))))))))
variable {n : Nat} {w : Nat → Nat → Int} {o : List Nat} {rent : Int}
theorem ww_bd {u : Nat → Nat → Int} {B : Int} (hB : 0 ≤ B) (h : ∀ s < n, ∀ g < n, -B ≤ u s g) : ∀ (l : List Nat) (a : Nat), (∀ x ∈ a :: l, x < n) → -(B * l.length) ≤ ww u (a :: l)
  | [], a, _ => by simp [ww]
  | b :: l, a, hx => by
    have h1 := h a (hx a (.head _)) b (hx b (.tail _ (.head _)))
    have h2 := ww_bd hB h l b fun x hh => hx x (.tail _ hh)
    show _ ≤ u a b + ww u (b :: l)
    rw [List.length_cons]
    have : B * ((l.length + 1 : Nat) : Int) = B * l.length + B := by
      rw [show ((l.length + 1 : Nat) : Int) = (l.length : Int) + 1 by omega, Int.mul_add, Int.mul_one]
    omega
theorem hts_bd {c : Nat → Nat → Int} (hn : n ≤ 5) (hc : ∀ i < n, ∀ j < n, 0 ≤ c i j ∧ c i j ≤ 50) (hp : o.Perm (List.range n)) (opt : ∀ t : List Nat, t.Perm (List.range n) → cost n c o ≤ cost n c t) {j : Nat} (hj : j < n) : -250 ≤ hts n c o j ∧ hts n c o j ≤ 0 := by
  constructor
  · obtain ⟨a, l, h1, h2, h3⟩ := bf_to (n := n) (w := Fit.stp c o) (E := stpE n c o) (fun e he => (stpE_mem hp e).mp he) n j hj
    obtain ⟨l', n1, _, n3, n4⟩ := shorten (n := n) (w := Fit.stp c o) (fun a p nd hn => ring_ok hp opt nd hn) l a h2
    have hl := nodup_lt_len n1 n3
    have hb := ww_bd (n := n) (u := Fit.stp c o) (B := 50) (by omega) (fun s hs g hg => by
      unfold Fit.stp
      have o1 := (own' hp hs).1
      have := hc _ o1 g hg
      have := hc _ o1 s hs
      omega) l' a n3
    rw [List.length_cons] at hl
    have : (50 : Int) * (l'.length : Int) ≤ 50 * 5 := by omega
    unfold hts
    omega
  · have : ∀ k, bf (Fit.stp c o) (stpE n c o) k j ≤ 0 := fun k => by
      induction k with
      | zero => exact Int.le_refl _
      | succ k ih => exact Int.le_trans (rnd_le _ _ j) ih
    exact this n
noncomputable def hsum (n : Nat) (w : Nat → Nat → Int) (o : List Nat) : Int := rsum (hts n (lack 50 w) o) n
noncomputable def trn (n : Nat) (w : Nat → Nat → Int) (o : List Nat) (rent : Int) (j : Nat) : Rat := ((rent : Rat) + (hsum n w o : Rat)) / ((n : Int) : Rat) - (hts n (lack 50 w) o j : Rat)
theorem trn_div (h : Wt n w rent) (j : Nat) : Rat.divInt (rent + hsum n w o - n * hts n (lack 50 w) o j) (n : Int) = trn n w o rent j := by
  have b4 := h.one
  have hne : ((n : Int) : Rat) ≠ 0 := by
    intro z
    have : (n : Int) = 0 := by exact_mod_cast z
    omega
  rw [Rat.divInt_eq_div, Rat.intCast_sub, Rat.intCast_add, Rat.intCast_mul]
  unfold trn
  generalize ((n : Int) : Rat) = N at *
  grind
theorem trn_sum (h : Wt n w rent) : rsm (trn n w o rent) n = (rent : Rat) := by
  have b4 := h.one
  have e : ∀ k : Nat, rsm (trn n w o rent) k = ((k : Int) : Rat) * (((rent : Rat) + (hsum n w o : Rat)) / ((n : Int) : Rat)) - ((rsum (hts n (lack 50 w) o) k : Int) : Rat) := fun k => by
    induction k with
    | zero =>
      show (0 : Rat) = ((0 : Int) : Rat) * _ - ((0 : Int) : Rat)
      have : ((0 : Int) : Rat) = 0 := rfl
      rw [this]
      grind
    | succ k ih =>
      show rsm (trn n w o rent) k + trn n w o rent k = _
      have e1 : (((k + 1 : Nat) : Int) : Rat) = ((k : Int) : Rat) + 1 := by
        rw [show ((k + 1 : Nat) : Int) = (k : Int) + 1 by omega, Rat.intCast_add]
        rfl
      have e2 : ((rsum (hts n (lack 50 w) o) (k + 1) : Int) : Rat) = ((rsum (hts n (lack 50 w) o) k : Int) : Rat) + (hts n (lack 50 w) o k : Rat) := by
        rw [← Rat.intCast_add]
        rfl
      rw [ih, e1, e2]
      unfold trn
      grind
  rw [e n]
  have hne : ((n : Int) : Rat) ≠ 0 := by
    intro z
    have : (n : Int) = 0 := by exact_mod_cast z
    omega
  show _ - ((hsum n w o : Int) : Rat) = _
  generalize ((n : Int) : Rat) = N at *
  grind
theorem rsum_bd {f : Nat → Int} {B : Int} (hB : 0 ≤ B) : ∀ k : Nat, (∀ i < k, -B ≤ f i ∧ f i ≤ B) → -(B * k) ≤ rsum f k ∧ rsum f k ≤ B * k
  | 0, _ => by simp [rsum]
  | k + 1, h => by
    have h1 := rsum_bd hB k fun i hi => h i (by omega)
    have h2 := h k (by omega)
    have : B * ((k + 1 : Nat) : Int) = B * k + B := by
      rw [show ((k + 1 : Nat) : Int) = (k : Int) + 1 by omega, Int.mul_add, Int.mul_one]
    simp only [rsum]
    omega
theorem lack_bd (h : Wt n w rent) : ∀ i < n, ∀ j < n, 0 ≤ lack 50 w i j ∧ lack 50 w i j ≤ 50 := fun i hi j hj => by
  have := h.bd i hi j hj
  unfold lack
  omega
theorem trn_sm (h : Wt n w rent) (hb : Best n (lack 50 w) o) {j : Nat} (hj : j < n) : Sm 60 (trn n w o rent j) := by
  have hh := fun (i : Nat) (hi : i < n) => hts_bd h.five (lack_bd h) hb.perm hb.opt hi
  have hs := rsum_bd (f := hts n (lack 50 w) o) (B := 250) (by omega) n fun i hi => by have := hh i hi; omega
  have b4 := h.one
  have b5 := h.four
  have hr := h.r
  have h5 : (250 : Int) * (n : Int) ≤ 1000 := by omega
  have s1 : Sm 20 ((rent + hsum n w o : Int) : Rat) := smI (by unfold hsum; omega) (by omega)
  have s2 := (parted_ok (m := (n : Int)) s1 (by omega) (by omega) (by omega) (by omega)).2
  rw [Rat.intCast_add] at s2
  have s3 : Sm 10 (hts n (lack 50 w) o j : Rat) := smI (by have := hh j hj; omega) (by omega)
  exact (Sm.sub s2 s3 (by omega) (by omega) (by omega)).mono (by omega)
theorem trn_fair (h : Wt n w rent) (hb : Best n (lack 50 w) o) : Fair n w o (trn n w o rent) :=
  fair_turn (c := lack 50 w) rfl hb.perm (fun i hi j hj => (prices_ok hb.perm hb.opt (stpE_mem hb.perm)).1 i hi j hj) _
theorem sum_rsum (f : Nat → Int) (k : Nat) : ((List.range k).map f).sum = rsum f k := rsum_list f k
theorem fits_right_ok (h : Wt n w rent) (hb : Best n (lack 50 w) o) : den__law_fits_right [tb n w, .int rent, .tuple [.int (cost n w o), nt o]] = some (tq n (trn n w o rent)) := by
  have b4 := h.one
  have b5 := h.four
  have hn := h.five
  have hl : o.length = n := by have := hb.perm.length_eq; simpa using this
  obtain ⟨o', hb', hbf, hfp⟩ := fit_prices_ok (c := lack 50 w) h.one hn fun i hi j hj => by
    have := lack_bd h i hi j hj
    omega
  have e := hb.uniq hb'
  subst e
  have hpc : pc (lack 50 w) o = 50 * n - cost n w o := by
    unfold pc
    rw [hl, cost_lack]
    omega
  obtain ⟨P1, P2⟩ := prices_ok hb.perm hb.opt (stpE_mem (c := lack 50 w) hb.perm)
  rw [sum_rsum, sum_rsum] at P2
  have P2 : rsum (frs n (lack 50 w) o (hts n (lack 50 w) o)) n + rsum (hts n (lack 50 w) o) n = cost n (lack 50 w) o := P2
  rw [cost_lack] at P2
  have hjp := judge_prices_ok (f := frs n (lack 50 w) o (hts n (lack 50 w) o)) (g := hts n (lack 50 w) o) h.one hn hbf
  have hjr : ∀ k < n, jrow n (lack 50 w) (frs n (lack 50 w) o (hts n (lack 50 w) o)) (hts n (lack 50 w) o) k = true := fun k hk => by
    unfold jrow
    rw [Bool.not_eq_true', List.any_eq_false]
    intro j hj
    have := P1 k hk j (List.mem_range.mp hj)
    simp only [decide_eq_true_eq]
    unfold frs hts
    omega
  have hjt : jpb n (lack 50 w) (frs n (lack 50 w) o (hts n (lack 50 w) o)) (hts n (lack 50 w) o) (pc (lack 50 w) o) = true := by
    unfold jpb
    rw [Bool.and_eq_true, List.all_eq_true]
    refine ⟨fun i hi => hjr i (List.mem_range.mp hi), decide_eq_true ?_⟩
    rw [hpc]
    omega
  rw [hjt] at hjp
  refine dfun_wp rfl ?_
  simp only [List.map_cons, List.map_nil, List.replicate_succ, List.replicate_zero, List.nil_append, List.cons_append, List.append_nil, Nat.reduceSub, Nat.reduceAdd, setsD, zeros, stt, setsO, setsJ, List.foldl_cons, List.foldl_nil, List.set_cons_zero, List.set_cons_succ, demote]
  refine wp_seq (wp_set (d := nat n) ?_ rfl ?_)
  · rw [eCB_a, aCons_a, aNil_a, eVar_0, o2_ss, o1_s, d1_1, tb_len]
    rfl
  simp only [List.map_cons, List.map_nil, List.replicate_succ, List.replicate_zero, List.nil_append, List.cons_append, List.append_nil, Nat.reduceSub, Nat.reduceAdd, setsD, zeros, stt, setsO, setsJ, List.foldl_cons, List.foldl_nil, List.set_cons_zero, List.set_cons_succ, demote]
  refine wp_seq (wp_set (d := tb n (lack 50 w)) ?_ ?_ ?_)
  · rw [eCB_a, aCons_a, aNil_a]
    rw [eLc_of (fun i => trow n (w i)) (fun i => trow n (lack 50 w i)) (l := List.range n) rfl (by rw [List.length_range]; omega) fun i hi => ⟨[(8, trow n (w i))], rfl, ?_⟩]
    · rfl
    · show eCB (d1 dTuple) (aCons (eLc (iSeq (eVar 8)) (.nm 11) tTrue (eOp dSub (eC (.int 50)) (eVar 11)) [11]) aNil) [some (tb n w), some (.int rent), some (.tuple [.int (cost n w o), nt o]), some (nat n), none, none, none, none, some (trow n (w i)), none, none, none] = _
      rw [eCB_a, aCons_a, aNil_a]
      rw [eLc_of (fun j => .int (w i j)) (fun j => .int (lack 50 w i j)) (l := List.range n) rfl (by rw [List.length_range]; omega) fun j hj => ⟨[(11, .int (w i j))], rfl, rfl⟩]
      rfl
  · exact tb_flat n (lack 50 w)
  simp only [List.map_cons, List.map_nil, List.replicate_succ, List.replicate_zero, List.nil_append, List.cons_append, List.append_nil, Nat.reduceSub, Nat.reduceAdd, setsD, zeros, stt, setsO, setsJ, List.foldl_cons, List.foldl_nil, List.set_cons_zero, List.set_cons_succ, demote]
  refine wp_seq (wp_pass ?_ ?_)
  · have e1 : eCall 1 den_best_fit (aCons (eVar 4) aNil) [some (tb n w), some (.int rent), some (.tuple [.int (cost n w o), nt o]), some (nat n), some (tb n (lack 50 w)), none, none, none, none, none, none, none] = some (co (pc (lack 50 w)) o) := by
      simp only [eCall_1, eVar_0, eVar_s, o1_s]
      exact hbf
    have e2 : eTup (aCons (eOp dSub (eOp dMul (eC (.int 50)) (eVar 3)) (eIx (eVar 2) (eC (.int 0)))) (aCons (eIx (eVar 2) (eC (.int 1))) aNil)) [some (tb n w), some (.int rent), some (.tuple [.int (cost n w o), nt o]), some (nat n), some (tb n (lack 50 w)), none, none, none, none, none, none, none] = some (co (pc (lack 50 w)) o) := by
      refine eTup_2 (x := .int (pc (lack 50 w) o)) (y := nt o) ?_ rfl
      have m1 : dMul (.int 50) (.int (n : Int)) = some (.int (50 * n)) := dMul_i (mulOk_l (by decide))
      show o2 (o2 (some (PyData.int 50)) (some (PyData.int (n : Int))) dMul) (some (PyData.int (cost n w o))) dSub = _
      rw [o2_ss, m1, o2_ss, dSub_i, hpc]
    have lk := Lib.like_ok 30 (co (pc (lack 50 w)) o) (by
      have : (o.map nat).all (Lib.pl 28) = true := by
        rw [List.all_eq_true]
        intro d hd
        obtain ⟨k, _, rfl⟩ := List.mem_map.mp hd
        rfl
      unfold co nt
      simp only [Lib.pl, List.all_cons, List.all_nil, List.length_map, List.length_cons, List.length_nil, hl, this, Bool.and_true]
      simp
      omega)
    unfold tNotD tTru
    rw [eCall_2, e1, e2]
    simp only [o1_s]
    rw [lk]
    rfl
  refine wp_seq (wp_tup (d := .tuple [trow n (frs n (lack 50 w) o (hts n (lack 50 w) o)), trow n (hts n (lack 50 w) o)]) (m := [(5, trow n (frs n (lack 50 w) o (hts n (lack 50 w) o))), (6, trow n (hts n (lack 50 w) o))]) ?_ rfl (flat2 (Lib.trow_flat _ _) (Lib.trow_flat _ _)) ?_)
  · simp only [eCall_1, eVar_0, eVar_s, o1_s]
    exact hfp
  simp only [List.map_cons, List.map_nil, List.replicate_succ, List.replicate_zero, List.nil_append, List.cons_append, List.append_nil, Nat.reduceSub, Nat.reduceAdd, setsD, zeros, stt, setsO, setsJ, List.foldl_cons, List.foldl_nil, List.set_cons_zero, List.set_cons_succ, demote]
  refine wp_seq (wp_pass ?_ ?_)
  · have e1 : tCmp dNe (eCB (d1 dLen) (aCons (eVar 5) aNil)) (eVar 3) [some (tb n w), some (.int rent), some (.tuple [.int (cost n w o), nt o]), some (nat n), some (tb n (lack 50 w)), some (trow n (frs n (lack 50 w) o (hts n (lack 50 w) o))), some (trow n (hts n (lack 50 w) o)), none, none, none, none, none] = some false := by
      simp only [tCmp_a, eCB_a, aCons_a, aNil_a, eVar_0, eVar_s, o2_ss, o1_s, d1_1, trow_len, nat, dNe_i, decide_true, Bool.not_true]
    have e2 : tCmp dNe (eCB (d1 dLen) (aCons (eVar 6) aNil)) (eVar 3) [some (tb n w), some (.int rent), some (.tuple [.int (cost n w o), nt o]), some (nat n), some (tb n (lack 50 w)), some (trow n (frs n (lack 50 w) o (hts n (lack 50 w) o))), some (trow n (hts n (lack 50 w) o)), none, none, none, none, none] = some false := by
      simp only [tCmp_a, eCB_a, aCons_a, aNil_a, eVar_0, eVar_s, o2_ss, o1_s, d1_1, trow_len, nat, dNe_i, decide_true, Bool.not_true]
    unfold tOrD
    rw [e1, e2]
    rfl
  have ecat : eOp dAdd (eVar 5) (eVar 6) [some (tb n w), some (.int rent), some (.tuple [.int (cost n w o), nt o]), some (nat n), some (tb n (lack 50 w)), some (trow n (frs n (lack 50 w) o (hts n (lack 50 w) o))), some (trow n (hts n (lack 50 w) o)), none, none, none, none, none] = some (.tuple ((((List.range n).map (frs n (lack 50 w) o (hts n (lack 50 w) o))) ++ (List.range n).map (hts n (lack 50 w) o)).map PyData.int)) := by
    rw [List.map_append, List.map_map, List.map_map]
    show dAdd (trow n (frs n (lack 50 w) o (hts n (lack 50 w) o))) (trow n (hts n (lack 50 w) o)) = _
    show (if ((List.range n).map _).length + ((List.range n).map _).length ≤ 16777216 then _ else _) = _
    rw [if_pos (by simp; omega)]
    rfl
  refine wp_seq (wp_pass ?_ ?_)
  · have e1 : eCB (d1 dAll) (aCons (eLc (iSeq (eOp dAdd (eVar 5) (eVar 6))) (.nm 9) tTrue (eCall 1 den__law_is_int (aCons (eVar 9) aNil)) [9]) aNil) [some (tb n w), some (.int rent), some (.tuple [.int (cost n w o), nt o]), some (nat n), some (tb n (lack 50 w)), some (trow n (frs n (lack 50 w) o (hts n (lack 50 w) o))), some (trow n (hts n (lack 50 w) o)), none, none, none, none, none] = some (.bool true) := by
      have hi : iSeq (eOp dAdd (eVar 5) (eVar 6)) [some (tb n w), some (.int rent), some (.tuple [.int (cost n w o), nt o]), some (nat n), some (tb n (lack 50 w)), some (trow n (frs n (lack 50 w) o (hts n (lack 50 w) o))), some (trow n (hts n (lack 50 w) o)), none, none, none, none, none] = some ((((List.range n).map (frs n (lack 50 w) o (hts n (lack 50 w) o))) ++ (List.range n).map (hts n (lack 50 w) o)).map PyData.int) := by
        rw [iSeq_a, ecat]
        rfl
      rw [eCB_a, aCons_a, aNil_a]
      rw [eLc_of PyData.int (fun _ => .bool true) hi (by simp; omega) fun z hz => ⟨[(9, .int z)], rfl, ?_⟩]
      · rw [o2_ss, o1_s, d1_1]
        have := dAll_ok ((((List.range n).map (frs n (lack 50 w) o (hts n (lack 50 w) o))) ++ (List.range n).map (hts n (lack 50 w) o)).map fun _ => true)
        rw [List.map_map, List.all_map] at this
        have h2 : ((((List.range n).map (frs n (lack 50 w) o (hts n (lack 50 w) o))) ++ (List.range n).map (hts n (lack 50 w) o)).all (id ∘ fun _ => true)) = true := by simp
        rw [h2] at this
        exact this
      · rw [eCall_1]
        exact is_int_ok z
    have e2 : tCmp dNe (eCB (d1 dSum) (aCons (eOp dAdd (eVar 5) (eVar 6)) aNil)) (eOp dSub (eOp dMul (eC (.int 50)) (eVar 3)) (eIx (eVar 2) (eC (.int 0)))) [some (tb n w), some (.int rent), some (.tuple [.int (cost n w o), nt o]), some (nat n), some (tb n (lack 50 w)), some (trow n (frs n (lack 50 w) o (hts n (lack 50 w) o))), some (trow n (hts n (lack 50 w) o)), none, none, none, none, none] = some false := by
      have m1 : dMul (.int 50) (.int (n : Int)) = some (.int (50 * n)) := dMul_i (mulOk_l (by decide))
      have e3 : eOp dSub (eOp dMul (eC (.int 50)) (eVar 3)) (eIx (eVar 2) (eC (.int 0))) [some (tb n w), some (.int rent), some (.tuple [.int (cost n w o), nt o]), some (nat n), some (tb n (lack 50 w)), some (trow n (frs n (lack 50 w) o (hts n (lack 50 w) o))), some (trow n (hts n (lack 50 w) o)), none, none, none, none, none] = some (.int (50 * n - cost n w o)) := by
        show o2 (o2 (some (PyData.int 50)) (some (PyData.int (n : Int))) dMul) (some (PyData.int (cost n w o))) dSub = _
        rw [o2_ss, m1, o2_ss, dSub_i]
      have e4 : eCB (d1 dSum) (aCons (eOp dAdd (eVar 5) (eVar 6)) aNil) [some (tb n w), some (.int rent), some (.tuple [.int (cost n w o), nt o]), some (nat n), some (tb n (lack 50 w)), some (trow n (frs n (lack 50 w) o (hts n (lack 50 w) o))), some (trow n (hts n (lack 50 w) o)), none, none, none, none, none] = some (.int (50 * n - cost n w o)) := by
        rw [eCB_a, aCons_a, ecat, aNil_a, o2_ss, o1_s, d1_1]
        have := dSum_ok (((List.range n).map (frs n (lack 50 w) o (hts n (lack 50 w) o))) ++ (List.range n).map (hts n (lack 50 w) o))
        rw [List.sum_append, sum_rsum, sum_rsum, P2] at this
        rw [show (50 : Int) * n = n * 50 by omega]
        exact this
      rw [tCmp_a, e3, e4, o2_ss, dNe_i, decide_eq_true rfl]
      rfl
    unfold tOrD tNotD tTru
    rw [e1, e2]
    rfl
  refine wp_seq (wp_for (ds := (List.range n).map nat) (fun k s' => ∃ x7, s' = ([some (tb n w), some (.int rent), some (.tuple [.int (cost n w o), nt o]), some (nat n), some (tb n (lack 50 w)), some (trow n (frs n (lack 50 w) o (hts n (lack 50 w) o))), some (trow n (hts n (lack 50 w) o)), x7, none, none, none, none], [0, 0, 0, 0, 0, 0, 0, 0, 0, 0, 0, 0])) (range1_nat (n := n) rfl (by omega)) ⟨none, rfl⟩ (fun k d s' hd hs' => ?_) fun s' hs' => ?_)
  · obtain ⟨x7, rfl⟩ := hs'
    have hk : k < n := by
      have := (List.getElem?_eq_some_iff.mp hd).1
      simpa using this
    obtain rfl : d = nat k := by
      rw [List.getElem?_map, List.getElem?_range hk] at hd
      exact (Option.some.inj hd).symm
    clear hd
    refine ⟨[(7, nat k)], rfl, ?_⟩
    simp only [List.map_cons, List.map_nil, List.replicate_succ, List.replicate_zero, List.nil_append, List.cons_append, List.append_nil, Nat.reduceSub, Nat.reduceAdd, setsD, zeros, stt, setsO, setsJ, List.foldl_cons, List.foldl_nil, List.set_cons_zero, List.set_cons_succ, demote]
    refine wp_pass ?_ ⟨some (nat k), rfl⟩
    have e : eCB (d1 dAny) (aCons (eLc (iRange1 (eVar 3)) (.nm 10) tTrue (eB (tCmp dGt (eOp dAdd (eIx (eVar 5) (eVar 7)) (eIx (eVar 6) (eVar 10))) (eIx (eIx (eVar 4) (eVar 7)) (eVar 10)))) [10]) aNil) [some (tb n w), some (.int rent), some (.tuple [.int (cost n w o), nt o]), some (nat n), some (tb n (lack 50 w)), some (trow n (frs n (lack 50 w) o (hts n (lack 50 w) o))), some (trow n (hts n (lack 50 w) o)), some (nat k), none, none, none, none] = some (.bool (!jrow n (lack 50 w) (frs n (lack 50 w) o (hts n (lack 50 w) o)) (hts n (lack 50 w) o) k)) := by
      rw [eCB_a, aCons_a, aNil_a]
      rw [eLc_of nat (fun j => .bool (decide (lack 50 w k j < frs n (lack 50 w) o (hts n (lack 50 w) o) k + hts n (lack 50 w) o j))) (l := List.range n) (range1_nat (n := n) rfl (by omega)) (by rw [List.length_range]; omega) fun j hj => ⟨[(10, nat j)], rfl, ?_⟩]
      · rw [o2_ss, o1_s, d1_1, any_bools]
        unfold jrow
        rw [Bool.not_not]
      · have hj := List.mem_range.mp hj
        have a1 := trow_at (f := frs n (lack 50 w) o (hts n (lack 50 w) o)) hk
        have a2 := trow_at (f := hts n (lack 50 w) o) hj
        have a3 := tb_at (c := lack 50 w) hk
        have a4 := trow_at (f := lack 50 w k) hj
        have t : tCmp dGt (eOp dAdd (eIx (eVar 5) (eVar 7)) (eIx (eVar 6) (eVar 10))) (eIx (eIx (eVar 4) (eVar 7)) (eVar 10)) [some (tb n w), some (.int rent), some (.tuple [.int (cost n w o), nt o]), some (nat n), some (tb n (lack 50 w)), some (trow n (frs n (lack 50 w) o (hts n (lack 50 w) o))), some (trow n (hts n (lack 50 w) o)), some (nat k), none, none, some (nat j), none] = some (decide (lack 50 w k j < frs n (lack 50 w) o (hts n (lack 50 w) o) k + hts n (lack 50 w) o j)) := by
          simp only [tCmp_a, eOp_a, eIx_a, eVar_0, eVar_s, o2_ss, a1, a2, a3, a4, dAdd_i, dGt_i]
        have t' : tCmp dGt (eOp dAdd (eIx (eVar 5) (eVar 7)) (eIx (eVar 6) (eVar 10))) (eIx (eIx (eVar 4) (eVar 7)) (eVar 10)) (setsD (wipeD [some (tb n w), some (.int rent), some (.tuple [.int (cost n w o), nt o]), some (nat n), some (tb n (lack 50 w)), some (trow n (frs n (lack 50 w) o (hts n (lack 50 w) o))), some (trow n (hts n (lack 50 w) o)), some (nat k), none, none, none, none] [10]) [(10, nat j)]) = some (decide (lack 50 w k j < frs n (lack 50 w) o (hts n (lack 50 w) o) k + hts n (lack 50 w) o j)) := t
        unfold eB
        rw [t']
        rfl
    unfold tTru
    rw [e, hjr k hk]
    rfl
  obtain ⟨x7, rfl⟩ := hs'
  refine wp_seq (wp_pass ?_ ?_)
  · have e : eCall 3 den_judge_prices (aCons (eVar 4) (aCons (eVar 5) (aCons (eVar 6) aNil))) [some (tb n w), some (.int rent), some (.tuple [.int (cost n w o), nt o]), some (nat n), some (tb n (lack 50 w)), some (trow n (frs n (lack 50 w) o (hts n (lack 50 w) o))), some (trow n (hts n (lack 50 w) o)), x7, none, none, none, none] = some (.bool true) := by
      simp only [eCall_3, eVar_0, eVar_s, o1_s]
      exact hjp
    rw [tCmp_a, e]
    rfl
  refine wp_ret (d := tq n (trn n w o rent)) ?_ rfl
  rw [eCB_a, aCons_a, aNil_a]
  rw [eLc_of (fun j => .int (hts n (lack 50 w) o j)) (fun j => rt (trn n w o rent j)) (l := List.range n) rfl (by rw [List.length_range]; omega) fun j hj => ⟨[(9, .int (hts n (lack 50 w) o j))], rfl, ?_⟩]
  · rfl
  · have q := ratio_ok (a := rent + hsum n w o - n * hts n (lack 50 w) o j) (b := (n : Int)) (k := 10) (by omega) (by omega) (by omega)
    rw [trn_div h j] at q
    have m1 : dMul (.int (n : Int)) (.int (hts n (lack 50 w) o j)) = some (.int (n * hts n (lack 50 w) o j)) := dMul_i (mulOk_l (by omega))
    have z : dSum (trow n (hts n (lack 50 w) o)) = some (.int (hsum n w o)) := cSum_row (n := n) (c := hts n (lack 50 w) o)
    have a1 : ∀ x7 : Option D, eOp dSub (eOp dAdd (eVar 1) (eCB (d1 dSum) (aCons (eVar 6) aNil))) (eOp dMul (eVar 3) (eVar 9)) [some (tb n w), some (.int rent), some (.tuple [.int (cost n w o), nt o]), some (nat n), some (tb n (lack 50 w)), some (trow n (frs n (lack 50 w) o (hts n (lack 50 w) o))), some (trow n (hts n (lack 50 w) o)), x7, none, some (.int (hts n (lack 50 w) o j)), none, none] = some (.int (rent + hsum n w o - n * hts n (lack 50 w) o j)) := fun x7 => by
      rw [eOp_a, eOp_a, eCB_a, aCons_a, aNil_a, eOp_a]
      show o2 (o2 (some (PyData.int rent)) (o1 (o2 (some (trow n (hts n (lack 50 w) o))) (some []) fun d ds => some (d :: ds)) (d1 dSum)) dAdd) (o2 (some (PyData.int (n : Int))) (some (PyData.int (hts n (lack 50 w) o j))) dMul) dSub = _
      simp only [o2_ss, o1_s, d1_1, z, m1, dAdd_i, dSub_i]
    show eCall 2 den__law_ratio (aCons (eOp dSub (eOp dAdd (eVar 1) (eCB (d1 dSum) (aCons (eVar 6) aNil))) (eOp dMul (eVar 3) (eVar 9))) (aCons (eVar 3) aNil)) [some (tb n w), some (.int rent), some (.tuple [.int (cost n w o), nt o]), some (nat n), some (tb n (lack 50 w)), some (trow n (frs n (lack 50 w) o (hts n (lack 50 w) o))), some (trow n (hts n (lack 50 w) o)), x7, none, some (.int (hts n (lack 50 w) o j)), none, none] = _
    rw [eCall_2, a1]
    simp only [eVar_0, eVar_s, o1_s]
    exact q
end K50
end
section
set_option Elab.async false
set_option linter.all false
set_option maxRecDepth 10000
namespace K50
open DS PySem K27 Fit
open K71 (wp_forB rep_any rI rI_rt smI)
open K24 (set_done all_done)
open K52 (tq tq_flat den_parted parted_ok den_as_ratio den_is_whole den_is_ratio den_is_ratio_row is_ratio_row_ok as_int as_rt cSum_row SmI num_of den__law_under)
open Lib hiding den__law_sets law_sets_ok pl
variable {n : Nat} {w : Nat → Nat → Int} {o : List Nat} {rent : Int} {P : Nat → Rat} {R : D}
theorem emod1 (a : Int) {m : Int} (h : 0 < m) : 0 ≤ a % m ∧ a % m < m := ⟨Int.emod_nonneg _ (by omega), Int.emod_lt_of_pos _ h⟩
theorem sl_to {f g : FE} {ρ : PEnv} {ds : List D} {k : Nat} (h : f ρ = some (.tuple ds)) (hg : g ρ = some (.int k)) (hk : k ≤ ds.length) : eSl f oNone (oSome g) ρ = some (.tuple (ds.take k)) := by
  unfold eSl oNone oSome
  rw [h, hg]
  show some (PyData.tuple (cutD ds none (some (k : Int)))) = _
  unfold cutD
  rw [HT.sIx_none, HT.sIx_nat, Nat.min_eq_left hk, List.drop_zero, Nat.sub_zero]
theorem sl_from {f g : FE} {ρ : PEnv} {ds : List D} {k : Nat} (h : f ρ = some (.tuple ds)) (hg : g ρ = some (.int k)) (hk : k ≤ ds.length) : eSl f (oSome g) oNone ρ = some (.tuple (ds.drop k)) := by
  unfold eSl oNone oSome
  rw [h, hg]
  show some (PyData.tuple (cutD ds (some (k : Int)) none)) = _
  unfold cutD
  rw [HT.sIx_nat, HT.sIx_none, Nat.min_eq_left hk, List.take_of_length_le (by rw [List.length_drop]; omega)]
def upr (P : Nat → Rat) (s : Nat) (x : Rat) (j : Nat) : Rat := if j = s then x else P j
theorem upr_row {s : Nat} (x : Rat) : ((List.range n).map fun k => rt (P k)).set s (rt x) = (List.range n).map fun k => rt (upr P s x k) := by
  rw [K52.set_row]
  refine List.map_congr_left fun k _ => ?_
  unfold upr
  split <;> rfl
theorem cut_row {s : Nat} (hs : s < n) (x : Rat) : ((List.range n).map fun k => rt (P k)).take s ++ [rt x] ++ ((List.range n).map fun k => rt (P k)).drop (s + 1) = (List.range n).map fun k => rt (upr P s x k) := by
  rw [← upr_row]
  rw [List.set_eq_take_append_cons_drop, if_pos (by simpa using hs), List.append_assoc]
  rfl
theorem rsm_upr (x : Rat) (s : Nat) : ∀ k : Nat, rsm (upr P s x) k = rsm P k + (if s < k then x - P s else 0)
  | 0 => by
    show (0 : Rat) = 0 + _
    rw [if_neg (by omega)]
    grind
  | k + 1 => by
    show rsm (upr P s x) k + upr P s x k = rsm P k + P k + _
    rw [rsm_upr x s k]
    unfold upr
    by_cases h : k = s
    · subst h
      rw [if_neg (by omega), if_pos rfl, if_pos (by omega)]
      grind
    · rw [if_neg h]
      by_cases z : s < k
      · rw [if_pos z, if_pos (by omega)]
        grind
      · rw [if_neg z, if_neg (by omega)]
        grind
structure NF (n : Nat) (w : Nat → Nat → Int) (rent : Int) (x : List Nat × (Nat → Rat)) : Prop where
  perm : x.1.Perm (List.range n)
  sm : ∀ k < n, Sm 100 (x.2 k)
  no : frb n w rent x.1 x.2 = false
theorem nf_of (hn : ¬ Fair n w o P) : frb n w rent o P = false := by
  unfold frb
  cases e : (List.range n).all (fro n w o P) with
  | true => exact absurd (fro_iff.mp e) hn
  | false => rw [Bool.and_false]
def chD (n : Nat) (l : List (List Nat × (Nat → Rat))) : D := .list (l.map fun x => .tuple [nt x.1, tq n x.2])
theorem pair_flat (t : List Nat) (p : Nat → Rat) : flat (.tuple [nt t, tq n p]) = true := flat2 (nt_flat t) (tq_flat' p)
end K50
end
section
set_option Elab.async false
set_option linter.all false
set_option maxRecDepth 10000
namespace K52
open DS PySem K27
open K71 (wp_forB rep_any rI rI_rt wp_parF27 asc_sorted smI)
open K24 (dkey_cmp dkey_lt sort_ord set_done all_done)
open Lib hiding den__law_sets law_sets_ok pl
end K52
end
section
set_option Elab.async false
set_option linter.all false
set_option maxRecDepth 10000
namespace K52
open DS PySem K27
open K71 (wp_forB rep_any rI rI_rt wp_parF27 asc_sorted smI)
open K24 (dkey_cmp dkey_lt sort_ord set_done all_done)
open Lib hiding den__law_sets law_sets_ok pl
variable {n : Nat} {c : Nat → Int} {E : Rat}
end K52
end
section
set_option Elab.async false
set_option linter.all false
set_option maxRecDepth 10000
namespace K52
open DS PySem K27
open K71 (wp_forB rep_any rI rI_rt wp_parF27 asc_sorted smI)
open K24 (dkey_cmp dkey_lt sort_ord set_done all_done)
open Lib hiding den__law_sets law_sets_ok pl
variable {n : Nat} {c : Nat → Int}
theorem emod1 (a : Int) {m : Int} (h : 0 < m) : 0 ≤ a % m ∧ a % m < m := ⟨Int.emod_nonneg _ (by omega), Int.emod_lt_of_pos _ h⟩
theorem pl_tq {m n : Nat} (hn : n ≤ 5) (s : Nat → Rat) : Lib.pl (m + 3) (tq n s) = true := by
  unfold tq Lib.pl
  rw [Bool.and_eq_true, List.all_eq_true]
  refine ⟨decide_eq_true (by rw [List.length_map, List.length_range]; omega), ?_⟩
  intro d hd
  obtain ⟨k, _, rfl⟩ := List.mem_map.mp hd
  rfl
theorem pick2 (x y : Int) (a : Int) : ∃ v : Int, (v = x ∨ v = y) ∧ dIx (.tuple [.int x, .int y]) (.int (a % 2)) = some (.int v) := by
  have h0 : 0 ≤ a % 2 := Int.emod_nonneg _ (by omega)
  have h1 : a % 2 < 2 := Int.emod_lt_of_pos _ (by omega)
  rcases (show a % 2 = 0 ∨ a % 2 = 1 by omega) with e | e <;> rw [e]
  · exact ⟨x, .inl rfl, rfl⟩
  · exact ⟨y, .inr rfl, rfl⟩
theorem taker_ok {n : Nat} (h2 : 2 ≤ n) {g : Nat} (hg : g < n) (x : Int) : ∃ t : Nat, t < n ∧ g ≠ t ∧ ((g : Int) + 1 + x % ((n : Int) - 1)) % (n : Int) = (t : Int) := by
  have a1 := emod1 x (show (0 : Int) < (n : Int) - 1 by omega)
  by_cases hh : (g : Int) + 1 + x % ((n : Int) - 1) < n
  · refine ⟨((g : Int) + 1 + x % ((n : Int) - 1)).toNat, by omega, by omega, ?_⟩
    rw [Int.emod_eq_of_lt (by omega) hh]
    omega
  · refine ⟨((g : Int) + 1 + x % ((n : Int) - 1) - n).toNat, by omega, by omega, ?_⟩
    rw [← Int.sub_emod_right, Int.emod_eq_of_lt (by omega) (by omega)]
    omega
end K52
end
section
set_option Elab.async false
set_option linter.all false
set_option maxRecDepth 10000
namespace K50
open DS PySem K27 Fit
open K71 (wp_forB rep_any rI rI_rt smI)
open K24 (set_done all_done)
open K52 (tq tq_flat den_parted parted_ok den_as_ratio den_is_whole den_is_ratio den_is_ratio_row is_ratio_row_ok as_int as_rt cSum_row SmI num_of den__law_under)
open Lib hiding den__law_sets law_sets_ok pl
def den__law_changed_right : Fn := dfun 14 5 (sSeq (sSet 5 0 (eCB (d1 dLen) (aCons (eVar 0) aNil)) [])
  (sSeq (sSet 6 0 (eOp dMod (eCB (d1 dInt) (aCons (eIx (eVar 4) (eC (.int 20))) aNil)) (eVar 5)) ([] ++ [(5, 1)]))
  (sSeq (sSet 7 0 (eOp dAdd (eOp dAdd (eSl (eVar 3) oNone (oSome (eVar 6))) (eTup (aCons (eCall 2 den__law_add (aCons (eIx (eVar 3) (eVar 6)) (aCons (eTup (aCons (eC (.int 1)) (aCons (eC (.int 1)) aNil))) aNil))) aNil))) (eSl (eVar 3) (oSome (eOp dAdd (eVar 6) (eC (.int 1)))) oNone)) (([(3, 1)] ++ (([(3, 1)] ++ (([] ++ ([] ++ [])) ++ [])) ++ [])) ++ [(3, 1)]))
  (sSeq (sSet 8 1 (eLst (aCons (eTup (aCons (eVar 2) (aCons (eVar 7) aNil))) aNil)) (([(2, 0)] ++ ([(7, 0)] ++ [])) ++ []))
  (sSeq (sIf (tCmp dGt (eVar 5) (eC (.int 1)))
  (sSeq (sSet 9 0 (eOp dMod (eOp dAdd (eOp dAdd (eVar 6) (eC (.int 1))) (eOp dMod (eCB (d1 dInt) (aCons (eIx (eVar 4) (eC (.int 21))) aNil)) (eOp dSub (eVar 5) (eC (.int 1))))) (eVar 5)) ((([(6, 1)] ++ []) ++ ([] ++ ([(5, 1)] ++ []))) ++ [(5, 1)]))
  (sSeq (sSet 10 1 (eCB (d1 dList) (aCons (eVar 3) aNil)) ([(3, 1)] ++ []))
  (sSeq (sPut2 10 (eVar 6) 10 (eVar 9) (eTup (aCons (eCall 2 den__law_add (aCons (eIx (eVar 3) (eVar 6)) (aCons (eTup (aCons (eC (.int 200)) (aCons (eC (.int 1)) aNil))) aNil))) (aCons (eCall 2 den__law_add (aCons (eIx (eVar 3) (eVar 9)) (aCons (eTup (aCons (eUn dNeg (eC (.int 200))) (aCons (eC (.int 1)) aNil))) aNil))) aNil))))
  (sApp 8 (eTup (aCons (eVar 2) (aCons (eCB (d1 dTuple) (aCons (eVar 10) aNil)) aNil))) ([(2, 0)] ++ (([(10, 1)] ++ []) ++ []))))))
  sNil)
  (sSeq (sSet 11 1 (eLst aNil) [])
  (sSeq (sFor (iSeq (eCall 1 den__law_orders (aCons (eVar 5) aNil))) ([(5, 0)] ++ []) (.nm 12)
  (sIf (tCmp dLt (eCB (d1 dSum) (aCons (eLc (iRange1 (eVar 5)) (.nm 13) tTrue (eIx (eIx (eVar 0) (eVar 13)) (eIx (eVar 12) (eVar 13))) [13]) aNil)) (eCB (d1 dSum) (aCons (eLc (iRange1 (eVar 5)) (.nm 13) tTrue (eIx (eIx (eVar 0) (eVar 13)) (eIx (eVar 2) (eVar 13))) [13]) aNil)))
  (sApp 11 (eVar 12) [(12, 0)])
  sNil))
  (sSeq (sIf (tCmp dGt (eCB (d1 dLen) (aCons (eVar 11) aNil)) (eC (.int 0)))
  (sApp 8 (eTup (aCons (eIx (eVar 11) (eOp dMod (eCB (d1 dInt) (aCons (eIx (eVar 4) (eC (.int 22))) aNil)) (eCB (d1 dLen) (aCons (eVar 11) aNil)))) (aCons (eVar 3) aNil))) ([(11, 1)] ++ ([(3, 0)] ++ [])))
  sNil)
  (sRet (eCB (d1 dAll) (aCons (eLc (iSeq (eVar 8)) (.tp [(.nm 12), (.nm 9)]) tTrue (eB (tCmp dIs (eCall 4 den_is_fair_rents (aCons (eVar 0) (aCons (eVar 1) (aCons (eVar 12) (aCons (eVar 9) aNil))))) (eC (.bool false)))) [12, 9]) aNil)))))))))))
variable {n : Nat} {w : Nat → Nat → Int} {o : List Nat} {rent : Int} {P : Nat → Rat} {R : D} {r20 r21 r22 : Int}
theorem eTup_1 {f : FE} {ρ : PEnv} {x : D} (h : f ρ = some x) : eTup (aCons f aNil) ρ = some (.tuple [x]) := by
  unfold eTup
  rw [aCons_a, h, aNil_a]
  rfl
theorem wp_put2 {N B C : S → Prop} {R : D → Prop} {i1 i2 : Nat} {j1 j2 f : FE} {ρ : PEnv} {L : List Nat} {a b : D} {ds : List D} {k1 k2 : Nat} (h : f ρ = some (.tuple [a, b])) (ha : flat a = true) (hb : flat b = true) (h1 : eVar i1 ρ = some (.list ds)) (g1 : j1 ρ = some (.int k1)) (l1 : k1 < ds.length) (hL : lv L i1 = 1)
    (h2 : eVar i2 (ρ.set i1 (some (.list (ds.set k1 a)))) = some (.list (ds.set k1 a))) (g2 : j2 (ρ.set i1 (some (.list (ds.set k1 a)))) = some (.int k2)) (l2 : k2 < ds.length) (hL2 : lv L i2 = 1)
    (q : N ((ρ.set i1 (some (.list (ds.set k1 a)))).set i2 (some (.list ((ds.set k1 a).set k2 b))), L)) : WP (sPut2 i1 j1 i2 j2 f) (ρ, L) N R B C := by
  have e := Lib.sPut2_ok h ha hb h1 g1 l1 hL h2 g2 l2 hL2
  unfold WP
  rw [e]
  exact q
theorem add_int {m : Nat} {q : Rat} {a : Int} (hq : Sm m q) (hm : 0 < m) (hm2 : m ≤ 500) (ha : a.natAbs < 1024) : den__law_add [rt q, .tuple [.int a, .int 1]] = some (rt (q + (a : Rat))) :=
  ladd_ok' (q := (a : Rat)) hq (smI (k := 10) (by omega) (by omega)) hm (by omega) (by omega)
theorem changed_ok (h : Wt n w rent) (hp : o.Perm (List.range n)) (hF : Fair n w o P) (hsum : rsm P n = (rent : Rat)) (hs : ∀ k < n, Sm 60 (P k)) (x20 : dIx R (.int 20) = some (.int r20)) (x21 : dIx R (.int 21) = some (.int r21)) (x22 : dIx R (.int 22) = some (.int r22)) :
    den__law_changed_right [tb n w, .int rent, nt o, tq n P, R] = some (.bool true) := by
  have b4 := h.one
  have b5 := h.four
  have hn := h.five
  obtain ⟨s, hs0⟩ := Int.eq_ofNat_of_zero_le (emod1 r20 (show (0 : Int) < (n : Int) by omega)).1
  have hsn : s < n := by have := emod1 r20 (show (0 : Int) < (n : Int) by omega); omega
  have us : ∀ (a : Rat) (m : Nat), 60 ≤ m → Sm m a → ∀ k < n, Sm m (upr P s a k) := fun a m hm ha k hk => by
    unfold upr
    split
    · exact ha
    · exact (hs k hk).mono hm
  have sP1 : Sm 80 (P s + 1) := (Sm.add (hs s hsn) (smI (a := 1) (k := 10) (by decide) (by omega)) (by omega) (by omega) (by omega)).mono (by omega)
  have nf1 : NF n w rent (o, upr P s (P s + 1)) := ⟨hp, fun k hk => (us (P s + 1) 80 (by omega) sP1 k hk).mono (by omega), by
    have e : rsm (upr P s (P s + 1)) n = (rent : Rat) + 1 := by
      rw [rsm_upr, if_pos hsn, hsum]
      grind
    have : decide (rsm (upr P s (P s + 1)) n = (rent : Rat)) = false := decide_eq_false (by rw [e]; grind)
    unfold frb
    dsimp only
    rw [this]
    rfl⟩
  refine dfun_wp rfl ?_
  simp only [List.map_cons, List.map_nil, List.replicate_succ, List.replicate_zero, List.nil_append, List.cons_append, List.append_nil, Nat.reduceSub, Nat.reduceAdd, setsD, zeros, stt, setsO, setsJ, List.foldl_cons, List.foldl_nil, List.set_cons_zero, List.set_cons_succ, demote]
  refine wp_seq (wp_set (d := nat n) ?_ rfl ?_)
  · rw [eCB_a, aCons_a, aNil_a, eVar_0, o2_ss, o1_s, d1_1, tb_len]
    rfl
  simp only [List.map_cons, List.map_nil, List.replicate_succ, List.replicate_zero, List.nil_append, List.cons_append, List.append_nil, Nat.reduceSub, Nat.reduceAdd, setsD, zeros, stt, setsO, setsJ, List.foldl_cons, List.foldl_nil, List.set_cons_zero, List.set_cons_succ, demote]
  refine wp_seq (wp_set (d := nat s) ?_ rfl ?_)
  · show o2 (o1 (o2 (o2 (some R) (some (PyData.int 20)) dIx) (some []) fun d ds => some (d :: ds)) (d1 dInt)) (some (PyData.int (n : Int))) dMod = _
    rw [o2_ss, x20, o2_ss, o1_s, d1_1, dInt_i, o2_ss, dMod_i (show (0 : Int) < (n : Int) by omega), hs0]
    rfl
  simp only [List.map_cons, List.map_nil, List.replicate_succ, List.replicate_zero, List.nil_append, List.cons_append, List.append_nil, Nat.reduceSub, Nat.reduceAdd, setsD, zeros, stt, setsO, setsJ, List.foldl_cons, List.foldl_nil, List.set_cons_zero, List.set_cons_succ, demote]
  have y1 := K52.tq_ix (s := P) hsn
  have lenT : ((List.range n).map fun k => rt (P k)).length = n := by simp
  refine wp_seq (wp_set (d := tq n (upr P s (P s + 1))) ?_ (tq_flat' _) ?_)
  · have a1 : eSl (eVar 3) oNone (oSome (eVar 6)) [some (tb n w), some (.int rent), some (nt o), some (tq n P), some R, some (nat n), some (nat s), none, none, none, none, none, none, none] = some (.tuple (((List.range n).map fun k => rt (P k)).take s)) := sl_to rfl rfl (by rw [lenT]; omega)
    have a2 : eSl (eVar 3) (oSome (eOp dAdd (eVar 6) (eC (.int 1)))) oNone [some (tb n w), some (.int rent), some (nt o), some (tq n P), some R, some (nat n), some (nat s), none, none, none, none, none, none, none] = some (.tuple (((List.range n).map fun k => rt (P k)).drop (s + 1))) := by
      refine sl_from (k := s + 1) rfl ?_ (by rw [lenT]; omega)
      show dAdd (.int (s : Int)) (.int 1) = _
      rw [dAdd_i]
      rfl
    have a3 : eCall 2 den__law_add (aCons (eIx (eVar 3) (eVar 6)) (aCons (eTup (aCons (eC (.int 1)) (aCons (eC (.int 1)) aNil))) aNil)) [some (tb n w), some (.int rent), some (nt o), some (tq n P), some R, some (nat n), some (nat s), none, none, none, none, none, none, none] = some (rt (P s + 1)) := by
      have a4 : eTup (aCons (eC (.int 1)) (aCons (eC (.int 1)) aNil)) [some (tb n w), some (.int rent), some (nt o), some (tq n P), some R, some (nat n), some (nat s), none, none, none, none, none, none, none] = some (.tuple [.int 1, .int 1]) := rfl
      rw [eCall_2, a4]
      simp only [eIx_a, eVar_0, eVar_s, o2_ss, y1, o1_s]
      exact add_int (a := 1) (hs s hsn) (by omega) (by omega) (by decide)
    have a5 : eTup (aCons (eCall 2 den__law_add (aCons (eIx (eVar 3) (eVar 6)) (aCons (eTup (aCons (eC (.int 1)) (aCons (eC (.int 1)) aNil))) aNil))) aNil) [some (tb n w), some (.int rent), some (nt o), some (tq n P), some R, some (nat n), some (nat s), none, none, none, none, none, none, none] = some (.tuple [rt (P s + 1)]) := by
      exact eTup_1 a3
    have cat : ∀ x y : List D, x.length + y.length ≤ 16777216 → dAdd (.tuple x) (.tuple y) = some (.tuple (x ++ y)) := fun x y hxy => by
      show (if x.length + y.length ≤ 16777216 then some (PyData.tuple (x ++ y)) else none) = _
      rw [if_pos hxy]
    rw [eOp_a, eOp_a, a1, a5, a2, o2_ss, cat _ _ (by simp; omega), o2_ss, cat _ _ (by simp; omega), cut_row hsn]
    rfl
  simp only [List.map_cons, List.map_nil, List.replicate_succ, List.replicate_zero, List.nil_append, List.cons_append, List.append_nil, Nat.reduceSub, Nat.reduceAdd, setsD, zeros, stt, setsO, setsJ, List.foldl_cons, List.foldl_nil, List.set_cons_zero, List.set_cons_succ, demote]
  refine wp_seq (wp_setL (L' := [0, 0, 0, 0, 0, 0, 0, 0, 1, 0, 0, 0, 0, 0]) (d := chD n [(o, upr P s (P s + 1))]) ?_ rfl rfl ?_)
  · have a : eTup (aCons (eVar 2) (aCons (eVar 7) aNil)) [some (tb n w), some (.int rent), some (nt o), some (tq n P), some R, some (nat n), some (nat s), some (tq n (upr P s (P s + 1))), none, none, none, none, none, none] = some (.tuple [nt o, tq n (upr P s (P s + 1))]) := eTup_2 rfl rfl
    unfold eLst
    rw [aCons_a, a, aNil_a]
    rfl
  simp only [List.map_cons, List.map_nil, List.replicate_succ, List.replicate_zero, List.nil_append, List.cons_append, List.append_nil, Nat.reduceSub, Nat.reduceAdd, setsD, zeros, stt, setsO, setsJ, List.foldl_cons, List.foldl_nil, List.set_cons_zero, List.set_cons_succ, demote]
  refine wp_seq (wp_imp (N := fun s' => ∃ x9 x10 L l, s' = ([some (tb n w), some (.int rent), some (nt o), some (tq n P), some R, some (nat n), some (nat s), some (tq n (upr P s (P s + 1))), some (chD n l), x9, x10, none, none, none], L) ∧ (L = [0, 0, 0, 0, 0, 0, 0, 0, 1, 0, 0, 0, 0, 0] ∨ L = [0, 0, 0, 0, 0, 0, 0, 0, 1, 0, 1, 0, 0, 0]) ∧ l.length ≤ 2 ∧ ∀ x ∈ l, NF n w rent x) (R := fun _ => False) (B := No) (C := No) ?_ (fun s' hs' => ?_) (fun _ z => z.elim) (fun _ z => z) (fun _ z => z))
  · refine wp_if (t := decide (1 < n)) ?_ (fun hq => ?_) fun hq => ?_
    · show dGt (.int (n : Int)) (.int 1) = _
      rw [dGt_i]
      exact congrArg some (decide_eq_decide.mpr ⟨fun z => by omega, fun z => by omega⟩)
    · have h2 := of_decide_eq_true hq
      obtain ⟨q, hqn, hsq, hqv⟩ := K52.taker_ok (n := n) (g := s) (by omega) hsn r21
      refine wp_seq (wp_set (d := nat q) ?_ rfl ?_)
      · show o2 (o2 (o2 (some (PyData.int (s : Int))) (some (PyData.int 1)) dAdd) (o2 (o1 (o2 (o2 (some R) (some (PyData.int 21)) dIx) (some []) fun d ds => some (d :: ds)) (d1 dInt)) (o2 (some (PyData.int (n : Int))) (some (PyData.int 1)) dSub) dMod) dAdd) (some (PyData.int (n : Int))) dMod = _
        simp only [o2_ss, x21, o1_s, d1_1, dInt_i, dAdd_i, dSub_i, dMod_i (show (0 : Int) < (n : Int) - 1 by omega), dMod_i (show (0 : Int) < (n : Int) by omega), hqv]
        rfl
      simp only [List.map_cons, List.map_nil, List.replicate_succ, List.replicate_zero, List.nil_append, List.cons_append, List.append_nil, Nat.reduceSub, Nat.reduceAdd, setsD, zeros, stt, setsO, setsJ, List.foldl_cons, List.foldl_nil, List.set_cons_zero, List.set_cons_succ, demote]
      have y2 := K52.tq_ix (s := P) hqn
      refine wp_seq (wp_setL (L' := [0, 0, 0, 0, 0, 0, 0, 0, 1, 0, 1, 0, 0, 0]) (d := .list ((List.range n).map fun k => rt (P k))) rfl rfl rfl ?_)
      simp only [List.map_cons, List.map_nil, List.replicate_succ, List.replicate_zero, List.nil_append, List.cons_append, List.append_nil, Nat.reduceSub, Nat.reduceAdd, setsD, zeros, stt, setsO, setsJ, List.foldl_cons, List.foldl_nil, List.set_cons_zero, List.set_cons_succ, demote]
      have sA : Sm 80 (P s + 200) := (Sm.add (hs s hsn) (smI (a := 200) (k := 10) (by decide) (by omega)) (by omega) (by omega) (by omega)).mono (by omega)
      have sB : Sm 80 (P q - 200) := (Sm.sub (hs q hqn) (smI (a := 200) (k := 10) (by decide) (by omega)) (by omega) (by omega) (by omega)).mono (by omega)
      have nf2 : NF n w rent (o, upr (upr P s (P s + 200)) q (P q - 200)) := ⟨hp, fun k hk => by
        show Sm 100 (upr (upr P s (P s + 200)) q (P q - 200) k)
        unfold upr
        split
        · exact sB.mono (by omega)
        · split
          · exact sA.mono (by omega)
          · exact (hs k hk).mono (by omega), nf_of (moved_unfair hp h.bd hF hsn hqn hsq (by show upr (upr P s (P s + 200)) q (P q - 200) s = _; unfold upr; rw [if_neg hsq, if_pos rfl]) (by show upr (upr P s (P s + 200)) q (P q - 200) q = _; unfold upr; rw [if_pos rfl]))⟩
      have e1 : ∀ x10 : Option D, eCall 2 den__law_add (aCons (eIx (eVar 3) (eVar 6)) (aCons (eTup (aCons (eC (.int 200)) (aCons (eC (.int 1)) aNil))) aNil)) [some (tb n w), some (.int rent), some (nt o), some (tq n P), some R, some (nat n), some (nat s), some (tq n (upr P s (P s + 1))), some (chD n [(o, upr P s (P s + 1))]), some (nat q), x10, none, none, none] = some (rt (P s + 200)) := fun x10 => by
        have a4 : eTup (aCons (eC (.int 200)) (aCons (eC (.int 1)) aNil)) [some (tb n w), some (.int rent), some (nt o), some (tq n P), some R, some (nat n), some (nat s), some (tq n (upr P s (P s + 1))), some (chD n [(o, upr P s (P s + 1))]), some (nat q), x10, none, none, none] = some (.tuple [.int 200, .int 1]) := rfl
        rw [eCall_2, a4]
        simp only [eIx_a, eVar_0, eVar_s, o2_ss, y1, o1_s]
        exact add_int (a := 200) (hs s hsn) (by omega) (by omega) (by decide)
      have e2 : ∀ x10 : Option D, eCall 2 den__law_add (aCons (eIx (eVar 3) (eVar 9)) (aCons (eTup (aCons (eUn dNeg (eC (.int 200))) (aCons (eC (.int 1)) aNil))) aNil)) [some (tb n w), some (.int rent), some (nt o), some (tq n P), some R, some (nat n), some (nat s), some (tq n (upr P s (P s + 1))), some (chD n [(o, upr P s (P s + 1))]), some (nat q), x10, none, none, none] = some (rt (P q - 200)) := fun x10 => by
        have a4 : eTup (aCons (eUn dNeg (eC (.int 200))) (aCons (eC (.int 1)) aNil)) [some (tb n w), some (.int rent), some (nt o), some (tq n P), some R, some (nat n), some (nat s), some (tq n (upr P s (P s + 1))), some (chD n [(o, upr P s (P s + 1))]), some (nat q), x10, none, none, none] = some (.tuple [.int (-200), .int 1]) := rfl
        have q1 := add_int (a := -200) (hs q hqn) (by omega) (by omega) (by decide)
        have e : P q + ((-200 : Int) : Rat) = P q - 200 := by
          have : ((-200 : Int) : Rat) = -200 := rfl
          rw [this]
          grind
        rw [e] at q1
        rw [eCall_2, a4]
        simp only [eIx_a, eVar_0, eVar_s, o2_ss, y2, o1_s]
        exact q1
      refine wp_seq (wp_put2 (a := rt (P s + 200)) (b := rt (P q - 200)) (ds := (List.range n).map fun k => rt (P k)) (k1 := s) (k2 := q) (eTup_2 (e1 _) (e2 _)) rfl rfl rfl rfl (by simpa using hsn) rfl rfl rfl (by simpa using hqn) rfl ?_)
      simp only [List.map_cons, List.map_nil, List.replicate_succ, List.replicate_zero, List.nil_append, List.cons_append, List.append_nil, Nat.reduceSub, Nat.reduceAdd, setsD, zeros, stt, setsO, setsJ, List.foldl_cons, List.foldl_nil, List.set_cons_zero, List.set_cons_succ, demote]
      rw [upr_row, upr_row]
      refine wp_app (d := .tuple [nt o, tq n (upr (upr P s (P s + 200)) q (P q - 200))]) ?_ rfl (pair_flat _ _) (by simp) rfl ⟨some (nat q), _, _, [(o, upr P s (P s + 1)), (o, upr (upr P s (P s + 200)) q (P q - 200))], rfl, .inr rfl, by simp, fun x hx => ?_⟩
      · exact eTup_2 rfl rfl
      · rcases List.mem_cons.mp hx with z | hx
        · rw [z]; exact nf1
        · rw [List.mem_singleton.mp hx]; exact nf2
    · refine wp_nil ⟨none, none, _, [(o, upr P s (P s + 1))], rfl, .inl rfl, by simp, fun x hx => ?_⟩
      rw [List.mem_singleton.mp hx]
      exact nf1
  obtain ⟨x9, x10, L, l, rfl, hL, hll, hnf⟩ := hs'
  have ordl := Lib.ords_len n (by omega)
  rcases hL with rfl | rfl
  · refine wp_seq (wp_setL (L' := [0, 0, 0, 0, 0, 0, 0, 0, 1, 0, 0, 1, 0, 0]) (d := .list []) rfl rfl rfl ?_)
    simp only [List.map_cons, List.map_nil, List.replicate_succ, List.replicate_zero, List.nil_append, List.cons_append, List.append_nil, Nat.reduceSub, Nat.reduceAdd, setsD, zeros, stt, setsO, setsJ, List.foldl_cons, List.foldl_nil, List.set_cons_zero, List.set_cons_succ, demote]
    refine wp_seq (wp_for (ds := (ords n n).map nt) (fun k s' => ∃ x12 W, s' = ([some (tb n w), some (.int rent), some (nt o), some (tq n P), some R, some (nat n), some (nat s), some (tq n (upr P s (P s + 1))), some (chD n l), x9, x10, some (.list (W.map nt)), x12, none], [0, 0, 0, 0, 0, 0, 0, 0, 1, 0, 0, 1, 0, 0]) ∧ (∀ t ∈ W, t.Perm (List.range n) ∧ cost n w t < cost n w o) ∧ W.length ≤ k) ?_ ⟨none, [], rfl, (fun t ht => by simp at ht), Nat.le_refl _⟩ (fun k d s' hd hs' => ?_) fun s' hs' => ?_)
    · rw [iSeq_a, eCall_1]
      show o1 (o1 (some (PyData.int (n : Int))) fun x => den__law_orders [x]) seqOf = _
      rw [o1_s, law_orders_ok (by omega), o1_s]
      rfl
    · obtain ⟨x12, W, rfl, hW, hWl⟩ := hs'
      have hk : k < 720 := by
        have := (List.getElem?_eq_some_iff.mp hd).1
        rw [List.length_map] at this
        omega
      rw [List.getElem?_map] at hd
      obtain ⟨t, ht, rfl⟩ := Option.map_eq_some_iff.mp hd
      have tp := row_perm.mp (List.mem_of_getElem? ht)
      refine ⟨[(12, nt t)], rfl, ?_⟩
      simp only [List.map_cons, List.map_nil, List.replicate_succ, List.replicate_zero, List.nil_append, List.cons_append, List.append_nil, Nat.reduceSub, Nat.reduceAdd, setsD, zeros, stt, setsO, setsJ, List.foldl_cons, List.foldl_nil, List.set_cons_zero, List.set_cons_succ, demote]
      have sumc : ∀ (i : Nat) (u : List Nat) (ρ : PEnv), u.Perm (List.range n) → eVar 0 (wipeD ρ [13]) = some (tb n w) → eVar 5 ρ = some (nat n) → (∀ z, eVar 0 ((wipeD ρ [13]).set 13 (some (nat z))) = some (tb n w) ∧ eVar 13 ((wipeD ρ [13]).set 13 (some (nat z))) = some (nat z) ∧ eVar i ((wipeD ρ [13]).set 13 (some (nat z))) = some (nt u)) → eCB (d1 dSum) (aCons (eLc (iRange1 (eVar 5)) (.nm 13) tTrue (eIx (eIx (eVar 0) (eVar 13)) (eIx (eVar i) (eVar 13))) [13]) aNil) ρ = some (.int (cost n w u)) := fun i u ρ hu _ h5 hz => by
        rw [eCB_a, aCons_a, aNil_a]
        rw [eLc_of nat (fun z => .int (w z (tk u z))) (l := List.range n) (range1_nat (n := n) h5 (by omega)) (by rw [List.length_range]; omega) fun z hz' => ⟨[(13, nat z)], rfl, ?_⟩]
        · rw [o2_ss, o1_s, d1_1, sum_row fun z => w z (tk u z)]
          rfl
        · have hz' := List.mem_range.mp hz'
          obtain ⟨z0, z1, z2⟩ := hz z
          have a1 := tb_at (c := w) hz'
          have a2 := nt_tk hu hz'
          have a3 := trow_at (f := w z) (own hu hz').2
          show eIx (eIx (eVar 0) (eVar 13)) (eIx (eVar i) (eVar 13)) ((wipeD ρ [13]).set 13 (some (nat z))) = _
          simp only [eIx_a, z0, z1, z2, o2_ss, a1, a2, a3]
      refine wp_if (t := decide (cost n w t < cost n w o)) ?_ (fun hq => ?_) fun hq => ?_
      · rw [tCmp_a, sumc 12 t _ tp rfl rfl (fun z => ⟨rfl, rfl, rfl⟩), sumc 2 o _ hp rfl rfl (fun z => ⟨rfl, rfl, rfl⟩), o2_ss, dLt_i]
      · have hq := of_decide_eq_true hq
        refine wp_app (d := nt t) rfl rfl (nt_flat t) (by rw [List.length_map]; omega) rfl ⟨some (nt t), W ++ [t], ?_, fun u hu => ?_, by simp; omega⟩
        · simp only [List.map_cons, List.map_nil, List.replicate_succ, List.replicate_zero, List.nil_append, List.cons_append, List.append_nil, Nat.reduceSub, Nat.reduceAdd, setsD, zeros, stt, setsO, setsJ, List.foldl_cons, List.foldl_nil, List.set_cons_zero, List.set_cons_succ, demote]
          rw [List.map_append]
          rfl
        · rcases List.mem_append.mp hu with hu | hu
          · exact hW u hu
          · rw [List.mem_singleton.mp hu]
            exact ⟨tp, hq⟩
      · exact wp_nil ⟨some (nt t), W, rfl, hW, by omega⟩
    obtain ⟨x12, W, rfl, hW, hWl⟩ := hs'
    refine wp_seq (wp_imp (N := fun s' => ∃ l', s' = ([some (tb n w), some (.int rent), some (nt o), some (tq n P), some R, some (nat n), some (nat s), some (tq n (upr P s (P s + 1))), some (chD n l'), x9, x10, some (.list (W.map nt)), x12, none], [0, 0, 0, 0, 0, 0, 0, 0, 1, 0, 0, 1, 0, 0]) ∧ l'.length ≤ 3 ∧ ∀ x ∈ l', NF n w rent x) (R := fun _ => False) (B := No) (C := No) ?_ (fun s' hs' => ?_) (fun _ z => z.elim) (fun _ z => z) (fun _ z => z))
    · refine wp_if (t := decide (0 < W.length)) ?_ (fun hq => ?_) fun hq => ?_
      · rw [tCmp_a, eCB_a, aCons_a, aNil_a]
        show o2 (o1 (o2 (some (PyData.list (W.map nt))) (some []) fun d ds => some (d :: ds)) (d1 dLen)) (some (PyData.int 0)) dGt = _
        rw [o2_ss, o1_s, d1_1, dLen_l, List.length_map, o2_ss, dGt_i]
        exact congrArg some (decide_eq_decide.mpr ⟨fun z => by omega, fun z => by omega⟩)
      · have hq := of_decide_eq_true hq
        have hm := emod1 r22 (show (0 : Int) < (W.length : Int) by omega)
        obtain ⟨z, hz⟩ := Int.eq_ofNat_of_zero_le hm.1
        have hzl : z < W.length := by omega
        obtain ⟨t, ht⟩ : ∃ t, W[z]? = some t := ⟨_, List.getElem?_eq_getElem hzl⟩
        obtain ⟨tp, tc⟩ := hW t (List.mem_of_getElem? ht)
        have nf3 : NF n w rent (t, P) := ⟨tp, fun k hk => (hs k hk).mono (by omega), nf_of fun hft => by
          have := hft.most tp hp
          omega⟩
        refine wp_app (d := .tuple [nt t, tq n P]) ?_ rfl (pair_flat t P) (by rw [List.length_map]; omega) rfl ⟨l ++ [(t, P)], ?_, by simp; omega, fun x hx => ?_⟩
        · refine eTup_2 ?_ rfl
          have a1 : L2.atI (W.map nt) (z : Int) = some (nt t) := L2.atI_nat (by rw [List.getElem?_map, ht]; rfl)
          have a2 : dIx (.list (W.map nt)) (.int (z : Int)) = some (nt t) := a1
          have a3 : dLen (.list (W.map nt)) = some (.int (W.length : Int)) := by rw [dLen_l, List.length_map]
          rw [eIx_a, eOp_a, eCB_a, aCons_a, aNil_a, eCB_a, aCons_a, aNil_a]
          show o2 (some (PyData.list (W.map nt))) (o2 (o1 (o2 (o2 (some R) (some (PyData.int 22)) dIx) (some []) fun d ds => some (d :: ds)) (d1 dInt)) (o1 (o2 (some (PyData.list (W.map nt))) (some []) fun d ds => some (d :: ds)) (d1 dLen)) dMod) dIx = _
          simp only [o2_ss, x22, o1_s, d1_1, dInt_i, a3, dMod_i (show (0 : Int) < (W.length : Int) by omega), hz]
          exact a2
        · simp only [List.map_cons, List.map_nil, List.replicate_succ, List.replicate_zero, List.nil_append, List.cons_append, List.append_nil, Nat.reduceSub, Nat.reduceAdd, setsD, zeros, stt, setsO, setsJ, List.foldl_cons, List.foldl_nil, List.set_cons_zero, List.set_cons_succ, demote]
          unfold chD
          rw [List.map_append]
          rfl
        · rcases List.mem_append.mp hx with hx | hx
          · exact hnf x hx
          · rw [List.mem_singleton.mp hx]; exact nf3
      · exact wp_nil ⟨l, rfl, by omega, hnf⟩
    obtain ⟨l', rfl, hl'l, hnf'⟩ := hs'
    refine wp_ret (d := .bool true) ?_ rfl
    rw [eCB_a, aCons_a, aNil_a]
    rw [eLc_of (fun x : List Nat × (Nat → Rat) => .tuple [nt x.1, tq n x.2]) (fun _ => .bool true) (l := l') rfl (by omega) fun x hx => ⟨[(12, nt x.1), (9, tq n x.2)], rfl, ?_⟩]
    · rw [o2_ss, o1_s, d1_1]
      have := dAll_ok (l'.map fun _ => true)
      rw [List.map_map, List.all_map] at this
      have h2 : (l'.all (id ∘ fun _ => true)) = true := by simp
      rw [h2] at this
      exact this
    · have nf := hnf' x hx
      have q := is_fair_ok (m := 100) h nf.perm (by omega) (by omega) nf.sm
      rw [nf.no] at q
      have e : eCall 4 den_is_fair_rents (aCons (eVar 0) (aCons (eVar 1) (aCons (eVar 12) (aCons (eVar 9) aNil)))) (setsD (wipeD [some (tb n w), some (.int rent), some (nt o), some (tq n P), some R, some (nat n), some (nat s), some (tq n (upr P s (P s + 1))), some (chD n l'), x9, x10, some (.list (W.map nt)), x12, none] [12, 9]) [(12, nt x.1), (9, tq n x.2)]) = some (.bool false) := by
        simp only [wipeD]
        simp only [List.map_cons, List.map_nil, List.replicate_succ, List.replicate_zero, List.nil_append, List.cons_append, List.append_nil, Nat.reduceSub, Nat.reduceAdd, setsD, zeros, stt, setsO, setsJ, List.foldl_cons, List.foldl_nil, List.set_cons_zero, List.set_cons_succ, demote]
        simp only [eCall_4, eVar_0, eVar_s, o1_s]
        exact q
      unfold eB tCmp
      rw [e]
      rfl
  · refine wp_seq (wp_setL (L' := [0, 0, 0, 0, 0, 0, 0, 0, 1, 0, 1, 1, 0, 0]) (d := .list []) rfl rfl rfl ?_)
    simp only [List.map_cons, List.map_nil, List.replicate_succ, List.replicate_zero, List.nil_append, List.cons_append, List.append_nil, Nat.reduceSub, Nat.reduceAdd, setsD, zeros, stt, setsO, setsJ, List.foldl_cons, List.foldl_nil, List.set_cons_zero, List.set_cons_succ, demote]
    refine wp_seq (wp_for (ds := (ords n n).map nt) (fun k s' => ∃ x12 W, s' = ([some (tb n w), some (.int rent), some (nt o), some (tq n P), some R, some (nat n), some (nat s), some (tq n (upr P s (P s + 1))), some (chD n l), x9, x10, some (.list (W.map nt)), x12, none], [0, 0, 0, 0, 0, 0, 0, 0, 1, 0, 1, 1, 0, 0]) ∧ (∀ t ∈ W, t.Perm (List.range n) ∧ cost n w t < cost n w o) ∧ W.length ≤ k) ?_ ⟨none, [], rfl, (fun t ht => by simp at ht), Nat.le_refl _⟩ (fun k d s' hd hs' => ?_) fun s' hs' => ?_)
    · rw [iSeq_a, eCall_1]
      show o1 (o1 (some (PyData.int (n : Int))) fun x => den__law_orders [x]) seqOf = _
      rw [o1_s, law_orders_ok (by omega), o1_s]
      rfl
    · obtain ⟨x12, W, rfl, hW, hWl⟩ := hs'
      have hk : k < 720 := by
        have := (List.getElem?_eq_some_iff.mp hd).1
        rw [List.length_map] at this
        omega
      rw [List.getElem?_map] at hd
      obtain ⟨t, ht, rfl⟩ := Option.map_eq_some_iff.mp hd
      have tp := row_perm.mp (List.mem_of_getElem? ht)
      refine ⟨[(12, nt t)], rfl, ?_⟩
      simp only [List.map_cons, List.map_nil, List.replicate_succ, List.replicate_zero, List.nil_append, List.cons_append, List.append_nil, Nat.reduceSub, Nat.reduceAdd, setsD, zeros, stt, setsO, setsJ, List.foldl_cons, List.foldl_nil, List.set_cons_zero, List.set_cons_succ, demote]
      have sumc : ∀ (i : Nat) (u : List Nat) (ρ : PEnv), u.Perm (List.range n) → eVar 0 (wipeD ρ [13]) = some (tb n w) → eVar 5 ρ = some (nat n) → (∀ z, eVar 0 ((wipeD ρ [13]).set 13 (some (nat z))) = some (tb n w) ∧ eVar 13 ((wipeD ρ [13]).set 13 (some (nat z))) = some (nat z) ∧ eVar i ((wipeD ρ [13]).set 13 (some (nat z))) = some (nt u)) → eCB (d1 dSum) (aCons (eLc (iRange1 (eVar 5)) (.nm 13) tTrue (eIx (eIx (eVar 0) (eVar 13)) (eIx (eVar i) (eVar 13))) [13]) aNil) ρ = some (.int (cost n w u)) := fun i u ρ hu _ h5 hz => by
        rw [eCB_a, aCons_a, aNil_a]
        rw [eLc_of nat (fun z => .int (w z (tk u z))) (l := List.range n) (range1_nat (n := n) h5 (by omega)) (by rw [List.length_range]; omega) fun z hz' => ⟨[(13, nat z)], rfl, ?_⟩]
        · rw [o2_ss, o1_s, d1_1, sum_row fun z => w z (tk u z)]
          rfl
        · have hz' := List.mem_range.mp hz'
          obtain ⟨z0, z1, z2⟩ := hz z
          have a1 := tb_at (c := w) hz'
          have a2 := nt_tk hu hz'
          have a3 := trow_at (f := w z) (own hu hz').2
          show eIx (eIx (eVar 0) (eVar 13)) (eIx (eVar i) (eVar 13)) ((wipeD ρ [13]).set 13 (some (nat z))) = _
          simp only [eIx_a, z0, z1, z2, o2_ss, a1, a2, a3]
      refine wp_if (t := decide (cost n w t < cost n w o)) ?_ (fun hq => ?_) fun hq => ?_
      · rw [tCmp_a, sumc 12 t _ tp rfl rfl (fun z => ⟨rfl, rfl, rfl⟩), sumc 2 o _ hp rfl rfl (fun z => ⟨rfl, rfl, rfl⟩), o2_ss, dLt_i]
      · have hq := of_decide_eq_true hq
        refine wp_app (d := nt t) rfl rfl (nt_flat t) (by rw [List.length_map]; omega) rfl ⟨some (nt t), W ++ [t], ?_, fun u hu => ?_, by simp; omega⟩
        · simp only [List.map_cons, List.map_nil, List.replicate_succ, List.replicate_zero, List.nil_append, List.cons_append, List.append_nil, Nat.reduceSub, Nat.reduceAdd, setsD, zeros, stt, setsO, setsJ, List.foldl_cons, List.foldl_nil, List.set_cons_zero, List.set_cons_succ, demote]
          rw [List.map_append]
          rfl
        · rcases List.mem_append.mp hu with hu | hu
          · exact hW u hu
          · rw [List.mem_singleton.mp hu]
            exact ⟨tp, hq⟩
      · exact wp_nil ⟨some (nt t), W, rfl, hW, by omega⟩
    obtain ⟨x12, W, rfl, hW, hWl⟩ := hs'
    refine wp_seq (wp_imp (N := fun s' => ∃ l', s' = ([some (tb n w), some (.int rent), some (nt o), some (tq n P), some R, some (nat n), some (nat s), some (tq n (upr P s (P s + 1))), some (chD n l'), x9, x10, some (.list (W.map nt)), x12, none], [0, 0, 0, 0, 0, 0, 0, 0, 1, 0, 1, 1, 0, 0]) ∧ l'.length ≤ 3 ∧ ∀ x ∈ l', NF n w rent x) (R := fun _ => False) (B := No) (C := No) ?_ (fun s' hs' => ?_) (fun _ z => z.elim) (fun _ z => z) (fun _ z => z))
    · refine wp_if (t := decide (0 < W.length)) ?_ (fun hq => ?_) fun hq => ?_
      · rw [tCmp_a, eCB_a, aCons_a, aNil_a]
        show o2 (o1 (o2 (some (PyData.list (W.map nt))) (some []) fun d ds => some (d :: ds)) (d1 dLen)) (some (PyData.int 0)) dGt = _
        rw [o2_ss, o1_s, d1_1, dLen_l, List.length_map, o2_ss, dGt_i]
        exact congrArg some (decide_eq_decide.mpr ⟨fun z => by omega, fun z => by omega⟩)
      · have hq := of_decide_eq_true hq
        have hm := emod1 r22 (show (0 : Int) < (W.length : Int) by omega)
        obtain ⟨z, hz⟩ := Int.eq_ofNat_of_zero_le hm.1
        have hzl : z < W.length := by omega
        obtain ⟨t, ht⟩ : ∃ t, W[z]? = some t := ⟨_, List.getElem?_eq_getElem hzl⟩
        obtain ⟨tp, tc⟩ := hW t (List.mem_of_getElem? ht)
        have nf3 : NF n w rent (t, P) := ⟨tp, fun k hk => (hs k hk).mono (by omega), nf_of fun hft => by
          have := hft.most tp hp
          omega⟩
        refine wp_app (d := .tuple [nt t, tq n P]) ?_ rfl (pair_flat t P) (by rw [List.length_map]; omega) rfl ⟨l ++ [(t, P)], ?_, by simp; omega, fun x hx => ?_⟩
        · refine eTup_2 ?_ rfl
          have a1 : L2.atI (W.map nt) (z : Int) = some (nt t) := L2.atI_nat (by rw [List.getElem?_map, ht]; rfl)
          have a2 : dIx (.list (W.map nt)) (.int (z : Int)) = some (nt t) := a1
          have a3 : dLen (.list (W.map nt)) = some (.int (W.length : Int)) := by rw [dLen_l, List.length_map]
          rw [eIx_a, eOp_a, eCB_a, aCons_a, aNil_a, eCB_a, aCons_a, aNil_a]
          show o2 (some (PyData.list (W.map nt))) (o2 (o1 (o2 (o2 (some R) (some (PyData.int 22)) dIx) (some []) fun d ds => some (d :: ds)) (d1 dInt)) (o1 (o2 (some (PyData.list (W.map nt))) (some []) fun d ds => some (d :: ds)) (d1 dLen)) dMod) dIx = _
          simp only [o2_ss, x22, o1_s, d1_1, dInt_i, a3, dMod_i (show (0 : Int) < (W.length : Int) by omega), hz]
          exact a2
        · simp only [List.map_cons, List.map_nil, List.replicate_succ, List.replicate_zero, List.nil_append, List.cons_append, List.append_nil, Nat.reduceSub, Nat.reduceAdd, setsD, zeros, stt, setsO, setsJ, List.foldl_cons, List.foldl_nil, List.set_cons_zero, List.set_cons_succ, demote]
          unfold chD
          rw [List.map_append]
          rfl
        · rcases List.mem_append.mp hx with hx | hx
          · exact hnf x hx
          · rw [List.mem_singleton.mp hx]; exact nf3
      · exact wp_nil ⟨l, rfl, by omega, hnf⟩
    obtain ⟨l', rfl, hl'l, hnf'⟩ := hs'
    refine wp_ret (d := .bool true) ?_ rfl
    rw [eCB_a, aCons_a, aNil_a]
    rw [eLc_of (fun x : List Nat × (Nat → Rat) => .tuple [nt x.1, tq n x.2]) (fun _ => .bool true) (l := l') rfl (by omega) fun x hx => ⟨[(12, nt x.1), (9, tq n x.2)], rfl, ?_⟩]
    · rw [o2_ss, o1_s, d1_1]
      have := dAll_ok (l'.map fun _ => true)
      rw [List.map_map, List.all_map] at this
      have h2 : (l'.all (id ∘ fun _ => true)) = true := by simp
      rw [h2] at this
      exact this
    · have nf := hnf' x hx
      have q := is_fair_ok (m := 100) h nf.perm (by omega) (by omega) nf.sm
      rw [nf.no] at q
      have e : eCall 4 den_is_fair_rents (aCons (eVar 0) (aCons (eVar 1) (aCons (eVar 12) (aCons (eVar 9) aNil)))) (setsD (wipeD [some (tb n w), some (.int rent), some (nt o), some (tq n P), some R, some (nat n), some (nat s), some (tq n (upr P s (P s + 1))), some (chD n l'), x9, x10, some (.list (W.map nt)), x12, none] [12, 9]) [(12, nt x.1), (9, tq n x.2)]) = some (.bool false) := by
        simp only [wipeD]
        simp only [List.map_cons, List.map_nil, List.replicate_succ, List.replicate_zero, List.nil_append, List.cons_append, List.append_nil, Nat.reduceSub, Nat.reduceAdd, setsD, zeros, stt, setsO, setsJ, List.foldl_cons, List.foldl_nil, List.set_cons_zero, List.set_cons_succ, demote]
        simp only [eCall_4, eVar_0, eVar_s, o1_s]
        exact q
      unfold eB tCmp
      rw [e]
      rfl
end K50
end
section
set_option Elab.async false
set_option linter.all false
set_option maxRecDepth 10000
namespace K50
open DS PySem K27 Fit
open K71 (wp_forB rep_any rI rI_rt smI)
open K24 (set_done all_done)
open K52 (tq tq_flat den_parted parted_ok den_as_ratio den_is_whole den_is_ratio den_is_ratio_row is_ratio_row_ok as_int as_rt cSum_row SmI num_of den__law_under)
open Lib hiding den__law_sets law_sets_ok pl
def den_law : Fn := dfun 13 1 (sSeq (sSet 1 0 (eCall 2 den__law_row (aCons (eVar 0) (aCons (eC (.int 24)) aNil))) ([(0, 0)] ++ ([] ++ [])))
  (sSeq (sTup (.tp [(.nm 2), (.nm 3)]) (eTup (aCons (eOp dAdd (eC (.int 1)) (eOp dMod (eCB (d1 dInt) (aCons (eIx (eVar 1) (eC (.int 0))) aNil)) (eC (.int 4)))) (aCons (eIx (eTup (aCons (eC (.int 51)) (aCons (eC (.int 6)) aNil))) (eOp dMod (eCB (d1 dInt) (aCons (eIx (eVar 1) (eC (.int 1))) aNil)) (eC (.int 2)))) aNil))) (([] ++ ([] ++ [])) ++ (([] ++ ([] ++ [])) ++ [])))
  (sSeq (sSet 4 0 (eCB (d1 dTuple) (aCons (eLc (iRange1 (eVar 2)) (.nm 11) tTrue (eCB (d1 dTuple) (aCons (eLc (iRange1 (eVar 2)) (.nm 12) tTrue (eOp dMod (eCB (d1 dInt) (aCons (eIx (eVar 1) (eOp dAdd (eOp dAdd (eC (.int 2)) (eOp dMul (eC (.int 4)) (eVar 11))) (eVar 12))) aNil)) (eVar 3)) [12]) aNil)) [11]) aNil)) (([] ++ (([] ++ ([] ++ [(3, 1)])) ++ [])) ++ []))
  (sSeq (sSet 5 0 (eOp dMod (eCB (d1 dInt) (aCons (eIx (eVar 1) (eC (.int 18))) aNil)) (eC (.int 121))) ([] ++ []))
  (sSeq (sSet 6 0 (eCall 1 den__law_best (aCons (eVar 4) aNil)) ([(4, 0)] ++ []))
  (sSeq (sSet 7 0 (eCall 3 den__law_fits_right (aCons (eVar 4) (aCons (eVar 5) (aCons (eVar 6) aNil)))) ([(4, 0)] ++ ([(5, 0)] ++ ([(6, 0)] ++ []))))
  (sSeq (sIf (tOrD (tIsND (eVar 7)) (tNotD (tTru (eCall 4 den__law_fair (aCons (eVar 4) (aCons (eVar 5) (aCons (eIx (eVar 6) (eC (.int 1))) (aCons (eVar 7) aNil))))))))
  (sRet (eC (.bool false)))
  sNil)
  (sSeq (sSet 8 0 (eCall 2 den_fair_rents (aCons (eVar 4) (aCons (eVar 5) aNil))) ([(4, 0)] ++ ([(5, 0)] ++ [])))
  (sSeq (sIf (tOrD (tNotD (tTru (eIsi "tuple" (eVar 8)))) (tOrD (tCmp dNe (eCB (d1 dLen) (aCons (eVar 8) aNil)) (eC (.int 2))) (tNotD (tTru (eCall 2 (den__law_like 30) (aCons (eIx (eVar 8) (eC (.int 0))) (aCons (eIx (eVar 6) (eC (.int 1))) aNil)))))))
  (sRet (eC (.bool false)))
  sNil)
  (sSeq (sIf (tNotD (tTru (eCall 4 den__law_fair (aCons (eVar 4) (aCons (eVar 5) (aCons (eIx (eVar 6) (eC (.int 1))) (aCons (eIx (eVar 8) (eC (.int 1))) aNil)))))))
  (sRet (eC (.bool false)))
  sNil)
  (sSeq (sSet 9 0 (eCall 3 den__law_widest (aCons (eVar 4) (aCons (eVar 5) (aCons (eVar 6) aNil)))) ([(4, 0)] ++ ([(5, 0)] ++ ([(6, 0)] ++ []))))
  (sSeq (sIf (tNotD (tTru (eCall 2 (den__law_like 30) (aCons (eCall 2 den_widest_rents (aCons (eVar 4) (aCons (eVar 5) aNil))) (aCons (eVar 9) aNil)))))
  (sRet (eC (.bool false)))
  sNil)
  (sSeq (sFor (iSeq (eTup (aCons (eVar 7) (aCons (eIx (eVar 8) (eC (.int 1))) (aCons (eIx (eVar 9) (eC (.int 0))) aNil))))) ([(7, 0)] ++ ([(8, 1)] ++ ([(9, 1)] ++ []))) (.nm 10)
  (sIf (tCmp dIsNot (eCall 4 den_is_fair_rents (aCons (eVar 4) (aCons (eVar 5) (aCons (eIx (eVar 6) (eC (.int 1))) (aCons (eVar 10) aNil))))) (eC (.bool true)))
  (sRet (eC (.bool false)))
  sNil))
  (sRet (eCall 5 den__law_changed_right (aCons (eVar 4) (aCons (eVar 5) (aCons (eIx (eVar 6) (eC (.int 1))) (aCons (eIx (eVar 9) (eC (.int 0))) (aCons (eVar 1) aNil))))))))))))))))))))
variable {n : Nat} {w : Nat → Nat → Int} {o : List Nat} {rent : Int}
theorem wide_sum (h : Wt n w rent) (hp : o.Perm (List.range n)) : rsm (wpr w o (lds n w o n) (gnn n w o rent)) n = (rent : Rat) := by
  have b4 := h.one
  rw [← rsm_tk hp]
  have e : ∀ k, k ≤ n → rsm (fun i => (wpr w o (lds n w o n) (gnn n w o rent)) (tk o i)) k = ((((List.range k).map fun i => w i (tk o i) - lds n w o n i).sum : Int) : Rat) - ((k : Int) : Rat) * (gnn n w o rent) := fun k => by
    induction k with
    | zero =>
      intro _
      show (0 : Rat) = ((0 : Int) : Rat) - ((0 : Int) : Rat) * _
      have : ((0 : Int) : Rat) = 0 := rfl
      rw [this]
      grind
    | succ k ih =>
      intro hk
      have e0 := ih (by omega)
      show rsm (fun i => (wpr w o (lds n w o n) (gnn n w o rent)) (tk o i)) k + (wpr w o (lds n w o n) (gnn n w o rent)) (tk o k) = _
      have e1 : (((k + 1 : Nat) : Int) : Rat) = ((k : Int) : Rat) + 1 := by
        rw [show ((k + 1 : Nat) : Int) = (k : Int) + 1 by omega, Rat.intCast_add]
        rfl
      have e2 : (wpr w o (lds n w o n) (gnn n w o rent)) (tk o k) = ((w k (tk o k) - lds n w o n k : Int) : Rat) - gnn n w o rent := by
        unfold wpr
        rw [(own hp (by omega)).1]
      rw [e0, e1, e2, List.range_succ, List.map_append, List.sum_append, Rat.intCast_add]
      simp only [List.map_cons, List.map_nil, List.sum_cons, List.sum_nil, Int.add_zero]
      grind
  rw [e n (Nat.le_refl _)]
  have e3 : ((List.range n).map fun i => w i (tk o i) - lds n w o n i).sum = cost n w o - lsum n w o := by
    unfold cost lsum
    have := sum_sub (fun i => w i (tk o i)) (lds n w o n) (List.range n)
    omega
  rw [e3]
  unfold gnn
  have hne : ((n : Int) : Rat) ≠ 0 := by
    intro z
    have : (n : Int) = 0 := by exact_mod_cast z
    omega
  generalize ((n : Int) : Rat) = N at *
  generalize ((cost n w o - lsum n w o : Int) : Rat) = X
  have : N * ((X - (rent : Rat)) / N) = X - (rent : Rat) := by grind
  grind
theorem frb_t {p : Nat → Rat} (hs : rsm p n = (rent : Rat)) (hF : Fair n w o p) : frb n w rent o p = true := by
  unfold frb
  rw [decide_eq_true hs, fro_iff.mpr hF]
  rfl
theorem pl_nt {m : Nat} {t : List Nat} (h : t.length ≤ 100) : Lib.pl (m + 2) (nt t) = true := by
  unfold nt Lib.pl
  rw [Bool.and_eq_true, List.all_eq_true]
  refine ⟨decide_eq_true (by rw [List.length_map]; omega), ?_⟩
  intro d hd
  obtain ⟨k, _, rfl⟩ := List.mem_map.mp hd
  rfl
theorem pl_2 {m : Nat} {a b : D} (ha : Lib.pl m a = true) (hb : Lib.pl m b = true) : Lib.pl (m + 1) (.tuple [a, b]) = true := by
  unfold Lib.pl
  rw [Bool.and_eq_true, List.all_eq_true]
  refine ⟨rfl, fun d hd => ?_⟩
  simp only [List.mem_cons, List.not_mem_nil, or_false] at hd
  rcases hd with rfl | rfl
  · exact ha
  · exact hb
theorem law50 (ns : List Int) : den_law [scr ns] = some (.bool true) := by
  refine dfun_wp rfl ?_
  simp only [List.map_cons, List.map_nil, List.replicate_succ, List.replicate_zero, List.nil_append, List.cons_append, List.append_nil, Nat.reduceSub, Nat.reduceAdd, setsD, zeros, stt, setsO, setsJ, List.foldl_cons, List.foldl_nil, List.set_cons_zero, List.set_cons_succ, demote]
  obtain ⟨r, r0, hr⟩ := row_fn ns 24 (by omega)
  generalize hR : (PyData.list ((List.range 24).map fun k => .int (r k))) = R at hr
  have rx : ∀ (k : Nat), k < 24 → dIx R (.int k) = some (.int (r k)) := fun k hk => by rw [← hR]; exact map_ix (g := fun k => .int (r k)) hk
  have rx0 : dIx R (.int 0) = some (.int (r 0)) := rx 0 (by omega)
  have rx1 : dIx R (.int 1) = some (.int (r 1)) := rx 1 (by omega)
  have rx18 : dIx R (.int 18) = some (.int (r 18)) := rx 18 (by omega)
  have rx20 : dIx R (.int 20) = some (.int (r 20)) := rx 20 (by omega)
  have rx21 : dIx R (.int 21) = some (.int (r 21)) := rx 21 (by omega)
  have rx22 : dIx R (.int 22) = some (.int (r 22)) := rx 22 (by omega)
  have hRf : flat R = false := by rw [← hR]; rfl
  refine wp_seq (wp_setD (d := R) ?_ hRf ?_)
  · simp only [eCall_2, eC_a, eVar_0, eVar_s, o1_s]
    exact hr
  simp only [List.map_cons, List.map_nil, List.replicate_succ, List.replicate_zero, List.nil_append, List.cons_append, List.append_nil, Nat.reduceSub, Nat.reduceAdd, setsD, zeros, stt, setsO, setsJ, List.foldl_cons, List.foldl_nil, List.set_cons_zero, List.set_cons_succ, demote]
  obtain ⟨n, hn0⟩ := Int.eq_ofNat_of_zero_le (a := 1 + r 0 % 4) (by have := emod1 (r 0) (show (0 : Int) < 4 by omega); omega)
  have hn : 1 ≤ n ∧ n ≤ 4 := by
    have := emod1 (r 0) (show (0 : Int) < 4 by omega)
    omega
  obtain ⟨md, hmd, hmx⟩ := K52.pick2 51 6 (r 1)
  have hmd1 : 6 ≤ md ∧ md ≤ 51 := by omega
  have e51 : ∀ ρ : PEnv, eTup (aCons (eC (.int 51)) (aCons (eC (.int 6)) aNil)) ρ = some (.tuple [.int 51, .int 6]) := fun _ => rfl
  refine wp_seq (wp_tup (d := .tuple [nat n, .int md]) (m := [(2, nat n), (3, .int md)]) ?_ rfl (flat2 rfl rfl) ?_)
  · refine eTup_2 ?_ ?_
    · simp only [eOp_a, eCB_a, aCons_a, aNil_a, eIx_a, eC_a, eVar_0, eVar_s, o2_ss, o1_s, d1_1, rx0, dInt_i, dMod_i (show (0 : Int) < 4 by omega), dAdd_i, hn0]
      rfl
    · simp only [eOp_a, eCB_a, aCons_a, aNil_a, eIx_a, e51, eC_a, eVar_0, eVar_s, o2_ss, o1_s, d1_1, rx1, dInt_i, dMod_i (show (0 : Int) < 2 by omega), hmx]
  simp only [List.map_cons, List.map_nil, List.replicate_succ, List.replicate_zero, List.nil_append, List.cons_append, List.append_nil, Nat.reduceSub, Nat.reduceAdd, setsD, zeros, stt, setsO, setsJ, List.foldl_cons, List.foldl_nil, List.set_cons_zero, List.set_cons_succ, demote]
  obtain ⟨w, hw⟩ : ∃ w : Nat → Nat → Int, ∀ i j, w i j = r (2 + 4 * i + j) % md := ⟨_, fun _ _ => rfl⟩
  refine wp_seq (wp_set (d := tb n w) ?_ (tb_flat n w) ?_)
  · rw [eCB_a, aCons_a, aNil_a]
    rw [eLc_of nat (fun i => trow n (w i)) (l := List.range n) (range1_nat (n := n) rfl (by omega)) (by rw [List.length_range]; omega) fun i hi => ⟨[(11, nat i)], rfl, ?_⟩]
    · rfl
    · have hi := List.mem_range.mp hi
      show eCB (d1 dTuple) (aCons (eLc (iRange1 (eVar 2)) (.nm 12) tTrue (eOp dMod (eCB (d1 dInt) (aCons (eIx (eVar 1) (eOp dAdd (eOp dAdd (eC (.int 2)) (eOp dMul (eC (.int 4)) (eVar 11))) (eVar 12))) aNil)) (eVar 3)) [12]) aNil) [some (scr ns), some R, some (nat n), some (.int md), none, none, none, none, none, none, none, some (nat i), none] = _
      rw [eCB_a, aCons_a, aNil_a]
      rw [eLc_of nat (fun j => .int (w i j)) (l := List.range n) (range1_nat (n := n) rfl (by omega)) (by rw [List.length_range]; omega) fun j hj => ⟨[(12, nat j)], rfl, ?_⟩]
      · rfl
      · have hj := List.mem_range.mp hj
        have x := rx (2 + 4 * i + j) (by omega)
        have m1 : dMul (.int 4) (.int (i : Int)) = some (.int (4 * i)) := dMul_i (mulOk_l (by decide))
        show o2 (o1 (o2 (o2 (some R) (o2 (o2 (some (PyData.int 2)) (o2 (some (PyData.int 4)) (some (PyData.int (i : Int))) dMul) dAdd) (some (PyData.int (j : Int))) dAdd) dIx) (some []) fun d ds => some (d :: ds)) (d1 dInt)) (some (PyData.int md)) dMod = _
        have e3 : (2 + 4 * (i : Int) + (j : Int)) = ((2 + 4 * i + j : Nat) : Int) := by omega
        simp only [o2_ss, m1, dAdd_i, e3, x, o1_s, d1_1, dInt_i, dMod_i (show (0 : Int) < md by omega)]
        rw [hw]
  simp only [List.map_cons, List.map_nil, List.replicate_succ, List.replicate_zero, List.nil_append, List.cons_append, List.append_nil, Nat.reduceSub, Nat.reduceAdd, setsD, zeros, stt, setsO, setsJ, List.foldl_cons, List.foldl_nil, List.set_cons_zero, List.set_cons_succ, demote]
  obtain ⟨rent, hrent⟩ : ∃ rent, rent = r 18 % 121 := ⟨_, rfl⟩
  have hre := emod1 (r 18) (show (0 : Int) < 121 by omega)
  refine wp_seq (wp_set (d := .int rent) ?_ rfl ?_)
  · simp only [eOp_a, eCB_a, aCons_a, aNil_a, eIx_a, eC_a, eVar_0, eVar_s, o2_ss, o1_s, d1_1, rx18, dInt_i, dMod_i (show (0 : Int) < 121 by omega), hrent]
  simp only [List.map_cons, List.map_nil, List.replicate_succ, List.replicate_zero, List.nil_append, List.cons_append, List.append_nil, Nat.reduceSub, Nat.reduceAdd, setsD, zeros, stt, setsO, setsJ, List.foldl_cons, List.foldl_nil, List.set_cons_zero, List.set_cons_succ, demote]
  have H : Wt n w rent := ⟨hn.1, hn.2, fun i _ j _ => by
    have := emod1 (r (2 + 4 * i + j)) (show (0 : Int) < md by omega)
    rw [hw]
    omega, by omega⟩
  obtain ⟨o, ho, hb⟩ := best_of_amx (n := n) (w := w) (B := 50) (f := cost n w) fun _ _ => rfl
  have hp := hb.perm
  have hlo : o.length = n := by have := hp.length_eq; simpa using this
  have lb := law_best_ok (n := n) (w := w) H.five
  have br := best_rooms_ok (n := n) (w := w) H.five
  rw [ho] at lb br
  have br : den_best_rooms [tb n w] = some (nt o) := br
  have sW := fun (k : Nat) (hk : k < n) => wpr_sm H hp hk
  have sT := fun (k : Nat) (hk : k < n) => trn_sm H hb hk
  have fW : Fair n w o (wpr w o (lds n w o n) (gnn n w o rent)) := fair_wide hp (fun q hq p hpn => leads_ok H.one hp hb.opt hq hpn) _
  have fT := trn_fair H hb
  have uW := wide_sum H hp
  have uT := trn_sum (o := o) H
  refine wp_seq (wp_set (d := .tuple [.int (cost n w o), nt o]) ?_ (flat2 rfl (nt_flat o)) ?_)
  · simp only [eCall_1, eVar_0, eVar_s, o1_s]
    exact lb
  simp only [List.map_cons, List.map_nil, List.replicate_succ, List.replicate_zero, List.nil_append, List.cons_append, List.append_nil, Nat.reduceSub, Nat.reduceAdd, setsD, zeros, stt, setsO, setsJ, List.foldl_cons, List.foldl_nil, List.set_cons_zero, List.set_cons_succ, demote]
  have fr := fits_right_ok H hb
  refine wp_seq (wp_set (d := tq n (trn n w o rent)) ?_ (tq_flat' _) ?_)
  · simp only [eCall_3, eVar_0, eVar_s, o1_s]
    exact fr
  simp only [List.map_cons, List.map_nil, List.replicate_succ, List.replicate_zero, List.nil_append, List.cons_append, List.append_nil, Nat.reduceSub, Nat.reduceAdd, setsD, zeros, stt, setsO, setsJ, List.foldl_cons, List.foldl_nil, List.set_cons_zero, List.set_cons_succ, demote]
  have b1 : ∀ {x7 x8 x9 x10 : Option D}, eIx (eVar 6) (eC (.int 1)) [some (scr ns), some R, some (nat n), some (.int md), some (tb n w), some (.int rent), some (.tuple [.int (cost n w o), nt o]), x7, x8, x9, x10, none, none] = some (nt o) := fun {_ _ _ _} => rfl
  have lf := fun (p : Nat → Rat) (hs : ∀ k < n, Sm 60 (p k)) (hu : rsm p n = (rent : Rat)) (hF : Fair n w o p) => law_fair_ok (m := 60) H hp (by omega) (by omega) hs hu hF
  refine wp_seq (wp_pass ?_ ?_)
  · have e1 : eCall 4 den__law_fair (aCons (eVar 4) (aCons (eVar 5) (aCons (eIx (eVar 6) (eC (.int 1))) (aCons (eVar 7) aNil)))) [some (scr ns), some R, some (nat n), some (.int md), some (tb n w), some (.int rent), some (.tuple [.int (cost n w o), nt o]), some (tq n (trn n w o rent)), none, none, none, none, none] = some (.bool true) := by
      have q := lf (trn n w o rent) sT uT fT
      rw [eCall_4, b1]
      simp only [eVar_0, eVar_s, o1_s]
      exact q
    unfold tOrD tNotD tTru
    rw [e1]
    rfl
  have fo := fair_rents_ok H br hp
  refine wp_seq (wp_set (d := .tuple [nt o, tq n (wpr w o (lds n w o n) (gnn n w o rent))]) ?_ (flat2 (nt_flat o) (tq_flat' _)) ?_)
  · simp only [eCall_2, eVar_0, eVar_s, o1_s]
    exact fo
  simp only [List.map_cons, List.map_nil, List.replicate_succ, List.replicate_zero, List.nil_append, List.cons_append, List.append_nil, Nat.reduceSub, Nat.reduceAdd, setsD, zeros, stt, setsO, setsJ, List.foldl_cons, List.foldl_nil, List.set_cons_zero, List.set_cons_succ, demote]
  refine wp_seq (wp_pass ?_ ?_)
  · have lk := Lib.like_ok 30 (nt o) (pl_nt (m := 28) (by omega))
    have e1 : eCall 2 (den__law_like 30) (aCons (eIx (eVar 8) (eC (.int 0))) (aCons (eIx (eVar 6) (eC (.int 1))) aNil)) [some (scr ns), some R, some (nat n), some (.int md), some (tb n w), some (.int rent), some (.tuple [.int (cost n w o), nt o]), some (tq n (trn n w o rent)), some (.tuple [nt o, tq n (wpr w o (lds n w o n) (gnn n w o rent))]), none, none, none, none] = some (.bool true) := by
      have z : eIx (eVar 8) (eC (.int 0)) [some (scr ns), some R, some (nat n), some (.int md), some (tb n w), some (.int rent), some (.tuple [.int (cost n w o), nt o]), some (tq n (trn n w o rent)), some (.tuple [nt o, tq n (wpr w o (lds n w o n) (gnn n w o rent))]), none, none, none, none] = some (nt o) := rfl
      rw [eCall_2, z, b1]
      simp only [o1_s]
      exact lk
    unfold tOrD tNotD tTru
    rw [e1]
    rfl
  refine wp_seq (wp_pass ?_ ?_)
  · have e1 : eCall 4 den__law_fair (aCons (eVar 4) (aCons (eVar 5) (aCons (eIx (eVar 6) (eC (.int 1))) (aCons (eIx (eVar 8) (eC (.int 1))) aNil)))) [some (scr ns), some R, some (nat n), some (.int md), some (tb n w), some (.int rent), some (.tuple [.int (cost n w o), nt o]), some (tq n (trn n w o rent)), some (.tuple [nt o, tq n (wpr w o (lds n w o n) (gnn n w o rent))]), none, none, none, none] = some (.bool true) := by
      have q := lf (wpr w o (lds n w o n) (gnn n w o rent)) sW uW fW
      have z : eIx (eVar 8) (eC (.int 1)) [some (scr ns), some R, some (nat n), some (.int md), some (tb n w), some (.int rent), some (.tuple [.int (cost n w o), nt o]), some (tq n (trn n w o rent)), some (.tuple [nt o, tq n (wpr w o (lds n w o n) (gnn n w o rent))]), none, none, none, none] = some (tq n (wpr w o (lds n w o n) (gnn n w o rent))) := rfl
      rw [eCall_4, b1, z]
      simp only [eVar_0, eVar_s, o1_s]
      exact q
    unfold tNotD tTru
    rw [e1]
    rfl
  have wd := law_widest_ok H hp
  refine wp_seq (wp_set (d := .tuple [tq n (wpr w o (lds n w o n) (gnn n w o rent)), rt (gnn n w o rent)]) ?_ (flat2 (tq_flat' _) rfl) ?_)
  · simp only [eCall_3, eVar_0, eVar_s, o1_s]
    exact wd
  simp only [List.map_cons, List.map_nil, List.replicate_succ, List.replicate_zero, List.nil_append, List.cons_append, List.append_nil, Nat.reduceSub, Nat.reduceAdd, setsD, zeros, stt, setsO, setsJ, List.foldl_cons, List.foldl_nil, List.set_cons_zero, List.set_cons_succ, demote]
  have wr := widest_rents_ok H br hp
  refine wp_seq (wp_pass ?_ ?_)
  · have lk := Lib.like_ok 30 (.tuple [tq n (wpr w o (lds n w o n) (gnn n w o rent)), rt (gnn n w o rent)]) (pl_2 (m := 29) (K52.pl_tq (m := 26) H.five _) rfl)
    have e1 : eCall 2 (den__law_like 30) (aCons (eCall 2 den_widest_rents (aCons (eVar 4) (aCons (eVar 5) aNil))) (aCons (eVar 9) aNil)) [some (scr ns), some R, some (nat n), some (.int md), some (tb n w), some (.int rent), some (.tuple [.int (cost n w o), nt o]), some (tq n (trn n w o rent)), some (.tuple [nt o, tq n (wpr w o (lds n w o n) (gnn n w o rent))]), some (.tuple [tq n (wpr w o (lds n w o n) (gnn n w o rent)), rt (gnn n w o rent)]), none, none, none] = some (.bool true) := by
      have z : eCall 2 den_widest_rents (aCons (eVar 4) (aCons (eVar 5) aNil)) [some (scr ns), some R, some (nat n), some (.int md), some (tb n w), some (.int rent), some (.tuple [.int (cost n w o), nt o]), some (tq n (trn n w o rent)), some (.tuple [nt o, tq n (wpr w o (lds n w o n) (gnn n w o rent))]), some (.tuple [tq n (wpr w o (lds n w o n) (gnn n w o rent)), rt (gnn n w o rent)]), none, none, none] = some (.tuple [tq n (wpr w o (lds n w o n) (gnn n w o rent)), rt (gnn n w o rent)]) := by
        simp only [eCall_2, eVar_0, eVar_s, o1_s]
        exact wr
      rw [eCall_2, z]
      simp only [eVar_0, eVar_s, o1_s]
      exact lk
    unfold tNotD tTru
    rw [e1]
    rfl
  refine wp_seq (wp_for (ds := [tq n (trn n w o rent), tq n (wpr w o (lds n w o n) (gnn n w o rent)), tq n (wpr w o (lds n w o n) (gnn n w o rent))]) (fun k s' => ∃ x10, s' = ([some (scr ns), some R, some (nat n), some (.int md), some (tb n w), some (.int rent), some (.tuple [.int (cost n w o), nt o]), some (tq n (trn n w o rent)), some (.tuple [nt o, tq n (wpr w o (lds n w o n) (gnn n w o rent))]), some (.tuple [tq n (wpr w o (lds n w o n) (gnn n w o rent)), rt (gnn n w o rent)]), x10, none, none], [0, 0, 0, 0, 0, 0, 0, 0, 0, 0, 0, 0, 0])) rfl ⟨none, rfl⟩ (fun k d s' hd hs => ?_) fun s' hs => ?_)
  · obtain ⟨x10, rfl⟩ := hs
    have hd' : ∃ p : Nat → Rat, d = tq n p ∧ (∀ k < n, Sm 60 (p k)) ∧ rsm p n = (rent : Rat) ∧ Fair n w o p := by
      have := List.mem_of_getElem? hd
      simp only [List.mem_cons, List.not_mem_nil, or_false] at this
      rcases this with e | e | e
      · exact ⟨_, e, sT, uT, fT⟩
      · exact ⟨_, e, sW, uW, fW⟩
      · exact ⟨_, e, sW, uW, fW⟩
    obtain ⟨p, rfl, p1, p2, p3⟩ := hd'
    refine ⟨[(10, tq n p)], rfl, ?_⟩
    simp only [List.map_cons, List.map_nil, List.replicate_succ, List.replicate_zero, List.nil_append, List.cons_append, List.append_nil, Nat.reduceSub, Nat.reduceAdd, setsD, zeros, stt, setsO, setsJ, List.foldl_cons, List.foldl_nil, List.set_cons_zero, List.set_cons_succ, demote]
    refine wp_pass ?_ ⟨some (tq n p), rfl⟩
    have q := is_fair_ok (m := 60) H hp (by omega) (by omega) p1
    rw [frb_t p2 p3] at q
    have e1 : eCall 4 den_is_fair_rents (aCons (eVar 4) (aCons (eVar 5) (aCons (eIx (eVar 6) (eC (.int 1))) (aCons (eVar 10) aNil)))) [some (scr ns), some R, some (nat n), some (.int md), some (tb n w), some (.int rent), some (.tuple [.int (cost n w o), nt o]), some (tq n (trn n w o rent)), some (.tuple [nt o, tq n (wpr w o (lds n w o n) (gnn n w o rent))]), some (.tuple [tq n (wpr w o (lds n w o n) (gnn n w o rent)), rt (gnn n w o rent)]), some (tq n p), none, none] = some (.bool true) := by
      rw [eCall_4, b1]
      simp only [eVar_0, eVar_s, o1_s]
      exact q
    rw [tCmp_a, e1]
    rfl
  obtain ⟨x10, rfl⟩ := hs
  refine wp_ret (d := .bool true) ?_ rfl
  have q := changed_ok H hp fW uW sW rx20 rx21 rx22
  have z : eIx (eVar 9) (eC (.int 0)) [some (scr ns), some R, some (nat n), some (.int md), some (tb n w), some (.int rent), some (.tuple [.int (cost n w o), nt o]), some (tq n (trn n w o rent)), some (.tuple [nt o, tq n (wpr w o (lds n w o n) (gnn n w o rent))]), some (.tuple [tq n (wpr w o (lds n w o n) (gnn n w o rent)), rt (gnn n w o rent)]), x10, none, none] = some (tq n (wpr w o (lds n w o n) (gnn n w o rent))) := rfl
  rw [eCall_5, b1, z]
  simp only [eVar_0, eVar_s, o1_s]
  exact q
end K50
end
section
set_option Elab.async false
set_option linter.all false
set_option maxRecDepth 10000
namespace Law
open DS PySem
theorem law_eq : den_law = K50.den_law := rfl
theorem main (ns : List Int) (h : ns.length ≤ 63) : den_law [scr ns] = some (.bool true) := by
  rw [law_eq]
  exact K50.law50 ns
end Law
end
section
set_option Elab.async false
set_option linter.all false
set_option maxRecDepth 100000
set_option maxHeartbeats 4000000
namespace Law
open PySem PySem.Spec PyProof.Rows L2 DS
theorem all_mk {w : World} {K : PySem.W.Frag} {h : Heap} {mg : Str → Option Value} {fa : Addr} (X : K.In h) (G : h.Ns mainGlobals mg) (hfa : mg "law" = some (.ref fa))
  {f0 : Addr} {od0 an0 : Option Addr} {sl0 : Array (Option Value)} {oc0 kV0 dc0 pm0 cd0 ct0 : Value}
  {f1 : Addr} {od1 an1 : Option Addr} {sl1 : Array (Option Value)} {oc1 kV1 dc1 pm1 cd1 ct1 : Value}
  {f2 : Addr} {od2 an2 : Option Addr} {sl2 : Array (Option Value)} {oc2 kV2 dc2 pm2 cd2 ct2 : Value}
  {f3 : Addr} {od3 an3 : Option Addr} {sl3 : Array (Option Value)} {oc3 kV3 dc3 pm3 cd3 ct3 : Value}
  {f4 : Addr} {od4 an4 : Option Addr} {sl4 : Array (Option Value)} {oc4 kV4 dc4 pm4 cd4 ct4 : Value}
  {f5 : Addr} {od5 an5 : Option Addr} {sl5 : Array (Option Value)} {oc5 kV5 dc5 pm5 cd5 ct5 : Value}
  {f6 : Addr} {od6 an6 : Option Addr} {sl6 : Array (Option Value)} {oc6 kV6 dc6 pm6 cd6 ct6 : Value}
  {f7 : Addr} {od7 an7 : Option Addr} {sl7 : Array (Option Value)} {oc7 kV7 dc7 pm7 cd7 ct7 : Value}
  {f8 : Addr} {od8 an8 : Option Addr} {sl8 : Array (Option Value)} {oc8 kV8 dc8 pm8 cd8 ct8 : Value}
  {f9 : Addr} {od9 an9 : Option Addr} {sl9 : Array (Option Value)} {oc9 kV9 dc9 pm9 cd9 ct9 : Value}
  {f10 : Addr} {od10 an10 : Option Addr} {sl10 : Array (Option Value)} {oc10 kV10 dc10 pm10 cd10 ct10 : Value}
  {f11 : Addr} {od11 an11 : Option Addr} {sl11 : Array (Option Value)} {oc11 kV11 dc11 pm11 cd11 ct11 : Value}
  {f12 : Addr} {od12 an12 : Option Addr} {sl12 : Array (Option Value)} {oc12 kV12 dc12 pm12 cd12 ct12 : Value}
  {f13 : Addr} {od13 an13 : Option Addr} {sl13 : Array (Option Value)} {oc13 kV13 dc13 pm13 cd13 ct13 : Value}
  {f14 : Addr} {od14 an14 : Option Addr} {sl14 : Array (Option Value)} {oc14 kV14 dc14 pm14 cd14 ct14 : Value}
  {f15 : Addr} {od15 an15 : Option Addr} {sl15 : Array (Option Value)} {oc15 kV15 dc15 pm15 cd15 ct15 : Value}
  {f16 : Addr} {od16 an16 : Option Addr} {sl16 : Array (Option Value)} {oc16 kV16 dc16 pm16 cd16 ct16 : Value}
  {f17 : Addr} {od17 an17 : Option Addr} {sl17 : Array (Option Value)} {oc17 kV17 dc17 pm17 cd17 ct17 : Value}
  {f18 : Addr} {od18 an18 : Option Addr} {sl18 : Array (Option Value)} {oc18 kV18 dc18 pm18 cd18 ct18 : Value}
  {f19 : Addr} {od19 an19 : Option Addr} {sl19 : Array (Option Value)} {oc19 kV19 dc19 pm19 cd19 ct19 : Value}
  {f20 : Addr} {od20 an20 : Option Addr} {sl20 : Array (Option Value)} {oc20 kV20 dc20 pm20 cd20 ct20 : Value}
  {f21 : Addr} {od21 an21 : Option Addr} {sl21 : Array (Option Value)} {oc21 kV21 dc21 pm21 cd21 ct21 : Value}
  {f22 : Addr} {od22 an22 : Option Addr} {sl22 : Array (Option Value)} {oc22 kV22 dc22 pm22 cd22 ct22 : Value}
  {f23 : Addr} {od23 an23 : Option Addr} {sl23 : Array (Option Value)} {oc23 kV23 dc23 pm23 cd23 ct23 : Value}
  {f24 : Addr} {od24 an24 : Option Addr} {sl24 : Array (Option Value)} {oc24 kV24 dc24 pm24 cd24 ct24 : Value}
  {f25 : Addr} {od25 an25 : Option Addr} {sl25 : Array (Option Value)} {oc25 kV25 dc25 pm25 cd25 ct25 : Value}
  {f26 : Addr} {od26 an26 : Option Addr} {sl26 : Array (Option Value)} {oc26 kV26 dc26 pm26 cd26 ct26 : Value}
  {f27 : Addr} {od27 an27 : Option Addr} {sl27 : Array (Option Value)} {oc27 kV27 dc27 pm27 cd27 ct27 : Value}
  {f28 : Addr} {od28 an28 : Option Addr} {sl28 : Array (Option Value)} {oc28 kV28 dc28 pm28 cd28 ct28 : Value}
  {f29 : Addr} {od29 an29 : Option Addr} {sl29 : Array (Option Value)} {oc29 kV29 dc29 pm29 cd29 ct29 : Value}
  {f30 : Addr} {od30 an30 : Option Addr} {sl30 : Array (Option Value)} {oc30 kV30 dc30 pm30 cd30 ct30 : Value}
  {f31 : Addr} {od31 an31 : Option Addr} {sl31 : Array (Option Value)} {oc31 kV31 dc31 pm31 cd31 ct31 : Value}
  {f32 : Addr} {od32 an32 : Option Addr} {sl32 : Array (Option Value)} {oc32 kV32 dc32 pm32 cd32 ct32 : Value}
  {f33 : Addr} {od33 an33 : Option Addr} {sl33 : Array (Option Value)} {oc33 kV33 dc33 pm33 cd33 ct33 : Value}
  {f34 : Addr} {od34 an34 : Option Addr} {sl34 : Array (Option Value)} {oc34 kV34 dc34 pm34 cd34 ct34 : Value}
  {f35 : Addr} {od35 an35 : Option Addr} {sl35 : Array (Option Value)} {oc35 kV35 dc35 pm35 cd35 ct35 : Value}
  {f36 : Addr} {od36 an36 : Option Addr} {sl36 : Array (Option Value)} {oc36 kV36 dc36 pm36 cd36 ct36 : Value}
  {f37 : Addr} {od37 an37 : Option Addr} {sl37 : Array (Option Value)} {oc37 kV37 dc37 pm37 cd37 ct37 : Value}
  {f38 : Addr} {od38 an38 : Option Addr} {sl38 : Array (Option Value)} {oc38 kV38 dc38 pm38 cd38 ct38 : Value}
  {f39 : Addr} {od39 an39 : Option Addr} {sl39 : Array (Option Value)} {oc39 kV39 dc39 pm39 cd39 ct39 : Value}
  {f40 : Addr} {od40 an40 : Option Addr} {sl40 : Array (Option Value)} {oc40 kV40 dc40 pm40 cd40 ct40 : Value}
  (a0 : PySem.W.nsIn K mainGlobals "divisor" = some (some (.ref f0))) (l0 : K.lookup f0 = some ⟨oc0, od0, .func (PySem.W.fnOf "divisor" "divisor" (defArgs (topS 1)) (defBody (topS 1)) (defScope (topS 1)) .none kV0 dc0 pm0 an0 cd0 ct0), sl0⟩) (c0 : PySem.W.codeIn K cd0 "divisor" = true) (k0 : PySem.W.keepIn K (.ref f0) = true)
  (a1 : PySem.W.nsIn K mainGlobals "lowest" = some (some (.ref f1))) (l1 : K.lookup f1 = some ⟨oc1, od1, .func (PySem.W.fnOf "lowest" "lowest" (defArgs (topS 2)) (defBody (topS 2)) (defScope (topS 2)) .none kV1 dc1 pm1 an1 cd1 ct1), sl1⟩) (c1 : PySem.W.codeIn K cd1 "lowest" = true) (k1 : PySem.W.keepIn K (.ref f1) = true)
  (a2 : PySem.W.nsIn K mainGlobals "plus" = some (some (.ref f2))) (l2 : K.lookup f2 = some ⟨oc2, od2, .func (PySem.W.fnOf "plus" "plus" (defArgs (topS 3)) (defBody (topS 3)) (defScope (topS 3)) .none kV2 dc2 pm2 an2 cd2 ct2), sl2⟩) (c2 : PySem.W.codeIn K cd2 "plus" = true) (k2 : PySem.W.keepIn K (.ref f2) = true)
  (a3 : PySem.W.nsIn K mainGlobals "minus" = some (some (.ref f3))) (l3 : K.lookup f3 = some ⟨oc3, od3, .func (PySem.W.fnOf "minus" "minus" (defArgs (topS 4)) (defBody (topS 4)) (defScope (topS 4)) .none kV3 dc3 pm3 an3 cd3 ct3), sl3⟩) (c3 : PySem.W.codeIn K cd3 "minus" = true) (k3 : PySem.W.keepIn K (.ref f3) = true)
  (a4 : PySem.W.nsIn K mainGlobals "parted" = some (some (.ref f4))) (l4 : K.lookup f4 = some ⟨oc4, od4, .func (PySem.W.fnOf "parted" "parted" (defArgs (topS 5)) (defBody (topS 5)) (defScope (topS 5)) .none kV4 dc4 pm4 an4 cd4 ct4), sl4⟩) (c4 : PySem.W.codeIn K cd4 "parted" = true) (k4 : PySem.W.keepIn K (.ref f4) = true)
  (a5 : PySem.W.nsIn K mainGlobals "is_less" = some (some (.ref f5))) (l5 : K.lookup f5 = some ⟨oc5, od5, .func (PySem.W.fnOf "is_less" "is_less" (defArgs (topS 6)) (defBody (topS 6)) (defScope (topS 6)) .none kV5 dc5 pm5 an5 cd5 ct5), sl5⟩) (c5 : PySem.W.codeIn K cd5 "is_less" = true) (k5 : PySem.W.keepIn K (.ref f5) = true)
  (a6 : PySem.W.nsIn K mainGlobals "total" = some (some (.ref f6))) (l6 : K.lookup f6 = some ⟨oc6, od6, .func (PySem.W.fnOf "total" "total" (defArgs (topS 7)) (defBody (topS 7)) (defScope (topS 7)) .none kV6 dc6 pm6 an6 cd6 ct6), sl6⟩) (c6 : PySem.W.codeIn K cd6 "total" = true) (k6 : PySem.W.keepIn K (.ref f6) = true)
  (a7 : PySem.W.nsIn K mainGlobals "all_orders" = some (some (.ref f7))) (l7 : K.lookup f7 = some ⟨oc7, od7, .func (PySem.W.fnOf "all_orders" "all_orders" (defArgs (topS 8)) (defBody (topS 8)) (defScope (topS 8)) .none kV7 dc7 pm7 an7 cd7 ct7), sl7⟩) (c7 : PySem.W.codeIn K cd7 "all_orders" = true) (k7 : PySem.W.keepIn K (.ref f7) = true)
  (a8 : PySem.W.nsIn K mainGlobals "as_ratio" = some (some (.ref f8))) (l8 : K.lookup f8 = some ⟨oc8, od8, .func (PySem.W.fnOf "as_ratio" "as_ratio" (defArgs (topS 10)) (defBody (topS 10)) (defScope (topS 10)) .none kV8 dc8 pm8 an8 cd8 ct8), sl8⟩) (c8 : PySem.W.codeIn K cd8 "as_ratio" = true) (k8 : PySem.W.keepIn K (.ref f8) = true)
  (a9 : PySem.W.nsIn K mainGlobals "is_whole" = some (some (.ref f9))) (l9 : K.lookup f9 = some ⟨oc9, od9, .func (PySem.W.fnOf "is_whole" "is_whole" (defArgs (topS 11)) (defBody (topS 11)) (defScope (topS 11)) .none kV9 dc9 pm9 an9 cd9 ct9), sl9⟩) (c9 : PySem.W.codeIn K cd9 "is_whole" = true) (k9 : PySem.W.keepIn K (.ref f9) = true)
  (a10 : PySem.W.nsIn K mainGlobals "is_ratio" = some (some (.ref f10))) (l10 : K.lookup f10 = some ⟨oc10, od10, .func (PySem.W.fnOf "is_ratio" "is_ratio" (defArgs (topS 12)) (defBody (topS 12)) (defScope (topS 12)) .none kV10 dc10 pm10 an10 cd10 ct10), sl10⟩) (c10 : PySem.W.codeIn K cd10 "is_ratio" = true) (k10 : PySem.W.keepIn K (.ref f10) = true)
  (a11 : PySem.W.nsIn K mainGlobals "is_ratio_row" = some (some (.ref f11))) (l11 : K.lookup f11 = some ⟨oc11, od11, .func (PySem.W.fnOf "is_ratio_row" "is_ratio_row" (defArgs (topS 13)) (defBody (topS 13)) (defScope (topS 13)) .none kV11 dc11 pm11 an11 cd11 ct11), sl11⟩) (c11 : PySem.W.codeIn K cd11 "is_ratio_row" = true) (k11 : PySem.W.keepIn K (.ref f11) = true)
  (a12 : PySem.W.nsIn K mainGlobals "best_rooms" = some (some (.ref f12))) (l12 : K.lookup f12 = some ⟨oc12, od12, .func (PySem.W.fnOf "best_rooms" "best_rooms" (defArgs (topS 15)) (defBody (topS 15)) (defScope (topS 15)) .none kV12 dc12 pm12 an12 cd12 ct12), sl12⟩) (c12 : PySem.W.codeIn K cd12 "best_rooms" = true) (k12 : PySem.W.keepIn K (.ref f12) = true)
  (a13 : PySem.W.nsIn K mainGlobals "least_leads" = some (some (.ref f13))) (l13 : K.lookup f13 = some ⟨oc13, od13, .func (PySem.W.fnOf "least_leads" "least_leads" (defArgs (topS 16)) (defBody (topS 16)) (defScope (topS 16)) .none kV13 dc13 pm13 an13 cd13 ct13), sl13⟩) (c13 : PySem.W.codeIn K cd13 "least_leads" = true) (k13 : PySem.W.keepIn K (.ref f13) = true)
  (a14 : PySem.W.nsIn K mainGlobals "widest_plan" = some (some (.ref f14))) (l14 : K.lookup f14 = some ⟨oc14, od14, .func (PySem.W.fnOf "widest_plan" "widest_plan" (defArgs (topS 17)) (defBody (topS 17)) (defScope (topS 17)) .none kV14 dc14 pm14 an14 cd14 ct14), sl14⟩) (c14 : PySem.W.codeIn K cd14 "widest_plan" = true) (k14 : PySem.W.keepIn K (.ref f14) = true)
  (a15 : PySem.W.nsIn K mainGlobals "fair_rents" = some (some (.ref f15))) (l15 : K.lookup f15 = some ⟨oc15, od15, .func (PySem.W.fnOf "fair_rents" "fair_rents" (defArgs (topS 18)) (defBody (topS 18)) (defScope (topS 18)) .none kV15 dc15 pm15 an15 cd15 ct15), sl15⟩) (c15 : PySem.W.codeIn K cd15 "fair_rents" = true) (k15 : PySem.W.keepIn K (.ref f15) = true)
  (a16 : PySem.W.nsIn K mainGlobals "widest_rents" = some (some (.ref f16))) (l16 : K.lookup f16 = some ⟨oc16, od16, .func (PySem.W.fnOf "widest_rents" "widest_rents" (defArgs (topS 19)) (defBody (topS 19)) (defScope (topS 19)) .none kV16 dc16 pm16 an16 cd16 ct16), sl16⟩) (c16 : PySem.W.codeIn K cd16 "widest_rents" = true) (k16 : PySem.W.keepIn K (.ref f16) = true)
  (a17 : PySem.W.nsIn K mainGlobals "is_room_row" = some (some (.ref f17))) (l17 : K.lookup f17 = some ⟨oc17, od17, .func (PySem.W.fnOf "is_room_row" "is_room_row" (defArgs (topS 20)) (defBody (topS 20)) (defScope (topS 20)) .none kV17 dc17 pm17 an17 cd17 ct17), sl17⟩) (c17 : PySem.W.codeIn K cd17 "is_room_row" = true) (k17 : PySem.W.keepIn K (.ref f17) = true)
  (a18 : PySem.W.nsIn K mainGlobals "is_fair_rents" = some (some (.ref f18))) (l18 : K.lookup f18 = some ⟨oc18, od18, .func (PySem.W.fnOf "is_fair_rents" "is_fair_rents" (defArgs (topS 21)) (defBody (topS 21)) (defScope (topS 21)) .none kV18 dc18 pm18 an18 cd18 ct18), sl18⟩) (c18 : PySem.W.codeIn K cd18 "is_fair_rents" = true) (k18 : PySem.W.keepIn K (.ref f18) = true)
  (a19 : PySem.W.nsIn K mainGlobals "best_fit" = some (some (.ref f19))) (l19 : K.lookup f19 = some ⟨oc19, od19, .func (PySem.W.fnOf "best_fit" "best_fit" (defArgs (topS 23)) (defBody (topS 23)) (defScope (topS 23)) .none kV19 dc19 pm19 an19 cd19 ct19), sl19⟩) (c19 : PySem.W.codeIn K cd19 "best_fit" = true) (k19 : PySem.W.keepIn K (.ref f19) = true)
  (a20 : PySem.W.nsIn K mainGlobals "fit_prices" = some (some (.ref f20))) (l20 : K.lookup f20 = some ⟨oc20, od20, .func (PySem.W.fnOf "fit_prices" "fit_prices" (defArgs (topS 24)) (defBody (topS 24)) (defScope (topS 24)) .none kV20 dc20 pm20 an20 cd20 ct20), sl20⟩) (c20 : PySem.W.codeIn K cd20 "fit_prices" = true) (k20 : PySem.W.keepIn K (.ref f20) = true)
  (a21 : PySem.W.nsIn K mainGlobals "are_integers" = some (some (.ref f21))) (l21 : K.lookup f21 = some ⟨oc21, od21, .func (PySem.W.fnOf "are_integers" "are_integers" (defArgs (topS 25)) (defBody (topS 25)) (defScope (topS 25)) .none kV21 dc21 pm21 an21 cd21 ct21), sl21⟩) (c21 : PySem.W.codeIn K cd21 "are_integers" = true) (k21 : PySem.W.keepIn K (.ref f21) = true)
  (a22 : PySem.W.nsIn K mainGlobals "judge_prices" = some (some (.ref f22))) (l22 : K.lookup f22 = some ⟨oc22, od22, .func (PySem.W.fnOf "judge_prices" "judge_prices" (defArgs (topS 26)) (defBody (topS 26)) (defScope (topS 26)) .none kV22 dc22 pm22 an22 cd22 ct22), sl22⟩) (c22 : PySem.W.codeIn K cd22 "judge_prices" = true) (k22 : PySem.W.keepIn K (.ref f22) = true)
  (a23 : PySem.W.nsIn K mainGlobals "_law_mixed" = some (some (.ref f23))) (l23 : K.lookup f23 = some ⟨oc23, od23, .func (PySem.W.fnOf "_law_mixed" "_law_mixed" (defArgs (topS 28)) (defBody (topS 28)) (defScope (topS 28)) .none kV23 dc23 pm23 an23 cd23 ct23), sl23⟩) (c23 : PySem.W.codeIn K cd23 "_law_mixed" = true) (k23 : PySem.W.keepIn K (.ref f23) = true)
  (a24 : PySem.W.nsIn K mainGlobals "_law_row" = some (some (.ref f24))) (l24 : K.lookup f24 = some ⟨oc24, od24, .func (PySem.W.fnOf "_law_row" "_law_row" (defArgs (topS 29)) (defBody (topS 29)) (defScope (topS 29)) .none kV24 dc24 pm24 an24 cd24 ct24), sl24⟩) (c24 : PySem.W.codeIn K cd24 "_law_row" = true) (k24 : PySem.W.keepIn K (.ref f24) = true)
  (a25 : PySem.W.nsIn K mainGlobals "_law_is_int" = some (some (.ref f25))) (l25 : K.lookup f25 = some ⟨oc25, od25, .func (PySem.W.fnOf "_law_is_int" "_law_is_int" (defArgs (topS 30)) (defBody (topS 30)) (defScope (topS 30)) .none kV25 dc25 pm25 an25 cd25 ct25), sl25⟩) (c25 : PySem.W.codeIn K cd25 "_law_is_int" = true) (k25 : PySem.W.keepIn K (.ref f25) = true)
  (a26 : PySem.W.nsIn K mainGlobals "_law_like" = some (some (.ref f26))) (l26 : K.lookup f26 = some ⟨oc26, od26, .func (PySem.W.fnOf "_law_like" "_law_like" (defArgs (topS 31)) (defBody (topS 31)) (defScope (topS 31)) .none kV26 dc26 pm26 an26 cd26 ct26), sl26⟩) (c26 : PySem.W.codeIn K cd26 "_law_like" = true) (k26 : PySem.W.keepIn K (.ref f26) = true)
  (a27 : PySem.W.nsIn K mainGlobals "_law_orders" = some (some (.ref f27))) (l27 : K.lookup f27 = some ⟨oc27, od27, .func (PySem.W.fnOf "_law_orders" "_law_orders" (defArgs (topS 32)) (defBody (topS 32)) (defScope (topS 32)) .none kV27 dc27 pm27 an27 cd27 ct27), sl27⟩) (c27 : PySem.W.codeIn K cd27 "_law_orders" = true) (k27 : PySem.W.keepIn K (.ref f27) = true)
  (a28 : PySem.W.nsIn K mainGlobals "_law_common" = some (some (.ref f28))) (l28 : K.lookup f28 = some ⟨oc28, od28, .func (PySem.W.fnOf "_law_common" "_law_common" (defArgs (topS 33)) (defBody (topS 33)) (defScope (topS 33)) .none kV28 dc28 pm28 an28 cd28 ct28), sl28⟩) (c28 : PySem.W.codeIn K cd28 "_law_common" = true) (k28 : PySem.W.keepIn K (.ref f28) = true)
  (a29 : PySem.W.nsIn K mainGlobals "_law_ratio" = some (some (.ref f29))) (l29 : K.lookup f29 = some ⟨oc29, od29, .func (PySem.W.fnOf "_law_ratio" "_law_ratio" (defArgs (topS 34)) (defBody (topS 34)) (defScope (topS 34)) .none kV29 dc29 pm29 an29 cd29 ct29), sl29⟩) (c29 : PySem.W.codeIn K cd29 "_law_ratio" = true) (k29 : PySem.W.keepIn K (.ref f29) = true)
  (a30 : PySem.W.nsIn K mainGlobals "_law_is_ratio" = some (some (.ref f30))) (l30 : K.lookup f30 = some ⟨oc30, od30, .func (PySem.W.fnOf "_law_is_ratio" "_law_is_ratio" (defArgs (topS 35)) (defBody (topS 35)) (defScope (topS 35)) .none kV30 dc30 pm30 an30 cd30 ct30), sl30⟩) (c30 : PySem.W.codeIn K cd30 "_law_is_ratio" = true) (k30 : PySem.W.keepIn K (.ref f30) = true)
  (a31 : PySem.W.nsIn K mainGlobals "_law_ratio_row" = some (some (.ref f31))) (l31 : K.lookup f31 = some ⟨oc31, od31, .func (PySem.W.fnOf "_law_ratio_row" "_law_ratio_row" (defArgs (topS 36)) (defBody (topS 36)) (defScope (topS 36)) .none kV31 dc31 pm31 an31 cd31 ct31), sl31⟩) (c31 : PySem.W.codeIn K cd31 "_law_ratio_row" = true) (k31 : PySem.W.keepIn K (.ref f31) = true)
  (a32 : PySem.W.nsIn K mainGlobals "_law_add" = some (some (.ref f32))) (l32 : K.lookup f32 = some ⟨oc32, od32, .func (PySem.W.fnOf "_law_add" "_law_add" (defArgs (topS 37)) (defBody (topS 37)) (defScope (topS 37)) .none kV32 dc32 pm32 an32 cd32 ct32), sl32⟩) (c32 : PySem.W.codeIn K cd32 "_law_add" = true) (k32 : PySem.W.keepIn K (.ref f32) = true)
  (a33 : PySem.W.nsIn K mainGlobals "_law_under" = some (some (.ref f33))) (l33 : K.lookup f33 = some ⟨oc33, od33, .func (PySem.W.fnOf "_law_under" "_law_under" (defArgs (topS 38)) (defBody (topS 38)) (defScope (topS 38)) .none kV33 dc33 pm33 an33 cd33 ct33), sl33⟩) (c33 : PySem.W.codeIn K cd33 "_law_under" = true) (k33 : PySem.W.keepIn K (.ref f33) = true)
  (a34 : PySem.W.nsIn K mainGlobals "_law_dot" = some (some (.ref f34))) (l34 : K.lookup f34 = some ⟨oc34, od34, .func (PySem.W.fnOf "_law_dot" "_law_dot" (defArgs (topS 39)) (defBody (topS 39)) (defScope (topS 39)) .none kV34 dc34 pm34 an34 cd34 ct34), sl34⟩) (c34 : PySem.W.codeIn K cd34 "_law_dot" = true) (k34 : PySem.W.keepIn K (.ref f34) = true)
  (a35 : PySem.W.nsIn K mainGlobals "_law_best" = some (some (.ref f35))) (l35 : K.lookup f35 = some ⟨oc35, od35, .func (PySem.W.fnOf "_law_best" "_law_best" (defArgs (topS 40)) (defBody (topS 40)) (defScope (topS 40)) .none kV35 dc35 pm35 an35 cd35 ct35), sl35⟩) (c35 : PySem.W.codeIn K cd35 "_law_best" = true) (k35 : PySem.W.keepIn K (.ref f35) = true)
  (a36 : PySem.W.nsIn K mainGlobals "_law_fair" = some (some (.ref f36))) (l36 : K.lookup f36 = some ⟨oc36, od36, .func (PySem.W.fnOf "_law_fair" "_law_fair" (defArgs (topS 41)) (defBody (topS 41)) (defScope (topS 41)) .none kV36 dc36 pm36 an36 cd36 ct36), sl36⟩) (c36 : PySem.W.codeIn K cd36 "_law_fair" = true) (k36 : PySem.W.keepIn K (.ref f36) = true)
  (a37 : PySem.W.nsIn K mainGlobals "_law_widest" = some (some (.ref f37))) (l37 : K.lookup f37 = some ⟨oc37, od37, .func (PySem.W.fnOf "_law_widest" "_law_widest" (defArgs (topS 42)) (defBody (topS 42)) (defScope (topS 42)) .none kV37 dc37 pm37 an37 cd37 ct37), sl37⟩) (c37 : PySem.W.codeIn K cd37 "_law_widest" = true) (k37 : PySem.W.keepIn K (.ref f37) = true)
  (a38 : PySem.W.nsIn K mainGlobals "_law_fits_right" = some (some (.ref f38))) (l38 : K.lookup f38 = some ⟨oc38, od38, .func (PySem.W.fnOf "_law_fits_right" "_law_fits_right" (defArgs (topS 43)) (defBody (topS 43)) (defScope (topS 43)) .none kV38 dc38 pm38 an38 cd38 ct38), sl38⟩) (c38 : PySem.W.codeIn K cd38 "_law_fits_right" = true) (k38 : PySem.W.keepIn K (.ref f38) = true)
  (a39 : PySem.W.nsIn K mainGlobals "_law_changed_right" = some (some (.ref f39))) (l39 : K.lookup f39 = some ⟨oc39, od39, .func (PySem.W.fnOf "_law_changed_right" "_law_changed_right" (defArgs (topS 44)) (defBody (topS 44)) (defScope (topS 44)) .none kV39 dc39 pm39 an39 cd39 ct39), sl39⟩) (c39 : PySem.W.codeIn K cd39 "_law_changed_right" = true) (k39 : PySem.W.keepIn K (.ref f39) = true)
  (a40 : PySem.W.nsIn K mainGlobals "law" = some (some (.ref f40))) (l40 : K.lookup f40 = some ⟨oc40, od40, .func (PySem.W.fnOf "law" "law" (defArgs (topS 45)) (defBody (topS 45)) (defScope (topS 45)) .none kV40 dc40 pm40 an40 cd40 ct40), sl40⟩) (c40 : PySem.W.codeIn K cd40 "law" = true) (k40 : PySem.W.keepIn K (.ref f40) = true)
  (z_abs : PySem.W.nsIn K mainGlobals "abs" = some none)
  (z_all : PySem.W.nsIn K mainGlobals "all" = some none)
  (z_any : PySem.W.nsIn K mainGlobals "any" = some none)
  (z_bool : PySem.W.nsIn K mainGlobals "bool" = some none)
  (z_enumerate : PySem.W.nsIn K mainGlobals "enumerate" = some none)
  (z_int : PySem.W.nsIn K mainGlobals "int" = some none)
  (z_isinstance : PySem.W.nsIn K mainGlobals "isinstance" = some none)
  (z_len : PySem.W.nsIn K mainGlobals "len" = some none)
  (z_list : PySem.W.nsIn K mainGlobals "list" = some none)
  (z_max : PySem.W.nsIn K mainGlobals "max" = some none)
  (z_min : PySem.W.nsIn K mainGlobals "min" = some none)
  (z_range : PySem.W.nsIn K mainGlobals "range" = some none)
  (z_sorted : PySem.W.nsIn K mainGlobals "sorted" = some none)
  (z_str : PySem.W.nsIn K mainGlobals "str" = some none)
  (z_sum : PySem.W.nsIn K mainGlobals "sum" = some none)
  (z_tuple : PySem.W.nsIn K mainGlobals "tuple" = some none)
  (z_zip : PySem.W.nsIn K mainGlobals "zip" = some none) [Tbls] :
  ∃ fd : FuncData, (∀ (s : Shared) (v : Value), BindsTo s fd ⟨[v], []⟩ [("script", v)]) ∧ ∀ base : Heap, K.In base → base.Ns mainGlobals mg → FnOk PySem.Challenge.rw_planskept_k50_whole_rents.prog w K mg base CX0 34 fa fd ["script"] (spD K 1 den_law) := by
  have e : f40 = fa := by
    have e := hfa.symm.trans (PySem.W.mg_of X G a40)
    cases e
    rfl
  subst e
  have T : ∀ base : Heap, Tp K mg (fun i => match i with | 0 => f0 | 1 => f1 | 2 => f2 | 3 => f3 | 4 => f4 | 5 => f5 | 6 => f6 | 7 => f7 | 8 => f8 | 9 => f9 | 10 => f10 | 11 => f11 | 12 => f12 | 13 => f13 | 14 => f14 | 15 => f15 | 16 => f16 | 17 => f17 | 18 => f18 | 19 => f19 | 20 => f20 | 21 => f21 | 22 => f22 | 23 => f23 | 24 => f24 | 25 => f25 | 26 => f26 | 27 => f27 | 28 => f28 | 29 => f29 | 30 => f30 | 31 => f31 | 32 => f32 | 33 => f33 | 34 => f34 | 35 => f35 | 36 => f36 | 37 => f37 | 38 => f38 | 39 => f39 | _ => f40) (fun i => match i with | 0 => PySem.W.fnOf "divisor" "divisor" (defArgs (topS 1)) (defBody (topS 1)) (defScope (topS 1)) .none kV0 dc0 pm0 an0 cd0 ct0 | 1 => PySem.W.fnOf "lowest" "lowest" (defArgs (topS 2)) (defBody (topS 2)) (defScope (topS 2)) .none kV1 dc1 pm1 an1 cd1 ct1 | 2 => PySem.W.fnOf "plus" "plus" (defArgs (topS 3)) (defBody (topS 3)) (defScope (topS 3)) .none kV2 dc2 pm2 an2 cd2 ct2 | 3 => PySem.W.fnOf "minus" "minus" (defArgs (topS 4)) (defBody (topS 4)) (defScope (topS 4)) .none kV3 dc3 pm3 an3 cd3 ct3 | 4 => PySem.W.fnOf "parted" "parted" (defArgs (topS 5)) (defBody (topS 5)) (defScope (topS 5)) .none kV4 dc4 pm4 an4 cd4 ct4 | 5 => PySem.W.fnOf "is_less" "is_less" (defArgs (topS 6)) (defBody (topS 6)) (defScope (topS 6)) .none kV5 dc5 pm5 an5 cd5 ct5 | 6 => PySem.W.fnOf "total" "total" (defArgs (topS 7)) (defBody (topS 7)) (defScope (topS 7)) .none kV6 dc6 pm6 an6 cd6 ct6 | 7 => PySem.W.fnOf "all_orders" "all_orders" (defArgs (topS 8)) (defBody (topS 8)) (defScope (topS 8)) .none kV7 dc7 pm7 an7 cd7 ct7 | 8 => PySem.W.fnOf "as_ratio" "as_ratio" (defArgs (topS 10)) (defBody (topS 10)) (defScope (topS 10)) .none kV8 dc8 pm8 an8 cd8 ct8 | 9 => PySem.W.fnOf "is_whole" "is_whole" (defArgs (topS 11)) (defBody (topS 11)) (defScope (topS 11)) .none kV9 dc9 pm9 an9 cd9 ct9 | 10 => PySem.W.fnOf "is_ratio" "is_ratio" (defArgs (topS 12)) (defBody (topS 12)) (defScope (topS 12)) .none kV10 dc10 pm10 an10 cd10 ct10 | 11 => PySem.W.fnOf "is_ratio_row" "is_ratio_row" (defArgs (topS 13)) (defBody (topS 13)) (defScope (topS 13)) .none kV11 dc11 pm11 an11 cd11 ct11 | 12 => PySem.W.fnOf "best_rooms" "best_rooms" (defArgs (topS 15)) (defBody (topS 15)) (defScope (topS 15)) .none kV12 dc12 pm12 an12 cd12 ct12 | 13 => PySem.W.fnOf "least_leads" "least_leads" (defArgs (topS 16)) (defBody (topS 16)) (defScope (topS 16)) .none kV13 dc13 pm13 an13 cd13 ct13 | 14 => PySem.W.fnOf "widest_plan" "widest_plan" (defArgs (topS 17)) (defBody (topS 17)) (defScope (topS 17)) .none kV14 dc14 pm14 an14 cd14 ct14 | 15 => PySem.W.fnOf "fair_rents" "fair_rents" (defArgs (topS 18)) (defBody (topS 18)) (defScope (topS 18)) .none kV15 dc15 pm15 an15 cd15 ct15 | 16 => PySem.W.fnOf "widest_rents" "widest_rents" (defArgs (topS 19)) (defBody (topS 19)) (defScope (topS 19)) .none kV16 dc16 pm16 an16 cd16 ct16 | 17 => PySem.W.fnOf "is_room_row" "is_room_row" (defArgs (topS 20)) (defBody (topS 20)) (defScope (topS 20)) .none kV17 dc17 pm17 an17 cd17 ct17 | 18 => PySem.W.fnOf "is_fair_rents" "is_fair_rents" (defArgs (topS 21)) (defBody (topS 21)) (defScope (topS 21)) .none kV18 dc18 pm18 an18 cd18 ct18 | 19 => PySem.W.fnOf "best_fit" "best_fit" (defArgs (topS 23)) (defBody (topS 23)) (defScope (topS 23)) .none kV19 dc19 pm19 an19 cd19 ct19 | 20 => PySem.W.fnOf "fit_prices" "fit_prices" (defArgs (topS 24)) (defBody (topS 24)) (defScope (topS 24)) .none kV20 dc20 pm20 an20 cd20 ct20 | 21 => PySem.W.fnOf "are_integers" "are_integers" (defArgs (topS 25)) (defBody (topS 25)) (defScope (topS 25)) .none kV21 dc21 pm21 an21 cd21 ct21 | 22 => PySem.W.fnOf "judge_prices" "judge_prices" (defArgs (topS 26)) (defBody (topS 26)) (defScope (topS 26)) .none kV22 dc22 pm22 an22 cd22 ct22 | 23 => PySem.W.fnOf "_law_mixed" "_law_mixed" (defArgs (topS 28)) (defBody (topS 28)) (defScope (topS 28)) .none kV23 dc23 pm23 an23 cd23 ct23 | 24 => PySem.W.fnOf "_law_row" "_law_row" (defArgs (topS 29)) (defBody (topS 29)) (defScope (topS 29)) .none kV24 dc24 pm24 an24 cd24 ct24 | 25 => PySem.W.fnOf "_law_is_int" "_law_is_int" (defArgs (topS 30)) (defBody (topS 30)) (defScope (topS 30)) .none kV25 dc25 pm25 an25 cd25 ct25 | 26 => PySem.W.fnOf "_law_like" "_law_like" (defArgs (topS 31)) (defBody (topS 31)) (defScope (topS 31)) .none kV26 dc26 pm26 an26 cd26 ct26 | 27 => PySem.W.fnOf "_law_orders" "_law_orders" (defArgs (topS 32)) (defBody (topS 32)) (defScope (topS 32)) .none kV27 dc27 pm27 an27 cd27 ct27 | 28 => PySem.W.fnOf "_law_common" "_law_common" (defArgs (topS 33)) (defBody (topS 33)) (defScope (topS 33)) .none kV28 dc28 pm28 an28 cd28 ct28 | 29 => PySem.W.fnOf "_law_ratio" "_law_ratio" (defArgs (topS 34)) (defBody (topS 34)) (defScope (topS 34)) .none kV29 dc29 pm29 an29 cd29 ct29 | 30 => PySem.W.fnOf "_law_is_ratio" "_law_is_ratio" (defArgs (topS 35)) (defBody (topS 35)) (defScope (topS 35)) .none kV30 dc30 pm30 an30 cd30 ct30 | 31 => PySem.W.fnOf "_law_ratio_row" "_law_ratio_row" (defArgs (topS 36)) (defBody (topS 36)) (defScope (topS 36)) .none kV31 dc31 pm31 an31 cd31 ct31 | 32 => PySem.W.fnOf "_law_add" "_law_add" (defArgs (topS 37)) (defBody (topS 37)) (defScope (topS 37)) .none kV32 dc32 pm32 an32 cd32 ct32 | 33 => PySem.W.fnOf "_law_under" "_law_under" (defArgs (topS 38)) (defBody (topS 38)) (defScope (topS 38)) .none kV33 dc33 pm33 an33 cd33 ct33 | 34 => PySem.W.fnOf "_law_dot" "_law_dot" (defArgs (topS 39)) (defBody (topS 39)) (defScope (topS 39)) .none kV34 dc34 pm34 an34 cd34 ct34 | 35 => PySem.W.fnOf "_law_best" "_law_best" (defArgs (topS 40)) (defBody (topS 40)) (defScope (topS 40)) .none kV35 dc35 pm35 an35 cd35 ct35 | 36 => PySem.W.fnOf "_law_fair" "_law_fair" (defArgs (topS 41)) (defBody (topS 41)) (defScope (topS 41)) .none kV36 dc36 pm36 an36 cd36 ct36 | 37 => PySem.W.fnOf "_law_widest" "_law_widest" (defArgs (topS 42)) (defBody (topS 42)) (defScope (topS 42)) .none kV37 dc37 pm37 an37 cd37 ct37 | 38 => PySem.W.fnOf "_law_fits_right" "_law_fits_right" (defArgs (topS 43)) (defBody (topS 43)) (defScope (topS 43)) .none kV38 dc38 pm38 an38 cd38 ct38 | 39 => PySem.W.fnOf "_law_changed_right" "_law_changed_right" (defArgs (topS 44)) (defBody (topS 44)) (defScope (topS 44)) .none kV39 dc39 pm39 an39 cd39 ct39 | _ => PySem.W.fnOf "law" "law" (defArgs (topS 45)) (defBody (topS 45)) (defScope (topS 45)) .none kV40 dc40 pm40 an40 cd40 ct40) base := fun base => {
    F_divisor := fun_mk (st := (topS 1)) l0 c0 k0,
    b_divisor := (fun_mk (st := (topS 1)) l0 c0 k0).binds (ps := ["first", "second"]) fun _ _ _ _ _ _ us hl => match us, hl with | [_, _], _ => rfl,
    g_divisor := PySem.W.mg_of X G a0,
    F_lowest := fun_mk (st := (topS 2)) l1 c1 k1,
    b_lowest := (fun_mk (st := (topS 2)) l1 c1 k1).binds (ps := ["a", "b"]) fun _ _ _ _ _ _ us hl => match us, hl with | [_, _], _ => rfl,
    g_lowest := PySem.W.mg_of X G a1,
    F_plus := fun_mk (st := (topS 3)) l2 c2 k2,
    b_plus := (fun_mk (st := (topS 3)) l2 c2 k2).binds (ps := ["first", "second"]) fun _ _ _ _ _ _ us hl => match us, hl with | [_, _], _ => rfl,
    g_plus := PySem.W.mg_of X G a2,
    F_minus := fun_mk (st := (topS 4)) l3 c3 k3,
    b_minus := (fun_mk (st := (topS 4)) l3 c3 k3).binds (ps := ["first", "second"]) fun _ _ _ _ _ _ us hl => match us, hl with | [_, _], _ => rfl,
    g_minus := PySem.W.mg_of X G a3,
    F_parted := fun_mk (st := (topS 5)) l4 c4 k4,
    b_parted := (fun_mk (st := (topS 5)) l4 c4 k4).binds (ps := ["first", "second"]) fun _ _ _ _ _ _ us hl => match us, hl with | [_, _], _ => rfl,
    g_parted := PySem.W.mg_of X G a4,
    F_is_less := fun_mk (st := (topS 6)) l5 c5 k5,
    b_is_less := (fun_mk (st := (topS 6)) l5 c5 k5).binds (ps := ["first", "second"]) fun _ _ _ _ _ _ us hl => match us, hl with | [_, _], _ => rfl,
    g_is_less := PySem.W.mg_of X G a5,
    F_total := fun_mk (st := (topS 7)) l6 c6 k6,
    b_total := (fun_mk (st := (topS 7)) l6 c6 k6).binds (ps := ["ratios"]) fun _ _ _ _ _ _ us hl => match us, hl with | [_], _ => rfl,
    g_total := PySem.W.mg_of X G a6,
    F_all_orders := fun_mk (st := (topS 8)) l7 c7 k7,
    b_all_orders := (fun_mk (st := (topS 8)) l7 c7 k7).binds (ps := ["n"]) fun _ _ _ _ _ _ us hl => match us, hl with | [_], _ => rfl,
    g_all_orders := PySem.W.mg_of X G a7,
    F_as_ratio := fun_mk (st := (topS 10)) l8 c8 k8,
    b_as_ratio := (fun_mk (st := (topS 10)) l8 c8 k8).binds (ps := ["number"]) fun _ _ _ _ _ _ us hl => match us, hl with | [_], _ => rfl,
    g_as_ratio := PySem.W.mg_of X G a8,
    F_is_whole := fun_mk (st := (topS 11)) l9 c9 k9,
    b_is_whole := (fun_mk (st := (topS 11)) l9 c9 k9).binds (ps := ["value"]) fun _ _ _ _ _ _ us hl => match us, hl with | [_], _ => rfl,
    g_is_whole := PySem.W.mg_of X G a9,
    F_is_ratio := fun_mk (st := (topS 12)) l10 c10 k10,
    b_is_ratio := (fun_mk (st := (topS 12)) l10 c10 k10).binds (ps := ["value"]) fun _ _ _ _ _ _ us hl => match us, hl with | [_], _ => rfl,
    g_is_ratio := PySem.W.mg_of X G a10,
    F_is_ratio_row := fun_mk (st := (topS 13)) l11 c11 k11,
    b_is_ratio_row := (fun_mk (st := (topS 13)) l11 c11 k11).binds (ps := ["value", "n"]) fun _ _ _ _ _ _ us hl => match us, hl with | [_, _], _ => rfl,
    g_is_ratio_row := PySem.W.mg_of X G a11,
    F_best_rooms := fun_mk (st := (topS 15)) l12 c12 k12,
    b_best_rooms := (fun_mk (st := (topS 15)) l12 c12 k12).binds (ps := ["table"]) fun _ _ _ _ _ _ us hl => match us, hl with | [_], _ => rfl,
    g_best_rooms := PySem.W.mg_of X G a12,
    F_least_leads := fun_mk (st := (topS 16)) l13 c13 k13,
    b_least_leads := (fun_mk (st := (topS 16)) l13 c13 k13).binds (ps := ["table", "rooms"]) fun _ _ _ _ _ _ us hl => match us, hl with | [_, _], _ => rfl,
    g_least_leads := PySem.W.mg_of X G a13,
    F_widest_plan := fun_mk (st := (topS 17)) l14 c14 k14,
    b_widest_plan := (fun_mk (st := (topS 17)) l14 c14 k14).binds (ps := ["table", "rent"]) fun _ _ _ _ _ _ us hl => match us, hl with | [_, _], _ => rfl,
    g_widest_plan := PySem.W.mg_of X G a14,
    F_fair_rents := fun_mk (st := (topS 18)) l15 c15 k15,
    b_fair_rents := (fun_mk (st := (topS 18)) l15 c15 k15).binds (ps := ["table", "rent"]) fun _ _ _ _ _ _ us hl => match us, hl with | [_, _], _ => rfl,
    g_fair_rents := PySem.W.mg_of X G a15,
    F_widest_rents := fun_mk (st := (topS 19)) l16 c16 k16,
    b_widest_rents := (fun_mk (st := (topS 19)) l16 c16 k16).binds (ps := ["table", "rent"]) fun _ _ _ _ _ _ us hl => match us, hl with | [_, _], _ => rfl,
    g_widest_rents := PySem.W.mg_of X G a16,
    F_is_room_row := fun_mk (st := (topS 20)) l17 c17 k17,
    b_is_room_row := (fun_mk (st := (topS 20)) l17 c17 k17).binds (ps := ["value", "n"]) fun _ _ _ _ _ _ us hl => match us, hl with | [_, _], _ => rfl,
    g_is_room_row := PySem.W.mg_of X G a17,
    F_is_fair_rents := fun_mk (st := (topS 21)) l18 c18 k18,
    b_is_fair_rents := (fun_mk (st := (topS 21)) l18 c18 k18).binds (ps := ["table", "rent", "rooms", "prices"]) fun _ _ _ _ _ _ us hl => match us, hl with | [_, _, _, _], _ => rfl,
    g_is_fair_rents := PySem.W.mg_of X G a18,
    F_best_fit := fun_mk (st := (topS 23)) l19 c19 k19,
    b_best_fit := (fun_mk (st := (topS 23)) l19 c19 k19).binds (ps := ["table"]) fun _ _ _ _ _ _ us hl => match us, hl with | [_], _ => rfl,
    g_best_fit := PySem.W.mg_of X G a19,
    F_fit_prices := fun_mk (st := (topS 24)) l20 c20 k20,
    b_fit_prices := (fun_mk (st := (topS 24)) l20 c20 k20).binds (ps := ["table"]) fun _ _ _ _ _ _ us hl => match us, hl with | [_], _ => rfl,
    g_fit_prices := PySem.W.mg_of X G a20,
    F_are_integers := fun_mk (st := (topS 25)) l21 c21 k21,
    b_are_integers := (fun_mk (st := (topS 25)) l21 c21 k21).binds (ps := ["value", "count"]) fun _ _ _ _ _ _ us hl => match us, hl with | [_, _], _ => rfl,
    g_are_integers := PySem.W.mg_of X G a21,
    F_judge_prices := fun_mk (st := (topS 26)) l22 c22 k22,
    b_judge_prices := (fun_mk (st := (topS 26)) l22 c22 k22).binds (ps := ["table", "first", "second"]) fun _ _ _ _ _ _ us hl => match us, hl with | [_, _, _], _ => rfl,
    g_judge_prices := PySem.W.mg_of X G a22,
    F__law_mixed := fun_mk (st := (topS 28)) l23 c23 k23,
    b__law_mixed := (fun_mk (st := (topS 28)) l23 c23 k23).binds (ps := ["script", "k"]) fun _ _ _ _ _ _ us hl => match us, hl with | [_, _], _ => rfl,
    g__law_mixed := PySem.W.mg_of X G a23,
    F__law_row := fun_mk (st := (topS 29)) l24 c24 k24,
    b__law_row := (fun_mk (st := (topS 29)) l24 c24 k24).binds (ps := ["script", "many"]) fun _ _ _ _ _ _ us hl => match us, hl with | [_, _], _ => rfl,
    g__law_row := PySem.W.mg_of X G a24,
    F__law_is_int := fun_mk (st := (topS 30)) l25 c25 k25,
    b__law_is_int := (fun_mk (st := (topS 30)) l25 c25 k25).binds (ps := ["value"]) fun _ _ _ _ _ _ us hl => match us, hl with | [_], _ => rfl,
    g__law_is_int := PySem.W.mg_of X G a25,
    F__law_like := fun_mk (st := (topS 31)) l26 c26 k26,
    b__law_like := (fun_mk (st := (topS 31)) l26 c26 k26).binds (ps := ["value", "due"]) fun _ _ _ _ _ _ us hl => match us, hl with | [_, _], _ => rfl,
    g__law_like := PySem.W.mg_of X G a26,
    F__law_orders := fun_mk (st := (topS 32)) l27 c27 k27,
    b__law_orders := (fun_mk (st := (topS 32)) l27 c27 k27).binds (ps := ["count"]) fun _ _ _ _ _ _ us hl => match us, hl with | [_], _ => rfl,
    g__law_orders := PySem.W.mg_of X G a27,
    F__law_common := fun_mk (st := (topS 33)) l28 c28 k28,
    b__law_common := (fun_mk (st := (topS 33)) l28 c28 k28).binds (ps := ["first", "second"]) fun _ _ _ _ _ _ us hl => match us, hl with | [_, _], _ => rfl,
    g__law_common := PySem.W.mg_of X G a28,
    F__law_ratio := fun_mk (st := (topS 34)) l29 c29 k29,
    b__law_ratio := (fun_mk (st := (topS 34)) l29 c29 k29).binds (ps := ["a", "b"]) fun _ _ _ _ _ _ us hl => match us, hl with | [_, _], _ => rfl,
    g__law_ratio := PySem.W.mg_of X G a29,
    F__law_is_ratio := fun_mk (st := (topS 35)) l30 c30 k30,
    b__law_is_ratio := (fun_mk (st := (topS 35)) l30 c30 k30).binds (ps := ["value"]) fun _ _ _ _ _ _ us hl => match us, hl with | [_], _ => rfl,
    g__law_is_ratio := PySem.W.mg_of X G a30,
    F__law_ratio_row := fun_mk (st := (topS 36)) l31 c31 k31,
    b__law_ratio_row := (fun_mk (st := (topS 36)) l31 c31 k31).binds (ps := ["value", "n"]) fun _ _ _ _ _ _ us hl => match us, hl with | [_, _], _ => rfl,
    g__law_ratio_row := PySem.W.mg_of X G a31,
    F__law_add := fun_mk (st := (topS 37)) l32 c32 k32,
    b__law_add := (fun_mk (st := (topS 37)) l32 c32 k32).binds (ps := ["x", "y"]) fun _ _ _ _ _ _ us hl => match us, hl with | [_, _], _ => rfl,
    g__law_add := PySem.W.mg_of X G a32,
    F__law_under := fun_mk (st := (topS 38)) l33 c33 k33,
    b__law_under := (fun_mk (st := (topS 38)) l33 c33 k33).binds (ps := ["x", "y"]) fun _ _ _ _ _ _ us hl => match us, hl with | [_, _], _ => rfl,
    g__law_under := PySem.W.mg_of X G a33,
    F__law_dot := fun_mk (st := (topS 39)) l34 c34 k34,
    b__law_dot := (fun_mk (st := (topS 39)) l34 c34 k34).binds (ps := ["ratios", "numbers"]) fun _ _ _ _ _ _ us hl => match us, hl with | [_, _], _ => rfl,
    g__law_dot := PySem.W.mg_of X G a34,
    F__law_best := fun_mk (st := (topS 40)) l35 c35 k35,
    b__law_best := (fun_mk (st := (topS 40)) l35 c35 k35).binds (ps := ["table"]) fun _ _ _ _ _ _ us hl => match us, hl with | [_], _ => rfl,
    g__law_best := PySem.W.mg_of X G a35,
    F__law_fair := fun_mk (st := (topS 41)) l36 c36 k36,
    b__law_fair := (fun_mk (st := (topS 41)) l36 c36 k36).binds (ps := ["table", "rent", "rooms", "prices"]) fun _ _ _ _ _ _ us hl => match us, hl with | [_, _, _, _], _ => rfl,
    g__law_fair := PySem.W.mg_of X G a36,
    F__law_widest := fun_mk (st := (topS 42)) l37 c37 k37,
    b__law_widest := (fun_mk (st := (topS 42)) l37 c37 k37).binds (ps := ["table", "rent", "best"]) fun _ _ _ _ _ _ us hl => match us, hl with | [_, _, _], _ => rfl,
    g__law_widest := PySem.W.mg_of X G a37,
    F__law_fits_right := fun_mk (st := (topS 43)) l38 c38 k38,
    b__law_fits_right := (fun_mk (st := (topS 43)) l38 c38 k38).binds (ps := ["table", "rent", "best"]) fun _ _ _ _ _ _ us hl => match us, hl with | [_, _, _], _ => rfl,
    g__law_fits_right := PySem.W.mg_of X G a38,
    F__law_changed_right := fun_mk (st := (topS 44)) l39 c39 k39,
    b__law_changed_right := (fun_mk (st := (topS 44)) l39 c39 k39).binds (ps := ["table", "rent", "rooms", "prices", "row"]) fun _ _ _ _ _ _ us hl => match us, hl with | [_, _, _, _, _], _ => rfl,
    g__law_changed_right := PySem.W.mg_of X G a39,
    F_law := fun_mk (st := (topS 45)) l40 c40 k40,
    b_law := (fun_mk (st := (topS 45)) l40 c40 k40).binds (ps := ["script"]) fun _ _ _ _ _ _ us hl => match us, hl with | [_], _ => rfl,
    g_law := PySem.W.mg_of X G a40,
    z_abs := PySem.W.mg_none_of X G z_abs,
    z_all := PySem.W.mg_none_of X G z_all,
    z_any := PySem.W.mg_none_of X G z_any,
    z_bool := PySem.W.mg_none_of X G z_bool,
    z_enumerate := PySem.W.mg_none_of X G z_enumerate,
    z_int := PySem.W.mg_none_of X G z_int,
    z_isinstance := PySem.W.mg_none_of X G z_isinstance,
    z_len := PySem.W.mg_none_of X G z_len,
    z_list := PySem.W.mg_none_of X G z_list,
    z_max := PySem.W.mg_none_of X G z_max,
    z_min := PySem.W.mg_none_of X G z_min,
    z_range := PySem.W.mg_none_of X G z_range,
    z_sorted := PySem.W.mg_none_of X G z_sorted,
    z_str := PySem.W.mg_none_of X G z_str,
    z_sum := PySem.W.mg_none_of X G z_sum,
    z_tuple := PySem.W.mg_none_of X G z_tuple,
    z_zip := PySem.W.mg_none_of X G z_zip }
  exact ⟨_, fun s v => .of_eq rfl, fun base _ _ => ok_law (T base)⟩
end Law
open PySem PySem.W PyProof.Rows
set_option maxHeartbeats 0 in
theorem PySem.Challenge.cw_planskept_k50_whole_rents_holds : PySem.Challenge.rw_planskept_k50_whole_rents.Holds := by
  w_on; o_law; k_head; (case hw => w_witness2)
  k_fill
  letI : DS.Tbls := ⟨[]⟩
  refine L2.walk_of (l := PySem.Challenge.rw_planskept_k50_whole_rents) (n := 63) (k := 34) (x := "script") (CX := fun _ => L2.CX0) (sp := fun w => DS.spD _ 1 Law.den_law) rfl (by decide) rfl ⟨rfl, by decide, by decide⟩ (fun w h Y => PySem.W.kIn_of Y) ?F (fun w H a ns hl _ hS => DS.law_sp (Law.main ns hl) hS (fun _ h => by cases h)) (fun _ _ _ _ _ h => h)
  case F =>
    intro w mg fa h KX G hmg
    refine' Law.all_mk KX G hmg ?a0 ?l0 ?c0 ?k0 ?a1 ?l1 ?c1 ?k1 ?a2 ?l2 ?c2 ?k2 ?a3 ?l3 ?c3 ?k3 ?a4 ?l4 ?c4 ?k4 ?a5 ?l5 ?c5 ?k5 ?a6 ?l6 ?c6 ?k6 ?a7 ?l7 ?c7 ?k7 ?a8 ?l8 ?c8 ?k8 ?a9 ?l9 ?c9 ?k9 ?a10 ?l10 ?c10 ?k10 ?a11 ?l11 ?c11 ?k11 ?a12 ?l12 ?c12 ?k12 ?a13 ?l13 ?c13 ?k13 ?a14 ?l14 ?c14 ?k14 ?a15 ?l15 ?c15 ?k15 ?a16 ?l16 ?c16 ?k16 ?a17 ?l17 ?c17 ?k17 ?a18 ?l18 ?c18 ?k18 ?a19 ?l19 ?c19 ?k19 ?a20 ?l20 ?c20 ?k20 ?a21 ?l21 ?c21 ?k21 ?a22 ?l22 ?c22 ?k22 ?a23 ?l23 ?c23 ?k23 ?a24 ?l24 ?c24 ?k24 ?a25 ?l25 ?c25 ?k25 ?a26 ?l26 ?c26 ?k26 ?a27 ?l27 ?c27 ?k27 ?a28 ?l28 ?c28 ?k28 ?a29 ?l29 ?c29 ?k29 ?a30 ?l30 ?c30 ?k30 ?a31 ?l31 ?c31 ?k31 ?a32 ?l32 ?c32 ?k32 ?a33 ?l33 ?c33 ?k33 ?a34 ?l34 ?c34 ?k34 ?a35 ?l35 ?c35 ?k35 ?a36 ?l36 ?c36 ?k36 ?a37 ?l37 ?c37 ?k37 ?a38 ?l38 ?c38 ?k38 ?a39 ?l39 ?c39 ?k39 ?a40 ?l40 ?c40 ?k40 ?z_abs ?z_all ?z_any ?z_bool ?z_enumerate ?z_int ?z_isinstance ?z_len ?z_list ?z_max ?z_min ?z_range ?z_sorted ?z_str ?z_sum ?z_tuple ?z_zip
    (case a0 => k_is); (case l0 => k_is); (case c0 => k_is); (case k0 => k_is); (case a1 => k_is); (case l1 => k_is); (case c1 => k_is); (case k1 => k_is); (case a2 => k_is); (case l2 => k_is); (case c2 => k_is); (case k2 => k_is); (case a3 => k_is); (case l3 => k_is); (case c3 => k_is); (case k3 => k_is); (case a4 => k_is); (case l4 => k_is); (case c4 => k_is); (case k4 => k_is); (case a5 => k_is); (case l5 => k_is); (case c5 => k_is); (case k5 => k_is); (case a6 => k_is); (case l6 => k_is); (case c6 => k_is); (case k6 => k_is); (case a7 => k_is); (case l7 => k_is); (case c7 => k_is); (case k7 => k_is); (case a8 => k_is); (case l8 => k_is); (case c8 => k_is); (case k8 => k_is); (case a9 => k_is); (case l9 => k_is); (case c9 => k_is); (case k9 => k_is); (case a10 => k_is); (case l10 => k_is); (case c10 => k_is); (case k10 => k_is); (case a11 => k_is); (case l11 => k_is); (case c11 => k_is); (case k11 => k_is); (case a12 => k_is); (case l12 => k_is); (case c12 => k_is); (case k12 => k_is); (case a13 => k_is); (case l13 => k_is); (case c13 => k_is); (case k13 => k_is); (case a14 => k_is); (case l14 => k_is); (case c14 => k_is); (case k14 => k_is); (case a15 => k_is); (case l15 => k_is); (case c15 => k_is); (case k15 => k_is); (case a16 => k_is); (case l16 => k_is); (case c16 => k_is); (case k16 => k_is); (case a17 => k_is); (case l17 => k_is); (case c17 => k_is); (case k17 => k_is); (case a18 => k_is); (case l18 => k_is); (case c18 => k_is); (case k18 => k_is); (case a19 => k_is); (case l19 => k_is); (case c19 => k_is); (case k19 => k_is); (case a20 => k_is); (case l20 => k_is); (case c20 => k_is); (case k20 => k_is); (case a21 => k_is); (case l21 => k_is); (case c21 => k_is); (case k21 => k_is); (case a22 => k_is); (case l22 => k_is); (case c22 => k_is); (case k22 => k_is); (case a23 => k_is); (case l23 => k_is); (case c23 => k_is); (case k23 => k_is); (case a24 => k_is); (case l24 => k_is); (case c24 => k_is); (case k24 => k_is); (case a25 => k_is); (case l25 => k_is); (case c25 => k_is); (case k25 => k_is); (case a26 => k_is); (case l26 => k_is); (case c26 => k_is); (case k26 => k_is); (case a27 => k_is); (case l27 => k_is); (case c27 => k_is); (case k27 => k_is); (case a28 => k_is); (case l28 => k_is); (case c28 => k_is); (case k28 => k_is); (case a29 => k_is); (case l29 => k_is); (case c29 => k_is); (case k29 => k_is); (case a30 => k_is); (case l30 => k_is); (case c30 => k_is); (case k30 => k_is); (case a31 => k_is); (case l31 => k_is); (case c31 => k_is); (case k31 => k_is); (case a32 => k_is); (case l32 => k_is); (case c32 => k_is); (case k32 => k_is); (case a33 => k_is); (case l33 => k_is); (case c33 => k_is); (case k33 => k_is); (case a34 => k_is); (case l34 => k_is); (case c34 => k_is); (case k34 => k_is); (case a35 => k_is); (case l35 => k_is); (case c35 => k_is); (case k35 => k_is); (case a36 => k_is); (case l36 => k_is); (case c36 => k_is); (case k36 => k_is); (case a37 => k_is); (case l37 => k_is); (case c37 => k_is); (case k37 => k_is); (case a38 => k_is); (case l38 => k_is); (case c38 => k_is); (case k38 => k_is); (case a39 => k_is); (case l39 => k_is); (case c39 => k_is); (case k39 => k_is); (case a40 => k_is); (case l40 => k_is); (case c40 => k_is); (case k40 => k_is); (case z_abs => k_is); (case z_all => k_is); (case z_any => k_is); (case z_bool => k_is); (case z_enumerate => k_is); (case z_int => k_is); (case z_isinstance => k_is); (case z_len => k_is); (case z_list => k_is); (case z_max => k_is); (case z_min => k_is); (case z_range => k_is); (case z_sorted => k_is); (case z_str => k_is); (case z_sum => k_is); (case z_tuple => k_is); (case z_zip => k_is)
end
