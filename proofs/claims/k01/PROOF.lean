import PyProof.Rows.All
import Wide.All
import OpenK.AllK
import Wide.FinOn
import HandS.ForMost
import HandS.Wide
import HandS.TupAny
import HandS.TupMul
import HandS.Deep
import HandS.Flow
import KE.DataIsa
import KE.DataFind
import KE.DataMinMax
import KE.DataAny
import KE.DataCmp
import KE.SortData
import HandS.Conv
import KE.KIndexOf
import PyProof.ReprRoads
import HandS.Walk
import HandS.Zip
import KE.GoesZip
import KE.GoesMore
import KE.GoesEnum
import HandS.Ends
import HandS.TupLen
import HandS.ReCall
import KE.KDictZip
import HandS.Exc
import HandS.TupLe
import PySem.Challenge.RW_fittingdoors_k01_whole_partings_beside_o
set_option Elab.async false
set_option linter.all false
set_option maxRecDepth 100000
/-! the value layer: plain functions over data, read off the hand layer's judgements -/
namespace VL
open PySem
open PySem.Spec
open L2

abbrev D := PyData
/-- the drawing machine's state: cells, great, spot -/
abbrev MS := List Int × List Int × Int
structure Exn where
  cls : Str
  fs : List (Str × D)
inductive Out (α : Type) where
  | ok (a : α) (m : MS)
  | exc (c : Exn) (m : MS)
  | bad
def M (α : Type) : Type := MS → Out α
def M.bd {α β : Type} (x : M α) (f : α → M β) : M β := fun m =>
  match x m with
  | .ok a m' => f a m'
  | .exc c m' => .exc c m'
  | .bad => .bad
instance : Monad M where
  pure a := fun m => .ok a m
  bind x f := M.bd x f
def M.no {α : Type} : M α := fun _ => .bad
def M.rs {α : Type} (c : Exn) : M α := fun m => .exc c m
theorem M.pure_run {α : Type} (a : α) (m : MS) : (pure a : M α) m = .ok a m := rfl
theorem M.bind_run {α β : Type} (x : M α) (f : α → M β) (m : MS) : (x >>= f) m = M.bd x f m := rfl
theorem M.ext {α : Type} {x y : M α} (h : ∀ m, x m = y m) : x = y := funext h
theorem M.pb {α β : Type} (a : α) (f : α → M β) : (pure a >>= f) = f a := rfl
theorem M.bp {α : Type} (x : M α) : (x >>= pure) = x := by
  funext m
  show M.bd x pure m = x m
  unfold M.bd
  cases x m <;> rfl
theorem M.ba {α β γ : Type} (x : M α) (f : α → M β) (g : β → M γ) : (x >>= f >>= g) = (x >>= fun a => f a >>= g) := by
  funext m
  show M.bd (M.bd x f) g m = M.bd x (fun a => f a >>= g) m
  unfold M.bd
  cases x m <;> rfl
theorem M.nb {α β : Type} (f : α → M β) : ((M.no : M α) >>= f) = M.no := rfl
theorem M.rb {α β : Type} (c : Exn) (f : α → M β) : ((M.rs c : M α) >>= f) = M.rs c := rfl
instance : LawfulMonad M := LawfulMonad.mk' M
  (id_map := fun x => by
    funext m
    show M.bd x (fun a => pure a) m = x m
    unfold M.bd
    cases x m <;> rfl)
  (pure_bind := fun a f => rfl)
  (bind_assoc := fun x f g => M.ba x f g)
/-- a result that some function of values gives, or none -/
def lft {α : Type} : Option α → M α
  | some a => pure a
  | none => M.no
theorem lft_some {α : Type} (a : α) : lft (some a) = pure a := rfl
theorem lft_none {α : Type} : lft (none : Option α) = M.no := rfl

def Good {α : Type} (o : Out α) (P : α → MS → Prop) (R : Exn → MS → Prop) : Prop :=
  match o with
  | .ok a m => P a m
  | .exc c m => R c m
  | .bad => False
theorem Good.mono {α : Type} {o : Out α} {P P' : α → MS → Prop} {R R' : Exn → MS → Prop} (h : Good o P R) (hp : ∀ a m, P a m → P' a m) (hr : ∀ c m, R c m → R' c m) : Good o P' R' := by
  cases o with
  | ok a m => exact hp a m h
  | exc c m => exact hr c m h
  | bad => exact h
theorem Good.bd {α β : Type} {x : M α} {f : α → M β} {m : MS} {P : β → MS → Prop} {R : Exn → MS → Prop} (h : Good ((x >>= f) m) P R) : Good (x m) (fun a m' => Good (f a m') P R) R := by
  have e : (x >>= f) m = M.bd x f m := rfl
  rw [e] at h
  unfold M.bd at h
  cases q : x m with
  | ok a m' => rw [q] at h; exact h
  | exc c m' => rw [q] at h; exact h
  | bad => rw [q] at h; exact h
theorem Good.lft {α : Type} {o : Option α} {m : MS} {P : α → MS → Prop} {R : Exn → MS → Prop} (h : Good (VL.lft o m) P R) : ∃ a, o = some a ∧ P a m := by
  cases o with
  | none => exact h.elim
  | some a => exact ⟨a, rfl, h⟩

/-! ### hidden addresses -/
def hide (Z : List Addr) (H : Hp) : Hp := fun a => if a ∈ Z then none else H a
theorem hide_ne {Z : List Addr} {H : Hp} {a : Addr} (h : a ∉ Z) : hide Z H a = H a := if_neg h
theorem hide_in {Z : List Addr} {H : Hp} {a : Addr} (h : a ∈ Z) : hide Z H a = none := if_pos h
theorem hide_some {Z : List Addr} {H : Hp} {a : Addr} {o : HO} (h : hide Z H a = some o) : a ∉ Z ∧ H a = some o := by
  by_cases q : a ∈ Z
  · rw [hide_in q] at h
    cases h
  · rw [hide_ne q] at h
    exact ⟨q, h⟩
theorem hide_same (Z : List Addr) (H : Hp) : Same (hide Z H) H := fun _ _ h => (hide_some h).2
theorem hide_sub {Z Y : List Addr} {H : Hp} (h : ∀ a ∈ Y, a ∈ Z) : Same (hide Z H) (hide Y H) := fun a o e => by
  obtain ⟨h1, h2⟩ := hide_some e
  rw [hide_ne fun q => h1 (h a q)]
  exact h2
theorem same_rd {H H' : Hp} {a : Addr} {u : HO} (e : Same H H') (h : Rd H a u) : Rd H' a u := by
  rcases h with h | ⟨o, h⟩
  · exact .inl (e _ _ h)
  · exact .inr ⟨o, e _ _ h⟩
mutual
/-- the value is this data; all of it is tracked -/
inductive Dq (K : PySem.W.Frag) (H : Hp) : V → PyData → Prop
  | non : Dq K H .non .none
  | bl (b : Bool) : Dq K H (.bl b) (.bool b)
  | int (i : Int) : Dq K H (.int i) (.int i)
  | str (x : Str) : Dq K H (.str x) (.str x)
  | lst {a : Addr} {xs : List V} {ds : List PyData} (h : Rd H a (.lst xs)) (r : DqAll K H xs ds) : Dq K H (.ref a) (.list ds)
  | tup {a : Addr} {xs : List V} {ds : List PyData} (h : Rd H a (.tup xs)) (r : DqAll K H xs ds) : Dq K H (.ref a) (.tuple ds)
inductive DqAll (K : PySem.W.Frag) (H : Hp) : List V → List PyData → Prop
  | nil : DqAll K H [] []
  | cons {v : V} {vs : List V} {d : PyData} {ds : List PyData} (h : Dq K H v d) (r : DqAll K H vs ds) : DqAll K H (v :: vs) (d :: ds)
end
mutual
theorem Dq.dp {K : PySem.W.Frag} {H : Hp} : ∀ {d : PyData} {v : V}, Dq K H v d → Dp K H v d
  | .none, _, h => by cases h; exact .non
  | .bool b, _, h => by cases h; exact .bl b
  | .int i, _, h => by cases h; exact .int i
  | .str x, _, h => by cases h; exact .str x
  | .list ds, _, h => by
    cases h with
    | lst h1 h2 => exact .lst (.inl h1) (DqAll.dp h2)
  | .tuple ds, _, h => by
    cases h with
    | tup h1 h2 => exact .tup (.inl h1) (DqAll.dp h2)
  | .dict _, _, h => by cases h
theorem DqAll.dp {K : PySem.W.Frag} {H : Hp} : ∀ {ds : List PyData} {vs : List V}, DqAll K H vs ds → DpAll K H vs ds
  | [], _, h => by cases h; exact .nil
  | d :: ds, _, h => by
    cases h with
    | cons h1 h2 => exact .cons (Dq.dp h1) (DqAll.dp h2)
end
mutual
theorem Dq.mono {K : PySem.W.Frag} {H H' : Hp} (e : Same H H') : ∀ {d : PyData} {v : V}, Dq K H v d → Dq K H' v d
  | .none, _, h => by cases h; exact .non
  | .bool b, _, h => by cases h; exact .bl b
  | .int i, _, h => by cases h; exact .int i
  | .str x, _, h => by cases h; exact .str x
  | .list ds, _, h => by
    cases h with
    | lst h1 h2 => exact .lst (same_rd e h1) (DqAll.mono e h2)
  | .tuple ds, _, h => by
    cases h with
    | tup h1 h2 => exact .tup (same_rd e h1) (DqAll.mono e h2)
  | .dict _, _, h => by cases h
theorem DqAll.mono {K : PySem.W.Frag} {H H' : Hp} (e : Same H H') : ∀ {ds : List PyData} {vs : List V}, DqAll K H vs ds → DqAll K H' vs ds
  | [], _, h => by cases h; exact .nil
  | d :: ds, _, h => by
    cases h with
    | cons h1 h2 => exact .cons (Dq.mono e h1) (DqAll.mono e h2)
end
theorem DqAll.length {K : PySem.W.Frag} {H : Hp} : ∀ {ds : List PyData} {vs : List V}, DqAll K H vs ds → vs.length = ds.length
  | [], _, h => by cases h; rfl
  | d :: ds, _, h => by
    cases h with
    | cons h1 h2 => simp [DqAll.length h2]
theorem DqAll.get {K : PySem.W.Frag} {H : Hp} : ∀ {ds : List PyData} {vs : List V} {i : Nat} {d : PyData}, DqAll K H vs ds → ds[i]? = some d → ∃ v, vs[i]? = some v ∧ Dq K H v d
  | [], _, _, _, _, e => by simp at e
  | d0 :: ds, _, i, d, h, e => by
    cases h with
    | cons h1 h2 =>
      cases i with
      | zero =>
        simp at e
        subst e
        exact ⟨_, rfl, h1⟩
      | succ i =>
        obtain ⟨v, q1, q2⟩ := DqAll.get (i := i) h2 (by simpa using e)
        exact ⟨v, by simpa using q1, q2⟩
theorem DqAll.getV {K : PySem.W.Frag} {H : Hp} {ds : List PyData} {vs : List V} {i : Nat} {v : V} (h : DqAll K H vs ds) (e : vs[i]? = some v) : ∃ d, ds[i]? = some d ∧ Dq K H v d := by
  have hl := DqAll.length h
  have hi : i < ds.length := by
    have := (List.getElem?_eq_some_iff.mp e).1
    omega
  obtain ⟨w, q1, q2⟩ := DqAll.get h (List.getElem?_eq_getElem hi)
  rw [e] at q1
  cases q1
  exact ⟨_, List.getElem?_eq_getElem hi, q2⟩
theorem DqAll.append {K : PySem.W.Frag} {H : Hp} : ∀ {ds es : List PyData} {vs ws : List V}, DqAll K H vs ds → DqAll K H ws es → DqAll K H (vs ++ ws) (ds ++ es)
  | [], _, _, _, h, h' => by cases h; exact h'
  | d :: ds, _, _, _, h, h' => by
    cases h with
    | cons h1 h2 => exact .cons h1 (DqAll.append h2 h')
theorem DqAll.one {K : PySem.W.Frag} {H : Hp} {d : PyData} {v : V} (h : Dq K H v d) : DqAll K H [v] [d] := .cons h .nil
theorem DqAll.take {K : PySem.W.Frag} {H : Hp} : ∀ {ds : List PyData} {vs : List V} (n : Nat), DqAll K H vs ds → DqAll K H (vs.take n) (ds.take n)
  | _, _, 0, _ => by simp; exact .nil
  | [], _, _ + 1, h => by cases h; exact .nil
  | d :: ds, _, n + 1, h => by
    cases h with
    | cons h1 h2 => exact .cons h1 (DqAll.take n h2)
theorem DqAll.drop {K : PySem.W.Frag} {H : Hp} : ∀ {ds : List PyData} {vs : List V} (n : Nat), DqAll K H vs ds → DqAll K H (vs.drop n) (ds.drop n)
  | _, _, 0, h => h
  | [], _, _ + 1, h => by cases h; exact .nil
  | d :: ds, _, n + 1, h => by
    cases h with
    | cons h1 h2 => exact DqAll.drop n h2
theorem DqAll.set {K : PySem.W.Frag} {H : Hp} {d : PyData} {v : V} (hd : Dq K H v d) : ∀ {ds : List PyData} {vs : List V} (n : Nat), DqAll K H vs ds → DqAll K H (vs.set n v) (ds.set n d)
  | [], _, _, h => by cases h; exact .nil
  | e :: ds, _, 0, h => by
    cases h with
    | cons h1 h2 => exact .cons hd h2
  | e :: ds, _, n + 1, h => by
    cases h with
    | cons h1 h2 => exact .cons h1 (DqAll.set hd n h2)
theorem DqAll.ints {K : PySem.W.Frag} {H : Hp} : ∀ {ns : List Int} {vs : List V}, DqAll K H vs (ns.map PyData.int) → vs = ns.map V.int
  | [], _, h => by cases h; rfl
  | n :: ns, _, h => by
    cases h with
    | cons h1 h2 =>
      cases h1
      rw [DqAll.ints h2]
      rfl
theorem DqAll.ofInts {K : PySem.W.Frag} {H : Hp} : ∀ (ns : List Int), DqAll K H (ns.map V.int) (ns.map PyData.int)
  | [] => .nil
  | n :: ns => .cons (.int n) (DqAll.ofInts ns)
theorem DqAll.bools {K : PySem.W.Frag} {H : Hp} : ∀ {bs : List Bool} {vs : List V}, DqAll K H vs (bs.map PyData.bool) → vs = bs.map V.bl
  | [], _, h => by cases h; rfl
  | n :: ns, _, h => by
    cases h with
    | cons h1 h2 =>
      cases h1
      rw [DqAll.bools h2]
      rfl

mutual
/-- .. whose tuples are plainly known (they may be keys) -/
inductive Dz (K : PySem.W.Frag) (H : Hp) : V → PyData → Prop
  | non : Dz K H .non .none
  | bl (b : Bool) : Dz K H (.bl b) (.bool b)
  | int (i : Int) : Dz K H (.int i) (.int i)
  | str (x : Str) : Dz K H (.str x) (.str x)
  | lst {a : Addr} {xs : List V} {ds : List PyData} (h : Rd H a (.lst xs)) (r : DzAll K H xs ds) : Dz K H (.ref a) (.list ds)
  | tup {a : Addr} {xs : List V} {ds : List PyData} (h : H a = some (.tup xs)) (r : DzAll K H xs ds) : Dz K H (.ref a) (.tuple ds)
inductive DzAll (K : PySem.W.Frag) (H : Hp) : List V → List PyData → Prop
  | nil : DzAll K H [] []
  | cons {v : V} {vs : List V} {d : PyData} {ds : List PyData} (h : Dz K H v d) (r : DzAll K H vs ds) : DzAll K H (v :: vs) (d :: ds)
end
mutual
theorem Dz.dq {K : PySem.W.Frag} {H : Hp} : ∀ {d : PyData} {v : V}, Dz K H v d → Dq K H v d
  | .none, _, h => by cases h; exact .non
  | .bool b, _, h => by cases h; exact .bl b
  | .int i, _, h => by cases h; exact .int i
  | .str x, _, h => by cases h; exact .str x
  | .list ds, _, h => by
    cases h with
    | lst h1 h2 => exact .lst h1 (DzAll.dq h2)
  | .tuple ds, _, h => by
    cases h with
    | tup h1 h2 => exact .tup (Rd.of h1) (DzAll.dq h2)
  | .dict _, _, h => by cases h
theorem DzAll.dq {K : PySem.W.Frag} {H : Hp} : ∀ {ds : List PyData} {vs : List V}, DzAll K H vs ds → DqAll K H vs ds
  | [], _, h => by cases h; exact .nil
  | d :: ds, _, h => by
    cases h with
    | cons h1 h2 => exact .cons (Dz.dq h1) (DzAll.dq h2)
end
mutual
theorem Dz.mono {K : PySem.W.Frag} {H H' : Hp} (e : Same H H') : ∀ {d : PyData} {v : V}, Dz K H v d → Dz K H' v d
  | .none, _, h => by cases h; exact .non
  | .bool b, _, h => by cases h; exact .bl b
  | .int i, _, h => by cases h; exact .int i
  | .str x, _, h => by cases h; exact .str x
  | .list ds, _, h => by
    cases h with
    | lst h1 h2 => exact .lst (same_rd e h1) (DzAll.mono e h2)
  | .tuple ds, _, h => by
    cases h with
    | tup h1 h2 => exact .tup (e _ _ h1) (DzAll.mono e h2)
  | .dict _, _, h => by cases h
theorem DzAll.mono {K : PySem.W.Frag} {H H' : Hp} (e : Same H H') : ∀ {ds : List PyData} {vs : List V}, DzAll K H vs ds → DzAll K H' vs ds
  | [], _, h => by cases h; exact .nil
  | d :: ds, _, h => by
    cases h with
    | cons h1 h2 => exact .cons (Dz.mono e h1) (DzAll.mono e h2)
end
theorem DzAll.append {K : PySem.W.Frag} {H : Hp} : ∀ {ds es : List PyData} {vs ws : List V}, DzAll K H vs ds → DzAll K H ws es → DzAll K H (vs ++ ws) (ds ++ es)
  | [], _, _, _, h, h' => by cases h; exact h'
  | d :: ds, _, _, _, h, h' => by
    cases h with
    | cons h1 h2 => exact .cons h1 (DzAll.append h2 h')
theorem DzAll.get {K : PySem.W.Frag} {H : Hp} : ∀ {ds : List PyData} {vs : List V} {i : Nat} {d : PyData}, DzAll K H vs ds → ds[i]? = some d → ∃ v, vs[i]? = some v ∧ Dz K H v d
  | [], _, _, _, _, e => by simp at e
  | d0 :: ds, _, i, d, h, e => by
    cases h with
    | cons h1 h2 =>
      cases i with
      | zero =>
        simp at e
        subst e
        exact ⟨_, rfl, h1⟩
      | succ i =>
        obtain ⟨v, q1, q2⟩ := DzAll.get (i := i) h2 (by simpa using e)
        exact ⟨v, by simpa using q1, q2⟩

/-! ### dicts -/
def keyD : Key → D
  | .inl i => .int i
  | .inr x => .str x
def keyT (k : List Key) : D := .tuple (k.map keyD)
/-- a dict of this heap object -/
inductive DicR (K : PySem.W.Frag) (H : Hp) : List (D × D) → HO → Prop
  | k (ks : List Key) (vs : List V) (ds : List D) (h : DqAll K H vs ds) (hl : ks.length = vs.length) : DicR K H ((ks.map keyD).zip ds) (.dK (ks.zip vs))
  | t (ks : List (List Key)) (vs : List V) (ds : List D) (h : DqAll K H vs ds) (hl : ks.length = vs.length) : DicR K H ((ks.map keyT).zip ds) (.dT (ks.zip vs))
theorem DicR.mono {K : PySem.W.Frag} {H H' : Hp} (e : Same H H') {kvs : List (D × D)} {o : HO} (h : DicR K H kvs o) : DicR K H' kvs o := by
  cases h with
  | k ks vs ds h hl => exact .k ks vs ds (DqAll.mono e h) hl
  | t ks vs ds h hl => exact .t ks vs ds (DqAll.mono e h) hl
/-- the value v is the data d -/
def Rp (K : PySem.W.Frag) (H : Hp) (d : D) (v : V) : Prop :=
  match d with
  | .dict kvs => ∃ a o, v = .ref a ∧ H a = some o ∧ DicR K H kvs o
  | d => Dq K H v d
theorem Rp.of {K : PySem.W.Frag} {H : Hp} {d : D} {v : V} (h : Dq K H v d) : Rp K H d v := by
  cases d <;> first | exact h | cases h
def noDic : D → Bool
  | .dict _ => false
  | _ => true
theorem Rp.dq {K : PySem.W.Frag} {H : Hp} {d : D} {v : V} (h : Rp K H d v) (n : noDic d = true) : Dq K H v d := by
  cases d <;> first | exact h | cases n
theorem Rp.mono {K : PySem.W.Frag} {H H' : Hp} (e : Same H H') {d : D} {v : V} (h : Rp K H d v) : Rp K H' d v := by
  cases d with
  | dict kvs =>
    obtain ⟨a, o, h1, h2, h3⟩ := h
    exact ⟨a, o, h1, e _ _ h2, h3.mono e⟩
  | none => exact Dq.mono e h
  | bool b => exact Dq.mono e h
  | int b => exact Dq.mono e h
  | str b => exact Dq.mono e h
  | list b => exact Dq.mono e h
  | tuple b => exact Dq.mono e h
/-- a tuple that is known to the object, without a dict of its own (so its methods are the type's) -/
def NoDt (H : Hp) (v : V) : Prop := ∃ a o xs, v = .ref a ∧ H a = some (.frz o (.tup xs)) ∧ o.dict = none
theorem NoDt.mono {H H' : Hp} (e : Same H H') {v : V} (h : NoDt H v) : NoDt H' v :=
  let ⟨a, o, xs, h1, h2, h3⟩ := h
  ⟨a, o, xs, h1, e _ _ h2, h3⟩
/-- kinds of values: data, a dict, a tuple without a dict -/
inductive Kd where
  | dat | dic | dit | nd | pl
  deriving DecidableEq
def Res (K : PySem.W.Frag) (H : Hp) (k : Kd) (d : D) (v : V) : Prop :=
  match k with
  | .dat => Dq K H v d
  | .dic => ∃ a kvs l, v = .ref a ∧ d = .dict kvs ∧ H a = some (.dK l) ∧ DicR K H kvs (.dK l)
  | .dit => ∃ a kvs l, v = .ref a ∧ d = .dict kvs ∧ H a = some (.dT l) ∧ DicR K H kvs (.dT l)
  | .nd => Dq K H v d ∧ NoDt H v
  | .pl => Dz K H v d
theorem Res.mono {K : PySem.W.Frag} {H H' : Hp} (e : Same H H') {k : Kd} {d : D} {v : V} (h : Res K H k d v) : Res K H' k d v := by
  cases k with
  | dat => exact Dq.mono e h
  | dic =>
    obtain ⟨a, kvs, l, h1, h2, h3, h4⟩ := h
    exact ⟨a, kvs, l, h1, h2, e _ _ h3, h4.mono e⟩
  | dit =>
    obtain ⟨a, kvs, l, h1, h2, h3, h4⟩ := h
    exact ⟨a, kvs, l, h1, h2, e _ _ h3, h4.mono e⟩
  | nd => exact ⟨Dq.mono e h.1, h.2.mono e⟩
  | pl => exact Dz.mono e h
theorem Res.rp {K : PySem.W.Frag} {H : Hp} {k : Kd} {d : D} {v : V} (h : Res K H k d v) : Rp K H d v := by
  cases k with
  | dat => exact Rp.of h
  | dic =>
    obtain ⟨a, kvs, l, h1, h2, h3, h4⟩ := h
    rw [h2]
    exact ⟨a, _, h1, h3, h4⟩
  | dit =>
    obtain ⟨a, kvs, l, h1, h2, h3, h4⟩ := h
    rw [h2]
    exact ⟨a, _, h1, h3, h4⟩
  | nd => exact Rp.of h.1
  | pl => exact Rp.of (Dz.dq h)
/-- arguments by their kinds -/
def AllK (K : PySem.W.Frag) (H : Hp) : List Kd → List V → List D → Prop
  | [], [], [] => True
  | k :: ks, v :: vs, d :: ds => Res K H k d v ∧ AllK K H ks vs ds
  | _, _, _ => False
theorem AllK.mono {K : PySem.W.Frag} {H H' : Hp} (e : Same H H') : ∀ {ks : List Kd} {vs : List V} {ds : List D}, AllK K H ks vs ds → AllK K H' ks vs ds
  | [], [], [], _ => trivial
  | _ :: _, _ :: _, _ :: _, h => ⟨h.1.mono e, AllK.mono e h.2⟩
  | [], _ :: _, _, h => by cases h
  | [], [], _ :: _, h => by cases h
  | _ :: _, [], _, h => by cases h
  | _ :: _, _ :: _, [], h => by cases h
theorem AllK.len {K : PySem.W.Frag} {H : Hp} : ∀ {ks : List Kd} {vs : List V} {ds : List D}, AllK K H ks vs ds → vs.length = ks.length ∧ ds.length = ks.length
  | [], [], [], _ => ⟨rfl, rfl⟩
  | _ :: _, _ :: _, _ :: _, h => ⟨congrArg Nat.succ (AllK.len h.2).1, congrArg Nat.succ (AllK.len h.2).2⟩
  | [], _ :: _, _, h => by cases h
  | [], [], _ :: _, h => by cases h
  | _ :: _, [], _, h => by cases h
  | _ :: _, _ :: _, [], h => by cases h
/-- what an owned object is -/
inductive OwnR (K : PySem.W.Frag) (H : Hp) : D → HO → Prop
  | lst (ds : List D) (vs : List V) (h : DqAll K H vs ds) : OwnR K H (.list ds) (.lst vs)
  | dic (kvs : List (D × D)) (o : HO) (h : DicR K H kvs o) : OwnR K H (.dict kvs) o
/-- the kind of an object -/
def kO : HO → Kd
  | .dK _ => .dic
  | .dT _ => .dit
  | _ => .dat
theorem OwnR.mono {K : PySem.W.Frag} {H H' : Hp} (e : Same H H') {d : D} {o : HO} (h : OwnR K H d o) : OwnR K H' d o := by
  cases h with
  | lst ds vs h => exact .lst ds vs (DqAll.mono e h)
  | dic kvs o h => exact .dic kvs o (h.mono e)
theorem OwnR.rp {K : PySem.W.Frag} {H : Hp} {d : D} {o : HO} {a : Addr} (h : OwnR K H d o) (ha : H a = some o) : Rp K H d (.ref a) := by
  cases h with
  | lst ds vs h => exact Dq.lst (Rd.of ha) h
  | dic kvs o h => exact ⟨a, o, rfl, ha, h⟩

/-! ### the drawing machine -/
structure Wd where
  am : Addr
  cA : Addr
  gA : Addr
  ne : cA ≠ gA
def SameW (W : Option Wd) (H H' : Hp) : Prop := ∀ b o, (∀ w, W = some w → b ≠ w.am ∧ b ≠ w.gA) → H b = some o → H' b = some o
theorem SameW.refl (W : Option Wd) (H : Hp) : SameW W H H := fun _ _ _ h => h
theorem SameW.trans {W : Option Wd} {H H1 H2 : Hp} (a : SameW W H H1) (b : SameW W H1 H2) : SameW W H H2 := fun x o n h => b x o n (a x o n h)
theorem SameW.of {W : Option Wd} {H H' : Hp} (h : Same H H') : SameW W H H' := fun b o _ e => h b o e
theorem rd_upd {H : Hp} {a b : Addr} {u o : HO} (h : Rd H b u) (n : b ≠ a) : Rd (upd H a o) b u := by
  rcases h with h | ⟨x, h⟩
  · exact .inl (by rw [upd_ne n]; exact h)
  · exact .inr ⟨x, by rw [upd_ne n]; exact h⟩
def DrawOk (W : Option Wd) (H : Hp) (m : MS) : Prop := ∀ w, W = some w →
  H w.am = some (.dK [(.inr "cells", .ref w.cA), (.inr "great", .ref w.gA), (.inr "spot", .int m.2.2)]) ∧ Rd H w.cA (.lst (m.1.map V.int)) ∧ H w.gA = some (.lst (m.2.1.map V.int))
theorem DrawOk.same {W : Option Wd} {H H' : Hp} {m : MS} (h : DrawOk W H m) (s : Same H H') : DrawOk W H' m := fun w e =>
  let ⟨h1, h2, h3⟩ := h w e
  ⟨s _ _ h1, same_rd s h2, s _ _ h3⟩
def WIn (W : Option Wd) (Z : List Addr) : Prop := ∀ w, W = some w → w.am ∈ Z ∧ w.cA ∈ Z ∧ w.gA ∈ Z
theorem SameW.hide {W : Option Wd} {Z : List Addr} {H H' : Hp} (h : SameW W H H') (wz : WIn W Z) : Same (hide Z H) (hide Z H') := fun a o e => by
  obtain ⟨h1, h2⟩ := hide_some e
  rw [hide_ne h1]
  refine h a o (fun w q => ⟨fun z => h1 (z ▸ (wz w q).1), fun z => h1 (z ▸ (wz w q).2.2)⟩) h2
theorem same_new {H : Hp} {p : Addr} (h : H p = none) (o : HO) : Same H (upd H p o) := fun b u q => by
  rw [upd_ne (ne_of_none q h)]
  exact q
/-- what stood stands behind a new object, that one hidden or not -/
theorem hide_push {Z : List Addr} {H : Hp} {p : Addr} {o : HO} (h : H p = none) : Same (hide Z H) (hide (p :: Z) (upd H p o)) := fun b u q => by
  obtain ⟨h1, h2⟩ := hide_some q
  have n : b ≠ p := ne_of_none h2 h
  rw [hide_ne (by simp only [List.mem_cons, not_or]; exact ⟨n, h1⟩), upd_ne n]
  exact h2
theorem hide_push0 {Z : List Addr} {H : Hp} {p : Addr} {o : HO} (h : H p = none) : Same (hide Z H) (hide Z (upd H p o)) := fun b u q => by
  obtain ⟨h1, h2⟩ := hide_some q
  rw [hide_ne h1, upd_ne (ne_of_none h2 h)]
  exact h2
/-- a new object is seen -/
theorem hide_new {Z : List Addr} {H : Hp} {p : Addr} {o : HO} (hz : ∀ z ∈ Z, H z ≠ none) (h : H p = none) : VL.hide Z (upd H p o) p = some o := by
  rw [hide_ne fun q => hz p q h]
  exact upd_same

theorem OwnR.res {K : PySem.W.Frag} {H : Hp} {d : D} {o : HO} {a : Addr} (h : OwnR K H d o) (ha : H a = some o) : Res K H (kO o) d (.ref a) := by
  cases h with
  | lst ds vs h => exact Dq.lst (Rd.of ha) h
  | dic kvs o h =>
    cases h with
    | k ks vs ds h hl => exact ⟨a, _, _, rfl, rfl, ha, .k ks vs ds h hl⟩
    | t ks vs ds h hl => exact ⟨a, _, _, rfl, rfl, ha, .t ks vs ds h hl⟩
theorem nodup_inj {O : List (Nat × Addr)} (nd : (O.map (·.2)).Nodup) {p q : Nat × Addr} (hp : p ∈ O) (hq : q ∈ O) (e : p.2 = q.2) : p = q := by
  induction O with
  | nil => cases hp
  | cons x r ih =>
    rw [List.map_cons, List.nodup_cons] at nd
    rcases List.mem_cons.mp hp with hp | hp
    · rcases List.mem_cons.mp hq with hq | hq
      · exact hp.trans hq.symm
      · exact absurd (List.mem_map.mpr ⟨q, hq, by rw [← e, hp]⟩) nd.1
    · rcases List.mem_cons.mp hq with hq | hq
      · exact absurd (List.mem_map.mpr ⟨p, hp, by rw [e, hq]⟩) nd.1
      · exact ih nd.2 hp hq
theorem nodup_inj1 {O : List (Nat × Addr)} (nd : (O.map (·.1)).Nodup) {p q : Nat × Addr} (hp : p ∈ O) (hq : q ∈ O) (e : p.1 = q.1) : p = q := by
  induction O with
  | nil => cases hp
  | cons x r ih =>
    rw [List.map_cons, List.nodup_cons] at nd
    rcases List.mem_cons.mp hp with hp | hp
    · rcases List.mem_cons.mp hq with hq | hq
      · exact hp.trans hq.symm
      · exact absurd (List.mem_map.mpr ⟨q, hq, by rw [← e, hp]⟩) nd.1
    · rcases List.mem_cons.mp hq with hq | hq
      · exact absurd (List.mem_map.mpr ⟨p, hp, by rw [e, hq]⟩) nd.1
      · exact ih nd.2 hp hq
/-! ### the state -/
abbrev SE := List (Option D)
def ZO (Z : List Addr) (O : List (Nat × Addr)) : List Addr := Z ++ O.map (·.2)
structure EnvOk (K : PySem.W.Frag) (W : Option Wd) (ms : List Nat) (dk : Nat → Kd) (Z : List Addr) (H0 : Hp) (U : List Nat) (O : List (Nat × Addr)) (e : SE) (σ : St) (H : Hp) (m : MS) : Prop where
  len : e.length = σ.length
  us : ∀ i, i ∈ O.map (·.1) ↔ i ∈ U
  und : (O.map (·.1)).Nodup
  wz : WIn W Z
  zt0 : ∀ z ∈ Z, H z ≠ none
  w0 : ∀ w, W = some w → H0 w.am ≠ none ∧ H0 w.cA ≠ none ∧ H0 w.gA ≠ none
  dr : DrawOk W H m
  same : SameW W H0 H
  dm : ∀ w, W = some w → ∀ j ∈ ms, σ[j]? = some (some (.ref w.am))
  nds : (O.map (·.2)).Nodup
  nz : ∀ p ∈ O, p.2 ∉ Z
  own : ∀ p ∈ O, H0 p.2 = none ∧ ∃ d o, e[p.1]? = some (some d) ∧ σ[p.1]? = some (some (.ref p.2)) ∧ H p.2 = some o ∧ OwnR K (hide (ZO Z O) H) d o ∧ dk p.1 = kO o
  rep : ∀ i d, e[i]? = some (some d) → i ∉ U → ∃ v, σ[i]? = some (some v) ∧ Res K (hide (ZO Z O) H) (dk i) d v
section
variable {K : PySem.W.Frag} {W : Option Wd} {ms : List Nat} {dk : Nat → Kd} {Z : List Addr} {H0 H H' : Hp} {U : List Nat} {O : List (Nat × Addr)} {e : SE} {σ : St} {m m' : MS}
theorem EnvOk.wzo (h : EnvOk K W ms dk Z H0 U O e σ H m) : WIn W (ZO Z O) := fun w q =>
  let ⟨a, b, c⟩ := h.wz w q
  ⟨List.mem_append_left _ a, List.mem_append_left _ b, List.mem_append_left _ c⟩
/-- what is hidden is tracked -/
theorem EnvOk.zt (h : EnvOk K W ms dk Z H0 U O e σ H m) : ∀ z ∈ ZO Z O, H z ≠ none := fun z hz => by
  rcases List.mem_append.mp hz with q | q
  · exact h.zt0 z q
  · obtain ⟨p, hp, rfl⟩ := List.mem_map.mp q
    obtain ⟨_, d, o, _, _, ho, _, _⟩ := h.own p hp
    rw [ho]
    exact fun x => nomatch x
/-- an owned address is none of the machine's -/
theorem EnvOk.onw (h : EnvOk K W ms dk Z H0 U O e σ H m) {p : Nat × Addr} (hp : p ∈ O) : ∀ w, W = some w → p.2 ≠ w.am ∧ p.2 ≠ w.gA := fun w q => by
  have n := (h.own p hp).1
  obtain ⟨a, b, c⟩ := h.w0 w q
  exact ⟨fun r => a (r ▸ n), fun r => c (r ▸ n)⟩
/-- tracked things stay tracked -/
theorem there_step (s : SameW W H H') (d : DrawOk W H' m') {z : Addr} (n : H z ≠ none) : H' z ≠ none := by
  by_cases hw : ∀ w, W = some w → z ≠ w.am ∧ z ≠ w.gA
  · cases r : H z with
    | none => exact absurd r n
    | some o =>
      rw [s z o hw r]
      exact fun x => nomatch x
  · intro q
    refine hw fun w e => ⟨fun t => ?_, fun t => ?_⟩
    · rw [t, (d w e).1] at q
      cases q
    · rw [t, (d w e).2.2] at q
      cases q
/-- the heap grew, the machine may have turned -/
theorem EnvOk.step (h : EnvOk K W ms dk Z H0 U O e σ H m) (s : SameW W H H') (d : DrawOk W H' m') : EnvOk K W ms dk Z H0 U O e σ H' m' where
  len := h.len
  us := h.us
  und := h.und
  wz := h.wz
  zt0 := fun z hz => there_step s d (h.zt0 z hz)
  w0 := h.w0
  dr := d
  same := h.same.trans s
  dm := h.dm
  nds := h.nds
  nz := h.nz
  own := fun p hp => by
    obtain ⟨n, d, o, h1, h2, h3, h4, h5⟩ := h.own p hp
    exact ⟨n, d, o, h1, h2, s _ _ (h.onw hp) h3, h4.mono (s.hide h.wzo), h5⟩
  rep := fun i d h1 h2 => by
    obtain ⟨v, h3, h4⟩ := h.rep i d h1 h2
    exact ⟨v, h3, h4.mono (s.hide h.wzo)⟩
/-- what is new later was new before -/
theorem none_step (s : SameW W H H') (d : DrawOk W H' m') {p : Addr} (n : H' p = none) : H p = none := by
  cases r : H p with
  | none => rfl
  | some o => exact absurd n (there_step s d (by rw [r]; exact fun x => nomatch x))
theorem EnvOk.same_none (h : EnvOk K W ms dk Z H0 U O e σ H m) (s : SameW W H H') (d : DrawOk W H' m') {p : Addr} (n : H' p = none) : H p = none := none_step s d n
/-- the machine's addresses are tracked -/
theorem EnvOk.wt (h : EnvOk K W ms dk Z H0 U O e σ H m) {p : Addr} (n : H p = none) : ∀ w, W = some w → p ≠ w.am ∧ p ≠ w.gA := fun w q => by
  obtain ⟨d1, d2, d3⟩ := h.dr w q
  refine ⟨fun t => ?_, fun t => ?_⟩
  · rw [t, d1] at n
    cases n
  · rw [t, d3] at n
    cases n
theorem EnvOk.grow (h : EnvOk K W ms dk Z H0 U O e σ H m) (s : Same H H') : EnvOk K W ms dk Z H0 U O e σ H' m := h.step (.of s) (h.dr.same s)
/-- what stood is seen behind a new object that is hidden -/
theorem hide_temp {W : Option Wd} {Z : List Addr} {H H' : Hp} {a : Addr} (s : SameW W H H') (wz : WIn W Z) (n : H a = none) : Same (hide Z H) (hide (a :: Z) H') := fun b o q => by
  obtain ⟨h1, h2⟩ := hide_some q
  have nb : b ≠ a := ne_of_none h2 n
  have h3 := (hide_some (s.hide wz b o q)).2
  rw [hide_ne (by simp only [List.mem_cons, not_or]; exact ⟨nb, h1⟩)]
  exact h3
/-- a new object at a, hidden for a while -/
theorem EnvOk.temp (h : EnvOk K W ms dk Z H0 U O e σ H m) (s : SameW W H H') (d : DrawOk W H' m') {a : Addr} (n : H a = none) (t : H' a ≠ none) : EnvOk K W ms dk (a :: Z) H0 U O e σ H' m' where
  len := h.len
  us := h.us
  und := h.und
  wz := fun w q =>
    let ⟨a, b, c⟩ := h.wz w q
    ⟨List.mem_cons_of_mem _ a, List.mem_cons_of_mem _ b, List.mem_cons_of_mem _ c⟩
  zt0 := fun z hz => by
    rcases List.mem_cons.mp hz with rfl | hz
    · exact t
    · exact there_step s d (h.zt0 z hz)
  w0 := h.w0
  dr := d
  same := h.same.trans s
  dm := h.dm
  nds := h.nds
  nz := fun p hp q => by
    rcases List.mem_cons.mp q with q | q
    · obtain ⟨_, d, o, _, _, ho, _, _⟩ := h.own p hp
      rw [q, n] at ho
      cases ho
    · exact h.nz p hp q
  own := fun p hp => by
    obtain ⟨n', d, o, h1, h2, h3, h4, h5⟩ := h.own p hp
    exact ⟨n', d, o, h1, h2, s _ _ (h.onw hp) h3, h4.mono (hide_temp s h.wzo n), h5⟩
  rep := fun i d h1 h2 => by
    obtain ⟨v, h3, h4⟩ := h.rep i d h1 h2
    exact ⟨v, h3, h4.mono (hide_temp s h.wzo n)⟩
theorem EnvOk.ne_own (h : EnvOk K W ms dk Z H0 U O e σ H m) {i : Nat} (hi : i ∉ U) {p : Nat × Addr} (hp : p ∈ O) : i ≠ p.1 := fun t =>
  hi ((h.us i).mp (by rw [t]; exact List.mem_map.mpr ⟨p, hp, rfl⟩))
theorem EnvOk.own_ne (h : EnvOk K W ms dk Z H0 U O e σ H m) {p q : Nat × Addr} (hp : p ∈ O) (hq : q ∈ O) (n : p ≠ q) : p.1 ≠ q.1 ∧ p.2 ≠ q.2 :=
  ⟨fun t => n (nodup_inj1 h.und hp hq t), fun t => n (nodup_inj h.nds hp hq t)⟩
/-- a slot's value is new: not owned -/
theorem EnvOk.put (h : EnvOk K W ms dk Z H0 U O e σ H m) {i : Nat} {d : D} {v : V} (hi : i ∉ U) (hm : i ∉ ms) (hl : i < σ.length) (r : Res K (hide (ZO Z O) H) (dk i) d v) : EnvOk K W ms dk Z H0 U O (e.set i (some d)) (σ.set i (some v)) H m where
  len := by rw [List.length_set, List.length_set]; exact h.len
  us := h.us
  und := h.und
  wz := h.wz
  zt0 := h.zt0
  w0 := h.w0
  dr := h.dr
  same := h.same
  dm := fun w q j hj => by
    have : i ≠ j := fun t => hm (t ▸ hj)
    rw [List.getElem?_set_ne this]
    exact h.dm w q j hj
  nds := h.nds
  nz := h.nz
  own := fun p hp => by
    obtain ⟨n', d, o, h1, h2, h3, h4, h5⟩ := h.own p hp
    have ne : i ≠ p.1 := h.ne_own hi hp
    exact ⟨n', d, o, by rw [List.getElem?_set_ne ne]; exact h1, by rw [List.getElem?_set_ne ne]; exact h2, h3, h4, h5⟩
  rep := fun j d' h1 h2 => by
    by_cases q : i = j
    · subst q
      rw [List.getElem?_set_self (by rw [h.len]; exact hl)] at h1
      cases h1
      exact ⟨v, by rw [List.getElem?_set_self hl], r⟩
    · rw [List.getElem?_set_ne q] at h1 ⊢
      exact h.rep j d' h1 h2
theorem mem_filt {O : List (Nat × Addr)} {U1 : List Nat} {p : Nat × Addr} : p ∈ O.filter (fun p => U1.contains p.1) ↔ p ∈ O ∧ p.1 ∈ U1 := by
  rw [List.mem_filter]
  simp
/-- owned things are given free -/
theorem EnvOk.freeze (h : EnvOk K W ms dk Z H0 U O e σ H m) {U1 : List Nat} (hU : ∀ i ∈ U1, i ∈ U) : EnvOk K W ms dk Z H0 U1 (O.filter fun p => U1.contains p.1) e σ H m := by
  have sub : ∀ a ∈ ZO Z (O.filter fun p => U1.contains p.1), a ∈ ZO Z O := fun a ha => by
    rcases List.mem_append.mp ha with q | q
    · exact List.mem_append_left _ q
    · obtain ⟨p, hp, rfl⟩ := List.mem_map.mp q
      exact List.mem_append_right _ (List.mem_map.mpr ⟨p, (mem_filt.mp hp).1, rfl⟩)
  refine ⟨h.len, fun i => ⟨fun hi => ?_, fun hi => ?_⟩, ?_, h.wz, h.zt0, h.w0, h.dr, h.same, h.dm, ?_, fun p hp => h.nz p (mem_filt.mp hp).1, fun p hp => ?_, fun i d h1 h2 => ?_⟩
  · obtain ⟨p, hp, rfl⟩ := List.mem_map.mp hi
    exact (mem_filt.mp hp).2
  · obtain ⟨p, hp, rfl⟩ := List.mem_map.mp ((h.us i).mpr (hU i hi))
    exact List.mem_map.mpr ⟨p, mem_filt.mpr ⟨hp, hi⟩, rfl⟩
  · exact h.und.sublist (List.Sublist.map _ List.filter_sublist)
  · exact h.nds.sublist (List.Sublist.map _ List.filter_sublist)
  · obtain ⟨n', d, o, h1, h2, h3, h4, h5⟩ := h.own p (mem_filt.mp hp).1
    exact ⟨n', d, o, h1, h2, h3, h4.mono (hide_sub sub), h5⟩
  · by_cases hi : i ∈ U
    · obtain ⟨p, hp, rfl⟩ := List.mem_map.mp ((h.us i).mpr hi)
      obtain ⟨n', d', o, g1, g2, g3, g4, g5⟩ := h.own p hp
      rw [h1] at g1
      cases g1
      have na : p.2 ∉ ZO Z (O.filter fun p => U1.contains p.1) := fun z => by
        rcases List.mem_append.mp z with q | q
        · exact h.nz p hp q
        · obtain ⟨r, hr, e⟩ := List.mem_map.mp q
          obtain ⟨r1, r2⟩ := mem_filt.mp hr
          have : r = p := nodup_inj h.nds r1 hp e
          subst this
          exact h2 r2
      refine ⟨_, g2, ?_⟩
      rw [g5]
      exact OwnR.res (g4.mono (hide_sub sub)) (by rw [hide_ne na]; exact g3)
    · obtain ⟨v, g1, g2⟩ := h.rep i d h1 hi
      exact ⟨v, g1, g2.mono (hide_sub sub)⟩
/-- what is new was new at the start -/
theorem EnvOk.none0 (h : EnvOk K W ms dk Z H0 U O e σ H m) {p : Addr} (n : H p = none) : H0 p = none := by
  cases r : H0 p with
  | none => rfl
  | some o =>
    rw [h.same p o (fun w q => h.wt n w q) r] at n
    cases n
/-- a slot's value is new: a new object of its own -/
theorem EnvOk.putO (h : EnvOk K W ms dk Z H0 U O e σ H m) (s : SameW W H H') (d' : DrawOk W H' m') {i : Nat} {d : D} {a : Addr} {o : HO} (hi : i ∉ U) (hm : i ∉ ms) (hl : i < σ.length) (n : H a = none) (ho : H' a = some o) (r : OwnR K (hide (a :: ZO Z O) H') d o) (hk : dk i = kO o) :
    EnvOk K W ms dk Z H0 (i :: U) ((i, a) :: O) (e.set i (some d)) (σ.set i (some (.ref a))) H' m' := by
  have sub : ∀ b ∈ ZO Z ((i, a) :: O), b ∈ a :: ZO Z O := fun b hb => by
    rcases List.mem_append.mp hb with q | q
    · exact List.mem_cons_of_mem _ (List.mem_append_left _ q)
    · rcases List.mem_cons.mp q with q | q
      · exact List.mem_cons.mpr (.inl q)
      · exact List.mem_cons_of_mem _ (List.mem_append_right _ q)
  have st : Same (hide (ZO Z O) H) (hide (ZO Z ((i, a) :: O)) H') := Same.trans (hide_temp s h.wzo n) (hide_sub sub)
  refine ⟨by rw [List.length_set, List.length_set]; exact h.len, fun j => ?_, ?_, h.wz, fun z hz => there_step s d' (h.zt0 z hz), h.w0, d', h.same.trans s, fun w q j hj => ?_, ?_, fun p hp => ?_, fun p hp => ?_, fun j d1 h1 h2 => ?_⟩
  · rw [List.map_cons, List.mem_cons, List.mem_cons, h.us]
  · rw [List.map_cons, List.nodup_cons]
    exact ⟨fun q => hi ((h.us i).mp q), h.und⟩
  · have : i ≠ j := fun t => hm (t ▸ hj)
    rw [List.getElem?_set_ne this]
    exact h.dm w q j hj
  · rw [List.map_cons, List.nodup_cons]
    refine ⟨fun q => ?_, h.nds⟩
    exact h.zt a (List.mem_append_right _ q) n
  · rcases List.mem_cons.mp hp with rfl | hp
    · exact fun q => h.zt0 a q n
    · exact h.nz p hp
  · rcases List.mem_cons.mp hp with rfl | hp
    · exact ⟨h.none0 n, d, o, by rw [List.getElem?_set_self (by rw [h.len]; exact hl)], by rw [List.getElem?_set_self hl], ho, r.mono (hide_sub sub), hk⟩
    · obtain ⟨n', d1, o1, h1, h2, h3, h4, h5⟩ := h.own p hp
      have ne : i ≠ p.1 := h.ne_own hi hp
      exact ⟨n', d1, o1, by rw [List.getElem?_set_ne ne]; exact h1, by rw [List.getElem?_set_ne ne]; exact h2, s _ _ (h.onw hp) h3, h4.mono st, h5⟩
  · have ne : i ≠ j := fun t => h2 (by rw [t]; exact List.mem_cons_self)
    rw [List.getElem?_set_ne ne] at h1 ⊢
    obtain ⟨v, g1, g2⟩ := h.rep j d1 h1 fun q => h2 (List.mem_cons_of_mem _ q)
    exact ⟨v, g1, g2.mono st⟩
theorem same_updW {W : Option Wd} {H0 H : Hp} {a : Addr} {o : HO} (s : SameW W H0 H) (n : H0 a = none) : SameW W H0 (upd H a o) := fun b u hb q => by
  rw [upd_ne (ne_of_none q n)]
  exact s b u hb q
theorem hide_updZ {Z : List Addr} {H : Hp} {a : Addr} {o : HO} (ha : a ∈ Z) : hide Z (upd H a o) = hide Z H := by
  funext b
  by_cases q : b ∈ Z
  · rw [hide_in q, hide_in q]
  · rw [hide_ne q, hide_ne q, upd_ne fun t => q (by rw [t]; exact ha)]
theorem DrawOk.updN {W : Option Wd} {H : Hp} {m : MS} {a : Addr} {o : HO} (h : DrawOk W H m) (hn : ∀ w, W = some w → a ≠ w.am ∧ a ≠ w.cA ∧ a ≠ w.gA) : DrawOk W (upd H a o) m := fun w q => by
  obtain ⟨h1, h2, h3⟩ := h w q
  obtain ⟨n1, n2, n3⟩ := hn w q
  exact ⟨by rw [upd_ne n1.symm]; exact h1, rd_upd h2 n2.symm, by rw [upd_ne n3.symm]; exact h3⟩
/-- an address that is not among the start's is none of the machine's -/
theorem EnvOk.nw0 (h : EnvOk K W ms dk Z H0 U O e σ H m) {a : Addr} (n : H0 a = none) : ∀ w, W = some w → a ≠ w.am ∧ a ≠ w.cA ∧ a ≠ w.gA := fun w q => by
  obtain ⟨h1, h2, h3⟩ := h.w0 w q
  exact ⟨fun t => h1 (t ▸ n), fun t => h2 (t ▸ n), fun t => h3 (t ▸ n)⟩
/-- the owned thing is written -/
theorem EnvOk.write (h : EnvOk K W ms dk Z H0 U O e σ H m) {p : Nat × Addr} (hp : p ∈ O) {d' : D} {o' : HO} (r : OwnR K (hide (ZO Z O) H) d' o') (hk : dk p.1 = kO o') :
    EnvOk K W ms dk Z H0 U O (e.set p.1 (some d')) σ (upd H p.2 o') m := by
  have n0 := (h.own p hp).1
  have hin : p.2 ∈ ZO Z O := List.mem_append_right _ (List.mem_map.mpr ⟨p, hp, rfl⟩)
  have hh : hide (ZO Z O) (upd H p.2 o') = hide (ZO Z O) H := hide_updZ hin
  refine ⟨by rw [List.length_set]; exact h.len, h.us, h.und, h.wz, fun z hz => ?_, h.w0, h.dr.updN (h.nw0 n0), same_updW h.same n0, h.dm, h.nds, h.nz, fun q hq => ?_, fun j d1 h1 h2 => ?_⟩
  · by_cases t : z = p.2
    · rw [t, upd_same]
      exact fun x => nomatch x
    · rw [upd_ne t]
      exact h.zt0 z hz
  · rw [hh]
    by_cases t : q = p
    · subst t
      obtain ⟨n', d, o, h1, h2, h3, h4, h5⟩ := h.own q hq
      refine ⟨n', d', o', ?_, h2, upd_same, r, hk⟩
      rw [List.getElem?_set_self]
      exact (List.getElem?_eq_some_iff.mp h1).1
    · obtain ⟨n', d, o, h1, h2, h3, h4, h5⟩ := h.own q hq
      obtain ⟨t1, t2⟩ := h.own_ne hq hp t
      exact ⟨n', d, o, by rw [List.getElem?_set_ne t1.symm]; exact h1, h2, by rw [upd_ne t2]; exact h3, h4, h5⟩
  · rw [hh]
    have ne : p.1 ≠ j := (h.ne_own h2 hp).symm
    rw [List.getElem?_set_ne ne] at h1
    exact h.rep j d1 h1 h2
/-- the owned slot's object -/
theorem EnvOk.owned (h : EnvOk K W ms dk Z H0 U O e σ H m) {i : Nat} (hi : i ∈ U) {d : D} (he : e[i]? = some (some d)) : ∃ a o, (i, a) ∈ O ∧ σ[i]? = some (some (.ref a)) ∧ H a = some o ∧ OwnR K (hide (ZO Z O) H) d o ∧ dk i = kO o := by
  obtain ⟨p, hp, rfl⟩ := List.mem_map.mp ((h.us i).mpr hi)
  obtain ⟨n', d', o, h1, h2, h3, h4, h5⟩ := h.own p hp
  rw [he] at h1
  cases h1
  exact ⟨p.2, o, hp, h2, h3, h4, h5⟩
/-- the temporary object is written -/
theorem EnvOk.turn {a : Addr} (h : EnvOk K W ms dk (a :: Z) H0 U O e σ H m) (n : H0 a = none) {o : HO} : EnvOk K W ms dk (a :: Z) H0 U O e σ (upd H a o) m := by
  have hin : a ∈ ZO (a :: Z) O := List.mem_append_left _ List.mem_cons_self
  have hh : hide (ZO (a :: Z) O) (upd H a o) = hide (ZO (a :: Z) O) H := hide_updZ hin
  refine ⟨h.len, h.us, h.und, h.wz, fun z hz => ?_, h.w0, h.dr.updN (h.nw0 n), same_updW h.same n, h.dm, h.nds, h.nz, fun q hq => ?_, fun j d1 h1 h2 => ?_⟩
  · by_cases t : z = a
    · rw [t, upd_same]
      exact fun x => nomatch x
    · rw [upd_ne t]
      exact h.zt0 z hz
  · rw [hh]
    obtain ⟨n', d, o, h1, h2, h3, h4, h5⟩ := h.own q hq
    have t : q.2 ≠ a := fun t => h.nz q hq (by rw [t]; exact List.mem_cons_self)
    exact ⟨n', d, o, h1, h2, by rw [upd_ne t]; exact h3, h4, h5⟩
  · rw [hh]
    exact h.rep j d1 h1 h2
/-- the temporary object is given free -/
theorem EnvOk.untemp {a : Addr} (h : EnvOk K W ms dk (a :: Z) H0 U O e σ H m) (wz : WIn W Z) : EnvOk K W ms dk Z H0 U O e σ H m := by
  have sub : ∀ b ∈ ZO Z O, b ∈ ZO (a :: Z) O := fun b hb => List.mem_cons_of_mem _ hb
  refine ⟨h.len, h.us, h.und, wz, fun z hz => h.zt0 z (List.mem_cons_of_mem _ hz), h.w0, h.dr, h.same, h.dm, h.nds, fun q hq t => h.nz q hq (List.mem_cons_of_mem _ t), fun q hq => ?_, fun j d1 h1 h2 => ?_⟩
  · obtain ⟨n', d, o, h1, h2, h3, h4, h5⟩ := h.own q hq
    exact ⟨n', d, o, h1, h2, h3, h4.mono (hide_sub sub), h5⟩
  · obtain ⟨v, g1, g2⟩ := h.rep j d1 h1 h2
    exact ⟨v, g1, g2.mono (hide_sub sub)⟩
/-- the same state, seen from now on -/
theorem EnvOk.down (h : EnvOk K W ms dk Z H0 U O e σ H m) : EnvOk K W ms dk Z (hide (O.map (·.2)) H) U O e σ H m := by
  refine ⟨h.len, h.us, h.und, h.wz, h.zt0, fun w q => ?_, h.dr, fun b u _ q => (hide_some q).2, h.dm, h.nds, h.nz, fun p hp => ?_, h.rep⟩
  · obtain ⟨h1, h2, h3⟩ := h.wz w q
    refine ⟨?_, ?_, ?_⟩
    · rw [hide_ne fun t => ?_]
      · exact h.zt0 _ h1
      · obtain ⟨p, hp, e⟩ := List.mem_map.mp t
        exact h.nz p hp (e ▸ h1)
    · rw [hide_ne fun t => ?_]
      · exact h.zt0 _ h2
      · obtain ⟨p, hp, e⟩ := List.mem_map.mp t
        exact h.nz p hp (e ▸ h2)
    · rw [hide_ne fun t => ?_]
      · exact h.zt0 _ h3
      · obtain ⟨p, hp, e⟩ := List.mem_map.mp t
        exact h.nz p hp (e ▸ h3)
  · obtain ⟨n', d, o, h1, h2, h3, h4, h5⟩ := h.own p hp
    exact ⟨hide_in (List.mem_map.mpr ⟨p, hp, rfl⟩), d, o, h1, h2, h3, h4, h5⟩
/-- what was at the start stands there -/
theorem EnvOk.down_same (h : EnvOk K W ms dk Z H0 U O e σ H m) : SameW W H0 (hide (O.map (·.2)) H) := fun b u hb q => by
  rw [hide_ne fun t => ?_]
  · exact h.same b u hb q
  · obtain ⟨p, hp, e⟩ := List.mem_map.mp t
    rw [← e, (h.own p hp).1] at q
    cases q
/-- .. and back -/
theorem EnvOk.up {H1 : Hp} (h : EnvOk K W ms dk Z H1 U O e σ H m) (s : SameW W H0 H1) (w0 : ∀ w, W = some w → H0 w.am ≠ none ∧ H0 w.cA ≠ none ∧ H0 w.gA ≠ none) : EnvOk K W ms dk Z H0 U O e σ H m := by
  refine ⟨h.len, h.us, h.und, h.wz, h.zt0, w0, h.dr, s.trans h.same, h.dm, h.nds, h.nz, fun p hp => ?_, h.rep⟩
  obtain ⟨n', d, o, h1, h2, h3, h4, h5⟩ := h.own p hp
  refine ⟨?_, d, o, h1, h2, h3, h4, h5⟩
  cases r : H0 p.2 with
  | none => rfl
  | some u =>
    have nw := h.nw0 n'
    rw [s p.2 u (fun w q => ⟨(nw w q).1, (nw w q).2.2⟩) r] at n'
    cases n'
/-- what is seen at the start of a loop is seen in its turns -/
theorem EnvOk.seen {Z1 : List Addr} {H1 : Hp} {O1 : List (Nat × Addr)} (h : EnvOk K W ms dk Z (hide (O1.map (·.2)) H1) U O e σ H m) : Same (hide (ZO Z O1) H1) (hide (ZO Z O) H) := fun b u q => by
  obtain ⟨h1, h2⟩ := hide_some q
  have h3 : hide (O1.map (·.2)) H1 b = some u := by
    rw [hide_ne fun t => h1 (List.mem_append_right _ t)]
    exact h2
  have nz : b ∉ Z := fun t => h1 (List.mem_append_left _ t)
  rw [hide_ne fun t => ?_]
  · exact h.same b u (fun w e => ⟨fun t => nz (t ▸ (h.wz w e).1), fun t => nz (t ▸ (h.wz w e).2.2)⟩) h3
  · rcases List.mem_append.mp t with t | t
    · exact nz t
    · obtain ⟨p, hp, e⟩ := List.mem_map.mp t
      rw [← e, (h.own p hp).1] at h3
      cases h3
/-- slots forgotten -/
def wipeE (e : SE) : List Nat → SE
  | [] => e
  | v :: vs => (wipeE e vs).set v none
theorem wipeE_length (e : SE) : ∀ vs : List Nat, (wipeE e vs).length = e.length
  | [] => rfl
  | v :: vs => by unfold wipeE; rw [List.length_set, wipeE_length e vs]
theorem wipeE_out {e : SE} {i : Nat} : ∀ {vs : List Nat}, i ∉ vs → (wipeE e vs)[i]? = e[i]?
  | [], _ => rfl
  | v :: vs, h => by
    have h1 : v ≠ i := fun t => h (by rw [t]; exact List.mem_cons_self)
    have h2 : i ∉ vs := fun t => h (List.mem_cons_of_mem _ t)
    unfold wipeE
    rw [List.getElem?_set_ne h1]
    exact wipeE_out h2
theorem wipeE_some {e : SE} {i : Nat} {d : D} : ∀ {vs : List Nat}, (wipeE e vs)[i]? = some (some d) → e[i]? = some (some d) ∧ i ∉ vs
  | [], h => ⟨h, by simp⟩
  | v :: vs, h => by
    unfold wipeE at h
    by_cases hi : v = i
    · subst hi
      by_cases hv : v < (wipeE e vs).length
      · rw [List.getElem?_set_self hv] at h
        cases h
      · rw [List.getElem?_eq_none (by simpa using hv)] at h
        cases h
    · rw [List.getElem?_set_ne hi] at h
      obtain ⟨h1, h2⟩ := wipeE_some h
      exact ⟨h1, by simp only [List.mem_cons, not_or]; exact ⟨fun e => hi e.symm, h2⟩⟩
theorem wipeS_out {σ : St} {i : Nat} : ∀ {vs : List Nat}, i ∉ vs → (wipe σ vs)[i]? = σ[i]?
  | [], _ => rfl
  | v :: vs, h => by
    have h1 : v ≠ i := fun t => h (by rw [t]; exact List.mem_cons_self)
    have h2 : i ∉ vs := fun t => h (List.mem_cons_of_mem _ t)
    unfold wipe
    rw [List.getElem?_set_ne h1]
    exact wipeS_out h2
theorem EnvOk.wiped (h : EnvOk K W ms dk Z H0 U O e σ H m) {vs : List Nat} (hU : ∀ i ∈ vs, i ∉ U) (hm : ∀ i ∈ vs, i ∉ ms) : EnvOk K W ms dk Z H0 U O (wipeE e vs) (wipe σ vs) H m := by
  refine ⟨by rw [wipeE_length, wipe_length]; exact h.len, h.us, h.und, h.wz, h.zt0, h.w0, h.dr, h.same, fun w q j hj => ?_, h.nds, h.nz, fun p hp => ?_, fun j d h1 h2 => ?_⟩
  · rw [wipeS_out fun t => hm j t hj]
    exact h.dm w q j hj
  · obtain ⟨n', d, o, h1, h2, h3, h4, h5⟩ := h.own p hp
    have np : p.1 ∉ vs := fun t => hU _ t ((h.us _).mp (List.mem_map.mpr ⟨p, hp, rfl⟩))
    exact ⟨n', d, o, by rw [wipeE_out np]; exact h1, by rw [wipeS_out np]; exact h2, h3, h4, h5⟩
  · obtain ⟨h3, h4⟩ := wipeE_some h1
    rw [wipeS_out h4]
    exact h.rep j d h3 h2
end
end VL
/-! the judgements of the value layer: expressions, tests, argument lists -/
namespace VL
open PySem
open PySem.Spec
open L2

structure Ct where
  W : Option Wd
  ms : List Nat
  dk : Nat → Kd
  rd : Kd
  E : XK
/-- an exception of a class of the text with fields -/
def ExcRep (K : PySem.W.Frag) (mg : Str → Option Value) (H : Hp) (x : Exn) (C : Value) (od : Option Addr) : Prop :=
  ∃ Ca d vs, mg x.cls = some (.ref Ca) ∧ C = .ref Ca ∧ od = some d ∧ H d = some (.xd ((x.fs.map (·.1)).zip vs)) ∧ DqAll K H vs (x.fs.map (·.2))
def ExK (X : Cx) (c : Ct) (Zs : List Addr) (H : Hp) (x : Exn) (m' : MS) : Prop :=
  ∀ C od H', SameW c.W H H' → DrawOk c.W H' m' → ExcRep X.K X.mg (hide Zs H') x C od → c.E C od H'
theorem ExK.step {X : Cx} {c : Ct} {Zs : List Addr} {H H1 : Hp} {x : Exn} {m' : MS} (h : ExK X c Zs H x m') (s : SameW c.W H H1) : ExK X c Zs H1 x m' :=
  fun C od H' s' d r => h C od H' (s.trans s') d r
/-- what is borrowed: the top may be owned -/
def Br (K : PySem.W.Frag) (Zs : List Addr) (H : Hp) (d : D) (v : V) : Prop :=
  Rp K (hide Zs H) d v ∨ (∃ a o, v = .ref a ∧ H a = some o ∧ OwnR K (hide Zs H) d o) ∨ ∃ a xs ds, v = .ref a ∧ d = .tuple ds ∧ (∀ H, SqT K H a xs) ∧ ∀ H, DqAll K H xs ds
theorem Br.mono {K : PySem.W.Frag} {Zs : List Addr} {H H' : Hp} {d : D} {v : V} (h : Br K Zs H d v) (s : Same (hide Zs H) (hide Zs H')) (o : ∀ a o, v = .ref a → H a = some o → H' a = some o) : Br K Zs H' d v := by
  rcases h with h | ⟨a, q, h1, h2, h3⟩ | h
  · exact .inl (h.mono s)
  · exact .inr (.inl ⟨a, q, h1, o a q h1 h2, h3.mono s⟩)
  · exact .inr (.inr h)
/-- every value of a list is so -/
def All2 (R : V → D → Prop) : List V → List D → Prop
  | [], [] => True
  | v :: vs, d :: ds => R v d ∧ All2 R vs ds
  | _, _ => False
theorem All2.mono {R R' : V → D → Prop} (f : ∀ v d, R v d → R' v d) : ∀ {vs : List V} {ds : List D}, All2 R vs ds → All2 R' vs ds
  | [], [], _ => trivial
  | _ :: _, _ :: _, h => ⟨f _ _ h.1, All2.mono f h.2⟩
  | [], _ :: _, h => h.elim
  | _ :: _, [], h => h.elim

section
variable {X : Cx} {c : Ct} {U : List Nat}
/-- an expression: F, what it gives by the values of the names -/
def FR (X : Cx) (c : Ct) (U : List Nat) (k : Kd) (e : Expr) (F : SE → M D) : Prop :=
  ∃ t : TE, PE X e t ∧ ∀ Z H0 O en σ H m Q, EnvOk X.K c.W c.ms c.dk Z H0 U O en σ H m →
    Good (F en m) (fun d m' => ∀ v H', SameW c.W H H' → DrawOk c.W H' m' → Res X.K (hide (ZO Z O) H') k d v → Q v H') (fun x m' => ExK X c (ZO Z O) H x m') → t σ H Q
abbrev FE (X : Cx) (c : Ct) (U : List Nat) (e : Expr) (F : SE → M D) : Prop := FR X c U .dat e F
/-- .. that may give an owned thing, borrowed (the machine stands) -/
def FB (X : Cx) (c : Ct) (U : List Nat) (e : Expr) (F : SE → M D) : Prop :=
  ∃ t : TE, PE X e t ∧ ∀ Z H0 O en σ H m Q, EnvOk X.K c.W c.ms c.dk Z H0 U O en σ H m →
    Good (F en m) (fun d m' => ∀ v H', SameW c.W H H' → DrawOk c.W H' m' → (Br X.K (ZO Z O) H' d v ∧ ∀ H'', SameW c.W H' H'' → Br X.K (ZO Z O) H'' d v) → Q v H') (fun x m' => ExK X c (ZO Z O) H x m') → t σ H Q
/-- .. that makes a new thing -/
def FO (X : Cx) (c : Ct) (U : List Nat) (k : Kd) (e : Expr) (F : SE → M D) : Prop :=
  ∃ t : TE, PE X e t ∧ ∀ Z H0 O en σ H m Q, EnvOk X.K c.W c.ms c.dk Z H0 U O en σ H m →
    Good (F en m) (fun d m' => ∀ a o H', SameW c.W H H' → DrawOk c.W H' m' → H a = none → H' a = some o → OwnR X.K (hide (a :: ZO Z O) H') d o → kO o = k → Q (.ref a) H') (fun x m' => ExK X c (ZO Z O) H x m') → t σ H Q
/-- arguments -/
def FA (X : Cx) (c : Ct) (U : List Nat) (es : List Expr) (ks : List Kd) (F : SE → M (List D)) : Prop :=
  ∃ t : TA, PA X es t ∧ ∀ Z H0 O en σ H m Q, EnvOk X.K c.W c.ms c.dk Z H0 U O en σ H m →
    Good (F en m) (fun ds m' => ∀ vs H', SameW c.W H H' → DrawOk c.W H' m' → AllK X.K (hide (ZO Z O) H') ks vs ds → Q vs H') (fun x m' => ExK X c (ZO Z O) H x m') → t σ H Q
def FAb (X : Cx) (c : Ct) (U : List Nat) (es : List Expr) (F : SE → M (List D)) : Prop :=
  ∃ t : TA, PA X es t ∧ ∀ Z H0 O en σ H m Q, EnvOk X.K c.W c.ms c.dk Z H0 U O en σ H m →
    Good (F en m) (fun ds m' => ∀ vs H', SameW c.W H H' → DrawOk c.W H' m' → (∀ H'', SameW c.W H' H'' → All2 (fun v d => Br X.K (ZO Z O) H'' d v) vs ds) → Q vs H') (fun x m' => ExK X c (ZO Z O) H x m') → t σ H Q
/-- a test -/
def FT (X : Cx) (c : Ct) (U : List Nat) (e : Expr) (F : SE → M Bool) : Prop :=
  ∃ t : TT, PT X e t ∧ ∀ Z H0 O en σ H m Q, EnvOk X.K c.W c.ms c.dk Z H0 U O en σ H m →
    Good (F en m) (fun b m' => ∀ H', SameW c.W H H' → DrawOk c.W H' m' → Q b H') (fun x m' => ExK X c (ZO Z O) H x m') → t σ H Q
def FW (X : Cx) (c : Ct) (U : List Nat) (e : Expr) (F : SE → M Bool) : Prop :=
  ∃ t : TT, PW X e t ∧ ∀ Z H0 O en σ H m Q, EnvOk X.K c.W c.ms c.dk Z H0 U O en σ H m →
    Good (F en m) (fun b m' => ∀ H', SameW c.W H H' → DrawOk c.W H' m' → Q b H') (fun x m' => ExK X c (ZO Z O) H x m') → t σ H Q

/-! ### the functions that the readings are made of -/
def eVar (i : Nat) : SE → M D := fun en => match en[i]? with
  | some (some d) => pure d
  | _ => M.no
def eC (d : D) : SE → M D := fun _ => pure d
def e1 (g : D → Option D) (F : SE → M D) : SE → M D := fun en => do
  let a ← F en
  lft (g a)
def e2 (g : D → D → Option D) (F G : SE → M D) : SE → M D := fun en => do
  let a ← F en
  let b ← G en
  lft (g a b)
def aN : SE → M (List D) := fun _ => pure []
def aC (F : SE → M D) (G : SE → M (List D)) : SE → M (List D) := fun en => do
  let a ← F en
  let b ← G en
  pure (a :: b)
def eL (g : List D → Option D) (F : SE → M (List D)) : SE → M D := fun en => do
  let a ← F en
  lft (g a)
def eIf (T : SE → M Bool) (F G : SE → M D) : SE → M D := fun en => do
  let b ← T en
  if b = true then F en else G en
def tAnd2 (F G : SE → M Bool) : SE → M Bool := fun en => do
  let b ← F en
  if b = true then G en else pure false
def tOr2 (F G : SE → M Bool) : SE → M Bool := fun en => do
  let b ← F en
  if b = true then pure true else G en
def tNot1 (F : SE → M Bool) : SE → M Bool := fun en => do
  let b ← F en
  pure (!b)
def asB : D → Option Bool
  | .bool b => some b
  | _ => none
/-- the truth of a value -/
def truD : D → Option Bool
  | .none => some false
  | .bool b => some b
  | .int i => some (i != 0)
  | .list xs => some (!xs.isEmpty)
  | .tuple xs => some (!xs.isEmpty)
  | _ => none
def tV (g : D → Option Bool) (F : SE → M D) : SE → M Bool := fun en => do
  let a ← F en
  lft (g a)
def eB (F : SE → M Bool) : SE → M D := fun en => do
  let b ← F en
  pure (.bool b)

/-! ### from one to another -/
theorem eVar_good {i : Nat} {en : SE} {m : MS} {P : D → MS → Prop} {R : Exn → MS → Prop} (h : Good (eVar i en m) P R) : ∃ d, en[i]? = some (some d) ∧ P d m := by
  unfold eVar at h
  cases q : en[i]? with
  | none => rw [q] at h; exact h.elim
  | some o =>
    cases o with
    | none => rw [q] at h; exact h.elim
    | some d => rw [q] at h; exact ⟨d, rfl, h⟩
theorem fb {k : Kd} {e : Expr} {F : SE → M D} (h : FR X c U k e F) : FB X c U e F := by
  obtain ⟨t, p, r⟩ := h
  refine ⟨t, p, fun Z H0 O en σ H m Q hE hG => r Z H0 O en σ H m Q hE (hG.mono (fun d m' k v H' s1 d1 q => k v H' s1 d1 ⟨.inl q.rp, fun H'' s2 => .inl (q.rp.mono (s2.hide hE.wzo))⟩) fun _ _ k => k)⟩
theorem fr_of {k : Kd} {e : Expr} {F : SE → M D} (h : FO X c U k e F) : FR X c U k e F := by
  obtain ⟨t, p, r⟩ := h
  refine ⟨t, p, fun Z H0 O en σ H m Q hE hG => r Z H0 O en σ H m Q hE (hG.mono (fun d m' g a o H' s1 d1 n ha q hk => g _ H' s1 d1 ?_) fun _ _ k => k)⟩
  have na : a ∉ ZO Z O := fun z => hE.zt a z n
  rw [← hk]
  exact OwnR.res (q.mono (hide_sub fun b hb => List.mem_cons_of_mem _ hb)) (by rw [hide_ne na]; exact ha)
theorem fe_of {e : Expr} {F : SE → M D} (h : FO X c U .dat e F) : FE X c U e F := fr_of h
/-- a stronger kind is data too -/
def toDat (k : Kd) : Bool := match k with
  | .dat => true
  | .nd => true
  | .pl => true
  | _ => false
theorem fe_w {k : Kd} {e : Expr} {F : SE → M D} (h : FR X c U k e F) (hk : toDat k = true := by rfl) : FE X c U e F := by
  obtain ⟨t, p, r⟩ := h
  refine ⟨t, p, fun Z H0 O en σ H m Q hE hG => r Z H0 O en σ H m Q hE (hG.mono (fun d m' g v H' s1 d1 q => g v H' s1 d1 ?_) fun _ _ k => k)⟩
  cases k with
  | dat => exact q
  | dic => cases hk
  | dit => cases hk
  | nd => exact q.1
  | pl => exact Dz.dq q
theorem fr_var (k : Kd) (i : Nat) {x : Str} {pos : Pos} (hU : i ∉ U := by decide) (hk : c.dk i = k := by rfl) (hN : X.N[i]? = some x := by rfl) (hv : Vis X.env.scope x := by first | exact Or.inl rfl | exact Or.inr (Or.inl rfl) | exact Or.inr (Or.inr rfl)) (hd : (x == ("__debug__" : Str)) = false := by decide)
    (hcd : (x == ("__classdict__" : Str)) = false := by decide) : FR X c U k (.Name x pos) (eVar i) := by
  refine ⟨tVar i, pe_var hN hv hd hcd, fun Z H0 O en σ H m Q hE hG => ?_⟩
  obtain ⟨d, he, hG⟩ := eVar_good hG
  obtain ⟨v, h1, h2⟩ := hE.rep i d he hU
  rw [hk] at h2
  exact ⟨v, h1, hG v H (SameW.refl _ _) hE.dr h2⟩
theorem fe_var (i : Nat) {x : Str} {pos : Pos} (hU : i ∉ U := by decide) (hk : c.dk i = .dat := by rfl) (hN : X.N[i]? = some x := by rfl) (hv : Vis X.env.scope x := by first | exact Or.inl rfl | exact Or.inr (Or.inl rfl) | exact Or.inr (Or.inr rfl)) (hd : (x == ("__debug__" : Str)) = false := by decide)
    (hcd : (x == ("__classdict__" : Str)) = false := by decide) : FE X c U (.Name x pos) (eVar i) := fr_var .dat i hU hk hN hv hd hcd
theorem fb_own (i : Nat) {x : Str} {pos : Pos} (hU : i ∈ U := by decide) (hN : X.N[i]? = some x := by rfl) (hv : Vis X.env.scope x := by first | exact Or.inl rfl | exact Or.inr (Or.inl rfl) | exact Or.inr (Or.inr rfl)) (hd : (x == ("__debug__" : Str)) = false := by decide)
    (hcd : (x == ("__classdict__" : Str)) = false := by decide) : FB X c U (.Name x pos) (eVar i) := by
  refine ⟨tVar i, pe_var hN hv hd hcd, fun Z H0 O en σ H m Q hE hG => ?_⟩
  obtain ⟨d, he, kG⟩ := eVar_good hG
  have hi : i ∈ O.map (·.1) := (hE.us i).mpr hU
  obtain ⟨p, hp, hpi⟩ := List.mem_map.mp hi
  subst hpi
  obtain ⟨_, d', o, h1, h2, h3, h4, _⟩ := hE.own p hp
  rw [he] at h1
  cases h1
  exact ⟨_, h2, kG _ H (SameW.refl _ _) hE.dr ⟨.inr (.inl ⟨p.2, o, rfl, h3, h4⟩), fun H'' s => .inr (.inl ⟨p.2, o, rfl, s _ _ (hE.onw hp) h3, h4.mono (s.hide hE.wzo)⟩)⟩⟩
/-! ### constants -/
theorem fe_k {e : Expr} {v : V} {d : D} (h : PE X e (tC v)) (r : ∀ H, Dq X.K H v d) : FE X c U e (eC d) :=
  ⟨_, h, fun Z H0 O en σ H m Q hE hG => hG v H (SameW.refl _ _) hE.dr (r _)⟩
theorem fe_int {i : Int} {j pos} : FE X c U (.Constant (.int i) j pos) (eC (.int i)) := fe_k pe_int fun _ => .int i
theorem fe_bl {b : Bool} {j pos} : FE X c U (.Constant (.bool b) j pos) (eC (.bool b)) := fe_k pe_bl fun _ => .bl b
theorem fe_non {j pos} : FE X c U (.Constant .none j pos) (eC .none) := fe_k pe_non fun _ => .non
theorem fe_str {x : Str} {j pos} : FE X c U (.Constant (.str x) j pos) (eC (.str x)) := fe_k pe_str fun _ => .str x
/-- a number of the module's -/
theorem fe_gi {x : Str} {i : Int} {u : Value} {pos : Pos} (hm : X.mg x = some u) (hu : ∃ t, u = .int i t) (hg : Gl X x := by rfl) (hd : (x == ("__debug__" : Str)) = false := by decide) : FE X c U (.Name x pos) (eC (.int i)) :=
  fe_k (pe_glob (v := .int i) hg hm hu hd) fun _ => .int i
/-- a tuple of the module's -/
theorem fb_gt {x : Str} {a : Addr} {xs : List V} {ds : List D} {pos : Pos} (hm : X.mg x = some (.ref a)) (h1 : ∀ H, SqT X.K H a xs) (h2 : ∀ H, DqAll X.K H xs ds) (hg : Gl X x := by rfl) (hd : (x == ("__debug__" : Str)) = false := by decide) : FB X c U (.Name x pos) (eC (.tuple ds)) :=
  ⟨_, pe_glob (v := .ref a) hg hm rfl hd, fun Z H0 O en σ H m Q hE hG => hG _ H (SameW.refl _ _) hE.dr ⟨.inr (.inr ⟨a, xs, ds, rfl, rfl, h1, h2⟩), fun _ _ => .inr (.inr ⟨a, xs, ds, rfl, rfl, h1, h2⟩)⟩⟩

/-! ### operators -/
/-- what an operator of two values gives, by the data -/
def OpV (X : Cx) (f : Value → Value → Sem Value) (g : D → D → Option D) : Prop :=
  ∃ r : R2, OpR X f r ∧ ∀ (Zs : List Addr) (x y : V) (H : Hp) (a b d : D) (Q : VK), (∀ z ∈ Zs, H z ≠ none) → Br X.K Zs H a x → Br X.K Zs H b y → g a b = some d →
    (∀ v H', Same H H' → Dq X.K (hide Zs H') v d → Q v H') → r x y H Q
/-- both arms -/
theorem OpV.or {f : Value → Value → Sem Value} {g g' : D → D → Option D} (h : OpV X f g) (h' : OpV X f g') : OpV X f (fun a b => (g a b).or (g' a b)) := by
  obtain ⟨r, h1, h2⟩ := h
  obtain ⟨r', h1', h2'⟩ := h'
  refine ⟨_, h1.or h1', fun Zs x y H a b d Q hz ha hb hg k => ?_⟩
  cases e : g a b with
  | some d' =>
    have hg : (g a b).or (g' a b) = some d := hg
    rw [e] at hg
    cases hg
    exact .inl (h2 Zs x y H a b _ Q hz ha hb e k)
  | none =>
    have hg : (g a b).or (g' a b) = some d := hg
    rw [e] at hg
    exact .inr (h2' Zs x y H a b d Q hz ha hb hg k)
theorem fe_two {w : Expr} {ea eb : Expr} {F G : SE → M D} {g : D → D → Option D} {f : Value → Value → Sem Value} (ha : FB X c U ea F) (hb : FB X c U eb G) (ho : OpV X f g)
    (mk : ∀ (r : R2) (ta tb : TE), OpR X f r → PE X ea ta → PE X eb tb → PE X w (tOp r ta tb)) : FE X c U w (e2 g F G) := by
  obtain ⟨ta, pa, ra⟩ := ha
  obtain ⟨tb, pb, rb⟩ := hb
  obtain ⟨r, po, ro⟩ := ho
  refine ⟨_, mk r ta tb po pa pb, fun Z H0 O en σ H m Q hE hG => ?_⟩
  refine ra Z H0 O en σ H m _ hE (hG.bd.mono (fun a m1 k1 x H1 s1 d1 q1 => ?_) fun _ _ k => k)
  refine rb Z H0 O en σ H1 m1 _ (hE.step s1 d1) (k1.bd.mono (fun b m2 k2 y H2 s2 d2 q2 => ?_) fun _ _ k => k.step s1)
  obtain ⟨d, hg, k3⟩ := k2.lft
  exact ro _ x y H2 a b d Q (hE.step (s1.trans s2) d2).zt (q1.2 H2 s2) q2.1 hg fun v H3 s3 q3 => k3 v H3 ((s1.trans s2).trans (.of s3)) (d2.same s3) q3
/-- .. where both sides are tracked wholly -/
def OpS (X : Cx) (f : Value → Value → Sem Value) (g : D → D → Option D) : Prop :=
  ∃ r : R2, OpR X f r ∧ ∀ (Zs : List Addr) (x y : V) (H : Hp) (a b d : D) (Q : VK), (∀ z ∈ Zs, H z ≠ none) → Dq X.K (hide Zs H) x a → Dq X.K (hide Zs H) y b → g a b = some d →
    (∀ v H', Same H H' → Dq X.K (hide Zs H') v d → Q v H') → r x y H Q
theorem fe_binS {op : Operator} {ea eb : Expr} {pos : Pos} {F G : SE → M D} {g : D → D → Option D} (ho : OpS X (binaryOp op) g) (ha : FE X c U ea F) (hb : FE X c U eb G) : FE X c U (.BinOp ea op eb pos) (e2 g F G) := by
  obtain ⟨ta, pa, ra⟩ := ha
  obtain ⟨tb, pb, rb⟩ := hb
  obtain ⟨r, po, ro⟩ := ho
  refine ⟨_, pe_op po pa pb, fun Z H0 O en σ H m Q hE hG => ?_⟩
  refine ra Z H0 O en σ H m _ hE (hG.bd.mono (fun a m1 k1 x H1 s1 d1 q1 => ?_) fun _ _ k => k)
  refine rb Z H0 O en σ H1 m1 _ (hE.step s1 d1) (k1.bd.mono (fun b m2 k2 y H2 s2 d2 q2 => ?_) fun _ _ k => k.step s1)
  obtain ⟨d, hg, k3⟩ := k2.lft
  exact ro _ x y H2 a b d Q (hE.step (s1.trans s2) d2).zt (Dq.mono (s2.hide hE.wzo) q1) q2 hg fun v H3 s3 q3 => k3 v H3 ((s1.trans s2).trans (.of s3)) (d2.same s3) q3
theorem fe_bin {op : Operator} {ea eb : Expr} {pos : Pos} {F G : SE → M D} {g : D → D → Option D} (ho : OpV X (binaryOp op) g) (ha : FB X c U ea F) (hb : FB X c U eb G) : FE X c U (.BinOp ea op eb pos) (e2 g F G) :=
  fe_two ha hb ho fun _ _ _ o a b => pe_op o a b
theorem fe_cmp {op : CmpOp} {ea eb : Expr} {pos : Pos} {F G : SE → M D} {g : D → D → Option D} (ho : OpV X (compareOp op) g) (ha : FB X c U ea F) (hb : FB X c U eb G) (hm : behindInMarks op eb = false := by first | exact nomark _ | with_unfolding_all rfl) :
    FE X c U (.Compare ea [op] [eb] pos) (e2 g F G) := fe_two ha hb ho fun _ _ _ o a b => pe_cmpR o a b hm
/-- a comparison as a test -/
theorem ft_cmp {op : CmpOp} {ea eb : Expr} {pos : Pos} {F G : SE → M D} {g : D → D → Option D} (ho : OpV X (compareOp op) g) (ha : FB X c U ea F) (hb : FB X c U eb G) (hm : behindInMarks op eb = false := by first | exact nomark _ | with_unfolding_all rfl) :
    FT X c U (.Compare ea [op] [eb] pos) (tV asB (e2 g F G)) := by
  obtain ⟨ta, pa, ra⟩ := ha
  obtain ⟨tb, pb, rb⟩ := hb
  obtain ⟨r, po, ro⟩ := ho
  refine ⟨_, pt_cmpR po pa pb hm, fun Z H0 O en σ H m Q hE hG => ?_⟩
  refine ra Z H0 O en σ H m _ hE (hG.bd.bd.mono (fun a m1 k1 x H1 s1 d1 q1 => ?_) fun _ _ k => k)
  refine rb Z H0 O en σ H1 m1 _ (hE.step s1 d1) (k1.bd.mono (fun b m2 k2 y H2 s2 d2 q2 => ?_) fun _ _ k => k.step s1)
  obtain ⟨d, hg, k3⟩ := k2.lft
  obtain ⟨bo, hbo, k4⟩ := k3.lft
  refine ro _ x y H2 a b d _ (hE.step (s1.trans s2) d2).zt (q1.2 H2 s2) q2.1 hg fun v H3 s3 q3 => ?_
  have e : d = .bool bo := by
    cases d <;> first | cases hbo | skip
    rfl
  subst e
  cases (show Dq X.K _ v (.bool bo) from q3)
  exact ⟨bo, rfl, k4 H3 ((s1.trans s2).trans (.of s3)) (d2.same s3)⟩
/-- a < b < c -/
def e3c (g g' : D → D → Option D) (F G L : SE → M D) : SE → M Bool := fun en => do
  let a ← F en
  let b ← G en
  let k ← lft ((g a b).bind asB)
  if k = true then do
    let d ← L en
    lft ((g' b d).bind asB)
  else pure false
theorem asB_some {d : D} {b : Bool} (h : asB d = some b) : d = .bool b := by
  cases d <;> first | cases h | skip
  rfl
theorem ft_chain {op op' : CmpOp} {ea eb ec : Expr} {pos : Pos} {F G L : SE → M D} {g g' : D → D → Option D} (ho : OpV X (compareOp op) g) (ho' : OpV X (compareOp op') g') (ha : FB X c U ea F) (hb : FB X c U eb G) (hc : FB X c U ec L)
    (hm : lastMarks [op, op'] [eb, ec] = false := by with_unfolding_all rfl) : FT X c U (.Compare ea [op, op'] [eb, ec] pos) (e3c g g' F G L) := by
  obtain ⟨ta, pa, ra⟩ := ha
  obtain ⟨tb, pb, rb⟩ := hb
  obtain ⟨tc, pc, rc⟩ := hc
  obtain ⟨r, po, ro⟩ := ho
  obtain ⟨r', po', ro'⟩ := ho'
  refine ⟨_, pt_chain po po' pa pb pc hm, fun Z H0 O en σ H m Q hE hG => ?_⟩
  refine ra Z H0 O en σ H m _ hE (hG.bd.mono (fun a m1 k1 x H1 s1 d1 q1 => ?_) fun _ _ k => k)
  refine rb Z H0 O en σ H1 m1 _ (hE.step s1 d1) (k1.bd.mono (fun b m2 k2 y H2 s2 d2 q2 => ?_) fun _ _ k => k.step s1)
  obtain ⟨k, hk, k3⟩ := k2.bd.lft
  obtain ⟨d, hg, hd⟩ := Option.bind_eq_some_iff.mp hk
  obtain rfl := asB_some hd
  refine ro _ x y H2 a b _ _ (hE.step (s1.trans s2) d2).zt (q1.2 H2 s2) q2.1 hg fun v H3 s3 q3 => ?_
  cases (show Dq X.K _ v (.bool k) from q3)
  have d3 := d2.same s3
  have s13 : SameW c.W H H3 := (s1.trans s2).trans (.of s3)
  refine ⟨k, rfl, ?_⟩
  cases k with
  | false =>
    have k3 : Good ((pure false : M Bool) m2) _ _ := k3
    exact ⟨false, rfl, k3 H3 s13 d3⟩
  | true =>
    refine rc Z H0 O en σ H3 m2 _ (hE.step s13 d3) (Good.mono (Good.bd k3) (fun z m4 k4 w H4 s4 d4 q4 => ?_) fun _ _ k => ExK.step k s13)
    obtain ⟨bo, hbo, k5⟩ := k4.lft
    obtain ⟨d', hg', hd'⟩ := Option.bind_eq_some_iff.mp hbo
    obtain rfl := asB_some hd'
    refine ro' _ y w H4 b z _ _ (hE.step (s13.trans s4) d4).zt (q2.2 H4 ((SameW.of s3).trans s4)) q4.1 hg' fun v H5 s5 q5 => ?_
    cases (show Dq X.K _ v (.bool bo) from q5)
    exact ⟨bo, rfl, k5 H5 ((s13.trans s4).trans (.of s5)) (d4.same s5)⟩
end
end VL
/-! the value layer: operators, calls, displays, tests -/
namespace VL
open PySem
open PySem.Spec
open L2

section
variable {K : PySem.W.Frag} {Zs : List Addr} {H : Hp} {v : V}
theorem Br.flat {d : D} (h : Br K Zs H d v) (n : ∀ ds, d ≠ .list ds ∧ d ≠ .tuple ds) (nd : noDic d = true) : Dq K (hide Zs H) v d := by
  rcases h with h | ⟨a, o, _, _, h⟩ | ⟨a, xs, ds, _, e, _⟩
  · exact h.dq nd
  · cases h with
    | lst ds vs h => exact absurd rfl (n ds).1
    | dic kvs o h => cases nd
  · exact absurd e (n ds).2
theorem Br.int {i : Int} (h : Br K Zs H (.int i) v) : v = .int i := by
  cases h.flat (fun ds => ⟨(fun q => by cases q), (fun q => by cases q)⟩) rfl
  rfl
theorem Br.bl {i : Bool} (h : Br K Zs H (.bool i) v) : v = .bl i := by
  cases h.flat (fun ds => ⟨(fun q => by cases q), (fun q => by cases q)⟩) rfl
  rfl
theorem Br.str {i : Str} (h : Br K Zs H (.str i) v) : v = .str i := by
  cases h.flat (fun ds => ⟨(fun q => by cases q), (fun q => by cases q)⟩) rfl
  rfl
theorem Br.non (h : Br K Zs H .none v) : v = .non := by
  cases h.flat (fun ds => ⟨(fun q => by cases q), (fun q => by cases q)⟩) rfl
  rfl
theorem Br.tup {ds : List D} (h : Br K Zs H (.tuple ds) v) : ∃ a xs, v = .ref a ∧ SqT K H a xs ∧ DqAll K (hide Zs H) xs ds ∧ ∀ H', Same (hide Zs H) (hide Zs H') → SqT K H' a xs := by
  rcases h with h | ⟨a, o, _, _, h⟩ | ⟨a, xs, ds, e1, e2, h1, h2⟩
  · cases (show Dq K _ v (.tuple ds) from h) with
    | tup h1 h2 => exact ⟨_, _, rfl, (.inl (same_rd (hide_same _ _) h1)), h2, fun H' s => .inl (same_rd (hide_same _ _) (same_rd s h1))⟩
  · cases h
  · cases e2
    exact ⟨a, xs, e1, h1 _, h2 _, fun H' _ => h1 _⟩
theorem Br.lst {ds : List D} (h : Br K Zs H (.list ds) v) : ∃ a xs, v = .ref a ∧ SqL K H a xs ∧ DqAll K (hide Zs H) xs ds := by
  rcases h with h | ⟨a, o, e, h1, h⟩ | ⟨_, _, _, _, e2, _⟩
  · cases (show Dq K _ v (.list ds) from h) with
    | lst h1 h2 => exact ⟨_, _, rfl, .inl (same_rd (hide_same _ _) h1), h2⟩
  · cases h with
    | lst ds vs h => exact ⟨a, vs, e, SqL.of h1, h⟩
  · cases e2
/-- as data in the heap itself -/
theorem Br.dp {d : D} (h : Br K Zs H d v) (n : noDic d = true) : Dp K H v d := by
  rcases h with h | ⟨a, o, e, h1, h⟩ | ⟨a, xs, ds, e1, e2, h1, h2⟩
  · exact (Dq.mono (hide_same _ _) (h.dq n)).dp
  · cases h with
    | lst ds vs h =>
      subst e
      exact .lst (SqL.of h1) (DqAll.mono (hide_same _ _) h).dp
    | dic kvs o h => cases n
  · subst e1
    subst e2
    exact .tup (h1 _) (h2 _).dp
end
theorem noDic_of {d : D} (h : SeqAt.shaped d = true) : noDic d = true := by
  cases d <;> first | rfl | skip
  cases (SeqAt.canLay_of_shaped h)
/-- a new tuple, a new list -/
theorem new_tup {K : PySem.W.Frag} {Zs : List Addr} {H : Hp} {p : Addr} {xs : List V} {ds : List D} (hz : ∀ z ∈ Zs, H z ≠ none) (hp : H p = none) (h : DqAll K (hide Zs H) xs ds) : Dq K (hide Zs (upd H p (.tup xs))) (.ref p) (.tuple ds) :=
  .tup (Rd.of (hide_new hz hp)) (DqAll.mono (hide_push0 hp) h)
theorem new_lst {K : PySem.W.Frag} {Zs : List Addr} {H : Hp} {p : Addr} {xs : List V} {ds : List D} (hz : ∀ z ∈ Zs, H z ≠ none) (hp : H p = none) (h : DqAll K (hide Zs H) xs ds) : Dq K (hide Zs (upd H p (.lst xs))) (.ref p) (.list ds) :=
  .lst (Rd.of (hide_new hz hp)) (DqAll.mono (hide_push0 hp) h)
def lineN : Nat := 16000000
theorem lineN_le : lineN ≤ sizeLine := by rw [sizeLine_eq]; decide

/-! ### the operators' functions -/
def addD : D → D → Option D
  | .int i, .int j => some (.int (i + j))
  | .tuple xs, .tuple ys => if xs.length + ys.length ≤ lineN then some (.tuple (xs ++ ys)) else none
  | .str x, .str y => if x.length + y.length ≤ lineN then some (.str (x ++ y)) else none
  | _, _ => none
def catD : D → D → Option D
  | .list xs, .list ys => if xs.length + ys.length ≤ lineN then some (.list (xs ++ ys)) else none
  | _, _ => none
def subD : D → D → Option D
  | .int i, .int j => some (.int (i - j))
  | _, _ => none
def mulD : D → D → Option D
  | .int i, .int j => if (-(2 ^ 64) < i ∧ i < 2 ^ 64) ∨ (-(2 ^ 64) < j ∧ j < 2 ^ 64) then some (.int (i * j)) else none
  | _, _ => none
def mulWD : D → D → Option D
  | .int i, .int j => if i.natAbs.log2 + j.natAbs.log2 < 1000000 then some (.int (i * j)) else none
  | _, _ => none
def fdivD : D → D → Option D
  | .int i, .int j => if 0 < j ∧ j < 1073741824 then some (.int (i / j)) else none
  | _, _ => none
def fdivWD : D → D → Option D
  | .int i, .int j => if 0 < j ∧ j.natAbs.log2 < 9000 then some (.int (i / j)) else none
  | _, _ => none
def modD : D → D → Option D
  | .int i, .int j => if 0 < j then some (.int (i % j)) else none
  | _, _ => none
def powD : D → D → Option D
  | .int i, .int j => if 0 ≤ j ∧ j ≤ 1000000 ∧ i.natAbs < 2 ^ 64 then some (.int (i ^ j.toNat)) else none
  | _, _ => none
def negD : D → Option D
  | .int i => some (.int (-i))
  | _ => none
def cmpI (p : Int → Int → Bool) : D → D → Option D
  | .int i, .int j => some (.bool (p i j))
  | _, _ => none
def ltD := cmpI fun i j => decide (i < j)
def leD := cmpI fun i j => decide (i ≤ j)
def gtD := cmpI fun i j => decide (j < i)
def geD := cmpI fun i j => decide (j ≤ i)
def eqD (a b : D) : Option D := if (SeqAt.shaped a && SeqAt.shaped b) = true then some (.bool (PyData.eqv a b)) else none
def neD (a b : D) : Option D := if (SeqAt.shaped a && SeqAt.shaped b) = true then some (.bool (!PyData.eqv a b)) else none
def itemsD : D → Option (List D)
  | .list xs => some xs
  | .tuple xs => some xs
  | _ => none
def inD (a b : D) : Option D := (itemsD b).bind fun xs => if (SeqAt.shaped a && SeqAt.shaped b) = true then some (.bool (xs.any fun z => PyData.eqv z a)) else none
def notInD (a b : D) : Option D := (itemsD b).bind fun xs => if (SeqAt.shaped a && SeqAt.shaped b) = true then some (.bool (!xs.any fun z => PyData.eqv z a)) else none
def isNone : D → Bool
  | .none => true
  | _ => false
def isN (a b : D) : Option D := match b with
  | .none => some (.bool (isNone a))
  | _ => none
def isNN (a b : D) : Option D := match b with
  | .none => some (.bool (!isNone a))
  | _ => none
theorem Br.isNone {K : PySem.W.Frag} {Zs : List Addr} {H : Hp} {x : V} {a : D} (ha : Br K Zs H a x) : decide (x = .non) = VL.isNone a := by
  cases a with
  | none => rw [ha.non]; rfl
  | bool b => rw [ha.bl]; rfl
  | int b => rw [ha.int]; rfl
  | str b => rw [ha.str]; rfl
  | list b => obtain ⟨p, _, rfl, _⟩ := ha.lst; rfl
  | tuple b => obtain ⟨p, _, rfl, _⟩ := ha.tup; rfl
  | dict b =>
    rcases ha with ⟨p, _, rfl, _⟩ | ⟨p, _, rfl, _⟩ | ⟨p, _, _, rfl, _⟩ <;> rfl

section
variable {X : Cx}
/-- a rule of two ints -/
theorem opv_ints {f : Value → Value → Sem Value} {C : Int → Int → Prop} {g : Int → Int → V} {G : D → D → Option D} (h : OpR X f (rI C g))
    (hG : ∀ a b d, G a b = some d → ∃ i j, a = .int i ∧ b = .int j ∧ C i j ∧ ∀ H, Dq X.K H (g i j) d) : OpV X f G :=
  ⟨_, h, fun Zs x y H a b d Q hz ha hb hg k => by
    obtain ⟨i, j, rfl, rfl, hc, r⟩ := hG a b d hg
    exact ⟨i, j, ha.int, hb.int, hc, k _ _ (Same.refl _) (r _)⟩⟩
theorem opv_ints0 {f : Value → Value → Sem Value} {g : Int → Int → V} {G : D → D → Option D} (h : OpR X f (rI0 g))
    (hG : ∀ a b d, G a b = some d → ∃ i j, a = .int i ∧ b = .int j ∧ ∀ H, Dq X.K H (g i j) d) : OpV X f G :=
  ⟨_, h, fun Zs x y H a b d Q hz ha hb hg k => by
    obtain ⟨i, j, rfl, rfl, r⟩ := hG a b d hg
    exact ⟨i, j, ha.int, hb.int, k _ _ (Same.refl _) (r _)⟩⟩
theorem two_ints {C : Int → Int → Prop} [∀ i j, Decidable (C i j)] {g : Int → Int → D} {G : D → D → Option D} (hG : ∀ a b, G a b = match a, b with
    | .int i, .int j => if C i j then some (g i j) else none
    | _, _ => none) {a b d : D} (h : G a b = some d) : ∃ i j, a = .int i ∧ b = .int j ∧ C i j ∧ d = g i j := by
  rw [hG] at h
  cases a <;> cases b <;> first | cases h | skip
  rename_i i j
  have h : (if C i j then some (g i j) else none) = some d := h
  by_cases hc : C i j
  · rw [if_pos hc] at h
    cases h
    exact ⟨i, j, rfl, rfl, hc, rfl⟩
  · rw [if_neg hc] at h
    cases h
theorem ov_sub : OpV X (binaryOp .Sub) subD := opv_ints0 op_sub fun a b d h => by
  cases a <;> cases b <;> first | cases h | skip
  exact ⟨_, _, rfl, rfl, fun H => .int _⟩
theorem ov_mul : OpV X (binaryOp .Mult) mulD := opv_ints op_mul fun a b d h => by
  obtain ⟨i, j, e1, e2, hc, rfl⟩ := two_ints (G := mulD) (C := fun i j => (-(2 ^ 64) < i ∧ i < 2 ^ 64) ∨ (-(2 ^ 64) < j ∧ j < 2 ^ 64)) (g := fun i j => .int (i * j)) (fun a b => by cases a <;> cases b <;> rfl) h
  exact ⟨i, j, e1, e2, hc, fun H => .int _⟩
theorem ov_mulW : OpV X (binaryOp .Mult) mulWD := opv_ints op_mulW fun a b d h => by
  obtain ⟨i, j, e1, e2, hc, rfl⟩ := two_ints (G := mulWD) (C := fun i j => i.natAbs.log2 + j.natAbs.log2 < 1000000) (g := fun i j => .int (i * j)) (fun a b => by cases a <;> cases b <;> rfl) h
  exact ⟨i, j, e1, e2, hc, fun H => .int _⟩
theorem ov_fdiv : OpV X (binaryOp .FloorDiv) fdivD := opv_ints op_fdiv fun a b d h => by
  obtain ⟨i, j, e1, e2, hc, rfl⟩ := two_ints (G := fdivD) (C := fun i j => 0 < j ∧ j < 1073741824) (g := fun i j => .int (i / j)) (fun a b => by cases a <;> cases b <;> rfl) h
  exact ⟨i, j, e1, e2, hc, fun H => .int _⟩
theorem ov_fdivW : OpV X (binaryOp .FloorDiv) fdivWD := opv_ints op_fdivW fun a b d h => by
  obtain ⟨i, j, e1, e2, hc, rfl⟩ := two_ints (G := fdivWD) (C := fun i j => 0 < j ∧ j.natAbs.log2 < 9000) (g := fun i j => .int (i / j)) (fun a b => by cases a <;> cases b <;> rfl) h
  exact ⟨i, j, e1, e2, hc, fun H => .int _⟩
theorem ov_mod : OpV X (binaryOp .Mod) modD := opv_ints op_mod fun a b d h => by
  obtain ⟨i, j, e1, e2, hc, rfl⟩ := two_ints (G := modD) (C := fun i j => 0 < j) (g := fun i j => .int (i % j)) (fun a b => by cases a <;> cases b <;> rfl) h
  exact ⟨i, j, e1, e2, hc, fun H => .int _⟩
theorem ov_pow : OpV X (binaryOp .Pow) powD := opv_ints op_pow fun a b d h => by
  obtain ⟨i, j, e1, e2, hc, rfl⟩ := two_ints (G := powD) (C := fun i j => 0 ≤ j ∧ j ≤ 1000000 ∧ i.natAbs < 2 ^ 64) (g := fun i j => .int (i ^ j.toNat)) (fun a b => by cases a <;> cases b <;> rfl) h
  exact ⟨i, j, e1, e2, hc, fun H => .int _⟩
theorem ov_cmpI {f : Value → Value → Sem Value} {p : Int → Int → Bool} (h : OpR X f (rI0 fun i j => .bl (p i j))) : OpV X f (cmpI p) := opv_ints0 h fun a b d h => by
  cases a <;> cases b <;> first | cases h | skip
  exact ⟨_, _, rfl, rfl, fun H => .bl _⟩
theorem ov_lt : OpV X (compareOp .Lt) ltD := ov_cmpI op_lt
theorem ov_le : OpV X (compareOp .LtE) leD := ov_cmpI op_le
theorem ov_gt : OpV X (compareOp .Gt) gtD := ov_cmpI op_gt
theorem ov_ge : OpV X (compareOp .GtE) geD := ov_cmpI op_ge
theorem Dq.tupE {K : PySem.W.Frag} {H : Hp} {v : V} {ds : List D} (h : Dq K H v (.tuple ds)) : ∃ a xs, v = .ref a ∧ Rd H a (.tup xs) ∧ DqAll K H xs ds := by
  cases h with
  | tup h1 h2 => exact ⟨_, _, rfl, h1, h2⟩
theorem Dq.lstE {K : PySem.W.Frag} {H : Hp} {v : V} {ds : List D} (h : Dq K H v (.list ds)) : ∃ a xs, v = .ref a ∧ Rd H a (.lst xs) ∧ DqAll K H xs ds := by
  cases h with
  | lst h1 h2 => exact ⟨_, _, rfl, h1, h2⟩
/-- + of ints, tuples, texts -/
theorem ov_add : OpS X (binaryOp .Add) addD := by
  refine ⟨_, op_add.or (op_catA.or op_add_str), fun Zs x y H a b d Q hz ha hb hg k => ?_⟩
  cases a <;> cases b <;> first | cases hg | skip
  · rename_i i j
    cases ha
    cases hb
    exact .inl ⟨i, j, rfl, rfl, k _ _ (Same.refl _) (.int _)⟩
  · rename_i i j
    cases ha
    cases hb
    have hg : (if i.length + j.length ≤ lineN then some (PyData.str (i ++ j)) else none) = some d := hg
    by_cases hc : i.length + j.length ≤ lineN
    · rw [if_pos hc] at hg
      cases hg
      exact .inr (.inr ⟨i, j, rfl, rfl, Nat.le_trans hc lineN_le, k _ _ (Same.refl _) (.str _)⟩)
    · rw [if_neg hc] at hg
      cases hg
  · rename_i xs ys
    have hg : (if xs.length + ys.length ≤ lineN then some (PyData.tuple (xs ++ ys)) else none) = some d := hg
    by_cases hc : xs.length + ys.length ≤ lineN
    · rw [if_pos hc] at hg
      cases hg
      obtain ⟨p, us, rfl, p1, p3⟩ := Dq.tupE ha
      obtain ⟨q, ws, rfl, q1, q3⟩ := Dq.tupE hb
      refine .inr (.inl ⟨p, q, us, ws, rfl, rfl, .inl (same_rd (hide_same _ _) p1), .inl (same_rd (hide_same _ _) q1), by rw [DqAll.length p3, DqAll.length q3]; exact Nat.le_trans hc lineN_le, fun e => ?_, fun _ e => ?_, fun _ _ r hr => ?_⟩)
      · subst e
        cases p3
        exact k _ _ (Same.refl _) (.tup q1 q3)
      · subst e
        cases q3
        rw [List.append_nil] at k
        exact k _ _ (Same.refl _) (.tup p1 p3)
      · exact k _ _ (same_new hr _) (new_tup hz hr (DqAll.append p3 q3))
    · rw [if_neg hc] at hg
      cases hg
theorem ov_eq (hu : X.A.units + 64 < cLine) : OpV X (compareOp .Eq) eqD :=
  ⟨_, op_eqD hu, fun Zs x y H a b d Q hz ha hb hg k => by
    unfold eqD at hg
    by_cases hc : (SeqAt.shaped a && SeqAt.shaped b) = true
    · rw [if_pos hc] at hg
      cases hg
      obtain ⟨h1, h2⟩ := Bool.and_eq_true_iff.mp hc
      exact ⟨a, b, ha.dp (noDic_of h1), hb.dp (noDic_of h2), h1, h2, k _ _ (Same.refl _) (.bl _)⟩
    · rw [if_neg hc] at hg
      cases hg⟩
theorem ov_ne (hu : X.A.units + 64 < cLine) : OpV X (compareOp .NotEq) neD :=
  ⟨_, op_neD hu, fun Zs x y H a b d Q hz ha hb hg k => by
    unfold neD at hg
    by_cases hc : (SeqAt.shaped a && SeqAt.shaped b) = true
    · rw [if_pos hc] at hg
      cases hg
      obtain ⟨h1, h2⟩ := Bool.and_eq_true_iff.mp hc
      exact ⟨a, b, ha.dp (noDic_of h1), hb.dp (noDic_of h2), h1, h2, k _ _ (Same.refl _) (.bl _)⟩
    · rw [if_neg hc] at hg
      cases hg⟩
/-- in, over lists and tuples of data -/
def rInAny (K : PySem.W.Frag) (neg : Bool) : R2 := fun x y H Q => ∃ d e xs, Dp K H x d ∧ Dp K H y e ∧ itemsD e = some xs ∧ SeqAt.shaped d = true ∧ SeqAt.shaped e = true ∧
  Q (.bl (if neg = true then !xs.any fun z => PyData.eqv z d else xs.any fun z => PyData.eqv z d)) H
theorem ov_in0 (hu : X.A.units + 65 < cLine) : OpR X (compareOp .In) (rInAny X.K false) := by
  intro pins s σ H x y v u Q I rx ry h
  obtain ⟨d, e, xs, hd, he, hx, sd, se, q⟩ := h
  obtain ⟨as, r1⟩ := Dp.reads I d x v hd rx
  obtain ⟨bs, r2⟩ := Dp.reads I e y u he ry
  cases e <;> first | cases hx | skip
  · exact SeqAt.in_list_reads r2 r1 (SeqAt.canLay_of_shaped se) (SeqAt.canLay_of_shaped sd) (PyProof.Rows.room_in_shaped sd hu) ⟨.bl _, H, I, rfl, q⟩
  · exact SeqAt.in_tuple_reads r2 r1 (SeqAt.canLay_of_shaped se) (SeqAt.canLay_of_shaped sd) (PyProof.Rows.room_in_shaped sd hu) ⟨.bl _, H, I, rfl, q⟩
theorem ov_notIn0 (hu : X.A.units + 65 < cLine) : OpR X (compareOp .NotIn) (rInAny X.K true) := by
  intro pins s σ H x y v u Q I rx ry h
  obtain ⟨d, e, xs, hd, he, hx, sd, se, q⟩ := h
  obtain ⟨as, r1⟩ := Dp.reads I d x v hd rx
  obtain ⟨bs, r2⟩ := Dp.reads I e y u he ry
  cases e <;> first | cases hx | skip
  · exact SeqAt.notIn_list_reads r2 r1 (SeqAt.canLay_of_shaped se) (SeqAt.canLay_of_shaped sd) (PyProof.Rows.room_in_shaped sd hu) ⟨.bl _, H, I, rfl, q⟩
  · exact SeqAt.notIn_tuple_reads r2 r1 (SeqAt.canLay_of_shaped se) (SeqAt.canLay_of_shaped sd) (PyProof.Rows.room_in_shaped sd hu) ⟨.bl _, H, I, rfl, q⟩
theorem ov_in (hu : X.A.units + 65 < cLine) : OpV X (compareOp .In) inD :=
  ⟨_, ov_in0 hu, fun Zs x y H a b d Q hz ha hb hg k => by
    obtain ⟨xs, hx, hg⟩ := Option.bind_eq_some_iff.mp hg
    by_cases hc : (SeqAt.shaped a && SeqAt.shaped b) = true
    · rw [if_pos hc] at hg
      cases hg
      obtain ⟨h1, h2⟩ := Bool.and_eq_true_iff.mp hc
      exact ⟨a, b, xs, ha.dp (noDic_of h1), hb.dp (noDic_of h2), hx, h1, h2, k _ _ (Same.refl _) (.bl _)⟩
    · rw [if_neg hc] at hg
      cases hg⟩
theorem ov_notIn (hu : X.A.units + 65 < cLine) : OpV X (compareOp .NotIn) notInD :=
  ⟨_, ov_notIn0 hu, fun Zs x y H a b d Q hz ha hb hg k => by
    obtain ⟨xs, hx, hg⟩ := Option.bind_eq_some_iff.mp hg
    by_cases hc : (SeqAt.shaped a && SeqAt.shaped b) = true
    · rw [if_pos hc] at hg
      cases hg
      obtain ⟨h1, h2⟩ := Bool.and_eq_true_iff.mp hc
      exact ⟨a, b, xs, ha.dp (noDic_of h1), hb.dp (noDic_of h2), hx, h1, h2, k _ _ (Same.refl _) (.bl _)⟩
    · rw [if_neg hc] at hg
      cases hg⟩
end
end VL
/-! the value layer: arguments, built-ins, displays, tests, subscripts -/
namespace VL
open PySem
open PySem.Spec
open L2

section
variable {X : Cx} {c : Ct} {U : List Nat}
/-! ### arguments -/
theorem fa_nil : FA X c U [] [] aN := ⟨tNil, pa_nil, fun Z H0 O en σ H m Q hE hG => hG [] H (SameW.refl _ _) hE.dr trivial⟩
theorem fa_cons {k : Kd} {ks : List Kd} {e : Expr} {es : List Expr} {F : SE → M D} {G : SE → M (List D)} (h : FR X c U k e F) (r : FA X c U es ks G) (hs : starEach (e :: es) X.env = (false, eval e X.env) :: starEach es X.env := by rfl) : FA X c U (e :: es) (k :: ks) (aC F G) := by
  obtain ⟨ta, pa, ra⟩ := h
  obtain ⟨tb, pb, rb⟩ := r
  refine ⟨_, pa_cons pa pb hs, fun Z H0 O en σ H m Q hE hG => ?_⟩
  refine ra Z H0 O en σ H m _ hE (hG.bd.mono (fun a m1 k1 x H1 s1 d1 q1 => ?_) fun _ _ k => k)
  refine rb Z H0 O en σ H1 m1 _ (hE.step s1 d1) (k1.bd.mono (fun b m2 k2 y H2 s2 d2 q2 => ?_) fun _ _ k => k.step s1)
  exact k2 (x :: y) H2 (s1.trans s2) d2 ⟨q1.mono (s2.hide hE.wzo), q2⟩
theorem fab_nil : FAb X c U [] aN := ⟨tNil, pa_nil, fun Z H0 O en σ H m Q hE hG => hG [] H (SameW.refl _ _) hE.dr fun _ _ => trivial⟩
theorem fab_cons {e : Expr} {es : List Expr} {F : SE → M D} {G : SE → M (List D)} (h : FB X c U e F) (r : FAb X c U es G) (hs : starEach (e :: es) X.env = (false, eval e X.env) :: starEach es X.env := by rfl) : FAb X c U (e :: es) (aC F G) := by
  obtain ⟨ta, pa, ra⟩ := h
  obtain ⟨tb, pb, rb⟩ := r
  refine ⟨_, pa_cons pa pb hs, fun Z H0 O en σ H m Q hE hG => ?_⟩
  refine ra Z H0 O en σ H m _ hE (hG.bd.mono (fun a m1 k1 x H1 s1 d1 q1 => ?_) fun _ _ k => k)
  refine rb Z H0 O en σ H1 m1 _ (hE.step s1 d1) (k1.bd.mono (fun b m2 k2 y H2 s2 d2 q2 => ?_) fun _ _ k => k.step s1)
  exact k2 (x :: y) H2 (s1.trans s2) d2 fun H'' s3 => ⟨q1.2 H'' (s2.trans s3), q2 H'' s3⟩
theorem AllK.all {K : PySem.W.Frag} {H : Hp} : ∀ {n : Nat} {vs : List V} {ds : List D}, AllK K H (List.replicate n Kd.dat) vs ds → DqAll K H vs ds
  | 0, [], [], _ => .nil
  | n + 1, _ :: _, _ :: _, h => .cons h.1 (AllK.all (n := n) h.2)
  | 0, _ :: _, _, h => by cases h
  | 0, [], _ :: _, h => by cases h
  | n + 1, [], _, h => by cases h
  | n + 1, _ :: _, [], h => by cases h

/-! ### displays -/
def mkT (ds : List D) : Option D := if ds.length ≤ lineN then some (.tuple ds) else none
def mkL (ds : List D) : Option D := if ds.length ≤ lineN then some (.list ds) else none
theorem fe_tup {n : Nat} {ks : List Kd} {es : List Expr} {F : SE → M (List D)} {x1 pos} (h : FA X c U es ks F) (hk : ks = List.replicate n Kd.dat := by rfl) : FE X c U (.Tuple es x1 pos) (eL mkT F) := by
  obtain ⟨t, p, r⟩ := h
  subst hk
  refine ⟨_, pe_tup p, fun Z H0 O en σ H m Q hE hG => ?_⟩
  refine r Z H0 O en σ H m _ hE (hG.bd.mono (fun ds m1 k1 xs H1 s1 d1 q1 => ?_) fun _ _ k => k)
  obtain ⟨d, hd, k2⟩ := k1.lft
  have q := AllK.all q1
  unfold mkT at hd
  by_cases hc : ds.length ≤ lineN
  · rw [if_pos hc] at hd
    cases hd
    refine ⟨by rw [DqAll.length q]; exact Nat.le_trans hc lineN_le, fun p hp => ?_⟩
    exact k2 _ _ (s1.trans (.of (same_new hp _))) (d1.same (same_new hp _)) (new_tup (hE.step s1 d1).zt hp q)
  · rw [if_neg hc] at hd
    cases hd
theorem fo_lst {n : Nat} {ks : List Kd} {es : List Expr} {F : SE → M (List D)} {pos} (h : FA X c U es ks F) (hk : ks = List.replicate n Kd.dat := by rfl) : FO X c U .dat (.List es pos) (eL mkL F) := by
  obtain ⟨t, p, r⟩ := h
  subst hk
  refine ⟨_, pe_lst p, fun Z H0 O en σ H m Q hE hG => ?_⟩
  refine r Z H0 O en σ H m _ hE (hG.bd.mono (fun ds m1 k1 xs H1 s1 d1 q1 => ?_) fun _ _ k => k)
  obtain ⟨d, hd, k2⟩ := k1.lft
  have q := AllK.all q1
  unfold mkL at hd
  by_cases hc : ds.length ≤ lineN
  · rw [if_pos hc] at hd
    cases hd
    refine ⟨by rw [DqAll.length q]; exact Nat.le_trans hc lineN_le, fun p hp => ?_⟩
    refine k2 p _ _ (s1.trans (.of (same_new hp _))) (d1.same (same_new hp _)) (hE.same_none s1 d1 hp) upd_same (.lst ds xs (DqAll.mono (hide_push hp) q)) rfl
  · rw [if_neg hc] at hd
    cases hd
/-- {} -/
theorem fo_dicK {pos} : FO X c U .dic (.Dict [] [] pos) (eC (.dict [])) :=
  ⟨_, pe_dnewK, fun Z H0 O en σ H m Q hE hG p hp => hG p _ _ (.of (same_new hp _)) (hE.dr.same (same_new hp _)) hp upd_same (.dic [] _ (.k [] [] [] .nil rfl)) rfl⟩
theorem fo_dicT {pos} : FO X c U .dit (.Dict [] [] pos) (eC (.dict [])) :=
  ⟨_, pe_dnewT, fun Z H0 O en σ H m Q hE hG p hp => hG p _ _ (.of (same_new hp _)) (hE.dr.same (same_new hp _)) hp upd_same (.dic [] _ (.t [] [] [] .nil rfl)) rfl⟩

/-! ### built-ins -/
/-- what a call gives, by the data -/
def CallV (X : Cx) (f : Value) (g : List D → Option D) : Prop :=
  ∃ r : List V → Hp → VK → Prop, CallR X f r ∧ ∀ (Zs : List Addr) (vs : List V) (H : Hp) (ds : List D) (d : D) (Q : VK), (∀ z ∈ Zs, H z ≠ none) → All2 (fun v d => Br X.K Zs H d v) vs ds → g ds = some d →
    (∀ v H', Same H H' → Dq X.K (hide Zs H') v d → Q v H') → r vs H Q
/-- .. a new thing -/
def CallO (X : Cx) (k : Kd) (f : Value) (g : List D → Option D) : Prop :=
  ∃ r : List V → Hp → VK → Prop, CallR X f r ∧ ∀ (Zs : List Addr) (vs : List V) (H : Hp) (ds : List D) (d : D) (Q : VK), (∀ z ∈ Zs, H z ≠ none) → All2 (fun v d => Br X.K Zs H d v) vs ds → g ds = some d →
    (∀ a o H', Same H H' → H a = none → H' a = some o → OwnR X.K (hide (a :: Zs) H') d o → kO o = k → Q (.ref a) H') → r vs H Q
theorem fe_callB {x : Str} {id : String} {p pos : Pos} {e : Expr} {es : List Expr} {F : SE → M (List D)} {g : List D → Option D} (hc : CallV X (.builtin id) g) (hm : X.mg x = none) (ha : FAb X c U (e :: es) F) (hg : Gl X x := by rfl) (hv : bootBuiltins x = some (.builtin id) := by decide +kernel) (hn : x ≠ "__name__" := by decide) (hdb : (x == ("__debug__" : Str)) = false := by decide)
    (he : starEach (e :: es) X.env = (false, eval e X.env) :: starEach es X.env := by rfl) (hpl : (backTo pos (starEach es X.env)).any (·.1) = false := by rfl) : FE X c U (.Call (.Name x p) (e :: es) [] pos) (eL g F) := by
  obtain ⟨t, pa, r⟩ := ha
  obtain ⟨rc, pc, rr⟩ := hc
  refine ⟨_, pe_callB pc hg hm hv pa hn hdb he hpl, fun Z H0 O en σ H m Q hE hG => ?_⟩
  refine r Z H0 O en σ H m _ hE (hG.bd.mono (fun ds m1 k1 xs H1 s1 d1 q1 => ?_) fun _ _ k => k)
  obtain ⟨d, hd, k2⟩ := k1.lft
  exact rr _ xs H1 ds d Q (hE.step s1 d1).zt (q1 H1 (SameW.refl _ _)) hd fun v H2 s2 q2 => k2 v H2 (s1.trans (.of s2)) (d1.same s2) q2
theorem fe_callTy {x : Str} {T : String} {p pos : Pos} {e : Expr} {es : List Expr} {F : SE → M (List D)} {g : List D → Option D} (hc : CallV X (.type T) g) (hm : X.mg x = none) (ha : FAb X c U (e :: es) F) (hg : Gl X x := by rfl) (hv : bootBuiltins x = some (.type T) := by decide +kernel) (hn : x ≠ "__name__" := by decide) (hdb : (x == ("__debug__" : Str)) = false := by decide)
    (he : starEach (e :: es) X.env = (false, eval e X.env) :: starEach es X.env := by rfl) (hpl : (backTo pos (starEach es X.env)).any (·.1) = false := by rfl) : FE X c U (.Call (.Name x p) (e :: es) [] pos) (eL g F) := by
  obtain ⟨t, pa, r⟩ := ha
  obtain ⟨rc, pc, rr⟩ := hc
  refine ⟨_, pe_callTy pc hg hm hv pa hn hdb he hpl, fun Z H0 O en σ H m Q hE hG => ?_⟩
  refine r Z H0 O en σ H m _ hE (hG.bd.mono (fun ds m1 k1 xs H1 s1 d1 q1 => ?_) fun _ _ k => k)
  obtain ⟨d, hd, k2⟩ := k1.lft
  exact rr _ xs H1 ds d Q (hE.step s1 d1).zt (q1 H1 (SameW.refl _ _)) hd fun v H2 s2 q2 => k2 v H2 (s1.trans (.of s2)) (d1.same s2) q2
theorem fo_callB {k : Kd} {x : Str} {id : String} {p pos : Pos} {e : Expr} {es : List Expr} {F : SE → M (List D)} {g : List D → Option D} (hc : CallO X k (.builtin id) g) (hm : X.mg x = none) (ha : FAb X c U (e :: es) F) (hg : Gl X x := by rfl) (hv : bootBuiltins x = some (.builtin id) := by decide +kernel) (hn : x ≠ "__name__" := by decide) (hdb : (x == ("__debug__" : Str)) = false := by decide)
    (he : starEach (e :: es) X.env = (false, eval e X.env) :: starEach es X.env := by rfl) (hpl : (backTo pos (starEach es X.env)).any (·.1) = false := by rfl) : FO X c U k (.Call (.Name x p) (e :: es) [] pos) (eL g F) := by
  obtain ⟨t, pa, r⟩ := ha
  obtain ⟨rc, pc, rr⟩ := hc
  refine ⟨_, pe_callB pc hg hm hv pa hn hdb he hpl, fun Z H0 O en σ H m Q hE hG => ?_⟩
  refine r Z H0 O en σ H m _ hE (hG.bd.mono (fun ds m1 k1 xs H1 s1 d1 q1 => ?_) fun _ _ k => k)
  obtain ⟨d, hd, k2⟩ := k1.lft
  exact rr _ xs H1 ds d Q (hE.step s1 d1).zt (q1 H1 (SameW.refl _ _)) hd fun a o H2 s2 n ha q2 hk => k2 a o H2 (s1.trans (.of s2)) (d1.same s2) (hE.same_none s1 d1 n) ha q2 hk
theorem fo_callTy {k : Kd} {x : Str} {T : String} {p pos : Pos} {e : Expr} {es : List Expr} {F : SE → M (List D)} {g : List D → Option D} (hc : CallO X k (.type T) g) (hm : X.mg x = none) (ha : FAb X c U (e :: es) F) (hg : Gl X x := by rfl) (hv : bootBuiltins x = some (.type T) := by decide +kernel) (hn : x ≠ "__name__" := by decide) (hdb : (x == ("__debug__" : Str)) = false := by decide)
    (he : starEach (e :: es) X.env = (false, eval e X.env) :: starEach es X.env := by rfl) (hpl : (backTo pos (starEach es X.env)).any (·.1) = false := by rfl) : FO X c U k (.Call (.Name x p) (e :: es) [] pos) (eL g F) := by
  obtain ⟨t, pa, r⟩ := ha
  obtain ⟨rc, pc, rr⟩ := hc
  refine ⟨_, pe_callTy pc hg hm hv pa hn hdb he hpl, fun Z H0 O en σ H m Q hE hG => ?_⟩
  refine r Z H0 O en σ H m _ hE (hG.bd.mono (fun ds m1 k1 xs H1 s1 d1 q1 => ?_) fun _ _ k => k)
  obtain ⟨d, hd, k2⟩ := k1.lft
  exact rr _ xs H1 ds d Q (hE.step s1 d1).zt (q1 H1 (SameW.refl _ _)) hd fun a o H2 s2 n ha q2 hk => k2 a o H2 (s1.trans (.of s2)) (d1.same s2) (hE.same_none s1 d1 n) ha q2 hk

theorem all2_1 {R : V → D → Prop} {vs : List V} {d : D} (h : All2 R vs [d]) : ∃ v, vs = [v] ∧ R v d := by
  cases vs with
  | nil => exact h.elim
  | cons v r =>
    cases r with
    | nil => exact ⟨v, rfl, h.1⟩
    | cons w r => exact h.2.elim
theorem all2_2 {R : V → D → Prop} {vs : List V} {d e : D} (h : All2 R vs [d, e]) : ∃ v w, vs = [v, w] ∧ R v d ∧ R w e := by
  cases vs with
  | nil => exact h.elim
  | cons v r =>
    obtain ⟨w, rfl, q⟩ := all2_1 h.2
    exact ⟨v, w, rfl, h.1, q⟩
/-- of one thing -/
def one1 (g : D → Option D) : List D → Option D
  | [d] => g d
  | _ => none
def two2 (g : D → D → Option D) : List D → Option D
  | [d, e] => g d e
  | _ => none
theorem one1_some {g : D → Option D} {ds : List D} {d : D} (h : one1 g ds = some d) : ∃ a, ds = [a] ∧ g a = some d := by
  cases ds with
  | nil => cases h
  | cons a r =>
    cases r with
    | nil => exact ⟨a, rfl, h⟩
    | cons _ _ => cases h
theorem two2_some {g : D → D → Option D} {ds : List D} {d : D} (h : two2 g ds = some d) : ∃ a b, ds = [a, b] ∧ g a b = some d := by
  cases ds with
  | nil => cases h
  | cons a r =>
    cases r with
    | nil => cases h
    | cons b r =>
      cases r with
      | nil => exact ⟨a, b, rfl, h⟩
      | cons _ _ => cases h
/-- a call of one value -/
theorem cv1 {f : Value} {r : List V → Hp → VK → Prop} {g : D → Option D} (h : CallR X f r) (k : ∀ (Zs : List Addr) (v : V) (H : Hp) (a d : D) (Q : VK), (∀ z ∈ Zs, H z ≠ none) → Br X.K Zs H a v → g a = some d → (∀ v H', Same H H' → Dq X.K (hide Zs H') v d → Q v H') → r [v] H Q) : CallV X f (one1 g) :=
  ⟨r, h, fun Zs vs H ds d Q hz ha hg q => by
    obtain ⟨a, rfl, hg⟩ := one1_some hg
    obtain ⟨v, rfl, hv⟩ := all2_1 ha
    exact k Zs v H a d Q hz hv hg q⟩
theorem co1 {k : Kd} {f : Value} {r : List V → Hp → VK → Prop} {g : D → Option D} (h : CallR X f r) (kk : ∀ (Zs : List Addr) (v : V) (H : Hp) (a d : D) (Q : VK), (∀ z ∈ Zs, H z ≠ none) → Br X.K Zs H a v → g a = some d →
    (∀ a o H', Same H H' → H a = none → H' a = some o → OwnR X.K (hide (a :: Zs) H') d o → kO o = k → Q (.ref a) H') → r [v] H Q) : CallO X k f (one1 g) :=
  ⟨r, h, fun Zs vs H ds d Q hz ha hg q => by
    obtain ⟨a, rfl, hg⟩ := one1_some hg
    obtain ⟨v, rfl, hv⟩ := all2_1 ha
    exact kk Zs v H a d Q hz hv hg q⟩
def lenD : D → Option D
  | .list xs => some (.int xs.length)
  | .tuple xs => some (.int xs.length)
  | .str x => if x.length ≤ lineN then some (.int x.length) else none
  | _ => none
theorem cv_len : CallV X (.builtin "len") (one1 lenD) :=
  cv1 (call_len_seq.or call_len_str) fun Zs v H a d Q hz hv hg k => by
    cases a <;> first | cases hg | skip
    · rename_i x
      have hg : (if x.length ≤ lineN then some (PyData.int x.length) else none) = some d := hg
      by_cases hc : x.length ≤ lineN
      · rw [if_pos hc] at hg
        cases hg
        obtain rfl := hv.str
        exact .inr ⟨x, rfl, Nat.le_trans hc lineN_le, k _ _ (Same.refl _) (.int _)⟩
      · rw [if_neg hc] at hg
        cases hg
    · obtain ⟨p, xs, rfl, h1, h2⟩ := hv.lst
      exact .inl ⟨p, xs, rfl, .inl h1, by rw [DqAll.length h2]; exact k _ _ (Same.refl _) (.int _)⟩
    · obtain ⟨p, xs, rfl, h1, h2, _⟩ := hv.tup
      exact .inl ⟨p, xs, rfl, .inr h1, by rw [DqAll.length h2]; exact k _ _ (Same.refl _) (.int _)⟩
/-- ints -/
def intsD : List D → Option (List Int)
  | [] => some []
  | .int i :: r => (intsD r).map (i :: ·)
  | _ => none
theorem intsD_some : ∀ {ds : List D} {ns : List Int}, intsD ds = some ns → ds = ns.map PyData.int
  | [], _, h => by cases h; rfl
  | .int i :: r, ns, h => by
    have h : (intsD r).map (i :: ·) = some ns := h
    obtain ⟨q, h1, rfl⟩ := Option.map_eq_some_iff.mp h
    rw [intsD_some h1]
    rfl
  | .none :: _, _, h => by cases h
  | .bool _ :: _, _, h => by cases h
  | .str _ :: _, _, h => by cases h
  | .list _ :: _, _, h => by cases h
  | .tuple _ :: _, _, h => by cases h
  | .dict _ :: _, _, h => by cases h
theorem intsD_ints : ∀ (ns : List Int), intsD (ns.map PyData.int) = some ns
  | [] => rfl
  | i :: r => by
    show (intsD (r.map PyData.int)).map (i :: ·) = some (i :: r)
    rw [intsD_ints r]
    rfl
def boolsD : List D → Option (List Bool)
  | [] => some []
  | .bool i :: r => (boolsD r).map (i :: ·)
  | _ => none
theorem boolsD_some : ∀ {ds : List D} {ns : List Bool}, boolsD ds = some ns → ds = ns.map PyData.bool
  | [], _, h => by cases h; rfl
  | .bool i :: r, ns, h => by
    have h : (boolsD r).map (i :: ·) = some ns := h
    obtain ⟨q, h1, rfl⟩ := Option.map_eq_some_iff.mp h
    rw [boolsD_some h1]
    rfl
  | .none :: _, _, h => by cases h
  | .int _ :: _, _, h => by cases h
  | .str _ :: _, _, h => by cases h
  | .list _ :: _, _, h => by cases h
  | .tuple _ :: _, _, h => by cases h
  | .dict _ :: _, _, h => by cases h
theorem boolsD_bools : ∀ (ns : List Bool), boolsD (ns.map PyData.bool) = some ns
  | [] => rfl
  | i :: r => by
    show (boolsD (r.map PyData.bool)).map (i :: ·) = some (i :: r)
    rw [boolsD_bools r]
    rfl
def maxI : List Int → Int
  | [] => 0
  | n :: ns => ns.foldl max n
def minI : List Int → Int
  | [] => 0
  | n :: ns => ns.foldl min n
theorem maxI_of {l : List Int} {m : Int} (hm : m ∈ l) (h : ∀ a, a ∈ l → a ≤ m) : m = maxI l := by
  have fold : ∀ (r : List Int) (a : Int), (r.foldl max a = a ∨ r.foldl max a ∈ r) ∧ a ≤ r.foldl max a ∧ ∀ x ∈ r, x ≤ r.foldl max a := by
    intro r
    induction r with
    | nil => intro a; simp
    | cons x r ih =>
      intro a
      obtain ⟨h1, h2, h3⟩ := ih (max a x)
      rw [List.foldl_cons]
      refine ⟨?_, by omega, ?_⟩
      · rcases h1 with h1 | h1
        · rw [h1]
          by_cases q : a ≤ x
          · right; rw [Int.max_eq_right q]; exact List.mem_cons_self
          · left; exact Int.max_eq_left (by omega)
        · right; exact List.mem_cons_of_mem _ h1
      · intro y hy
        rcases List.mem_cons.mp hy with rfl | hy
        · omega
        · exact h3 y hy
  cases l with
  | nil => cases hm
  | cons n ns =>
    obtain ⟨h1, h2, h3⟩ := fold ns n
    have a1 : maxI (n :: ns) ≤ m := by
      show ns.foldl max n ≤ m
      rcases h1 with h1 | h1
      · rw [h1]; exact h n List.mem_cons_self
      · exact h _ (List.mem_cons_of_mem _ h1)
    have a2 : m ≤ maxI (n :: ns) := by
      show m ≤ ns.foldl max n
      rcases List.mem_cons.mp hm with rfl | hm
      · exact h2
      · exact h3 m hm
    omega
/-- the data are of one kind -/
def alikeB (xs : List D) : Bool := (xs.all fun x => xs.all fun y => PySem.W.alike x y) && xs.all fun x => match x with
  | .none => false
  | _ => true
theorem alikeB_all {xs : List D} (h : alikeB xs = true) : PySem.W.AlikeAll xs := by
  obtain ⟨h1, h2⟩ := Bool.and_eq_true_iff.mp h
  refine ⟨fun x hx y hy => List.all_eq_true.mp (List.all_eq_true.mp h1 x hx) y hy, fun x hx q => ?_⟩
  subst q
  exact absurd (List.all_eq_true.mp h2 _ hx) (by simp)
/-- the greatest, the least: (the list or tuple is not empty, its items are alike) -/
def maxV (a : D) : Option D := (itemsD a).bind fun xs => match xs with
  | [] => none
  | x :: r => if (alikeB (x :: r) && SeqAt.shaped a) = true then some (PySem.W.maxD x r) else none
def minV (a : D) : Option D := (itemsD a).bind fun xs => match xs with
  | [] => none
  | x :: r => if (alikeB (x :: r) && SeqAt.shaped a) = true then some (PySem.W.minD x r) else none
theorem dataLt_int2 (n x : Int) : PySem.W.dataLt (.int n) (.int x) = decide (n < x) := by
  have h := PySem.W.not_lt_int n x
  have e := congrFun (congrFun (PySem.W.dataLe_int (β := Int) id) x) n
  have e' : (!PySem.W.dataLt (.int n) (.int x)) = decide (x ≤ n) := e
  by_cases q : n < x
  · rw [decide_eq_true q]
    rw [decide_eq_false (by omega)] at e'
    simpa using e'
  · rw [decide_eq_false q]
    rw [decide_eq_true (by omega)] at e'
    simpa using e'
theorem alike_ints (ns : List Int) : PySem.W.AlikeAll (ns.map PyData.int) := by
  refine ⟨fun x hx y hy => ?_, fun x hx => ?_⟩
  · obtain ⟨i, _, rfl⟩ := List.mem_map.mp hx
    obtain ⟨j, _, rfl⟩ := List.mem_map.mp hy
    rfl
  · obtain ⟨i, _, rfl⟩ := List.mem_map.mp hx
    exact fun q => by cases q
theorem maxD_ints : ∀ (ns : List Int) (n : Int), PySem.W.maxD (.int n) (ns.map PyData.int) = .int (ns.foldl max n)
  | [], n => rfl
  | x :: r, n => by
    show PySem.W.maxD (if PySem.W.dataLt (.int n) (.int x) = true then .int x else .int n) (r.map PyData.int) = _
    have e : (if PySem.W.dataLt (.int n) (.int x) = true then PyData.int x else .int n) = .int (max n x) := by
      rw [dataLt_int2]
      by_cases h : n < x
      · rw [if_pos (decide_eq_true h), Int.max_eq_right (by omega)]
      · rw [if_neg (by simpa using h), Int.max_eq_left (by omega)]
    rw [e, maxD_ints r]
    rfl
theorem minD_ints : ∀ (ns : List Int) (n : Int), PySem.W.minD (.int n) (ns.map PyData.int) = .int (ns.foldl min n)
  | [], n => rfl
  | x :: r, n => by
    show PySem.W.minD (if PySem.W.dataLt (.int x) (.int n) = true then .int x else .int n) (r.map PyData.int) = _
    have e : (if PySem.W.dataLt (.int x) (.int n) = true then PyData.int x else .int n) = .int (min n x) := by
      rw [dataLt_int2]
      by_cases h : x < n
      · rw [if_pos (decide_eq_true h), Int.min_eq_right (by omega)]
      · rw [if_neg (by simpa using h), Int.min_eq_left (by omega)]
    rw [e, minD_ints r]
    rfl
end
end VL
/-! the value layer: the built-ins one by one, tests, subscripts -/
namespace VL
open PySem
open PySem.Spec
open L2

section
variable {X : Cx} {c : Ct} {U : List Nat}
/-- room for the built-ins -/
def HU (X : Cx) : Prop := X.A.units + 100 < cLine
theorem HU.of {X : Cx} {k : Nat} (h : Room k X.A) : HU X := by
  have := h.un
  unfold HU
  omega
theorem items_at {K : PySem.W.Frag} {H : Hp} {xs : List V} {ds : List D} {us : List Value} {i : Nat} {u : Value} (h : DqAll K H xs ds) (r : Vals xs us) (e : us[i]? = some u) : ∃ v d, xs[i]? = some v ∧ RelV v u ∧ ds[i]? = some d ∧ Dq K H v d := by
  have hi : i < xs.length := by
    have := (List.getElem?_eq_some_iff.mp e).1
    have := r.length
    omega
  obtain ⟨u', e1, e2⟩ := r.get (List.getElem?_eq_getElem hi)
  rw [e] at e1
  cases e1
  obtain ⟨d, e3, e4⟩ := DqAll.getV h (List.getElem?_eq_getElem hi)
  exact ⟨_, d, List.getElem?_eq_getElem hi, e2, e3, e4⟩
theorem depthAll_le {xs : List D} {a : D} (ha : itemsD a = some xs) (h : SeqAt.shaped a = true) : PyData.depthAll xs ≤ 64 := by
  have q := SeqAt.depth_of_shaped h
  cases a <;> first | cases ha | skip
  · have q : PyData.depthAll xs + 1 ≤ 64 := q
    omega
  · have q : PyData.depthAll xs + 1 ≤ 64 := q
    omega
theorem canAll {xs : List D} {a : D} (ha : itemsD a = some xs) (h : SeqAt.shaped a = true) : PyData.canLayAll0 xs = true := by
  have q := SeqAt.canLay_of_shaped h
  cases a <;> first | cases ha | skip
  · exact q
  · exact q
/-- what one item of alike data gives: max, min -/
def rExt (K : PySem.W.Frag) (f : D → List D → D) : List V → Hp → VK → Prop := fun vs H Q => ∃ (e : D) (y : D) (ys : List D) (a : Addr) (xs : List V), vs = [.ref a] ∧ itemsD e = some (y :: ys) ∧ (alikeB (y :: ys) && SeqAt.shaped e) = true ∧
  Dp K H (.ref a) e ∧ (SqL K H a xs ∨ SqT K H a xs) ∧ DpAll K H xs (y :: ys) ∧ ∀ (i : Nat) (v : V), xs[i]? = some v → (y :: ys)[i]? = some (f y ys) → Q v H
theorem ext_end {pins : List (Addr × Obj)} {σ : L2.St} {H : Hp} {s : Shared} {h' : Heap} {tk : Nat} {xs : List V} {ds : List D} {us : List Value} {i : Nat} {u : Value} {d : D} {bs : List Addr} {Q : VK} (I : Inv X pins σ H s) (k : ∀ b o, s.heap.get? b = some o → h'.get? b = some o) (hc : PyData.canLayAll0 ds = true)
    (r : Vals xs us) (h : DpAll X.K H xs ds) (e : us[i]? = some u) (rd : Reads h' u d bs) (q : ∀ (i : Nat) (v : V), xs[i]? = some v → ds[i]? = some d → Q v H) : EP X pins σ Q u { s with heap := h', toks := tk } := by
  have I' : Inv X pins σ H { s with heap := h', toks := tk } := I.kept k
  have hl := r.length
  have hi : i < xs.length := by
    have := (List.getElem?_eq_some_iff.mp e).1
    omega
  obtain ⟨u', e1, e2⟩ := r.get (List.getElem?_eq_getElem hi)
  rw [e] at e1
  cases e1
  have hl2 : xs.length = ds.length := by
    have : ∀ {ds : List D} {vs : List V}, DpAll X.K H vs ds → vs.length = ds.length := by
      intro ds
      induction ds with
      | nil => intro vs q; cases q; rfl
      | cons a b ih =>
        intro vs q
        cases q with
        | cons q1 q2 => simp [ih q2]
    exact this h
  have hd : i < ds.length := by omega
  have rdp : ∀ {ds : List D} {vs : List V} {i : Nat} {v : V} {d : D}, DpAll X.K H vs ds → vs[i]? = some v → ds[i]? = some d → Dp X.K H v d := by
    intro ds
    induction ds with
    | nil => intro vs i v d q e1 e2; simp at e2
    | cons a b ih =>
      intro vs i v d q e1 e2
      cases q with
      | cons q1 q2 =>
        cases i with
        | zero =>
          simp at e1 e2
          subst e1
          subst e2
          exact q1
        | succ i => exact ih q2 (by simpa using e1) (by simpa using e2)
  obtain ⟨as, r2⟩ := Dp.reads I' _ _ u (rdp h (List.getElem?_eq_getElem hi) (List.getElem?_eq_getElem hd)) e2
  have hcd : (ds[i]).canLay0 = true := by
    have : ∀ {ds : List D} (i : Nat) (hd : i < ds.length), PyData.canLayAll0 ds = true → (ds[i]).canLay0 = true := by
      intro ds
      induction ds with
      | nil => intro i hd; cases hd
      | cons a b ih =>
        intro i hd q
        have q : (a.canLay0 && PyData.canLayAll0 b) = true := q
        obtain ⟨q1, q2⟩ := Bool.and_eq_true_iff.mp q
        cases i with
        | zero => exact q1
        | succ i => exact ih i _ q2
    exact this i hd hc
  have e3 : ds[i] = d := PySem.SeqAt.Reads.unique _ _ _ _ _ hcd r2 rd
  exact ⟨xs[i], H, I', e2, q i _ (List.getElem?_eq_getElem hi) (by rw [List.getElem?_eq_getElem hd, e3])⟩
theorem cr_maxD2 (hc : X.calm = true) (hu : HU X) : CallR X (.builtin "max") (rExt X.K PySem.W.maxD) := by
  intro pins s σ H vs us Q I r h
  obtain ⟨e, y, ys, a, xs, rfl, he, hb, hd, hs, ha, q⟩ := h
  obtain ⟨b1, b2⟩ := Bool.and_eq_true_iff.mp hb
  have hdep := depthAll_le he b2
  have hu : X.A.units + 100 < cLine := hu
  rw [Vals.ref1 r]
  rcases hs with hs | hs
  · obtain ⟨its, rv, pl, _⟩ := I.list hs
    obtain ⟨as, rs⟩ := Dp.readsAll I _ _ its ha rv
    exact PySem.W.max_list_data (I.ok.hd hc) pl.isList rs (alikeB_all b1) (by omega) fun i v h' tk bs e1 e2 e3 => ext_end I e3 (canAll he b2) rv ha (by simpa using e1) e2 q
  · obtain ⟨its, rv, pl, _⟩ := I.tuple hs
    obtain ⟨as, rs⟩ := Dp.readsAll I _ _ its ha rv
    exact PySem.W.max_tuple_data (I.ok.hd hc) (show s.heap.IsTuple a its.toArray from pl) rs (alikeB_all b1) (by omega) fun i v h' tk bs e1 e2 e3 => ext_end I e3 (canAll he b2) rv ha (by simpa using e1) e2 q
theorem cr_minD2 (hc : X.calm = true) (hu : HU X) : CallR X (.builtin "min") (rExt X.K PySem.W.minD) := by
  intro pins s σ H vs us Q I r h
  obtain ⟨e, y, ys, a, xs, rfl, he, hb, hd, hs, ha, q⟩ := h
  obtain ⟨b1, b2⟩ := Bool.and_eq_true_iff.mp hb
  have hdep := depthAll_le he b2
  have hu : X.A.units + 100 < cLine := hu
  rw [Vals.ref1 r]
  rcases hs with hs | hs
  · obtain ⟨its, rv, pl, _⟩ := I.list hs
    obtain ⟨as, rs⟩ := Dp.readsAll I _ _ its ha rv
    exact PySem.W.min_list_data (I.ok.hd hc) pl.isList rs (alikeB_all b1) (by omega) fun i v h' tk bs e1 e2 e3 => ext_end I e3 (canAll he b2) rv ha (by simpa using e1) e2 q
  · obtain ⟨its, rv, pl, _⟩ := I.tuple hs
    obtain ⟨as, rs⟩ := Dp.readsAll I _ _ its ha rv
    exact PySem.W.min_tuple_data (I.ok.hd hc) (show s.heap.IsTuple a its.toArray from pl) rs (alikeB_all b1) (by omega) fun i v h' tk bs e1 e2 e3 => ext_end I e3 (canAll he b2) rv ha (by simpa using e1) e2 q
theorem cv_ext {id : String} {f : D → List D → D} (h : CallR X (.builtin id) (rExt X.K f)) (G : D → Option D) (hG : ∀ a d, G a = some d → ∃ y ys, itemsD a = some (y :: ys) ∧ (alikeB (y :: ys) && SeqAt.shaped a) = true ∧ d = f y ys) : CallV X (.builtin id) (one1 G) :=
  cv1 h fun Zs v H a d Q hz hv hg k => by
    obtain ⟨y, ys, he, hb, rfl⟩ := hG a d hg
    have hs := (Bool.and_eq_true_iff.mp hb).2
    have hdp := hv.dp (noDic_of hs)
    cases a <;> first | cases he | skip
    · obtain ⟨p, xs, rfl, h1, h2⟩ := hv.lst
      refine ⟨_, y, ys, p, xs, rfl, rfl, hb, hdp, .inl h1, (DqAll.mono (hide_same _ _) h2).dp, fun i v e1 e2 => ?_⟩
      obtain ⟨d', e3, e4⟩ := DqAll.getV h2 e1
      rw [e2] at e3
      cases e3
      exact k _ _ (Same.refl _) e4
    · obtain ⟨p, xs, rfl, h1, h2, _⟩ := hv.tup
      refine ⟨_, y, ys, p, xs, rfl, rfl, hb, hdp, .inr h1, (DqAll.mono (hide_same _ _) h2).dp, fun i v e1 e2 => ?_⟩
      obtain ⟨d', e3, e4⟩ := DqAll.getV h2 e1
      rw [e2] at e3
      cases e3
      exact k _ _ (Same.refl _) e4
theorem ext_some {f : D → List D → D} {a d : D} (h : ((itemsD a).bind fun xs => match xs with
  | [] => none
  | x :: r => if (alikeB (x :: r) && SeqAt.shaped a) = true then some (f x r) else none) = some d) : ∃ y ys, itemsD a = some (y :: ys) ∧ (alikeB (y :: ys) && SeqAt.shaped a) = true ∧ d = f y ys := by
  obtain ⟨xs, h1, h2⟩ := Option.bind_eq_some_iff.mp h
  cases xs with
  | nil => cases h2
  | cons y ys =>
    by_cases hb : (alikeB (y :: ys) && SeqAt.shaped a) = true
    · have h2 : (if (alikeB (y :: ys) && SeqAt.shaped a) = true then some (f y ys) else none) = some d := h2
      rw [if_pos hb] at h2
      cases h2
      exact ⟨y, ys, h1, hb, rfl⟩
    · have h2 : (if (alikeB (y :: ys) && SeqAt.shaped a) = true then some (f y ys) else none) = some d := h2
      rw [if_neg hb] at h2
      cases h2
theorem cv_max1 (hu : HU X) (hc : X.calm = true := by rfl) : CallV X (.builtin "max") (one1 maxV) := cv_ext (cr_maxD2 hc hu) maxV fun _ _ h => ext_some h
theorem cv_min1 (hu : HU X) (hc : X.calm = true := by rfl) : CallV X (.builtin "min") (one1 minV) := cv_ext (cr_minD2 hc hu) minV fun _ _ h => ext_some h
def max2D : D → D → Option D
  | .int i, .int j => some (.int (if j > i then j else i))
  | _, _ => none
def min2D : D → D → Option D
  | .int i, .int j => some (.int (if j < i then j else i))
  | _, _ => none
theorem cv_two {f : Value} {r : List V → Hp → VK → Prop} {g : D → D → Option D} (h : CallR X f r) (k : ∀ (Zs : List Addr) (v w : V) (H : Hp) (a b d : D) (Q : VK), (∀ z ∈ Zs, H z ≠ none) → Br X.K Zs H a v → Br X.K Zs H b w → g a b = some d → (∀ v H', Same H H' → Dq X.K (hide Zs H') v d → Q v H') → r [v, w] H Q) : CallV X f (two2 g) :=
  ⟨r, h, fun Zs vs H ds d Q hz ha hg q => by
    obtain ⟨a, b, rfl, hg⟩ := two2_some hg
    obtain ⟨v, w, rfl, hv, hw⟩ := all2_2 ha
    exact k Zs v w H a b d Q hz hv hw hg q⟩
theorem cv_max2 (hc : X.calm = true := by rfl) : CallV X (.builtin "max") (two2 max2D) := cv_two (call_max2 hc) fun Zs v w H a b d Q hz ha hb hg k => by
  cases a <;> cases b <;> first | cases hg | skip
  exact ⟨_, _, by rw [ha.int, hb.int], k _ _ (Same.refl _) (.int _)⟩
theorem cv_min2 (hc : X.calm = true := by rfl) : CallV X (.builtin "min") (two2 min2D) := cv_two (call_min2 hc) fun Zs v w H a b d Q hz ha hb hg k => by
  cases a <;> cases b <;> first | cases hg | skip
  exact ⟨_, _, by rw [ha.int, hb.int], k _ _ (Same.refl _) (.int _)⟩
/-- sum, all, any of a list -/
def lstD : D → Option (List D)
  | .list xs => some xs
  | _ => none
def sumD (a : D) : Option D := (lstD a).bind fun xs => (intsD xs).map fun ns => .int ns.sum
def allD (a : D) : Option D := (lstD a).bind fun xs => (boolsD xs).map fun ns => .bool (ns.all id)
def anyD (a : D) : Option D := (lstD a).bind fun xs => (boolsD xs).map fun ns => .bool (ns.any id)
theorem lstD_some {a : D} {xs : List D} (h : lstD a = some xs) : a = .list xs := by
  cases a <;> first | cases h | skip
  rfl
theorem cv_sum (hc : X.calm = true := by rfl) : CallV X (.builtin "sum") (one1 sumD) := cv1 (cr_sum hc) fun Zs v H a d Q hz hv hg k => by
  obtain ⟨xs, h1, h2⟩ := Option.bind_eq_some_iff.mp hg
  obtain ⟨ns, h3, rfl⟩ := Option.map_eq_some_iff.mp h2
  obtain rfl := lstD_some h1
  obtain rfl := intsD_some h3
  obtain ⟨p, us, rfl, e1, e2⟩ := hv.lst
  obtain rfl := DqAll.ints e2
  exact ⟨p, ns, rfl, e1, k _ _ (Same.refl _) (.int _)⟩
theorem cv_all (hc : X.calm = true := by rfl) : CallV X (.builtin "all") (one1 allD) := cv1 (cr_all hc) fun Zs v H a d Q hz hv hg k => by
  obtain ⟨xs, h1, h2⟩ := Option.bind_eq_some_iff.mp hg
  obtain ⟨ns, h3, rfl⟩ := Option.map_eq_some_iff.mp h2
  obtain rfl := lstD_some h1
  obtain rfl := boolsD_some h3
  obtain ⟨p, us, rfl, e1, e2⟩ := hv.lst
  obtain rfl := DqAll.bools e2
  exact ⟨p, ns, rfl, e1, k _ _ (Same.refl _) (.bl _)⟩
theorem cv_any (hc : X.calm = true := by rfl) : CallV X (.builtin "any") (one1 anyD) := cv1 (cr_any hc) fun Zs v H a d Q hz hv hg k => by
  obtain ⟨xs, h1, h2⟩ := Option.bind_eq_some_iff.mp hg
  obtain ⟨ns, h3, rfl⟩ := Option.map_eq_some_iff.mp h2
  obtain rfl := lstD_some h1
  obtain rfl := boolsD_some h3
  obtain ⟨p, us, rfl, e1, e2⟩ := hv.lst
  obtain rfl := DqAll.bools e2
  exact ⟨p, ns, rfl, e1, k _ _ (Same.refl _) (.bl _)⟩
/-- tuple(list) -/
def tupD (a : D) : Option D := (lstD a).map .tuple
theorem cv_tuple : CallV X (.type "tuple") (one1 tupD) := cv1 call_tuple_of fun Zs v H a d Q hz hv hg k => by
  obtain ⟨xs, h1, rfl⟩ := Option.map_eq_some_iff.mp hg
  obtain rfl := lstD_some h1
  obtain ⟨p, us, rfl, e1, e2⟩ := hv.lst
  exact ⟨p, us, rfl, .inl ⟨e1, fun l hl => k _ _ (same_new hl _) (new_tup hz hl e2)⟩⟩
/-- list(list or tuple) -/
def listD (a : D) : Option D := (itemsD a).map .list
theorem co_list : CallO X .dat (.type "list") (one1 listD) := co1 call_list_of fun Zs v H a d Q hz hv hg k => by
  obtain ⟨xs, h1, rfl⟩ := Option.map_eq_some_iff.mp hg
  cases a <;> first | cases h1 | skip
  · obtain ⟨p, us, rfl, e1, e2⟩ := hv.lst
    exact ⟨p, us, rfl, .inl e1, fun l hl => k l _ _ (same_new hl _) hl upd_same (.lst _ _ (DqAll.mono (hide_push hl) e2)) rfl⟩
  · obtain ⟨p, us, rfl, e1, e2, _⟩ := hv.tup
    exact ⟨p, us, rfl, .inr e1, fun l hl => k l _ _ (same_new hl _) hl upd_same (.lst _ _ (DqAll.mono (hide_push hl) e2)) rfl⟩
def absD : D → Option D
  | .int i => some (.int (if i < 0 then -i else i))
  | _ => none
theorem cv_abs : CallV X (.builtin "abs") (one1 absD) := cv1 call_abs fun Zs v H a d Q hz hv hg k => by
  cases a <;> first | cases hg | skip
  exact ⟨_, by rw [hv.int], k _ _ (Same.refl _) (.int _)⟩
def intD : D → Option D
  | .int i => some (.int i)
  | .bool b => some (.int (if b then 1 else 0))
  | _ => none
theorem cv_int : CallV X (.type "int") (one1 intD) := cv1 call_int1 fun Zs v H a d Q hz hv hg k => by
  cases a <;> first | cases hg | skip
  · rename_i b
    exact .inr ⟨b, by rw [hv.bl], k _ _ (Same.refl _) (.int _)⟩
  · rename_i i
    exact .inl ⟨i, by rw [hv.int], k _ _ (Same.refl _) (.int _)⟩
/-- repr of data, where no repr runs around -/
def reprD (d : D) : Option D := if (d.showable && SeqAt.shaped d && decide (d.shown.length ≤ lineN)) = true then some (.str d.shown) else none
theorem hasDict_of_shaped {d : D} (h : SeqAt.shaped d = true) : d.hasDict = false := PyData.hasDict_of_canLay _ (SeqAt.canLay_of_shaped h)
def rRepr (K : PySem.W.Frag) : List V → Hp → VK → Prop := fun vs H Q => ∃ v d, vs = [v] ∧ Dp K H v d ∧ (d.showable && SeqAt.shaped d && decide (d.shown.length ≤ lineN)) = true ∧ Q (.str d.shown) H
theorem cr_repr (hu : HU X) (hg : X.A.guards = some []) : CallR X (.builtin "repr") (rRepr X.K) := by
  intro pins s σ H vs us Q I r h
  obtain ⟨v, d, rfl, hd, hb, q⟩ := h
  obtain ⟨hb, hz⟩ := Bool.and_eq_true_iff.mp hb
  obtain ⟨h1, h2⟩ := Bool.and_eq_true_iff.mp hb
  have hz : d.shown.length ≤ sizeLine := Nat.le_trans (of_decide_eq_true hz) lineN_le
  have hu : X.A.units + 100 < cLine := hu
  have hdep := SeqAt.depth_of_shaped h2
  cases r with
  | cons rv rr =>
    cases rr
    rename_i u
    obtain ⟨as, rd⟩ := Dp.reads I d v u hd rv
    cases rd with
    | none => exact PySem.P.repr_of_none ⟨.str _, H, I.tok _, ⟨_, rfl⟩, q⟩
    | bool b => exact PySem.P.repr_of_bool ⟨.str _, H, I.tok _, ⟨_, rfl⟩, q⟩
    | int i t => exact PySem.P.repr_of_int (by simpa [PyData.showable] using h1) ⟨.str _, H, I.tok _, ⟨_, rfl⟩, q⟩
    | str x t => exact PySem.P.repr_of_str ⟨.str _, H, I.tok _, ⟨_, rfl⟩, q⟩ hz
    | list a1 a2 a3 a4 =>
      exact repr_of_reads' (.list a1 a2 a3 a4) h1 (PyData.noDict_hsm (hasDict_of_shaped h2)) hg (by omega) (fun _ _ e => e) (fun h' u tk hk => ⟨.str _, H, I.kept hk, ⟨_, rfl⟩, q⟩) hz
    | tuple a1 a2 a3 a4 =>
      exact repr_of_reads' (.tuple a1 a2 a3 a4) h1 (PyData.noDict_hsm (hasDict_of_shaped h2)) hg (by omega) (fun _ _ e => e) (fun h' u tk hk => ⟨.str _, H, I.kept hk, ⟨_, rfl⟩, q⟩) hz
    | dict a1 a2 a3 a4 a5 => cases (SeqAt.canLay_of_shaped h2)
theorem cv_repr (hu : HU X) (hg : X.A.guards = some []) : CallV X (.builtin "repr") (one1 reprD) := cv1 (cr_repr hu hg) fun Zs v H a d Q hz hv hgd k => by
  unfold reprD at hgd
  by_cases hb : (a.showable && SeqAt.shaped a && decide (a.shown.length ≤ lineN)) = true
  · rw [if_pos hb] at hgd
    cases hgd
    have h2 := (Bool.and_eq_true_iff.mp (Bool.and_eq_true_iff.mp hb).1).2
    exact ⟨v, a, rfl, hv.dp (noDic_of h2), hb, k _ _ (Same.refl _) (.str _)⟩
  · rw [if_neg hb] at hgd
    cases hgd
end
end VL
/-! the value layer: tests, and/or, subscripts, slices, isinstance, dicts read -/
namespace VL
open PySem
open PySem.Spec
open L2

section
variable {X : Cx} {c : Ct} {U : List Nat}
theorem fe_nd {e : Expr} {F : SE → M D} (h : FR X c U .nd e F) : FE X c U e F := by
  obtain ⟨t, p, r⟩ := h
  exact ⟨t, p, fun Z H0 O en σ H m Q hE hG => r Z H0 O en σ H m Q hE (hG.mono (fun d m' k v H' s1 d1 q => k v H' s1 d1 q.1) fun _ _ k => k)⟩
/-! ### tests -/
/-- an expression that gives a bool -/
theorem ft_val {e : Expr} {F : SE → M D} (h : FE X c U e F) (he : ∀ whole, isTrue e X.env whole = (do let v ← whole; standAt e.pos; holding [v] (truthy v)) := by intro _; rfl) : FT X c U e (tV asB F) := by
  obtain ⟨t, p, r⟩ := h
  refine ⟨_, pt_val p he, fun Z H0 O en σ H m Q hE hG => ?_⟩
  refine r Z H0 O en σ H m _ hE (hG.bd.mono (fun d m1 k1 v H1 s1 d1 q1 => ?_) fun _ _ k => k)
  obtain ⟨b, hb, k2⟩ := k1.lft
  obtain rfl := asB_some hb
  cases (show Dq X.K _ v (.bool b) from q1)
  exact ⟨b, rfl, k2 H1 s1 d1⟩
/-- .. by its truth -/
theorem ft_truth {e : Expr} {F : SE → M D} (h : FB X c U e F) (he : ∀ whole, isTrue e X.env whole = (do let v ← whole; standAt e.pos; holding [v] (truthy v)) := by intro _; rfl) : FT X c U e (tV truD F) := by
  obtain ⟨t, p, r⟩ := h
  refine ⟨_, pt_truth p he, fun Z H0 O en σ H m Q hE hG => ?_⟩
  refine r Z H0 O en σ H m _ hE (hG.bd.mono (fun d m1 k1 v H1 s1 d1 q1 => ?_) fun _ _ k => k)
  obtain ⟨b, hb, k2⟩ := k1.lft
  refine ⟨b, ?_, k2 H1 s1 d1⟩
  cases d <;> first | cases hb | skip
  · obtain rfl := q1.1.non
    rfl
  · obtain rfl := q1.1.bl
    rfl
  · obtain rfl := q1.1.int
    rfl
  · obtain ⟨a, xs, rfl, h1, h2⟩ := q1.1.lst
    exact .inl ⟨xs, h1, by cases h2 <;> rfl⟩
  · obtain ⟨a, xs, rfl, h1, h2, _⟩ := q1.1.tup
    exact .inr (.inl ⟨xs, h1, by cases h2 <;> rfl⟩)
theorem ft_not {e : Expr} {pos : Pos} {F : SE → M Bool} (h : FT X c U e F) : FT X c U (.UnaryOp .Not e pos) (tNot1 F) := by
  obtain ⟨t, p, r⟩ := h
  exact ⟨_, pt_not p, fun Z H0 O en σ H m Q hE hG => r Z H0 O en σ H m _ hE (hG.bd.mono (fun b m1 k1 H1 s1 d1 => k1 H1 s1 d1) fun _ _ k => k)⟩
theorem ft_w {e : Expr} {F : SE → M Bool} (h : FW X c U e F) : FT X c U e F := by
  obtain ⟨t, p, r⟩ := h
  exact ⟨t, p.pt, r⟩
theorem fw_and1 {a : Expr} {pos : Pos} {F : SE → M Bool} (h : FT X c U a F) : FW X c U (.BoolOp .And [a] pos) F := by
  obtain ⟨t, p, r⟩ := h
  exact ⟨t, pw_and1 p, r⟩
theorem fw_or1 {a : Expr} {pos : Pos} {F : SE → M Bool} (h : FT X c U a F) : FW X c U (.BoolOp .Or [a] pos) F := by
  obtain ⟨t, p, r⟩ := h
  exact ⟨t, pw_or1 p, r⟩
theorem fw_and {a b : Expr} {rest : List Expr} {pos : Pos} {F G : SE → M Bool} (h : FT X c U a F) (k : FW X c U (.BoolOp .And (b :: rest) pos) G) : FW X c U (.BoolOp .And (a :: b :: rest) pos) (tAnd2 F G) := by
  obtain ⟨ta, pa, ra⟩ := h
  obtain ⟨tb, pb, rb⟩ := k
  refine ⟨_, pw_and pa pb, fun Z H0 O en σ H m Q hE hG => ?_⟩
  refine ra Z H0 O en σ H m _ hE (hG.bd.mono (fun b m1 k1 H1 s1 d1 => ?_) fun _ _ k => k)
  cases b with
  | true => exact rb Z H0 O en σ H1 m1 _ (hE.step s1 d1) (Good.mono k1 (fun b2 m2 k2 H2 s2 d2 => k2 H2 (s1.trans s2) d2) fun _ _ k => ExK.step k s1)
  | false => exact k1 H1 s1 d1
theorem fw_or {a b : Expr} {rest : List Expr} {pos : Pos} {F G : SE → M Bool} (h : FT X c U a F) (k : FW X c U (.BoolOp .Or (b :: rest) pos) G) : FW X c U (.BoolOp .Or (a :: b :: rest) pos) (tOr2 F G) := by
  obtain ⟨ta, pa, ra⟩ := h
  obtain ⟨tb, pb, rb⟩ := k
  refine ⟨_, pw_or pa pb, fun Z H0 O en σ H m Q hE hG => ?_⟩
  refine ra Z H0 O en σ H m _ hE (hG.bd.mono (fun b m1 k1 H1 s1 d1 => ?_) fun _ _ k => k)
  cases b with
  | false => exact rb Z H0 O en σ H1 m1 _ (hE.step s1 d1) (Good.mono k1 (fun b2 m2 k2 H2 s2 d2 => k2 H2 (s1.trans s2) d2) fun _ _ k => ExK.step k s1)
  | true => exact k1 H1 s1 d1
/-! ### and, or, not as values (bools), a if t else b, a chain as a value -/
def eAnd (F G : SE → M D) : SE → M D := fun en => do
  let a ← F en
  let b ← lft (asB a)
  if b = true then G en else pure (.bool false)
def eOr (F G : SE → M D) : SE → M D := fun en => do
  let a ← F en
  let b ← lft (asB a)
  if b = true then pure (.bool true) else G en
def notD : D → Option D
  | .bool b => some (.bool (!b))
  | _ => none
theorem fe_one {op} {a : Expr} {pos : Pos} {F : SE → M D} (h : FE X c U a F) : FE X c U (.BoolOp op [a] pos) F := by
  obtain ⟨t, p, r⟩ := h
  exact ⟨t, pe_one p, r⟩
theorem fe_and {a b : Expr} {rest : List Expr} {pos : Pos} {F G : SE → M D} (h : FE X c U a F) (k : FE X c U (.BoolOp .And (b :: rest) pos) G) : FE X c U (.BoolOp .And (a :: b :: rest) pos) (eAnd F G) := by
  obtain ⟨ta, pa, ra⟩ := h
  obtain ⟨tb, pb, rb⟩ := k
  refine ⟨_, pe_and pa pb, fun Z H0 O en σ H m Q hE hG => ?_⟩
  refine ra Z H0 O en σ H m _ hE (hG.bd.mono (fun a m1 k1 x H1 s1 d1 q1 => ?_) fun _ _ k => k)
  obtain ⟨b, hb, k2⟩ := k1.bd.lft
  obtain rfl := asB_some hb
  cases (show Dq X.K _ x (.bool b) from q1)
  refine ⟨b, rfl, ?_⟩
  cases b with
  | true => exact rb Z H0 O en σ H1 m1 _ (hE.step s1 d1) (Good.mono k2 (fun d2 m2 k3 v H2 s2 d2 q2 => k3 v H2 (s1.trans s2) d2 q2) fun _ _ k => ExK.step k s1)
  | false => exact k2 _ H1 s1 d1 (.bl false)
theorem fe_or {a b : Expr} {rest : List Expr} {pos : Pos} {F G : SE → M D} (h : FE X c U a F) (k : FE X c U (.BoolOp .Or (b :: rest) pos) G) : FE X c U (.BoolOp .Or (a :: b :: rest) pos) (eOr F G) := by
  obtain ⟨ta, pa, ra⟩ := h
  obtain ⟨tb, pb, rb⟩ := k
  refine ⟨_, pe_or pa pb, fun Z H0 O en σ H m Q hE hG => ?_⟩
  refine ra Z H0 O en σ H m _ hE (hG.bd.mono (fun a m1 k1 x H1 s1 d1 q1 => ?_) fun _ _ k => k)
  obtain ⟨b, hb, k2⟩ := k1.bd.lft
  obtain rfl := asB_some hb
  cases (show Dq X.K _ x (.bool b) from q1)
  refine ⟨b, rfl, ?_⟩
  cases b with
  | false => exact rb Z H0 O en σ H1 m1 _ (hE.step s1 d1) (Good.mono k2 (fun d2 m2 k3 v H2 s2 d2 q2 => k3 v H2 (s1.trans s2) d2 q2) fun _ _ k => ExK.step k s1)
  | true => exact k2 _ H1 s1 d1 (.bl true)
theorem fe_not {a : Expr} {pos : Pos} {F : SE → M D} (h : FE X c U a F) : FE X c U (.UnaryOp .Not a pos) (e1 notD F) := by
  obtain ⟨ta, pa, ra⟩ := h
  refine ⟨_, pe_not pa, fun Z H0 O en σ H m Q hE hG => ?_⟩
  refine ra Z H0 O en σ H m _ hE (hG.bd.mono (fun a m1 k1 x H1 s1 d1 q1 => ?_) fun _ _ k => k)
  obtain ⟨d, hd, k2⟩ := k1.lft
  cases a <;> first | cases hd | skip
  rename_i b
  cases (show Dq X.K _ x (.bool b) from q1)
  exact ⟨b, rfl, k2 _ H1 s1 d1 (.bl _)⟩
theorem fr_if {k : Kd} {t a b : Expr} {pos : Pos} {T : SE → M Bool} {F G : SE → M D} (ht : FT X c U t T) (ha : FR X c U k a F) (hb : FR X c U k b G) : FR X c U k (.IfExp t a b pos) (eIf T F G) := by
  obtain ⟨tt, pt, rt⟩ := ht
  obtain ⟨ta, pa, ra⟩ := ha
  obtain ⟨tb, pb, rb⟩ := hb
  refine ⟨_, pe_ifExp pt pa pb, fun Z H0 O en σ H m Q hE hG => ?_⟩
  refine rt Z H0 O en σ H m _ hE (hG.bd.mono (fun b m1 k1 H1 s1 d1 => ?_) fun _ _ k => k)
  cases b with
  | true => exact ra Z H0 O en σ H1 m1 _ (hE.step s1 d1) (Good.mono k1 (fun d2 m2 k3 v H2 s2 d2 q2 => k3 v H2 (s1.trans s2) d2 q2) fun _ _ k => ExK.step k s1)
  | false => exact rb Z H0 O en σ H1 m1 _ (hE.step s1 d1) (Good.mono k1 (fun d2 m2 k3 v H2 s2 d2 q2 => k3 v H2 (s1.trans s2) d2 q2) fun _ _ k => ExK.step k s1)
theorem fe_if {t a b : Expr} {pos : Pos} {T : SE → M Bool} {F G : SE → M D} (ht : FT X c U t T) (ha : FE X c U a F) (hb : FE X c U b G) : FE X c U (.IfExp t a b pos) (eIf T F G) := fr_if ht ha hb
theorem fe_chain {op op' : CmpOp} {ea eb ec : Expr} {pos : Pos} {F G L : SE → M D} {g g' : D → D → Option D} (ho : OpV X (compareOp op) g) (ho' : OpV X (compareOp op') g') (ha : FB X c U ea F) (hb : FB X c U eb G) (hc : FB X c U ec L)
    (hm : lastMarks [op, op'] [eb, ec] = false := by with_unfolding_all rfl) : FE X c U (.Compare ea [op, op'] [eb, ec] pos) (eB (e3c g g' F G L)) := by
  obtain ⟨ta, pa, ra⟩ := ha
  obtain ⟨tb, pb, rb⟩ := hb
  obtain ⟨tc, pc, rc⟩ := hc
  obtain ⟨r, po, ro⟩ := ho
  obtain ⟨r', po', ro'⟩ := ho'
  refine ⟨_, pe_chain po po' pa pb pc hm, fun Z H0 O en σ H m Q hE hG => ?_⟩
  refine ra Z H0 O en σ H m _ hE (hG.bd.bd.mono (fun a m1 k1 x H1 s1 d1 q1 => ?_) fun _ _ k => k)
  refine rb Z H0 O en σ H1 m1 _ (hE.step s1 d1) (k1.bd.mono (fun b m2 k2 y H2 s2 d2 q2 => ?_) fun _ _ k => k.step s1)
  obtain ⟨k, hk, k3⟩ := k2.bd.lft
  obtain ⟨d, hg, hd⟩ := Option.bind_eq_some_iff.mp hk
  obtain rfl := asB_some hd
  refine ro _ x y H2 a b _ _ (hE.step (s1.trans s2) d2).zt (q1.2 H2 s2) q2.1 hg fun v H3 s3 q3 => ?_
  cases (show Dq X.K _ v (.bool k) from q3)
  have d3 := d2.same s3
  have s13 : SameW c.W H H3 := (s1.trans s2).trans (.of s3)
  refine ⟨k, rfl, ?_⟩
  cases k with
  | false =>
    have k3 : Good ((pure false : M Bool) m2) _ _ := k3
    exact k3 _ H3 s13 d3 (.bl false)
  | true =>
    refine rc Z H0 O en σ H3 m2 _ (hE.step s13 d3) (Good.mono (Good.bd k3) (fun z m4 k4 w H4 s4 d4 q4 => ?_) fun _ _ k => ExK.step k s13)
    obtain ⟨bo, hbo, k5⟩ := k4.lft
    obtain ⟨d', hg', hd'⟩ := Option.bind_eq_some_iff.mp hbo
    obtain rfl := asB_some hd'
    refine ro' _ y w H4 b z _ _ (hE.step (s13.trans s4) d4).zt (q2.2 H4 ((SameW.of s3).trans s4)) q4.1 hg' fun v H5 s5 q5 => ?_
    exact k5 v H5 ((s13.trans s4).trans (.of s5)) (d4.same s5) q5
theorem fe_neg {a : Expr} {pos : Pos} {F : SE → M D} (h : FE X c U a F) : FE X c U (.UnaryOp .USub a pos) (e1 negD F) := by
  obtain ⟨ta, pa, ra⟩ := h
  refine ⟨_, pe_un un_neg pa, fun Z H0 O en σ H m Q hE hG => ?_⟩
  refine ra Z H0 O en σ H m _ hE (hG.bd.mono (fun a m1 k1 x H1 s1 d1 q1 => ?_) fun _ _ k => k)
  obtain ⟨d, hd, k2⟩ := k1.lft
  cases a <;> first | cases hd | skip
  rename_i b
  cases (show Dq X.K _ x (.int b) from q1)
  exact ⟨b, rfl, k2 _ H1 s1 d1 (.int _)⟩
/-- x is None, x is not None: the right side written -/
theorem ov_isN : OpV X (compareOp .Is) isN := ⟨_, op_isN, fun Zs x y H a b d Q hz ha hb hg k => by
  cases b <;> first | cases hg | skip
  refine ⟨hb.non, ?_⟩
  rw [ha.isNone]
  exact k _ _ (Same.refl _) (.bl _)⟩
theorem ov_isNN : OpV X (compareOp .IsNot) isNN := ⟨_, op_notN, fun Zs x y H a b d Q hz ha hb hg k => by
  cases b <;> first | cases hg | skip
  refine ⟨hb.non, ?_⟩
  rw [ha.isNone]
  exact k _ _ (Same.refl _) (.bl _)⟩

/-! ### subscripts -/
/-- the place of an index, of any sign -/
def atD (xs : List D) (i : Int) : Option D := atI xs i
def ixD (a b : D) : Option D := match a, b with
  | .list xs, .int i => atD xs i
  | .tuple xs, .int i => atD xs i
  | _, _ => none
theorem at_dq {K : PySem.W.Frag} {H : Hp} {xs : List V} {ds : List D} {i : Int} {d : D} (h : DqAll K H xs ds) (e : atI ds i = some d) : ∃ v, atI xs i = some v ∧ Dq K H v d := by
  unfold atI at e ⊢
  rw [DqAll.length h]
  obtain ⟨j, h1, h2⟩ := Option.bind_eq_some_iff.mp e
  obtain ⟨v, h3, h4⟩ := DqAll.get h h2
  exact ⟨v, by rw [h1]; exact h3, h4⟩
theorem fe_ix {a b : Expr} {pos : Pos} {F G : SE → M D} (ha : FB X c U a F) (hb : FE X c U b G) (hs : PlainIx b := by exact fun _ _ => rfl) : FE X c U (.Subscript a b pos) (e2 ixD F G) := by
  obtain ⟨ta, pa, ra⟩ := ha
  obtain ⟨tb, pb, rb⟩ := hb
  refine ⟨_, pe_ix (ix_list.or ix_tup) pa pb hs, fun Z H0 O en σ H m Q hE hG => ?_⟩
  refine ra Z H0 O en σ H m _ hE (hG.bd.mono (fun a m1 k1 x H1 s1 d1 q1 => ?_) fun _ _ k => k)
  refine rb Z H0 O en σ H1 m1 _ (hE.step s1 d1) (k1.bd.mono (fun b m2 k2 y H2 s2 d2 q2 => ?_) fun _ _ k => k.step s1)
  obtain ⟨d, hd, k3⟩ := k2.lft
  have q1 := q1.2 H2 s2
  cases a <;> cases b <;> first | cases hd | skip
  · obtain ⟨p, xs, rfl, h1, h2⟩ := q1.lst
    cases (show Dq X.K _ y (.int _) from q2)
    obtain ⟨v, e1, e2⟩ := at_dq h2 hd
    exact .inl ⟨p, xs, _, v, rfl, rfl, h1, e1, k3 v H2 (s1.trans s2) d2 e2⟩
  · obtain ⟨p, xs, rfl, h1, h2, _⟩ := q1.tup
    cases (show Dq X.K _ y (.int _) from q2)
    obtain ⟨v, e1, e2⟩ := at_dq h2 hd
    exact .inr ⟨p, xs, _, v, rfl, rfl, h1, e1, k3 v H2 (s1.trans s2) d2 e2⟩
/-- a part of a slice -/
def FP (X : Cx) (c : Ct) (U : List Nat) (e : Option Expr) (F : SE → M (Option Int)) : Prop :=
  ∃ t : TO, PO X e t ∧ ∀ Z H0 O en σ H m Q, EnvOk X.K c.W c.ms c.dk Z H0 U O en σ H m →
    Good (F en m) (fun d m' => ∀ H', SameW c.W H H' → DrawOk c.W H' m' → Q d H') (fun x m' => ExK X c (ZO Z O) H x m') → t σ H Q
def pN : SE → M (Option Int) := fun _ => pure none
def asI : D → Option Int
  | .int i => some i
  | _ => none
def pS (F : SE → M D) : SE → M (Option Int) := fun en => do
  let a ← F en
  let i ← lft (asI a)
  pure (some i)
theorem fp_none : FP X c U none pN := ⟨_, po_none, fun Z H0 O en σ H m Q hE hG => hG H (SameW.refl _ _) hE.dr⟩
theorem fp_some {e : Expr} {F : SE → M D} (h : FE X c U e F) : FP X c U (some e) (pS F) := by
  obtain ⟨t, p, r⟩ := h
  refine ⟨_, po_some p, fun Z H0 O en σ H m Q hE hG => ?_⟩
  refine r Z H0 O en σ H m _ hE (hG.bd.mono (fun a m1 k1 x H1 s1 d1 q1 => ?_) fun _ _ k => k)
  obtain ⟨i, hi, k2⟩ := k1.bd.lft
  cases a <;> first | cases hi | skip
  cases (show Dq X.K _ x (.int _) from q1)
  exact ⟨_, rfl, k2 H1 s1 d1⟩
/-- xs[lo:hi] -/
def cutD (xs : List D) (lo hi : Option Int) : List D := (xs.drop (HT.sIx xs.length 0 lo)).take (HT.sIx xs.length xs.length hi - HT.sIx xs.length 0 lo)
def slD (F : SE → M D) (P P' : SE → M (Option Int)) : SE → M D := fun en => do
  let a ← F en
  let lo ← P en
  let hi ← P' en
  lft (match a with
    | .list xs => some (.list (cutD xs lo hi))
    | .tuple xs => some (.tuple (cutD xs lo hi))
    | _ => none)
theorem cut_dq {K : PySem.W.Frag} {H : Hp} {xs : List V} {ds : List D} {lo hi : Option Int} (h : DqAll K H xs ds) : DqAll K H (cutV xs lo hi) (cutD ds lo hi) := by
  unfold cutV cutD
  rw [DqAll.length h]
  exact DqAll.take _ (DqAll.drop _ h)
/-- a slice of a list or of a tuple that is tracked wholly -/
theorem fe_sl {a : Expr} {lo hi : Option Expr} {p2 pos : Pos} {F : SE → M D} {P P' : SE → M (Option Int)} (ha : FE X c U a F) (hl : FP X c U lo P) (hh : FP X c U hi P') : FE X c U (.Subscript a (.Slice lo hi none p2) pos) (slD F P P') := by
  obtain ⟨ta, pa, ra⟩ := ha
  obtain ⟨tl, pl, rl⟩ := hl
  obtain ⟨th, ph, rh⟩ := hh
  refine ⟨_, pe_slice (sl_list.or sl_tupA) pa pl ph, fun Z H0 O en σ H m Q hE hG => ?_⟩
  refine ra Z H0 O en σ H m _ hE (hG.bd.mono (fun a m1 k1 x H1 s1 d1 q1 => ?_) fun _ _ k => k)
  refine rl Z H0 O en σ H1 m1 _ (hE.step s1 d1) (k1.bd.mono (fun lo m2 k2 H2 s2 d2 => ?_) fun _ _ k => k.step s1)
  refine rh Z H0 O en σ H2 m2 _ (hE.step (s1.trans s2) d2) (k2.bd.mono (fun hi m3 k3 H3 s3 d3 => ?_) fun _ _ k => k.step (s1.trans s2))
  obtain ⟨d, hd, k4⟩ := k3.lft
  have s13 := (s1.trans s2).trans s3
  have hE3 := hE.step s13 d3
  have q1 : Dq X.K (hide (ZO Z O) H3) x a := Dq.mono ((s2.trans s3).hide hE.wzo) q1
  cases a <;> first | cases hd | skip
  · obtain ⟨p, xs, rfl, h1, h2⟩ := Dq.lstE q1
    exact .inl ⟨p, xs, rfl, .inl (same_rd (hide_same _ _) h1), fun r hr => k4 _ _ (s13.trans (.of (same_new hr _))) (d3.same (same_new hr _)) (new_lst hE3.zt hr (cut_dq h2))⟩
  · obtain ⟨p, xs, rfl, h1, h2⟩ := Dq.tupE q1
    refine .inr ⟨p, xs, rfl, .inl (same_rd (hide_same _ _) h1), fun e => ?_, fun _ r hr => k4 _ _ (s13.trans (.of (same_new hr _))) (d3.same (same_new hr _)) (new_tup hE3.zt hr (cut_dq h2))⟩
    have e2 : ∀ ds : List D, DqAll X.K (hide (ZO Z O) H3) xs ds → cutD ds lo hi = ds := fun ds h2 => by
      unfold cutD
      rw [DqAll.length h2] at e
      rw [e.1, e.2]
      simp
    have k4 := k4 (.ref p) H3 s13 d3
    rw [e2 _ h2] at k4
    exact k4 (.tup h1 h2)
/-- isinstance(x, T) -/
def isT (T : String) : D → Option D := fun d => match T with
  | "int" => some (.bool d.isInt)
  | "bool" => some (.bool d.isBool)
  | "str" => some (.bool d.isStr)
  | "tuple" => some (.bool d.isTuple)
  | "list" => some (.bool d.isList)
  | _ => none
def rIsiD (K : PySem.W.Frag) (T : String) : List V → Hp → VK → Prop := fun vs H Q => ∃ v d r, vs = [v, .ty T] ∧ Dp K H v d ∧ isT T d = some (.bool r) ∧ Q (.bl r) H
theorem cr_isiD (T : String) : CallR X (.builtin "isinstance") (rIsiD X.K T) := by
  intro pins s σ H vs us Q I r h
  obtain ⟨v, d, b, rfl, hd, hb, q⟩ := h
  cases r with
  | cons rv rr =>
    cases rr with
    | cons rt rr =>
      cases rr
      rename_i u w
      obtain rfl : w = Value.type T := rt
      obtain ⟨as, rd⟩ := Dp.reads I d v u hd rv
      unfold isT at hb
      split at hb
      · cases hb
        exact PySem.W.isinstance_int_data rd fun tk _ => ⟨.bl _, H, I.tok _, rfl, q⟩
      · cases hb
        exact PySem.W.isinstance_bool_data rd fun tk _ => ⟨.bl _, H, I.tok _, rfl, q⟩
      · cases hb
        exact PySem.W.isinstance_str_data rd fun tk _ => ⟨.bl _, H, I.tok _, rfl, q⟩
      · cases hb
        exact PySem.W.isinstance_tuple_data rd fun tk _ => ⟨.bl _, H, I.tok _, rfl, q⟩
      · cases hb
        exact PySem.W.isinstance_list_data rd fun tk _ => ⟨.bl _, H, I.tok _, rfl, q⟩
      · cases hb
theorem isT_bool {T : String} {a d : D} (h : isT T a = some d) : ∃ b, d = .bool b := by
  unfold isT at h
  split at h <;> first | (cases h; exact ⟨_, rfl⟩) | cases h
theorem fe_isi {T : String} {tx : Str} {p tp pos : Pos} {e : Expr} {F : SE → M D} (hm : X.mg "isinstance" = none) (ht : X.mg tx = none) (ha : FE X c U e F) (hv : bootBuiltins tx = some (.type T) := by decide +kernel) (hg : Gl X "isinstance" := by rfl) (hgt : Gl X tx := by rfl) (hn : tx ≠ "__name__" := by decide) (hdb : (tx == ("__debug__" : Str)) = false := by decide)
    (he1 : starEach [.Name tx tp] X.env = (false, eval (.Name tx tp) X.env) :: starEach [] X.env := by rfl)
    (he : starEach (e :: [.Name tx tp]) X.env = (false, eval e X.env) :: starEach [.Name tx tp] X.env := by rfl) (hpl : (backTo pos (starEach [.Name tx tp] X.env)).any (·.1) = false := by rfl) :
    FE X c U (.Call (.Name "isinstance" p) [e, .Name tx tp] [] pos) (e1 (isT T) F) := by
  obtain ⟨t, pa, r⟩ := ha
  refine ⟨_, pe_callB (cr_isiD T) hg hm (by decide +kernel) (pa_cons pa (pa_cons (pe_bltn (v := .ty T) hgt ht hv rfl hn hdb) pa_nil he1) he) (by decide) (by decide) he hpl, fun Z H0 O en σ H m Q hE hG => ?_⟩
  refine r Z H0 O en σ H m _ hE (hG.bd.mono (fun a m1 k1 v H1 s1 d1 q1 => ?_) fun _ _ k => k)
  obtain ⟨d, hd, k2⟩ := k1.lft
  obtain ⟨b, rfl⟩ := isT_bool hd
  exact ⟨v, a, b, rfl, (Dq.mono (hide_same _ _) (show Dq X.K _ v a from q1)).dp, hd, k2 _ H1 s1 d1 (.bl b)⟩
end
end VL
/-! the value layer: statements -/
namespace VL
open PySem
open PySem.Spec
open L2

/-- how a statement ends -/
inductive Ctl where
  | nx (e : SE)
  | bk (e : SE)
  | ct (e : SE)
  | rt (d : D)
section
variable {X : Cx} {c : Ct} {U Un UL : List Nat}
/-- what is wanted behind a statement that ends so -/
def KOk (X : Cx) (c : Ct) (Z : List Addr) (H0 : Hp) (UL Un : List Nat) (Ds : Ends) (m' : MS) : Ctl → Prop
  | .nx e' => ∀ O' σ' H', EnvOk X.K c.W c.ms c.dk Z H0 Un O' e' σ' H' m' → Ds.nx σ' H'
  | .bk e' => ∀ O' σ' H', EnvOk X.K c.W c.ms c.dk Z H0 UL O' e' σ' H' m' → Ds.bk σ' H'
  | .ct e' => ∀ O' σ' H', EnvOk X.K c.W c.ms c.dk Z H0 UL O' e' σ' H' m' → Ds.ct σ' H'
  | .rt d => ∀ v H', SameW c.W H0 H' → DrawOk c.W H' m' → Res X.K (hide Z H') c.rd d v → Ds.rt v H'
def RdS (X : Cx) (c : Ct) (UL U : List Nat) (t : TS) (S : SE → M Ctl) (Un : List Nat) : Prop :=
  ∀ Z H0 O en σ H m Ds, EnvOk X.K c.W c.ms c.dk Z H0 U O en σ H m → Good (S en m) (fun k m' => KOk X c Z H0 UL Un Ds m' k) (fun x m' => ExK X c Z H0 x m') → t Ds σ H
def FS (X : Cx) (c : Ct) (UL U : List Nat) (st : Stmt) (S : SE → M Ctl) (Un : List Nat) : Prop := ∃ t : TS, PS X st t ∧ RdS X c UL U t S Un
def FSs (X : Cx) (c : Ct) (UL U : List Nat) (st : List Stmt) (S : SE → M Ctl) (Un : List Nat) : Prop := ∃ t : TS, PSs X st t ∧ RdS X c UL U t S Un
/-- an exception of an expression, seen from the start -/
theorem ExK.out {Z : List Addr} {H0 H : Hp} {O : List (Nat × Addr)} {en : SE} {σ : St} {m : MS} {x : Exn} {m' : MS} (hE : EnvOk X.K c.W c.ms c.dk Z H0 U O en σ H m) (h : ExK X c Z H0 x m') : ExK X c (ZO Z O) H x m' := fun C od H' s d r => by
  refine h C od H' (hE.same.trans s) d ?_
  obtain ⟨Ca, dd, vs, h1, h2, h3, h4, h5⟩ := r
  have sub : Same (hide (ZO Z O) H') (hide Z H') := hide_sub fun b hb => List.mem_append_left _ hb
  exact ⟨Ca, dd, vs, h1, h2, h3, sub _ _ h4, DqAll.mono sub h5⟩

/-! ### in a row -/
def sNx : SE → M Ctl := fun en => pure (.nx en)
def sBk : SE → M Ctl := fun en => pure (.bk en)
def sCt : SE → M Ctl := fun en => pure (.ct en)
def thenC (T : SE → M Ctl) : Ctl → M Ctl
  | .nx e => T e
  | k => pure k
def sq (S T : SE → M Ctl) : SE → M Ctl := fun en => do
  let k ← S en
  thenC T k
theorem fss_nil : FSs X c UL U [] sNx U := ⟨_, pss_nil, fun Z H0 O en σ H m Ds hE hG => hG O σ H hE⟩
theorem fss_cons {st : Stmt} {rest : List Stmt} {S T : SE → M Ctl} {U1 : List Nat} (h1 : FS X c UL U st S U1) (h2 : FSs X c UL U1 rest T Un) : FSs X c UL U (st :: rest) (sq S T) Un := by
  obtain ⟨t, p, r⟩ := h1
  obtain ⟨u, p2, r2⟩ := h2
  refine ⟨_, pss_cons p p2, fun Z H0 O en σ H m Ds hE hG => r Z H0 O en σ H m _ hE (hG.bd.mono (fun k m1 k1 => ?_) fun _ _ k => k)⟩
  cases k with
  | nx e' => exact fun O' σ' H' hE' => r2 Z H0 O' e' σ' H' m1 Ds hE' k1
  | bk e' => exact k1
  | ct e' => exact k1
  | rt d => exact k1
theorem fss_one {st : Stmt} {S : SE → M Ctl} (h : FS X c UL U st S Un) : FSs X c UL U [st] S Un :=
  let ⟨t, p, r⟩ := h
  ⟨t, pss_one p, r⟩
/-- owned things given free ahead of a statement -/
theorem fs_fz {st : Stmt} {S : SE → M Ctl} (U1 : List Nat) (h : FS X c UL U1 st S Un) (hU : ∀ i ∈ U1, i ∈ U := by decide) : FS X c UL U st S Un := by
  obtain ⟨t, p, r⟩ := h
  exact ⟨t, p, fun Z H0 O en σ H m Ds hE hG => r Z H0 _ en σ H m Ds (hE.freeze hU) hG⟩
theorem fss_fz {st : List Stmt} {S : SE → M Ctl} (U1 : List Nat) (h : FSs X c UL U1 st S Un) (hU : ∀ i ∈ U1, i ∈ U := by decide) : FSs X c UL U st S Un := by
  obtain ⟨t, p, r⟩ := h
  exact ⟨t, p, fun Z H0 O en σ H m Ds hE hG => r Z H0 _ en σ H m Ds (hE.freeze hU) hG⟩
/-- .. behind it -/
theorem fss_wk {st : List Stmt} {S : SE → M Ctl} {U1 : List Nat} (h : FSs X c UL U st S U1) (hU : ∀ i ∈ Un, i ∈ U1 := by decide) : FSs X c UL U st S Un := by
  obtain ⟨t, p, r⟩ := h
  refine ⟨t, p, fun Z H0 O en σ H m Ds hE hG => r Z H0 O en σ H m Ds hE (hG.mono (fun k m1 k1 => ?_) fun _ _ k => k)⟩
  cases k with
  | nx e' => exact fun O' σ' H' hE' => k1 _ σ' H' (hE'.freeze hU)
  | bk e' => exact k1
  | ct e' => exact k1
  | rt d => exact k1
theorem fs_wk {st : Stmt} {S : SE → M Ctl} {U1 : List Nat} (h : FS X c UL U st S U1) (hU : ∀ i ∈ Un, i ∈ U1 := by decide) : FS X c UL U st S Un := by
  obtain ⟨t, p, r⟩ := h
  refine ⟨t, p, fun Z H0 O en σ H m Ds hE hG => r Z H0 O en σ H m Ds hE (hG.mono (fun k m1 k1 => ?_) fun _ _ k => k)⟩
  cases k with
  | nx e' => exact fun O' σ' H' hE' => k1 _ σ' H' (hE'.freeze hU)
  | bk e' => exact k1
  | ct e' => exact k1
  | rt d => exact k1
/-! ### small ones -/
theorem fs_pass {pos : Pos} : FS X c UL U (.Pass pos) sNx U := ⟨_, ps_pass, fun Z H0 O en σ H m Ds hE hG => hG O σ H hE⟩
theorem fs_brk {pos : Pos} : FS X c U U (.Break pos) sBk Un := ⟨_, ps_break, fun Z H0 O en σ H m Ds hE hG => hG O σ H hE⟩
theorem fs_cont {pos : Pos} : FS X c U U (.Continue pos) sCt Un := ⟨_, ps_continue, fun Z H0 O en σ H m Ds hE hG => hG O σ H hE⟩
/-- code that is not come to -/
def sNo : SE → M Ctl := fun _ => M.no
theorem fs_no {st : Stmt} : FS X c UL U st sNo Un := ⟨_, ps_never, fun Z H0 O en σ H m Ds hE hG => hG.elim⟩
theorem fss_no {st : List Stmt} : FSs X c UL U st sNo Un := ⟨_, pss_never, fun Z H0 O en σ H m Ds hE hG => hG.elim⟩
def sRet (F : SE → M D) : SE → M Ctl := fun en => do
  let d ← F en
  pure (.rt d)
theorem fs_ret {k : Kd} {e : Expr} {F : SE → M D} {pos : Pos} (h : FR X c U k e F) (hr : c.rd = k := by rfl) : FS X c UL U (.Return (some e) pos) (sRet F) Un := by
  obtain ⟨t, p, r⟩ := h
  refine ⟨_, ps_ret p, fun Z H0 O en σ H m Ds hE hG => r Z H0 O en σ H m _ hE (hG.bd.mono (fun d m1 k1 v H1 s1 d1 q1 => ?_) fun _ _ k => k.out hE)⟩
  refine k1 v H1 (hE.same.trans s1) d1 ?_
  rw [hr]
  exact q1.mono (hide_sub fun b hb => List.mem_append_left _ hb)
theorem fs_retN {pos : Pos} (hr : c.rd = .dat := by rfl) : FS X c UL U (.Return none pos) (sRet (eC .none)) Un := by
  refine ⟨_, ps_retN, fun Z H0 O en σ H m Ds hE hG => hG .non H hE.same hE.dr ?_⟩
  rw [hr]
  exact Dq.non
def sSet (i : Nat) (F : SE → M D) : SE → M Ctl := fun en => do
  let d ← F en
  pure (.nx (en.set i (some d)))
/-- name = value -/
theorem EnvOk.put' {K : PySem.W.Frag} {W : Option Wd} {ms : List Nat} {dk : Nat → Kd} {Z : List Addr} {H0 H : Hp} {U : List Nat} {O : List (Nat × Addr)} {e : SE} {σ : St} {m : MS} (h : EnvOk K W ms dk Z H0 U O e σ H m) {i : Nat} {d : D} {v : V} (hi : i ∉ U) (hm : i ∉ ms) (r : Res K (hide (ZO Z O) H) (dk i) d v) : EnvOk K W ms dk Z H0 U O (e.set i (some d)) (σ.set i (some v)) H m := by
  by_cases hl : i < σ.length
  · exact h.put hi hm hl r
  · rw [List.set_eq_of_length_le (by rw [h.len]; omega), List.set_eq_of_length_le (by omega)]
    exact h
theorem fs_set (i : Nat) {k : Kd} {x : Str} {e : Expr} {F : SE → M D} {pos pos' : Pos} (h : FR X c U k e F) (hN : X.N.Nodup) (hk : c.dk i = k := by rfl) (hU : i ∉ U := by decide) (hm : i ∉ c.ms := by (try dsimp only); decide) (hi : X.N[i]? = some x := by rfl)
    (hx : Loc X.env.scope x := by first | exact Or.inl rfl | exact Or.inr rfl) (hs : swapsWith e (some (.Name x pos')) pos.line X.env = pure false := by rfl) (hf : X.fn x = true ∨ X.env.scope.names.lookup x = some .local := by first | exact .inl rfl | exact .inr rfl) :
    FS X c UL U (.Assign [.Name x pos'] e pos) (sSet i F) U := by
  obtain ⟨t, p, r⟩ := h
  refine ⟨_, ps_set hN hi hx p hs hf, fun Z H0 O en σ H m Ds hE hG => r Z H0 O en σ H m _ hE (hG.bd.mono (fun d m1 k1 v H1 s1 d1 q1 => ?_) fun _ _ k => k.out hE)⟩
  subst hk
  exact k1 O _ H1 ((hE.step s1 d1).put' hU hm q1)
def sSetO (i : Nat) (F : SE → M D) : SE → M Ctl := fun en => do
  let d ← F en
  if i < en.length then pure (.nx (en.set i (some d))) else M.no
/-- name = a new object of its own -/
theorem fs_setO (i : Nat) {k : Kd} {x : Str} {e : Expr} {F : SE → M D} {pos pos' : Pos} (h : FO X c U k e F) (hN : X.N.Nodup) (hk : c.dk i = k := by rfl) (hU : i ∉ U := by decide) (hm : i ∉ c.ms := by (try dsimp only); decide) (hi : X.N[i]? = some x := by rfl)
    (hx : Loc X.env.scope x := by first | exact Or.inl rfl | exact Or.inr rfl) (hs : swapsWith e (some (.Name x pos')) pos.line X.env = pure false := by rfl) (hf : X.fn x = true ∨ X.env.scope.names.lookup x = some .local := by first | exact .inl rfl | exact .inr rfl) :
    FS X c UL U (.Assign [.Name x pos'] e pos) (sSetO i F) (i :: U) := by
  obtain ⟨t, p, r⟩ := h
  refine ⟨_, ps_set hN hi hx p hs hf, fun Z H0 O en σ H m Ds hE hG => r Z H0 O en σ H m _ hE (hG.bd.mono (fun d m1 k1 a o H1 s1 d1 n1 o1 q1 b1 => ?_) fun _ _ k => k.out hE)⟩
  by_cases hl : i < en.length
  · have k1 : Good ((if i < en.length then pure (.nx (en.set i (some d))) else M.no : M Ctl) m1) _ _ := k1
    rw [if_pos hl] at k1
    exact k1 _ _ H1 (hE.putO s1 d1 hU hm (by rw [← hE.len]; exact hl) n1 o1 q1 (hk.trans b1.symm))
  · have k1 : Good ((if i < en.length then pure (.nx (en.set i (some d))) else M.no : M Ctl) m1) _ _ := k1
    rw [if_neg hl] at k1
    exact k1.elim
def sDrop (F : SE → M D) : SE → M Ctl := fun en => do
  let _ ← F en
  pure (.nx en)
/-- an expression alone -/
theorem fs_expr {e : Expr} {F : SE → M D} {pos : Pos} (h : FB X c U e F) (hs : swapsWith e none pos.line X.env = pure false := by rfl) : FS X c UL U (.Expr e pos) (sDrop F) U := by
  obtain ⟨t, p, r⟩ := h
  exact ⟨_, ps_expr p hs, fun Z H0 O en σ H m Ds hE hG => r Z H0 O en σ H m _ hE (hG.bd.mono (fun d m1 k1 v H1 s1 d1 q1 => k1 O σ H1 (hE.step s1 d1)) fun _ _ k => k.out hE)⟩
theorem fs_doc {x j pos pos'} : FS X c UL U (.Expr (.Constant (.str x) j pos) pos') sNx U := ⟨_, ps_doc, fun Z H0 O en σ H m Ds hE hG => hG O σ H hE⟩
def sIf (T : SE → M Bool) (F G : SE → M Ctl) : SE → M Ctl := fun en => do
  let b ← T en
  if b = true then F en else G en
/-- an exception's wish, from a later heap -/
theorem ExK.outS {Z : List Addr} {H0 H1 : Hp} {x : Exn} {m' : MS} (h : ExK X c Z H0 x m') (s : SameW c.W H0 H1) : ExK X c Z H1 x m' := h.step s
theorem fs_if {t : Expr} {a b : List Stmt} {T : SE → M Bool} {F G : SE → M Ctl} {pos : Pos} (ht : FT X c U t T) (ha : FSs X c UL U a F Un) (hb : FSs X c UL U b G Un) : FS X c UL U (.If t a b pos) (sIf T F G) Un := by
  obtain ⟨tt, pt, rt⟩ := ht
  obtain ⟨ta, pa, ra⟩ := ha
  obtain ⟨tb, pb, rb⟩ := hb
  refine ⟨_, ps_if pt pa pb, fun Z H0 O en σ H m Ds hE hG => rt Z H0 O en σ H m _ hE (hG.bd.mono (fun bo m1 k1 H1 s1 d1 => ?_) fun _ _ k => k.out hE)⟩
  cases bo with
  | true => exact ra Z H0 O en σ H1 m1 Ds (hE.step s1 d1) k1
  | false => exact rb Z H0 O en σ H1 m1 Ds (hE.step s1 d1) k1

/-! ### lists of one's own -/
def lstAt (i : Nat) (en : SE) : Option (List D) := match en[i]? with
  | some (some (.list ds)) => some ds
  | _ => none
theorem lstAt_some {i : Nat} {en : SE} {ds : List D} (h : lstAt i en = some ds) : en[i]? = some (some (.list ds)) := by
  unfold lstAt at h
  split at h
  · rename_i q
    cases h
    exact q
  · cases h
/-- an owned list -/
theorem EnvOk.ownL {K : PySem.W.Frag} {W : Option Wd} {ms : List Nat} {dk : Nat → Kd} {Z : List Addr} {H0 H : Hp} {U : List Nat} {O : List (Nat × Addr)} {e : SE} {σ : St} {m : MS} (h : EnvOk K W ms dk Z H0 U O e σ H m) {i : Nat} (hi : i ∈ U) {ds : List D} (he : lstAt i e = some ds) :
    ∃ a vs, (i, a) ∈ O ∧ σ[i]? = some (some (.ref a)) ∧ H a = some (.lst vs) ∧ DqAll K (hide (ZO Z O) H) vs ds ∧ dk i = .dat := by
  obtain ⟨a, o, h1, h2, h3, h4, h5⟩ := h.owned hi (lstAt_some he)
  cases h4 with
  | lst _ vs hv => exact ⟨a, vs, h1, h2, h3, hv, h5⟩
/-- a write to an owned list, a list of the kind -/
theorem EnvOk.writeL {K : PySem.W.Frag} {W : Option Wd} {ms : List Nat} {dk : Nat → Kd} {Z : List Addr} {H0 H : Hp} {U : List Nat} {O : List (Nat × Addr)} {e : SE} {σ : St} {m : MS} (h : EnvOk K W ms dk Z H0 U O e σ H m) {i : Nat} {a : Addr} (hp : (i, a) ∈ O) (hk : dk i = .dat) {ds : List D} {vs : List V} (r : DqAll K (hide (ZO Z O) H) vs ds) :
    EnvOk K W ms dk Z H0 U O (e.set i (some (.list ds))) σ (upd H a (.lst vs)) m := h.write hp (.lst ds vs r) hk
/-- xs.m(e): how the method turns the list, and what it gives -/
def sMeth (i : Nat) (g : List D → D → Option (List D)) (F : SE → M D) : SE → M Ctl := fun en => do
  let ds ← lft (lstAt i en)
  let d ← F en
  let r ← lft (g ds d)
  pure (.nx (en.set i (some (.list r))))
theorem own_line {n : Nat} (h : n < lineN) : n < sizeLine := Nat.lt_of_lt_of_le h lineN_le
def appD (xs : List D) (d : D) : Option (List D) := if xs.length < lineN then some (xs ++ [d]) else none
theorem fs_append (i : Nat) {x : Str} {e : Expr} {F : SE → M D} {px apos cpos pos : Pos} (h : FE X c U e F) (hU : i ∈ U := by decide) (hN : X.N[i]? = some x := by rfl) (hv : Vis X.env.scope x := by first | exact Or.inl rfl | exact Or.inr (Or.inl rfl) | exact Or.inr (Or.inr rfl)) (hd : (x == ("__debug__" : Str)) = false := by decide) (hcd : (x == ("__classdict__" : Str)) = false := by decide)
    (hbase : attributeBase (.Name x px) "append" X.env (eval (.Name x px) X.env) = eval (.Name x px) X.env := by rfl)
    (hfew : ((backTo cpos (starEach [e] X.env)).all (fun x => !x.1) && (backToKw cpos (keywordEach [] X.env)).all (fun x => x.1.isSome)
      && decide (([e] : List Expr).length + ([] : List Keyword).length + (if ([] : List Keyword).isEmpty then 0 else 1) < 30)) = true := by rfl)
    (hline : (apos.endLine == cpos.line) = true := by rfl) (hs : starEach [e] X.env = (false, eval e X.env) :: starEach [] X.env := by rfl) (hplain : (backTo cpos (starEach [] X.env)).any (·.1) = false := by rfl)
    (hsw : swapsWith (.Call (.Attribute (.Name x px) "append" apos) [e] [] cpos) none pos.line X.env = pure false := by rfl) :
    FS X c UL U (.Expr (.Call (.Attribute (.Name x px) "append" apos) [e] [] cpos) pos) (sMeth i appD F) U := by
  obtain ⟨t, p, r⟩ := h
  refine ⟨_, ps_expr (pe_bm PySem.F.plainAttrs_list PySem.F.slot_list_append PySem.F.type_list_append mt_append (pe_var hN hv hd hcd) (pa_cons p pa_nil hs) hbase hfew hline hs hplain) hsw, fun Z H0 O en σ H m Ds hE hG => ?_⟩
  obtain ⟨ds, he, kG⟩ := hG.bd.lft
  obtain ⟨a, vs, h1, h2, h3, h4, h5⟩ := hE.ownL hU he
  refine ⟨_, h2, .inl ⟨rfl, vs, .inl (.inl h3)⟩, r Z H0 O en σ H m _ hE (kG.bd.mono (fun d m1 k1 v H1 s1 d1 q1 => ?_) fun _ _ k => k.out hE)⟩
  obtain ⟨rs, hr, k2⟩ := k1.bd.lft
  have hz : ds.length < lineN := by
    unfold appD at hr
    by_cases hz : ds.length < lineN
    · exact hz
    · rw [if_neg hz] at hr
      cases hr
  unfold appD at hr
  rw [if_pos hz] at hr
  cases hr
  have E1 := hE.step s1 d1
  have h3' : H1 a = some (.lst vs) := s1 _ _ (hE.onw h1) h3
  refine ⟨a, vs, v, rfl, rfl, h3', by rw [DqAll.length h4]; exact own_line hz, k2 O σ _ (E1.writeL h1 h5 (DqAll.append (DqAll.mono (s1.hide hE.wzo) h4) (DqAll.one q1)))⟩
def extD (xs : List D) (d : D) : Option (List D) := match d with
  | .list ys => if xs.length + ys.length ≤ lineN then some (xs ++ ys) else none
  | _ => none
theorem fs_extend (i : Nat) {x : Str} {e : Expr} {F : SE → M D} {px apos cpos pos : Pos} (h : FO X c U .dat e F) (hU : i ∈ U := by decide) (hN : X.N[i]? = some x := by rfl) (hv : Vis X.env.scope x := by first | exact Or.inl rfl | exact Or.inr (Or.inl rfl) | exact Or.inr (Or.inr rfl)) (hd : (x == ("__debug__" : Str)) = false := by decide) (hcd : (x == ("__classdict__" : Str)) = false := by decide)
    (hbase : attributeBase (.Name x px) "extend" X.env (eval (.Name x px) X.env) = eval (.Name x px) X.env := by rfl)
    (hfew : ((backTo cpos (starEach [e] X.env)).all (fun x => !x.1) && (backToKw cpos (keywordEach [] X.env)).all (fun x => x.1.isSome)
      && decide (([e] : List Expr).length + ([] : List Keyword).length + (if ([] : List Keyword).isEmpty then 0 else 1) < 30)) = true := by rfl)
    (hline : (apos.endLine == cpos.line) = true := by rfl) (hs : starEach [e] X.env = (false, eval e X.env) :: starEach [] X.env := by rfl) (hplain : (backTo cpos (starEach [] X.env)).any (·.1) = false := by rfl)
    (hsw : swapsWith (.Call (.Attribute (.Name x px) "extend" apos) [e] [] cpos) none pos.line X.env = pure false := by rfl) :
    FS X c UL U (.Expr (.Call (.Attribute (.Name x px) "extend" apos) [e] [] cpos) pos) (sMeth i extD F) U := by
  obtain ⟨t, p, r⟩ := h
  refine ⟨_, ps_expr (pe_bm PySem.F.plainAttrs_list PySem.F.slot_list_extend PySem.F.type_list_extend mt_extend (pe_var hN hv hd hcd) (pa_cons p pa_nil hs) hbase hfew hline hs hplain) hsw, fun Z H0 O en σ H m Ds hE hG => ?_⟩
  obtain ⟨ds, he, kG⟩ := hG.bd.lft
  obtain ⟨a, vs, h1, h2, h3, h4, h5⟩ := hE.ownL hU he
  refine ⟨_, h2, .inl ⟨rfl, vs, .inl (.inl h3)⟩, r Z H0 O en σ H m _ hE (kG.bd.mono (fun d m1 k1 b o H1 s1 d1 n1 o1 q1 b1 => ?_) fun _ _ k => k.out hE)⟩
  obtain ⟨rs, hr, k2⟩ := k1.bd.lft
  cases q1 with
  | dic _ _ h => cases h <;> cases b1
  | lst ys ws q1 =>
    have hr : (if ds.length + ys.length ≤ lineN then some (ds ++ ys) else none) = some rs := hr
    by_cases hz : ds.length + ys.length ≤ lineN
    · rw [if_pos hz] at hr
      cases hr
      have E1 := hE.step s1 d1
      have h3' : H1 a = some (.lst vs) := s1 _ _ (hE.onw h1) h3
      exact ⟨a, b, vs, ws, rfl, rfl, h3', o1, by rw [DqAll.length h4, DqAll.length q1]; exact Nat.le_trans hz lineN_le, k2 O σ _ (E1.writeL h1 h5 (DqAll.append (DqAll.mono (s1.hide hE.wzo) h4) (DqAll.mono (hide_sub fun b hb => List.mem_cons_of_mem _ hb) q1)))⟩
    · rw [if_neg hz] at hr
      cases hr
/-- xs[i] = e -/
def setIx (xs : List D) (k d : D) : Option (List D) := match k with
  | .int k => (ixN xs.length k).map fun j => xs.set j d
  | _ => none
def sSetIx (i : Nat) (Fk F : SE → M D) : SE → M Ctl := fun en => do
  let d ← F en
  let ds ← lft (lstAt i en)
  let k ← Fk en
  let r ← lft (setIx ds k d)
  pure (.nx (en.set i (some (.list r))))
theorem setIx_some {xs ys : List D} {k d : D} (h : setIx xs k d = some ys) : ∃ (i : Int) (j : Nat), k = .int i ∧ ixN xs.length i = some j ∧ ys = xs.set j d := by
  unfold setIx at h
  split at h
  · obtain ⟨j, h1, h2⟩ := Option.map_eq_some_iff.mp h
    exact ⟨_, j, rfl, h1, h2.symm⟩
  · cases h
theorem fs_setIx (i : Nat) {x : Str} {ei e : Expr} {Fk F : SE → M D} {px spos pos : Pos} (hk : FE X c U ei Fk) (h : FE X c U e F) (hU : i ∈ U := by decide) (hN : X.N[i]? = some x := by rfl) (hv : Vis X.env.scope x := by first | exact Or.inl rfl | exact Or.inr (Or.inl rfl) | exact Or.inr (Or.inr rfl)) (hd : (x == ("__debug__" : Str)) = false := by decide) (hcd : (x == ("__classdict__" : Str)) = false := by decide)
    (ha : ∀ v, assign (.Subscript (.Name x px) ei spos) X.env v = (do
      let ov ← holding [v] (eval (.Name x px) X.env)
      let iv ← holding [v, ov] (eval ei X.env)
      standAt spos
      holding [v, ov, iv] (setItem ov iv v)
      release [v, ov, iv] []) := by intro _; rfl)
    (hs : swapsWithSole [.Subscript (.Name x px) ei spos] e pos.line X.env = pure false := by rfl) (hw : swappedStores [.Subscript (.Name x px) ei spos] e X.env = pure none := by rfl)
    (h1 : (assignEach [.Subscript (.Name x px) ei spos] X.env).map (·.2) = [assign (.Subscript (.Name x px) ei spos) X.env] := by rfl) :
    FS X c UL U (.Assign [.Subscript (.Name x px) ei spos] e pos) (sSetIx i Fk F) U := by
  obtain ⟨tk, pk, rk⟩ := hk
  obtain ⟨t, p, r⟩ := h
  refine ⟨_, ps_asg p (pg_sub (pe_var hN hv hd hcd) pk set_list ha) hs hw h1, fun Z H0 O en σ H m Ds hE hG => ?_⟩
  refine r Z H0 O en σ H m _ hE (hG.bd.mono (fun d m1 k1 v H1 s1 d1 q1 => ?_) fun _ _ k => k.out hE)
  have E1 := hE.step s1 d1
  obtain ⟨ds, he, k1⟩ := k1.bd.lft
  obtain ⟨a, vs, h1, h2, h3, h4, h5⟩ := E1.ownL hU he
  refine ⟨_, h2, rk Z H0 O en σ H1 m1 _ E1 (k1.bd.mono (fun kd m2 k2 w H2 s2 d2 q2 => ?_) fun _ _ k => k.out E1)⟩
  obtain ⟨rs, hr, k3⟩ := k2.bd.lft
  obtain ⟨n, j, rfl, hj, rfl⟩ := setIx_some hr
  cases (show Dq X.K _ w (.int n) from q2)
  have E2 := E1.step s2 d2
  refine ⟨a, vs, n, j, rfl, rfl, s2 _ _ (E1.onw h1) h3, by rw [DqAll.length h4]; exact hj, ?_⟩
  exact k3 O σ _ (E2.writeL h1 h5 (DqAll.set (Dq.mono (s2.hide hE.wzo) q1) j (DqAll.mono (s2.hide hE.wzo) h4)))
/-! ### name op= e -/
def IpV (X : Cx) (op : Operator) (g : D → D → Option D) : Prop := OpV X (inplaceOp op) g
def sAug (i : Nat) (g : D → D → Option D) (F : SE → M D) : SE → M Ctl := fun en => do
  let a ← eVar i en
  let b ← F en
  let d ← lft (g a b)
  pure (.nx (en.set i (some d)))
theorem iv_add : IpV X .Add (fun a b => match a, b with | .int i, .int j => some (.int (i + j)) | _, _ => none) := opv_ints0 iop_add fun a b d h => by
  cases a <;> first | cases h | skip
  cases b <;> first | cases h | skip
  exact ⟨_, _, rfl, rfl, fun _ => .int _⟩
theorem iv_sub : IpV X .Sub subD := opv_ints0 iop_sub fun a b d h => by
  cases a <;> first | cases h | skip
  cases b <;> first | cases h | skip
  exact ⟨_, _, rfl, rfl, fun _ => .int _⟩
theorem fs_aug (i : Nat) {x : Str} {e : Expr} {F : SE → M D} {op : Operator} {g : D → D → Option D} {px pos : Pos} (ho : IpV X op g) (h : FE X c U e F) (hN : X.N.Nodup) (hk : c.dk i = .dat := by rfl) (hU : i ∉ U := by decide) (hm : i ∉ c.ms := by (try dsimp only); decide) (hi : X.N[i]? = some x := by rfl)
    (hx : Loc X.env.scope x := by first | exact Or.inl rfl | exact Or.inr rfl) (hf : X.fn x = true ∨ X.env.scope.names.lookup x = some .local := by first | exact .inl rfl | exact .inr rfl) :
    FS X c UL U (.AugAssign (.Name x px) op e pos) (sAug i g F) U := by
  obtain ⟨t, p, r⟩ := h
  obtain ⟨ro, po, qo⟩ := ho
  refine ⟨_, ps_aug hN hi hx p po hf, fun Z H0 O en σ H m Ds hE hG => ?_⟩
  obtain ⟨a, he, k1⟩ := eVar_good hG.bd
  obtain ⟨v, h1, h2⟩ := hE.rep i a he hU
  rw [hk] at h2
  refine ⟨v, h1, r Z H0 O en σ H m _ hE (k1.bd.mono (fun b m1 k2 w H1 s1 d1 q1 => ?_) fun _ _ k => k.out hE)⟩
  obtain ⟨d, hg, k3⟩ := k2.bd.lft
  have E1 := hE.step s1 d1
  refine qo (ZO Z O) v w H1 a b d _ E1.zt (.inl (Rp.of (Dq.mono (s1.hide hE.wzo) h2))) (.inl (Rp.of q1)) hg fun u H2 s2 q2 => ?_
  exact k3 O _ H2 ((E1.grow s2).put' hU hm (by rw [hk]; exact q2))
end
end VL
/-! the value layer: dicts, several names at once -/
namespace VL
open PySem
open PySem.Spec
open L2

/-! ### dicts by data: the keys of a type κ -/
def asK : D → Option Key
  | .int i => some (.inl i)
  | .str x => some (.inr x)
  | _ => none
def asKs : List D → Option (List Key)
  | [] => some []
  | d :: ds => match asK d, asKs ds with
    | some k, some ks => some (k :: ks)
    | _, _ => none
def asT : D → Option (List Key)
  | .tuple xs => asKs xs
  | _ => none
theorem asK_keyD (k : Key) : asK (keyD k) = some k := by
  cases k <;> rfl
theorem asK_some {d : D} {k : Key} (h : asK d = some k) : d = keyD k := by
  cases d <;> first | cases h | skip
  · rfl
  · rfl
theorem asKs_map : ∀ ks : List Key, asKs (ks.map keyD) = some ks
  | [] => rfl
  | k :: ks => by
    rw [List.map_cons]
    unfold asKs
    rw [asK_keyD, asKs_map ks]
theorem asKs_some : ∀ {ds : List D} {ks : List Key}, asKs ds = some ks → ds = ks.map keyD
  | [], ks, h => by
    cases h
    rfl
  | d :: ds, ks, h => by
    unfold asKs at h
    cases q : asK d with
    | none => rw [q] at h; cases h
    | some k =>
      cases r : asKs ds with
      | none => rw [q, r] at h; cases h
      | some ks' =>
        rw [q, r] at h
        cases h
        rw [asK_some q, asKs_some r]
        rfl
theorem asT_keyT (k : List Key) : asT (keyT k) = some k := asKs_map k
theorem asT_some {d : D} {k : List Key} (h : asT d = some k) : d = keyT k := by
  cases d <;> first | cases h | skip
  exact congrArg PyData.tuple (asKs_some h)
section gen
variable {κ : Type} [DecidableEq κ] {kd : κ → D} {as : D → Option κ}
/-- the value of a key -/
def dg (as : D → Option κ) (kvs : List (D × D)) (k : κ) : Option D := (kvs.find? fun kv => decide (as kv.1 = some k)).map (·.2)
def dp (kd : κ → D) (as : D → Option κ) (kvs : List (D × D)) (k : κ) (d : D) : List (D × D) :=
  if (kvs.any fun kv => decide (as kv.1 = some k)) = true then kvs.map (fun kv => if as kv.1 = some k then (kv.1, d) else kv) else kvs ++ [(kd k, d)]
theorem valG {K : PySem.W.Frag} {H : Hp} (has : ∀ k, as (kd k) = some k) (k : κ) : ∀ {ks : List κ} {vs : List V} {ds : List D}, DqAll K H vs ds → ks.length = vs.length →
    (dg as ((ks.map kd).zip ds) k = none ∧ valV (ks.zip vs) k = none) ∨ ∃ d v, dg as ((ks.map kd).zip ds) k = some d ∧ valV (ks.zip vs) k = some v ∧ Dq K H v d
  | [], vs, ds, _, _ => .inl ⟨rfl, rfl⟩
  | k0 :: ks, vs, ds, h, hl => by
    cases h with
    | nil => cases hl
    | @cons v vs d ds h1 h2 =>
      have ih := valG has k h2 (by simpa using hl)
      have e1 : dg as (((k0 :: ks).map kd).zip (d :: ds)) k = if k0 = k then some d else dg as ((ks.map kd).zip ds) k := by
        unfold dg
        rw [List.map_cons, List.zip_cons_cons, List.find?_cons, has]
        by_cases q : k0 = k
        · rw [if_pos q, decide_eq_true (by rw [q])]
          rfl
        · rw [if_neg q, decide_eq_false (by intro t; exact q (Option.some.inj t))]
      have e2 : valV ((k0 :: ks).zip (v :: vs)) k = if k0 = k then some v else valV (ks.zip vs) k := by
        rw [List.zip_cons_cons]
        by_cases q : k0 = k
        · rw [if_pos q]
          exact valV_pos q
        · rw [if_neg q]
          exact valV_neg q
      rw [e1, e2]
      by_cases q : k0 = k
      · rw [if_pos q, if_pos q]
        exact .inr ⟨d, v, rfl, rfl, h1⟩
      · rw [if_neg q, if_neg q]
        exact ih
theorem anyG (has : ∀ k, as (kd k) = some k) (k : κ) : ∀ {ks : List κ} {vs : List V} {ds : List D}, ks.length = vs.length → vs.length = ds.length →
    (((ks.map kd).zip ds).any fun kv => decide (as kv.1 = some k)) = ((ks.zip vs).any fun kv => decide (kv.1 = k))
  | [], _, _, _, _ => by simp
  | k0 :: ks, [], _, h, _ => by cases h
  | k0 :: ks, _ :: _, [], _, h => by cases h
  | k0 :: ks, v :: vs, d :: ds, h, h' => by
    have ih := anyG has k (ks := ks) (vs := vs) (ds := ds) (by simpa using h) (by simpa using h')
    rw [List.map_cons, List.zip_cons_cons, List.zip_cons_cons, List.any_cons, List.any_cons, ih, has]
    congr 1
    by_cases q : k0 = k
    · rw [decide_eq_true q, decide_eq_true (by rw [q])]
    · rw [decide_eq_false q, decide_eq_false (by intro t; exact q (Option.some.inj t))]
theorem mapG {K : PySem.W.Frag} {H : Hp} (has : ∀ k, as (kd k) = some k) (k : κ) {v : V} {d : D} (hd : Dq K H v d) : ∀ {ks : List κ} {vs : List V} {ds : List D}, DqAll K H vs ds → ks.length = vs.length →
    ∃ vs' ds', DqAll K H vs' ds' ∧ ks.length = vs'.length ∧ ((ks.map kd).zip ds).map (fun kv => if as kv.1 = some k then (kv.1, d) else kv) = (ks.map kd).zip ds' ∧ (ks.zip vs).map (fun kv => if kv.1 = k then (kv.1, v) else kv) = ks.zip vs'
  | [], _, _, _, _ => ⟨[], [], .nil, rfl, by simp, by simp⟩
  | k0 :: ks, vs, ds, h, hl => by
    cases h with
    | nil => cases hl
    | @cons v0 vs d0 ds h1 h2 =>
      obtain ⟨vs', ds', q1, q2, q3, q4⟩ := mapG has k hd h2 (by simpa using hl)
      by_cases q : k0 = k
      · refine ⟨v :: vs', d :: ds', .cons hd q1, by simpa using q2, ?_, ?_⟩
        · rw [List.map_cons, List.zip_cons_cons, List.map_cons, q3, List.zip_cons_cons]
          simp [has, q]
        · rw [List.zip_cons_cons, List.map_cons, q4, List.zip_cons_cons]
          simp [q]
      · refine ⟨v0 :: vs', d0 :: ds', .cons h1 q1, by simpa using q2, ?_, ?_⟩
        · rw [List.map_cons, List.zip_cons_cons, List.map_cons, q3, List.zip_cons_cons]
          simp [has, q]
        · rw [List.zip_cons_cons, List.map_cons, q4, List.zip_cons_cons]
          simp [q]
theorem zip_snoc {α β : Type} : ∀ {xs : List α} {ys : List β} {a : α} {b : β}, xs.length = ys.length → (xs ++ [a]).zip (ys ++ [b]) = xs.zip ys ++ [(a, b)]
  | [], [], _, _, _ => rfl
  | x :: xs, y :: ys, a, b, h => by
    have := zip_snoc (xs := xs) (ys := ys) (a := a) (b := b) (by simpa using h)
    simp [this]
  | [], _ :: _, _, _, h => by cases h
  | _ :: _, [], _, _, h => by cases h
/-- a store, both ways -/
theorem putG {K : PySem.W.Frag} {H : Hp} (has : ∀ k, as (kd k) = some k) {k : κ} {v : V} {d : D} (hd : Dq K H v d) {ks : List κ} {vs : List V} {ds : List D} (h : DqAll K H vs ds) (hl : ks.length = vs.length) :
    ∃ (ks' : List κ) (vs' : List V) (ds' : List D), DqAll K H vs' ds' ∧ ks'.length = vs'.length ∧ dp kd as ((ks.map kd).zip ds) k d = (ks'.map kd).zip ds' ∧ putK (ks.zip vs) k v = ks'.zip vs' := by
  unfold dp putK
  rw [anyG has k hl (DqAll.length h)]
  by_cases q : ((ks.zip vs).any fun kv => decide (kv.1 = k)) = true
  · rw [if_pos q, if_pos q]
    obtain ⟨vs', ds', q1, q2, q3, q4⟩ := mapG has k hd h hl
    exact ⟨ks, vs', ds', q1, q2, q3, q4⟩
  · rw [if_neg q, if_neg q]
    refine ⟨ks ++ [k], vs ++ [v], ds ++ [d], DqAll.append h (DqAll.one hd), by simp [hl], ?_, by rw [zip_snoc hl]⟩
    have e : (ks ++ [k]).map kd = ks.map kd ++ [kd k] := by simp
    rw [e, zip_snoc (by rw [List.length_map, hl, DqAll.length h])]
end gen
def dgK := dg asK
def dgT := dg asT
def dpK := dp keyD asK
def dpT := dp keyT asT
section
variable {X : Cx} {c : Ct} {U Un UL : List Nat}
def dicAt (i : Nat) (en : SE) : Option (List (D × D)) := match en[i]? with
  | some (some (.dict ds)) => some ds
  | _ => none
theorem dicAt_some {i : Nat} {en : SE} {ds : List (D × D)} (h : dicAt i en = some ds) : en[i]? = some (some (.dict ds)) := by
  unfold dicAt at h
  split at h
  · rename_i q
    cases h
    exact q
  · cases h
/-- the dict in a slot, owned or not -/
theorem EnvOk.dicR {K : PySem.W.Frag} {W : Option Wd} {ms : List Nat} {dk : Nat → Kd} {Z : List Addr} {H0 H : Hp} {U : List Nat} {O : List (Nat × Addr)} {e : SE} {σ : St} {m : MS} (h : EnvOk K W ms dk Z H0 U O e σ H m) {i : Nat} {kvs : List (D × D)} (he : dicAt i e = some kvs) (hk : dk i = .dic) :
    ∃ (a : Addr) (ks : List Key) (vs : List V) (ds : List D), σ[i]? = some (some (.ref a)) ∧ H a = some (.dK (ks.zip vs)) ∧ kvs = (ks.map keyD).zip ds ∧ DqAll K (hide (ZO Z O) H) vs ds ∧ ks.length = vs.length ∧ (∀ w, W = some w → a ≠ w.am ∧ a ≠ w.gA) ∧ (i ∈ U → (i, a) ∈ O) := by
  have he := dicAt_some he
  by_cases hi : i ∈ U
  · obtain ⟨a, o, h1, h2, h3, h4, h5⟩ := h.owned hi he
    cases h4 with
    | dic _ _ h4 =>
      cases h4 with
      | k ks vs ds hv hl => exact ⟨a, ks, vs, ds, h2, h3, rfl, hv, hl, h.onw h1, fun _ => h1⟩
      | t ks vs ds hv hl => rw [hk] at h5; cases h5
  · obtain ⟨v, h1, h2⟩ := h.rep i _ he hi
    rw [hk] at h2
    obtain ⟨a, kvs', l, rfl, e2, h3, h4⟩ := h2
    cases e2
    have h3' := hide_some h3
    generalize eo : HO.dK l = o at h4
    cases h4 with
    | t ks vs ds hv hl => cases eo
    | k ks vs ds hv hl =>
      cases eo
      refine ⟨a, ks, vs, ds, h1, h3'.2, rfl, hv, hl, fun w q => ?_, fun q => absurd q hi⟩
      obtain ⟨w1, w2, w3⟩ := h.wzo w q
      exact ⟨fun t => h3'.1 (t ▸ w1), fun t => h3'.1 (t ▸ w3)⟩
theorem EnvOk.ditR {K : PySem.W.Frag} {W : Option Wd} {ms : List Nat} {dk : Nat → Kd} {Z : List Addr} {H0 H : Hp} {U : List Nat} {O : List (Nat × Addr)} {e : SE} {σ : St} {m : MS} (h : EnvOk K W ms dk Z H0 U O e σ H m) {i : Nat} {kvs : List (D × D)} (he : dicAt i e = some kvs) (hk : dk i = .dit) :
    ∃ (a : Addr) (ks : List (List Key)) (vs : List V) (ds : List D), σ[i]? = some (some (.ref a)) ∧ H a = some (.dT (ks.zip vs)) ∧ kvs = (ks.map keyT).zip ds ∧ DqAll K (hide (ZO Z O) H) vs ds ∧ ks.length = vs.length ∧ (∀ w, W = some w → a ≠ w.am ∧ a ≠ w.gA) ∧ (i ∈ U → (i, a) ∈ O) := by
  have he := dicAt_some he
  by_cases hi : i ∈ U
  · obtain ⟨a, o, h1, h2, h3, h4, h5⟩ := h.owned hi he
    cases h4 with
    | dic _ _ h4 =>
      cases h4 with
      | t ks vs ds hv hl => exact ⟨a, ks, vs, ds, h2, h3, rfl, hv, hl, h.onw h1, fun _ => h1⟩
      | k ks vs ds hv hl => rw [hk] at h5; cases h5
  · obtain ⟨v, h1, h2⟩ := h.rep i _ he hi
    rw [hk] at h2
    obtain ⟨a, kvs', l, rfl, e2, h3, h4⟩ := h2
    cases e2
    have h3' := hide_some h3
    generalize eo : HO.dT l = o at h4
    cases h4 with
    | k ks vs ds hv hl => cases eo
    | t ks vs ds hv hl =>
      cases eo
      refine ⟨a, ks, vs, ds, h1, h3'.2, rfl, hv, hl, fun w q => ?_, fun q => absurd q hi⟩
      obtain ⟨w1, w2, w3⟩ := h.wzo w q
      exact ⟨fun t => h3'.1 (t ▸ w1), fun t => h3'.1 (t ▸ w3)⟩
theorem Dq.key {K : PySem.W.Frag} {H : Hp} {v : V} {k : Key} (h : Dq K H v (keyD k)) : v = kV k := by
  cases k with
  | inl i =>
    cases (show Dq K H v (.int i) from h)
    rfl
  | inr x =>
    cases (show Dq K H v (.str x) from h)
    rfl
theorem DzAll.keys {K : PySem.W.Frag} {H : Hp} : ∀ {ks : List Key} {vs : List V}, DzAll K H vs (ks.map keyD) → vs = ks.map kV
  | [], _, h => by cases h; rfl
  | k :: ks, _, h => by
    cases h with
    | cons h1 h2 =>
      rw [Dq.key (Dz.dq h1), DzAll.keys h2]
      rfl
theorem Dz.key {K : PySem.W.Frag} {H : Hp} {v : V} {k : List Key} (h : Dz K H v (keyT k)) : ∃ b, v = .ref b ∧ H b = some (.tup (k.map kV)) := by
  have h : Dz K H v (.tuple (k.map keyD)) := h
  cases h with
  | tup h1 h2 => exact ⟨_, rfl, by rw [h1, DzAll.keys h2]⟩
/-- d[k], the dict's name -/
def eDgK (i : Nat) (F : SE → M D) : SE → M D := fun en => do
  let kvs ← lft (dicAt i en)
  let k ← F en
  lft ((asK k).bind (dgK kvs))
def eDgT (i : Nat) (F : SE → M D) : SE → M D := fun en => do
  let kvs ← lft (dicAt i en)
  let k ← F en
  lft ((asT k).bind (dgT kvs))
theorem fe_dgK (i : Nat) {x : Str} {e : Expr} {F : SE → M D} {px pos : Pos} (hu : X.A.units + 1 < cLine) (h : FE X c U e F) (hk : c.dk i = .dic := by rfl) (hN : X.N[i]? = some x := by rfl) (hv : Vis X.env.scope x := by first | exact Or.inl rfl | exact Or.inr (Or.inl rfl) | exact Or.inr (Or.inr rfl)) (hd : (x == ("__debug__" : Str)) = false := by decide) (hcd : (x == ("__classdict__" : Str)) = false := by decide) (hs : NoSl e := by intro _ _; rfl) :
    FE X c U (.Subscript (.Name x px) e pos) (eDgK i F) := by
  obtain ⟨t, p, r⟩ := h
  refine ⟨_, pe_dget hu (pe_var hN hv hd hcd) p hs, fun Z H0 O en σ H m Q hE hG => ?_⟩
  obtain ⟨kvs, he, kG⟩ := hG.bd.lft
  obtain ⟨a, ks, vs, ds, h1, h2, rfl, h4, h5, h6, h7⟩ := hE.dicR he hk
  refine ⟨_, h1, r Z H0 O en σ H m _ hE (kG.bd.mono (fun kd m1 k1 y H1 s1 d1 q1 => ?_) fun _ _ k => k)⟩
  obtain ⟨d, hb, k2⟩ := k1.lft
  obtain ⟨k, hk1, hk2⟩ := Option.bind_eq_some_iff.mp hb
  obtain rfl := asK_some hk1
  obtain rfl := Dq.key (show Dq X.K _ y (keyD k) from q1)
  have h2' : H1 a = some (.dK (ks.zip vs)) := s1 _ _ h6 h2
  rcases valG asK_keyD k h4 h5 with ⟨z, _⟩ | ⟨d', v, z1, z2, z3⟩
  · have hk2 : dg asK ((ks.map keyD).zip ds) k = some d := hk2
    rw [z] at hk2
    cases hk2
  · have hk2 : dg asK ((ks.map keyD).zip ds) k = some d := hk2
    rw [z1] at hk2
    cases hk2
    exact ⟨a, v, rfl, by rw [← z2]; exact DGet.k h2', k2 v H1 s1 d1 (Dq.mono (s1.hide hE.wzo) z3)⟩
theorem fe_dgT (i : Nat) {x : Str} {e : Expr} {F : SE → M D} {px pos : Pos} (hu : X.A.units + 1 < cLine) (h : FR X c U .pl e F) (hk : c.dk i = .dit := by rfl) (hN : X.N[i]? = some x := by rfl) (hv : Vis X.env.scope x := by first | exact Or.inl rfl | exact Or.inr (Or.inl rfl) | exact Or.inr (Or.inr rfl)) (hd : (x == ("__debug__" : Str)) = false := by decide) (hcd : (x == ("__classdict__" : Str)) = false := by decide) (hs : NoSl e := by intro _ _; rfl) :
    FE X c U (.Subscript (.Name x px) e pos) (eDgT i F) := by
  obtain ⟨t, p, r⟩ := h
  refine ⟨_, pe_dget hu (pe_var hN hv hd hcd) p hs, fun Z H0 O en σ H m Q hE hG => ?_⟩
  obtain ⟨kvs, he, kG⟩ := hG.bd.lft
  obtain ⟨a, ks, vs, ds, h1, h2, rfl, h4, h5, h6, h7⟩ := hE.ditR he hk
  refine ⟨_, h1, r Z H0 O en σ H m _ hE (kG.bd.mono (fun kd m1 k1 y H1 s1 d1 q1 => ?_) fun _ _ k => k)⟩
  obtain ⟨d, hb, k2⟩ := k1.lft
  obtain ⟨k, hk1, hk2⟩ := Option.bind_eq_some_iff.mp hb
  obtain rfl := asT_some hk1
  obtain ⟨b, rfl, hb'⟩ := Dz.key (show Dz X.K _ y (keyT k) from q1)
  have h2' : H1 a = some (.dT (ks.zip vs)) := s1 _ _ h6 h2
  rcases valG asT_keyT k h4 h5 with ⟨z, _⟩ | ⟨d', v, z1, z2, z3⟩
  · have hk2 : dg asT ((ks.map keyT).zip ds) k = some d := hk2
    rw [z] at hk2
    cases hk2
  · have hk2 : dg asT ((ks.map keyT).zip ds) k = some d := hk2
    rw [z1] at hk2
    cases hk2
    exact ⟨a, v, rfl, by rw [← z2]; exact DGet.t h2' (hide_some hb').2, k2 v H1 s1 d1 (Dq.mono (s1.hide hE.wzo) z3)⟩
/-- k in d, k not in d -/
def eDin (neg : Bool) (has : List (D × D) → D → Option Bool) (i : Nat) (F : SE → M D) : SE → M Bool := fun en => do
  let k ← F en
  let kvs ← lft (dicAt i en)
  let b ← lft (has kvs k)
  pure (if neg = true then !b else b)
def hasK (kvs : List (D × D)) (d : D) : Option Bool := (asK d).map fun k => (dgK kvs k).isSome
def hasT (kvs : List (D × D)) (d : D) : Option Bool := (asT d).map fun k => (dgT kvs k).isSome
theorem eDin_good {neg : Bool} {has : List (D × D) → D → Option Bool} {i : Nat} {F : SE → M D} {en : SE} {m : MS} {P : Bool → MS → Prop} {R : Exn → MS → Prop} (h : Good (eDin neg has i F en m) P R) :
    Good (F en m) (fun k m' => ∃ kvs b, dicAt i en = some kvs ∧ has kvs k = some b ∧ P (if neg = true then !b else b) m') R := by
  refine h.bd.mono (fun k m1 k1 => ?_) fun _ _ k => k
  obtain ⟨kvs, h1, k2⟩ := k1.bd.lft
  obtain ⟨b, h2, k3⟩ := k2.bd.lft
  exact ⟨kvs, b, h1, h2, k3⟩
theorem ft_dinK (i : Nat) {x : Str} {e : Expr} {F : SE → M D} {px pos : Pos} (hu : X.A.units + 1 < cLine) (h : FE X c U e F) (hk : c.dk i = .dic := by rfl) (hN : X.N[i]? = some x := by rfl) (hv : Vis X.env.scope x := by first | exact Or.inl rfl | exact Or.inr (Or.inl rfl) | exact Or.inr (Or.inr rfl)) (hd : (x == ("__debug__" : Str)) = false := by decide) (hcd : (x == ("__classdict__" : Str)) = false := by decide) :
    FT X c U (.Compare e [.In] [.Name x px] pos) (eDin false hasK i F) := by
  obtain ⟨t, p, r⟩ := h
  refine ⟨_, pt_cmp (pc_din hu p (pe_var hN hv hd hcd)) rfl, fun Z H0 O en σ H m Q hE hG => ?_⟩
  refine r Z H0 O en σ H m _ hE ((eDin_good hG).mono (fun kd m1 ⟨kvs, b, he, hb, k1⟩ y H1 s1 d1 q1 => ?_) fun _ _ k => k)
  have E1 := hE.step s1 d1
  obtain ⟨a, ks, vs, ds, h1, h2, rfl, h4, h5, h6, h7⟩ := E1.dicR he hk
  obtain ⟨k, hk1, rfl⟩ := Option.map_eq_some_iff.mp hb
  obtain rfl := asK_some hk1
  obtain rfl := Dq.key (show Dq X.K _ y (keyD k) from q1)
  refine ⟨_, h1, a, _, rfl, DGet.k h2, (valV (ks.zip vs) k).isSome, rfl, ?_⟩
  have e : (valV (ks.zip vs) k).isSome = (dgK ((ks.map keyD).zip ds) k).isSome := by
    rcases valG asK_keyD k h4 h5 with ⟨z1, z2⟩ | ⟨d', v, z1, z2, z3⟩
    · rw [z2, show dgK ((ks.map keyD).zip ds) k = none from z1]
      rfl
    · rw [z2, show dgK ((ks.map keyD).zip ds) k = some d' from z1]
      rfl
  rw [e]
  exact k1 H1 s1 d1
theorem ft_dninK (i : Nat) {x : Str} {e : Expr} {F : SE → M D} {px pos : Pos} (hu : X.A.units + 1 < cLine) (h : FE X c U e F) (hk : c.dk i = .dic := by rfl) (hN : X.N[i]? = some x := by rfl) (hv : Vis X.env.scope x := by first | exact Or.inl rfl | exact Or.inr (Or.inl rfl) | exact Or.inr (Or.inr rfl)) (hd : (x == ("__debug__" : Str)) = false := by decide) (hcd : (x == ("__classdict__" : Str)) = false := by decide) :
    FT X c U (.Compare e [.NotIn] [.Name x px] pos) (eDin true hasK i F) := by
  obtain ⟨t, p, r⟩ := h
  refine ⟨_, pt_cmp (pc_dnotin hu p (pe_var hN hv hd hcd)) rfl, fun Z H0 O en σ H m Q hE hG => ?_⟩
  refine r Z H0 O en σ H m _ hE ((eDin_good hG).mono (fun kd m1 ⟨kvs, b, he, hb, k1⟩ y H1 s1 d1 q1 => ?_) fun _ _ k => k)
  have E1 := hE.step s1 d1
  obtain ⟨a, ks, vs, ds, h1, h2, rfl, h4, h5, h6, h7⟩ := E1.dicR he hk
  obtain ⟨k, hk1, rfl⟩ := Option.map_eq_some_iff.mp hb
  obtain rfl := asK_some hk1
  obtain rfl := Dq.key (show Dq X.K _ y (keyD k) from q1)
  refine ⟨_, h1, a, _, rfl, DGet.k h2, !(valV (ks.zip vs) k).isSome, rfl, ?_⟩
  have e : (valV (ks.zip vs) k).isSome = (dgK ((ks.map keyD).zip ds) k).isSome := by
    rcases valG asK_keyD k h4 h5 with ⟨z1, z2⟩ | ⟨d', v, z1, z2, z3⟩
    · rw [z2, show dgK ((ks.map keyD).zip ds) k = none from z1]
      rfl
    · rw [z2, show dgK ((ks.map keyD).zip ds) k = some d' from z1]
      rfl
  rw [e]
  exact k1 H1 s1 d1
theorem ft_dinT (i : Nat) {x : Str} {e : Expr} {F : SE → M D} {px pos : Pos} (hu : X.A.units + 1 < cLine) (h : FR X c U .pl e F) (hk : c.dk i = .dit := by rfl) (hN : X.N[i]? = some x := by rfl) (hv : Vis X.env.scope x := by first | exact Or.inl rfl | exact Or.inr (Or.inl rfl) | exact Or.inr (Or.inr rfl)) (hd : (x == ("__debug__" : Str)) = false := by decide) (hcd : (x == ("__classdict__" : Str)) = false := by decide) :
    FT X c U (.Compare e [.In] [.Name x px] pos) (eDin false hasT i F) := by
  obtain ⟨t, p, r⟩ := h
  refine ⟨_, pt_cmp (pc_din hu p (pe_var hN hv hd hcd)) rfl, fun Z H0 O en σ H m Q hE hG => ?_⟩
  refine r Z H0 O en σ H m _ hE ((eDin_good hG).mono (fun kd m1 ⟨kvs, b, he, hb, k1⟩ y H1 s1 d1 q1 => ?_) fun _ _ k => k)
  have E1 := hE.step s1 d1
  obtain ⟨a, ks, vs, ds, h1, h2, rfl, h4, h5, h6, h7⟩ := E1.ditR he hk
  obtain ⟨k, hk1, rfl⟩ := Option.map_eq_some_iff.mp hb
  obtain rfl := asT_some hk1
  obtain ⟨b, rfl, hb'⟩ := Dz.key (show Dz X.K _ y (keyT k) from q1)
  refine ⟨_, h1, a, _, rfl, DGet.t h2 (hide_some hb').2, (valV (ks.zip vs) k).isSome, rfl, ?_⟩
  have e : (valV (ks.zip vs) k).isSome = (dgT ((ks.map keyT).zip ds) k).isSome := by
    rcases valG asT_keyT k h4 h5 with ⟨z1, z2⟩ | ⟨d', v, z1, z2, z3⟩
    · rw [z2, show dgT ((ks.map keyT).zip ds) k = none from z1]
      rfl
    · rw [z2, show dgT ((ks.map keyT).zip ds) k = some d' from z1]
      rfl
  rw [e]
  exact k1 H1 s1 d1
theorem ft_dninT (i : Nat) {x : Str} {e : Expr} {F : SE → M D} {px pos : Pos} (hu : X.A.units + 1 < cLine) (h : FR X c U .pl e F) (hk : c.dk i = .dit := by rfl) (hN : X.N[i]? = some x := by rfl) (hv : Vis X.env.scope x := by first | exact Or.inl rfl | exact Or.inr (Or.inl rfl) | exact Or.inr (Or.inr rfl)) (hd : (x == ("__debug__" : Str)) = false := by decide) (hcd : (x == ("__classdict__" : Str)) = false := by decide) :
    FT X c U (.Compare e [.NotIn] [.Name x px] pos) (eDin true hasT i F) := by
  obtain ⟨t, p, r⟩ := h
  refine ⟨_, pt_cmp (pc_dnotin hu p (pe_var hN hv hd hcd)) rfl, fun Z H0 O en σ H m Q hE hG => ?_⟩
  refine r Z H0 O en σ H m _ hE ((eDin_good hG).mono (fun kd m1 ⟨kvs, b, he, hb, k1⟩ y H1 s1 d1 q1 => ?_) fun _ _ k => k)
  have E1 := hE.step s1 d1
  obtain ⟨a, ks, vs, ds, h1, h2, rfl, h4, h5, h6, h7⟩ := E1.ditR he hk
  obtain ⟨k, hk1, rfl⟩ := Option.map_eq_some_iff.mp hb
  obtain rfl := asT_some hk1
  obtain ⟨b, rfl, hb'⟩ := Dz.key (show Dz X.K _ y (keyT k) from q1)
  refine ⟨_, h1, a, _, rfl, DGet.t h2 (hide_some hb').2, !(valV (ks.zip vs) k).isSome, rfl, ?_⟩
  have e : (valV (ks.zip vs) k).isSome = (dgT ((ks.map keyT).zip ds) k).isSome := by
    rcases valG asT_keyT k h4 h5 with ⟨z1, z2⟩ | ⟨d', v, z1, z2, z3⟩
    · rw [z2, show dgT ((ks.map keyT).zip ds) k = none from z1]
      rfl
    · rw [z2, show dgT ((ks.map keyT).zip ds) k = some d' from z1]
      rfl
  rw [e]
  exact k1 H1 s1 d1
/-- len(d), the dict's name -/
def eDlen (i : Nat) : SE → M D := fun en => do
  let kvs ← lft (dicAt i en)
  pure (.int kvs.length)
/-- d[k] = v -/
def putKq (kvs : List (D × D)) (k d : D) : Option (List (D × D)) := if kvs.length < lineN then (asK k).map fun k => dpK kvs k d else none
def putTq (kvs : List (D × D)) (k d : D) : Option (List (D × D)) := if kvs.length < lineN then (asT k).map fun k => dpT kvs k d else none
def sDput (put : List (D × D) → D → D → Option (List (D × D))) (i : Nat) (Fk F : SE → M D) : SE → M Ctl := fun en => do
  let d ← F en
  let kvs ← lft (dicAt i en)
  let k ← Fk en
  let r ← lft (put kvs k d)
  pure (.nx (en.set i (some (.dict r))))
theorem zip_len {α β : Type} {xs : List α} {ys : List β} (h : xs.length = ys.length) : (xs.zip ys).length = xs.length := by
  rw [List.length_zip]
  omega
theorem fs_dputK (i : Nat) {x : Str} {ei e : Expr} {Fk F : SE → M D} {px spos pos : Pos} (hu : X.A.units + 1 < cLine) (hk : FE X c U ei Fk) (h : FE X c U e F) (hU : i ∈ U := by decide) (hdk : c.dk i = .dic := by rfl) (hN : X.N[i]? = some x := by rfl) (hv : Vis X.env.scope x := by first | exact Or.inl rfl | exact Or.inr (Or.inl rfl) | exact Or.inr (Or.inr rfl)) (hd : (x == ("__debug__" : Str)) = false := by decide) (hcd : (x == ("__classdict__" : Str)) = false := by decide)
    (hs : swapsWith e (some (.Subscript (.Name x px) ei spos)) pos.line X.env = pure false := by rfl) :
    FS X c UL U (.Assign [.Subscript (.Name x px) ei spos] e pos) (sDput putKq i Fk F) U := by
  obtain ⟨tk, pk, rk⟩ := hk
  obtain ⟨t, p, r⟩ := h
  refine ⟨_, ps_dput hu (pe_var hN hv hd hcd) pk p hs, fun Z H0 O en σ H m Ds hE hG => ?_⟩
  refine r Z H0 O en σ H m _ hE (hG.bd.mono (fun d m1 k1 v H1 s1 d1 q1 => ?_) fun _ _ k => k.out hE)
  have E1 := hE.step s1 d1
  obtain ⟨kvs, he, k1⟩ := k1.bd.lft
  obtain ⟨a, ks, vs, ds, h1, h2, rfl, h4, h5, h6, h7⟩ := E1.dicR he hdk
  refine ⟨_, h1, rk Z H0 O en σ H1 m1 _ E1 (k1.bd.mono (fun kd m2 k2 w H2 s2 d2 q2 => ?_) fun _ _ k => k.out E1)⟩
  obtain ⟨rs, hr, k3⟩ := k2.bd.lft
  have E2 := E1.step s2 d2
  have hr : (if ((ks.map keyD).zip ds).length < lineN then (asK kd).map fun k => dpK ((ks.map keyD).zip ds) k d else none) = some rs := hr
  by_cases hz : ((ks.map keyD).zip ds).length < lineN
  · rw [if_pos hz] at hr
    obtain ⟨k, hk1, rfl⟩ := Option.map_eq_some_iff.mp hr
    obtain rfl := asK_some hk1
    obtain rfl := Dq.key (show Dq X.K _ w (keyD k) from q2)
    have h2' : H2 a = some (.dK (ks.zip vs)) := s2 _ _ h6 h2
    have hlen : (ks.zip vs).length < sizeLine := by
      rw [zip_len h5]
      rw [zip_len (by rw [List.length_map, h5, DqAll.length h4]), List.length_map] at hz
      exact own_line hz
    refine ⟨a, _, rfl, DPut.k h2' hlen, ?_⟩
    obtain ⟨ks', vs', ds', w1, w2, w3, w4⟩ := putG asK_keyD (k := k) (Dq.mono (s2.hide hE.wzo) q1) (DqAll.mono (s2.hide hE.wzo) h4) h5
    have w3 : dpK ((ks.map keyD).zip ds) k d = (ks'.map keyD).zip ds' := w3
    rw [w4]
    refine k3 O σ _ (E2.write (h7 hU) ?_ hdk)
    rw [w3]
    exact .dic _ _ (.k ks' vs' ds' w1 w2)
  · rw [if_neg hz] at hr
    cases hr
theorem fs_dputT (i : Nat) {x : Str} {ei e : Expr} {Fk F : SE → M D} {px spos pos : Pos} (hu : X.A.units + 1 < cLine) (hk : FR X c U .pl ei Fk) (h : FE X c U e F) (hU : i ∈ U := by decide) (hdk : c.dk i = .dit := by rfl) (hN : X.N[i]? = some x := by rfl) (hv : Vis X.env.scope x := by first | exact Or.inl rfl | exact Or.inr (Or.inl rfl) | exact Or.inr (Or.inr rfl)) (hd : (x == ("__debug__" : Str)) = false := by decide) (hcd : (x == ("__classdict__" : Str)) = false := by decide)
    (hs : swapsWith e (some (.Subscript (.Name x px) ei spos)) pos.line X.env = pure false := by rfl) :
    FS X c UL U (.Assign [.Subscript (.Name x px) ei spos] e pos) (sDput putTq i Fk F) U := by
  obtain ⟨tk, pk, rk⟩ := hk
  obtain ⟨t, p, r⟩ := h
  refine ⟨_, ps_dput hu (pe_var hN hv hd hcd) pk p hs, fun Z H0 O en σ H m Ds hE hG => ?_⟩
  refine r Z H0 O en σ H m _ hE (hG.bd.mono (fun d m1 k1 v H1 s1 d1 q1 => ?_) fun _ _ k => k.out hE)
  have E1 := hE.step s1 d1
  obtain ⟨kvs, he, k1⟩ := k1.bd.lft
  obtain ⟨a, ks, vs, ds, h1, h2, rfl, h4, h5, h6, h7⟩ := E1.ditR he hdk
  refine ⟨_, h1, rk Z H0 O en σ H1 m1 _ E1 (k1.bd.mono (fun kd m2 k2 w H2 s2 d2 q2 => ?_) fun _ _ k => k.out E1)⟩
  obtain ⟨rs, hr, k3⟩ := k2.bd.lft
  have E2 := E1.step s2 d2
  have hr : (if ((ks.map keyT).zip ds).length < lineN then (asT kd).map fun k => dpT ((ks.map keyT).zip ds) k d else none) = some rs := hr
  by_cases hz : ((ks.map keyT).zip ds).length < lineN
  · rw [if_pos hz] at hr
    obtain ⟨k, hk1, rfl⟩ := Option.map_eq_some_iff.mp hr
    obtain rfl := asT_some hk1
    obtain ⟨b, rfl, hb'⟩ := Dz.key (show Dz X.K _ w (keyT k) from q2)
    have h2' : H2 a = some (.dT (ks.zip vs)) := s2 _ _ h6 h2
    have hlen : (ks.zip vs).length < sizeLine := by
      rw [zip_len h5]
      rw [zip_len (by rw [List.length_map, h5, DqAll.length h4]), List.length_map] at hz
      exact own_line hz
    refine ⟨a, _, rfl, DPut.t h2' (hide_some hb').2 hlen, ?_⟩
    obtain ⟨ks', vs', ds', w1, w2, w3, w4⟩ := putG asT_keyT (k := k) (Dq.mono (s2.hide hE.wzo) q1) (DqAll.mono (s2.hide hE.wzo) h4) h5
    have w3 : dpT ((ks.map keyT).zip ds) k d = (ks'.map keyT).zip ds' := w3
    rw [w4]
    refine k3 O σ _ (E2.write (h7 hU) ?_ hdk)
    rw [w3]
    exact .dic _ _ (.t ks' vs' ds' w1 w2)
  · rw [if_neg hz] at hr
    cases hr
end
end VL
/-! the value layer: loops and comprehensions -/
namespace VL
open PySem
open PySem.Spec
open L2

/-- what a turn yields -/
def YD (K : PySem.W.Frag) (Zs : List Addr) (H1 : Hp) (k : Kd) (ds : List D) : Nat → Hp → V → Hp → Prop := fun i H x H' =>
  Same H H' ∧ ∃ d, ds[i]? = some d ∧ ∀ Zs', (∀ z ∈ Zs', H z ≠ none) → Same (hide Zs H1) (hide Zs' H) → Res K (hide Zs' H') k d x
/-- an iterable: F, what it gives -/
def FI (X : Cx) (c : Ct) (U : List Nat) (k : Kd) (tg e : Expr) (F : SE → M (List D)) : Prop :=
  ∃ wi : TI, PI X tg e wi ∧ ∀ Z H0 O en σ H m R, EnvOk X.K c.W c.ms c.dk Z H0 U O en σ H m →
    Good (F en m) (fun ds m' => ∀ J H1, SameW c.W H H1 → DrawOk c.W H1 m' → Walk J ds.length (fun H' => Same (hide (ZO Z O) H1) H') (YD X.K (ZO Z O) H1 k ds) → R J H1) (fun x m' => ExK X c (ZO Z O) H x m') → wi σ H R
/-- the kinds that items may have -/
def itemK : Kd → Kd
  | .pl => .pl
  | _ => .dat
def iL (g : D → Option (List D)) (F : SE → M D) : SE → M (List D) := fun en => do
  let d ← F en
  lft (g d)
def seqL : D → Option (List D)
  | .list xs => some xs
  | _ => none
def seqT : D → Option (List D)
  | .tuple xs => some xs
  | _ => none
theorem seqL_some {d : D} {xs : List D} (h : seqL d = some xs) : d = .list xs := by
  cases d <;> first | cases h | skip
  rfl
theorem seqT_some {d : D} {xs : List D} (h : seqT d = some xs) : d = .tuple xs := by
  cases d <;> first | cases h | skip
  rfl
/-- items of the kind -/
def ItemsR (K : PySem.W.Frag) (H : Hp) (k : Kd) (vs : List V) (ds : List D) : Prop := vs.length = ds.length ∧ ∀ (i : Nat) (d : D), ds[i]? = some d → ∃ v : V, vs[i]? = some v ∧ Res K H k d v
theorem Res.lstI {K : PySem.W.Frag} {H : Hp} {k : Kd} {xs : List D} {v : V} (h : Res K H k (.list xs) v) : ∃ a vs, v = .ref a ∧ Rd H a (.lst vs) ∧ ItemsR K H (itemK k) vs xs := by
  have dat : Dq K H v (.list xs) → ∃ a vs, v = .ref a ∧ Rd H a (.lst vs) ∧ ItemsR K H .dat vs xs := fun h => by
    obtain ⟨a, vs, h1, h2, h3⟩ := Dq.lstE h
    exact ⟨a, vs, h1, h2, DqAll.length h3, fun i d e => DqAll.get h3 e⟩
  cases k with
  | dat => exact dat h
  | dic =>
    obtain ⟨_, _, _, _, e, _⟩ := h
    cases e
  | dit =>
    obtain ⟨_, _, _, _, e, _⟩ := h
    cases e
  | nd => exact dat h.1
  | pl =>
    have h : Dz K H v (.list xs) := h
    cases h with
    | lst h1 h2 => exact ⟨_, _, rfl, h1, DqAll.length (DzAll.dq h2), fun i d e => DzAll.get h2 e⟩
theorem Res.tupI {K : PySem.W.Frag} {H : Hp} {k : Kd} {xs : List D} {v : V} (h : Res K H k (.tuple xs) v) : ∃ a vs, v = .ref a ∧ Rd H a (.tup vs) ∧ ItemsR K H (itemK k) vs xs := by
  have dat : Dq K H v (.tuple xs) → ∃ a vs, v = .ref a ∧ Rd H a (.tup vs) ∧ ItemsR K H .dat vs xs := fun h => by
    obtain ⟨a, vs, h1, h2, h3⟩ := Dq.tupE h
    exact ⟨a, vs, h1, h2, DqAll.length h3, fun i d e => DqAll.get h3 e⟩
  cases k with
  | dat => exact dat h
  | dic =>
    obtain ⟨_, _, _, _, e, _⟩ := h
    cases e
  | dit =>
    obtain ⟨_, _, _, _, e, _⟩ := h
    cases e
  | nd => exact dat h.1
  | pl =>
    have h : Dz K H v (.tuple xs) := h
    cases h with
    | tup h1 h2 => exact ⟨_, _, rfl, .inl h1, DqAll.length (DzAll.dq h2), fun i d e => DzAll.get h2 e⟩
/-- walking what stands at an address -/
theorem YD.at {K : PySem.W.Frag} {Zs : List Addr} {H1 : Hp} {k : Kd} {vs : List V} {ds : List D} (h : ItemsR K (hide Zs H1) k vs ds) {i : Nat} {H : Hp} {x : V} {H' : Hp} (hi : i < ds.length) (y : YAt vs i H x H') : YD K Zs H1 k ds i H x H' := by
  obtain ⟨rfl, hx⟩ := y
  refine ⟨Same.refl _, ds[i], List.getElem?_eq_getElem hi, fun Zs' _ s => ?_⟩
  obtain ⟨v, h1, h2⟩ := h.2 i _ (List.getElem?_eq_getElem hi)
  rw [hx] at h1
  cases h1
  exact h2.mono s
section
variable {X : Cx} {c : Ct} {U Un UL : List Nat} {tg : Expr}
theorem fi_l {k : Kd} {e : Expr} {F : SE → M D} (h : FR X c U k e F) : FI X c U (itemK k) tg e (iL seqL F) := by
  obtain ⟨t, p, r⟩ := h
  refine ⟨_, pi_list p, fun Z H0 O en σ H m R hE hG => r Z H0 O en σ H m _ hE (hG.bd.mono (fun d m1 k1 v H1 s1 d1 q1 => ?_) fun _ _ k => k)⟩
  obtain ⟨xs, hx, k2⟩ := k1.lft
  obtain rfl := seqL_some hx
  obtain ⟨a, vs, rfl, h1, h2⟩ := q1.lstI
  refine ⟨a, rfl, ⟨vs, .inl (same_rd (hide_same _ _) h1)⟩, k2 _ H1 s1 d1 ?_⟩
  rw [← h2.1]
  exact walk_list.mono (fun H' s => .inl (same_rd s h1)) fun i H x H' hi _ y => YD.at h2 (by rw [← h2.1]; exact hi) y
theorem fi_t {k : Kd} {e : Expr} {F : SE → M D} (h : FR X c U k e F) : FI X c U (itemK k) tg e (iL seqT F) := by
  obtain ⟨t, p, r⟩ := h
  refine ⟨_, pi_tup p, fun Z H0 O en σ H m R hE hG => r Z H0 O en σ H m _ hE (hG.bd.mono (fun d m1 k1 v H1 s1 d1 q1 => ?_) fun _ _ k => k)⟩
  obtain ⟨xs, hx, k2⟩ := k1.lft
  obtain rfl := seqT_some hx
  obtain ⟨a, vs, rfl, h1, h2⟩ := q1.tupI
  refine ⟨a, rfl, ⟨vs, .inl (same_rd (hide_same _ _) h1)⟩, k2 _ H1 s1 d1 ?_⟩
  rw [← h2.1]
  exact walk_tup.mono (fun H' s => .inl (same_rd s h1)) fun i H x H' hi _ y => YD.at h2 (by rw [← h2.1]; exact hi) y
/-! ### range -/
def rngI (lo : Int) (n : Nat) : List D := (List.range n).map fun i => .int (lo + (i : Nat))
def rng1 : List D → Option (List D)
  | [.int j] => if -(2 ^ 62) ≤ j ∧ j < 2 ^ 62 then some (rngI 0 j.toNat) else none
  | _ => none
def rng2 : List D → Option (List D)
  | [.int i, .int j] => if -(2 ^ 62) ≤ i ∧ i < 2 ^ 62 ∧ -(2 ^ 62) ≤ j ∧ j < 2 ^ 62 then some (rngI i (j - i).toNat) else none
  | _ => none
def iA (g : List D → Option (List D)) (F : SE → M (List D)) : SE → M (List D) := fun en => do
  let d ← F en
  lft (g d)
theorem rngI_get {lo : Int} {n i : Nat} (h : i < n) : (rngI lo n)[i]? = some (.int (lo + (i : Nat))) := by
  unfold rngI
  rw [List.getElem?_map, List.getElem?_range h]
  rfl
theorem walk_rng {K : PySem.W.Frag} {Zs : List Addr} {H1 : Hp} {G : Hp → Prop} {lo : Int} {n : Nat} : Walk (Itr lo n) (rngI lo n).length G (YD K Zs H1 .dat (rngI lo n)) := by
  have hl : (rngI lo n).length = n := by
    unfold rngI
    rw [List.length_map, List.length_range]
  rw [hl]
  refine walk_range.mono (fun _ _ => trivial) fun i H x H' hi _ y => ?_
  obtain ⟨rfl, rfl⟩ := y
  exact ⟨Same.refl _, _, rngI_get hi, fun _ _ _ => Dq.int _⟩
theorem AllK.one {K : PySem.W.Frag} {H : Hp} {k : Kd} : ∀ {vs : List V} {ds : List D}, AllK K H [k] vs ds → ∃ v d, vs = [v] ∧ ds = [d] ∧ Res K H k d v
  | [], _, h => by cases h
  | [_], [], h => by cases h
  | [v], [d], h => ⟨v, d, rfl, rfl, h.1⟩
  | [_], _ :: _ :: _, h => h.2.elim
  | _ :: _ :: _, [], h => by cases h
  | _ :: _ :: _, [_], h => h.2.elim
  | _ :: _ :: _, _ :: _ :: _, h => h.2.elim
theorem AllK.two {K : PySem.W.Frag} {H : Hp} {k k' : Kd} : ∀ {vs : List V} {ds : List D}, AllK K H [k, k'] vs ds → ∃ v w d e, vs = [v, w] ∧ ds = [d, e] ∧ Res K H k d v ∧ Res K H k' e w
  | [], _, h => by cases h
  | _ :: _, [], h => by cases h
  | v :: vs, d :: ds, h => by
    obtain ⟨w, e, rfl, rfl, r⟩ := AllK.one (show AllK K H [k'] vs ds from h.2)
    exact ⟨v, w, d, e, rfl, rfl, h.1, r⟩
theorem rng1_some {ds xs : List D} (h : rng1 ds = some xs) : ∃ j : Int, ds = [.int j] ∧ (-(2 ^ 62) ≤ j ∧ j < 2 ^ 62) ∧ xs = rngI 0 j.toNat := by
  unfold rng1 at h
  split at h
  · rename_i j
    by_cases hc : -(2 ^ 62) ≤ j ∧ j < 2 ^ 62
    · rw [if_pos hc] at h
      cases h
      exact ⟨j, rfl, hc, rfl⟩
    · rw [if_neg hc] at h
      cases h
  · cases h
theorem rng2_some {ds xs : List D} (h : rng2 ds = some xs) : ∃ i j : Int, ds = [.int i, .int j] ∧ (-(2 ^ 62) ≤ i ∧ i < 2 ^ 62 ∧ -(2 ^ 62) ≤ j ∧ j < 2 ^ 62) ∧ xs = rngI i (j - i).toNat := by
  unfold rng2 at h
  split at h
  · rename_i i j
    by_cases hc : -(2 ^ 62) ≤ i ∧ i < 2 ^ 62 ∧ -(2 ^ 62) ≤ j ∧ j < 2 ^ 62
    · rw [if_pos hc] at h
      cases h
      exact ⟨i, j, rfl, hc, rfl⟩
    · rw [if_neg hc] at h
      cases h
  · cases h
theorem fi_rng1 {a : Expr} {F : SE → M (List D)} {p pos : Pos} (hm : X.mg "range" = none) (h : FA X c U [a] [.dat] F) (hg : Gl X "range" := by rfl) (hs : starEach [a] X.env = [(false, eval a X.env)] := by rfl) : FI X c U .dat tg (.Call (.Name "range" p) [a] [] pos) (iA rng1 F) := by
  obtain ⟨t, p, r⟩ := h
  refine ⟨_, pi_range1 hg hm p hs, fun Z H0 O en σ H m R hE hG => r Z H0 O en σ H m _ hE (hG.bd.mono (fun ds m1 k1 vs H1 s1 d1 q1 => ?_) fun _ _ k => k)⟩
  obtain ⟨xs, hx, k2⟩ := k1.lft
  obtain ⟨j, rfl, hc, rfl⟩ := rng1_some hx
  obtain ⟨v, d, rfl, e, q5⟩ := q1.one
  cases e
  cases (show Dq X.K _ v (.int j) from q5)
  exact ⟨j, rfl, hc.1, hc.2, k2 _ H1 s1 d1 walk_rng⟩
theorem fi_rng2 {a b : Expr} {F : SE → M (List D)} {p pos : Pos} (hm : X.mg "range" = none) (h : FA X c U [a, b] [.dat, .dat] F) (hg : Gl X "range" := by rfl) (hs : starEach [a, b] X.env = [(false, eval a X.env), (false, eval b X.env)] := by rfl) (hs2 : starEach [b] X.env = [(false, eval b X.env)] := by rfl) : FI X c U .dat tg (.Call (.Name "range" p) [a, b] [] pos) (iA rng2 F) := by
  obtain ⟨t, p, r⟩ := h
  refine ⟨_, pi_range2 hg hm p hs hs2, fun Z H0 O en σ H m R hE hG => r Z H0 O en σ H m _ hE (hG.bd.mono (fun ds m1 k1 vs H1 s1 d1 q1 => ?_) fun _ _ k => k)⟩
  obtain ⟨xs, hx, k2⟩ := k1.lft
  obtain ⟨i, j, rfl, hc, rfl⟩ := rng2_some hx
  obtain ⟨v, w, d, e, rfl, e1, q5, q6⟩ := q1.two
  cases e1
  cases (show Dq X.K _ v (.int i) from q5)
  cases (show Dq X.K _ w (.int j) from q6)
  exact ⟨i, j, rfl, hc, k2 _ H1 s1 d1 walk_rng⟩
/-! ### pairs: enumerate and zip -/
/-- a new pair of two values -/
theorem YD.pair {K : PySem.W.Frag} {Zs : List Addr} {H1 : Hp} {k : Kd} {xs ys : Nat → Option V} {ds : List D} {i : Nat} {H : Hp} {v : V} {H' : Hp} (hk : k = .dat ∨ k = .pl) (y : YPair xs ys i H v H')
    (h : ∀ x z, xs i = some x → ys i = some z → ∃ a b, ds[i]? = some (.tuple [a, b]) ∧ Res K (hide Zs H1) k a x ∧ Res K (hide Zs H1) k b z) : YD K Zs H1 k ds i H v H' := by
  obtain ⟨T, x, z, rfl, hn, rfl, h1, h2⟩ := y
  obtain ⟨a, b, h3, h4, h5⟩ := h x z h1 h2
  refine ⟨same_new hn _, _, h3, fun Zs' hz s => ?_⟩
  have nT : T ∉ Zs' := fun q => hz T q hn
  have up : Same (hide Zs H1) (hide Zs' (upd H T (.tup [x, z]))) := Same.trans s (hide_push0 hn)
  have ht : hide Zs' (upd H T (.tup [x, z])) T = some (.tup [x, z]) := by rw [hide_ne nT, upd_same]
  rcases hk with rfl | rfl
  · exact Dq.tup (.inl ht) (.cons (h4.mono up) (.cons (h5.mono up) .nil))
  · exact Dz.tup ht (.cons (h4.mono up) (.cons (h5.mono up) .nil))
theorem itemK_or (k : Kd) : itemK k = .dat ∨ itemK k = .pl := by
  cases k <;> first | exact .inl rfl | exact .inr rfl
theorem res_int {K : PySem.W.Frag} {H : Hp} {k : Kd} (i : Int) : Res K H (itemK k) (.int i) (.int i) := by
  rcases itemK_or k with h | h
  · rw [h]; exact Dq.int i
  · rw [h]; exact Dz.int i
def enumD (xs : List D) : List D := (List.range xs.length).zipWith (fun i d => .tuple [.int (i : Nat), d]) xs
theorem enumD_len (xs : List D) : (enumD xs).length = xs.length := by
  unfold enumD
  rw [List.length_zipWith, List.length_range, Nat.min_self]
theorem enumD_get {xs : List D} {i : Nat} {d : D} (h : xs[i]? = some d) : (enumD xs)[i]? = some (.tuple [.int (i : Nat), d]) := by
  have hi := (List.getElem?_eq_some_iff.mp h).1
  unfold enumD
  rw [List.getElem?_zipWith, List.getElem?_range hi, h]
def zipD (xs ys : List D) : List D := xs.zipWith (fun a b => .tuple [a, b]) ys
theorem zipD_len (xs ys : List D) : (zipD xs ys).length = min xs.length ys.length := List.length_zipWith
theorem zipD_get {xs ys : List D} {i : Nat} {a b : D} (h : xs[i]? = some a) (h' : ys[i]? = some b) : (zipD xs ys)[i]? = some (.tuple [a, b]) := by
  unfold zipD
  rw [List.getElem?_zipWith, h, h']
end
end VL
set_option maxHeartbeats 2000000
/-! the value layer: enumerate and zip over lists and tuples alike -/
namespace VL
open PySem
open PySem.Spec
open L2

/-- a list (true) or a tuple (false) -/
def SqB (K : PySem.W.Frag) (H : Hp) (b : Bool) (a : Addr) (xs : List V) : Prop := match b with
  | true => SqL K H a xs
  | false => SqT K H a xs
def HeapB (b : Bool) (h : Heap) (a : Addr) (itv : Array Value) : Prop := match b with
  | true => h.IsList a itv
  | false => h.IsTuple a itv
def IterB (b : Bool) (h : Heap) (it a : Addr) (i : Nat) : Prop := match b with
  | true => h.IsListIter it a i
  | false => h.IsTupleIter it a i
def itObj (b : Bool) (a : Addr) : Obj := match b with
  | true => { cls := .type "list_iterator", data := .fields #[.ref a, .int 0 0] }
  | false => { cls := .type "tuple_iterator", data := .fields #[.ref a, .int 0 0] }
theorem begB (b : Bool) (a : Addr) (itv : Array Value) : Begins (.ref a) (itObj b a) (fun h => HeapB b h a itv) := by
  cases b with
  | true => exact begins_list a itv
  | false => exact begins_tuple a itv
theorem iterB_new {b : Bool} {h : Heap} {it a : Addr} (e : h.get? it = some (itObj b a)) : IterB b h it a 0 := by
  cases b with
  | true => exact ⟨_, e, rfl, rfl⟩
  | false => exact ⟨_, e, rfl, rfl⟩
theorem iterB_obj {b : Bool} {h : Heap} {it a : Addr} {i : Nat} (stt : IterB b h it a i) : ∃ o, h.get? it = some o ∧ ∀ v, o.data ≠ .cell v := by
  cases b with
  | true =>
    obtain ⟨o, e, _, d⟩ := stt
    exact ⟨o, e, fun v q => by rw [d] at q; cases q⟩
  | false =>
    obtain ⟨o, e, _, d⟩ := stt
    exact ⟨o, e, fun v q => by rw [d] at q; cases q⟩
theorem iterB_at {b : Bool} {h h' : Heap} {it a : Addr} {i : Nat} (stt : IterB b h it a i) (k : ∀ o, h.get? it = some o → h'.get? it = some o) : IterB b h' it a i := by
  cases b with
  | true => exact Heap.IsListIter.at stt k
  | false => exact Heap.IsTupleIter.at stt k
theorem heapB_at {b : Bool} {h h' : Heap} {a : Addr} {itv : Array Value} (stt : HeapB b h a itv) (k : ∀ o, h.get? a = some o → h'.get? a = some o) : HeapB b h' a itv := by
  cases b with
  | true => exact Heap.IsList.at stt k
  | false => exact Heap.IsTuple.at stt k
theorem heapB_lt {b : Bool} {h : Heap} {a : Addr} {itv : Array Value} (stt : HeapB b h a itv) : a < h.objs.size := by
  cases b with
  | true =>
    obtain ⟨o, e, _⟩ := stt
    exact Heap.lt_size e
  | false =>
    obtain ⟨o, e, _⟩ := stt
    exact Heap.lt_size e
theorem drawsB {prog : Program} {w : World} {A : Around} (hh : A.handled = none) (b : Bool) (it a : Addr) (nee : a ≠ it) (items : Array Value) :
    Draws prog w A it [it, a] items.size (fun i v => items[i]? = some v) (fun i h => IterB b h it a i ∧ HeapB b h a items) := by
  cases b with
  | true => exact Draws.list hh it a nee items
  | false => exact Draws.tuple hh it a nee items
section
variable {X : Cx} {pns : List (Addr × Obj)} {σ : L2.St} {H : Hp} {s : Shared}
theorem inv_sqB (I : Inv X pns σ H s) {b : Bool} {a : Addr} {xs : List V} (h : SqB X.K H b a xs) : ∃ itv, Vals xs itv ∧ HeapB b s.heap a itv.toArray := by
  cases b with
  | true =>
    obtain ⟨itv, rvl, p, _⟩ := I.list h
    exact ⟨itv, rvl, p.isList⟩
  | false =>
    obtain ⟨itv, rvl, p, _⟩ := I.tuple h
    exact ⟨itv, rvl, p⟩
theorem inv_sqB_inj (I : Inv X pns σ H s) {b : Bool} {a : Addr} {xs ys : List V} (h : SqB X.K H b a xs) (h' : SqB X.K H b a ys) : xs = ys := by
  cases b with
  | true => exact I.list_inj h h'
  | false => exact I.tuple_inj h h'
end
theorem sqB_of {K : PySem.W.Frag} {H : Hp} {a : Addr} {vs : List V} (h : Rd H a (.lst vs)) : SqB K H true a vs := .inl h
theorem sqB_ofT {K : PySem.W.Frag} {H : Hp} {a : Addr} {vs : List V} (h : Rd H a (.tup vs)) : SqB K H false a vs := .inl h

/-! ### enumerate -/
def ItE (K : PySem.W.Frag) (b : Bool) (a : Addr) : It :=
  ⟨fun i H => ∃ (xs : List V) (x : V), SqB K H b a xs ∧ xs[i]? = some x, fun i H v H' => ∃ T x, v = .ref T ∧ H T = none ∧ H' = upd H T (.tup [.int (i : Nat), x]) ∧ ∀ xs, SqB K H b a xs → xs[i]? = some x, fun i H => ∃ xs : List V, SqB K H b a xs ∧ xs.length = i⟩
theorem turn_enumB {P : Program} {w : World} {K : PySem.W.Frag} {elts : List Expr} {kk : Nat} {tpos : Pos} (b : Bool) (a e it : Addr) (hae : a ≠ e) (hai : a ≠ it) :
    Turn P w K (.Tuple elts kk tpos) (ItE K b a) [e, it] e (fun i h => (∃ old, IsEnum h e it ((i : Nat) : Int) old) ∧ IterB b h it a i ∧ e ≠ it) where
  mem := by simp
  obj := fun i h stt c hc => by
    obtain ⟨⟨old, ena⟩, hi, _⟩ := stt
    have e' : c = e ∨ c = it := by simpa using hc
    rcases e' with z | z
    · rw [z]; exact ⟨_, ena, fun v q => nomatch q⟩
    · rw [z]; exact iterB_obj hi
  keep := fun i h h' stt k => let ⟨⟨old, ena⟩, hi, nee⟩ := stt; ⟨⟨old, k e (by simp) _ ena⟩, iterB_at hi fun o q => k it (by simp) o q, nee⟩
  item := by
    intro X eP hw eK hc i pns s σ H E I fok stt gok
    subst eP hw eK
    obtain ⟨⟨old, ena⟩, itt, nee⟩ := stt
    obtain ⟨xs, x, sqh, xat⟩ := gok
    obtain ⟨itv, rvl, p⟩ := inv_sqB I sqh
    obtain ⟨u, uat, urel⟩ := rvl.get xat
    have elt0 : e < s.heap.objs.size := Heap.lt_size ena
    obtain ⟨oit, hoit, _⟩ := iterB_obj itt
    have ilt0 : it < s.heap.objs.size := Heap.lt_size hoit
    have ltt : i < itv.toArray.size := by
      rw [List.size_toArray]
      exact (List.getElem?_eq_some_iff.mp uat).1
    have hef : e ∉ [it, a] := by
      simp only [List.mem_cons, List.not_mem_nil, or_false, not_or]
      exact ⟨nee, fun t => hae t.symm⟩
    refine wpAny_pyNext_enum_itemC (drawsB (A := X.A.in1) (show X.A.in1.handled = none from I.ok.hd hc) b it a hai itv.toArray) ena ⟨itt, p⟩ ltt nee hef fun u' h' tk hu' ho hst' hT szz kpt => ?_
    have eu : u' = u := by
      have hu' : itv.toArray[i]? = some u' := hu'
      rw [List.getElem?_toArray] at hu'
      rw [uat] at hu'
      exact (Option.some.inj hu').symm
    subst eu
    refine ⟨_, rfl, wpAny_letOwnedTupleGo_enum (s := { s with heap := h', toks := tk + 1 }) ho fun h'' he' sm1 => ?_⟩
    have tup2 : h''.get? s.heap.objs.size = some { cls := .type "tuple", data := .seq #[.int i tk, u'] } := (sm1.2 _ (Nat.ne_of_gt elt0)).trans hT
    have frsh : ObjOk X.prog X.w (upd H s.heap.objs.size (.tup [.int (i : Nat), x])) h'' s.heap.objs.size (.tup [.int (i : Nat), x]) :=
      ⟨by show 2 ≤ sizeLine; decide, [.int i tk, u'], .cons ⟨_, rfl⟩ (.cons urel .nil), ⟨_, tup2, rfl, _, rfl⟩⟩
    have Inw : Inv X pns σ (upd H s.heap.objs.size (.tup [.int (i : Nat), x])) { s with heap := h'', toks := tk + 1 } :=
      I.turnedNew (ch := [e, it]) (fun c ob hb q => (sm1.2 c (fun z => hb (by simp [z]))).trans (kpt c ob (fun z => hb (by simp [z])) (fun z => hb (by simp [z])) q)) fok (Nat.le_refl _) frsh
    refine ⟨.ref s.heap.objs.size, _, Inw, rfl, ⟨_, x, rfl, I.hok.fresh (Nat.le_refl _), rfl, fun ys yat => by rw [inv_sqB_inj I yat sqh]; exact xat⟩, ⟨⟨u', ?_⟩, iterB_at hst'.1 fun o q => (sm1.2 it (Ne.symm nee)).trans q, nee⟩, fun c hb => ?_⟩
    · have e1 : ((i + 1 : Nat) : Int) = (i : Int) + 1 := by omega
      rw [e1]; exact he'
    · have hb' : c < s.heap.objs.size := by
        have e' : c = e ∨ c = it := by simpa using hb
        rcases e' with z | z
        · rw [z]; exact elt0
        · rw [z]; exact ilt0
      rw [upd_ne (Nat.ne_of_lt hb')]
      exact (fok c hb).1
  done := by
    intro X eP hw eK hc i pns s σ H E I fok stt gok
    subst eP hw eK
    obtain ⟨⟨old, ena⟩, itt, nee⟩ := stt
    obtain ⟨xs, sqh, xat⟩ := gok
    obtain ⟨itv, rvl, p⟩ := inv_sqB I sqh
    obtain ⟨f0, f1, f2, f3, f4, f5⟩ := fok it (by simp)
    have hl := rvl.length
    have hi : itv.toArray.size = i := by rw [List.size_toArray]; omega
    subst hi
    exact wpAny_pyNext_enum_endD (drawsB (A := X.A.in1) (show X.A.in1.handled = none from I.ok.hd hc) b it a hai itv.toArray) ena ⟨itt, p⟩ fun h' eb => ⟨rfl, I.turned (t' := s.toks) (fun c o hb q => eb c o hb q) f0 f1 f3 f4 f5⟩
  self := fun A i s Q E stt h => let ⟨⟨_, ena⟩, _⟩ := stt; wpAny_pyIter_enum ena h
theorem meets_enumB {v : Value} {o : Obj} {H : Heap → Prop} (B : Begins v o H) :
    Meets (Builtin.«enumerate.__new__» ⟨[.type "enumerate", v], []⟩) (fun _ R s => H s.heap ∧
      R (.ok (.ret (.ref (s.heap.push o).objs.size))) { s with heap := (s.heap.push o).push { cls := .type "enumerate", data := .fields #[.none, .bool false, .ref s.heap.objs.size, rawInt 0, .none, .none] } }) :=
  .of_wp fun prog w A R s h => by
    obtain ⟨hp, g, d, tk, os⟩ := s; obtain ⟨h1, h⟩ := h
    have hsub := sub_enumerate
    have q1 : ∀ {A' : Around} {E : Value → Shared → Prop} {Q : Value → Shared → Prop}, Q (.ref hp.objs.size) ⟨hp.push o, g, d, tk, os⟩ → wpAny (model prog w) A' (pyIter v) Q E ⟨hp, g, d, tk, os⟩ :=
      fun q => B.iter prog w _ _ ⟨hp, g, d, tk, os⟩ _ h1 q
    wp_walk using q1
    refine wpAny_stack_any fun stt => wpAny_pure ?_
    split
    · rename_i c _ _ _ _ _
      cases (c == Value.type "enumerate")
      · wp_walk using q1
        exact ⟨_, rfl, h⟩
      · wp_walk using q1
        exact ⟨_, rfl, h⟩
    · wp_walk using q1
      exact ⟨_, rfl, h⟩
theorem call_enumB {prog : Program} {w : World} {A : Around} {E : Value → Shared → Prop} {s : Shared} {v : Value} {o : Obj} {H : Heap → Prop} {Q : Value → Shared → Prop} (B : Begins v o H) (h1 : H s.heap)
    (h : ∀ h', IsEnum h' (s.heap.objs.size + 1) s.heap.objs.size 0 .none → h'.get? s.heap.objs.size = some o → h'.objs.size = s.heap.objs.size + 2 →
      (∀ b o, s.heap.get? b = some o → h'.get? b = some o) → Q (.ref (s.heap.objs.size + 1)) { s with heap := h' }) :
    wpAny (model prog w) A (call (.type "enumerate") [v]) Q E s := by
  refine callType_new F.called_enumerate (by decide) (F.typeCall_enumerate_1 _) (F.newCall_enumerate_1 _) (fun obj => F.args_object_init_2 obj _) F.entry_enumerate_new
    (meets_enumB B) ⟨h1, ?_⟩
  have zat : (s.heap.push o).objs.size = s.heap.objs.size + 1 := Heap.size_push ..
  show _ ∧ _
  rw [zat]
  have ena : IsEnum ((s.heap.push o).push { cls := .type "enumerate", data := .fields #[.none, .bool false, .ref s.heap.objs.size, rawInt 0, .none, .none] }) (s.heap.objs.size + 1) s.heap.objs.size 0 .none := by
    have := Heap.get?_push_size (s.heap.push o) (o := { cls := .type "enumerate", data := .fields #[.none, .bool false, .ref s.heap.objs.size, rawInt 0, .none, .none] }) rfl
    rw [zat] at this; exact this
  refine ⟨⟨_, ena, rfl⟩, h _ ena (Heap.get?_push_of_some _ (Heap.get?_push_size _ B.free)) (by rw [Heap.size_push, zat]) fun b o x => Heap.get?_push_of_some _ (Heap.get?_push_of_some _ x)⟩
def iEnB (K : PySem.W.Frag) (b : Bool) (ta : TA) : TI := fun σ H R => ta σ H fun vs H1 => ∃ a xs, vs = [.ref a] ∧ SqB K H1 b a xs ∧ R (ItE K b a) H1
theorem pi_enumB {X : Cx} {e : Expr} {ta : TA} {p pos tpos : Pos} {elts : List Expr} {kk : Nat} (b : Bool) (gok : Gl X "enumerate") (hm : X.mg "enumerate" = none) (ha : PA X [e] ta) (hs : starEach [e] X.env = [(false, eval e X.env)] := by rfl) :
    PI X (.Tuple elts kk tpos) (.Call (.Name "enumerate" p) [e] [] pos) (iEnB X.K b ta) := by
  refine ⟨fun pns s σ H R I h => ?_⟩
  refine PyProof.Rows.Call_ (ld_blt I gok hm PyProof.Rows.boot_enumerate (PyProof.Rows.callWith_type1 (thn (ha.run pos pns s σ H _ I h) fun us s1 ⟨vs, H1, Inw, r1, q1⟩ => ?_) hs rfl))
  obtain ⟨a, xs, exq, sqh, q⟩ := q1
  subst exq
  cases r1 with
  | cons r rr =>
    cases rr
    cases r
    obtain ⟨itv, rvl, p'⟩ := inv_sqB Inw sqh
    refine call_enumB (begB b a itv.toArray) p' fun h' ena itt szz kpt => wpAny_pyIter_enum ena ?_
    have Inw2 : Inv X pns σ H1 { s1 with heap := h' } := Inw.kept (t' := s1.toks) kpt
    have ltt := heapB_lt p'
    refine ⟨s1.heap.objs.size + 1, [s1.heap.objs.size + 1, s1.heap.objs.size], _, _, H1, rfl, Inw2, turn_enumB b a (s1.heap.objs.size + 1) s1.heap.objs.size (Nat.ne_of_lt (Nat.lt_succ_of_lt ltt)) (Nat.ne_of_lt ltt), ⟨⟨.none, ena⟩, iterB_new itt, Nat.succ_ne_self _⟩, fun c hb => ?_, q⟩
    have e' : c = s1.heap.objs.size + 1 ∨ c = s1.heap.objs.size := by simpa using hb
    have lee : s1.heap.objs.size ≤ c := by
      rcases e' with z | z
      · rw [z]; exact Nat.le_add_right _ _
      · rw [z]; exact Nat.le_refl _
    exact Inw.fpOk lee (Inw.hok.fresh lee)
theorem walk_enB {K : PySem.W.Frag} {b : Bool} {a : Addr} {xs : List V} : Walk (ItE K b a) xs.length (fun H => SqB K H b a xs) (YPair (fun i => some (.int (i : Nat))) (fun i => xs[i]?)) := by
  refine ⟨fun i _ hi q => ⟨xs, xs[i], q, by simp [hi]⟩, fun _ q => ⟨xs, q, rfl⟩, fun i H v H' _ q y => ?_⟩
  obtain ⟨T, x, h1, h2, h3, h4⟩ := y
  exact ⟨T, .int (i : Nat), x, h1, h2, h3, rfl, h4 xs q⟩

/-! ### zip of two -/
def ItZ (K : PySem.W.Frag) (b1 b2 : Bool) (a1 a2 : Addr) : It :=
  ⟨fun i H => ∃ (xs ys : List V) (x y : V), SqB K H b1 a1 xs ∧ SqB K H b2 a2 ys ∧ xs[i]? = some x ∧ ys[i]? = some y,
    fun i H v H' => ∃ T x y, v = .ref T ∧ H T = none ∧ H' = upd H T (.tup [x, y]) ∧ (∀ xs, SqB K H b1 a1 xs → xs[i]? = some x) ∧ ∀ ys, SqB K H b2 a2 ys → ys[i]? = some y,
    fun i H => ∃ xs ys : List V, SqB K H b1 a1 xs ∧ SqB K H b2 a2 ys ∧ i ≤ xs.length ∧ i ≤ ys.length ∧ (i = xs.length ∨ i = ys.length)⟩
theorem turn_zipB {P : Program} {w : World} {K : PySem.W.Frag} {elts : List Expr} {kk : Nat} {tpos : Pos} {b1 b2 : Bool} {a1 a2 z TI TO i1 i2 : Addr} (S : ZipSep2 z TI TO i1 i2 [i1, a1] [i2, a2]) (n1 : a1 ≠ i1) (n2 : a2 ≠ i2) :
    Turn P w K (.Tuple elts kk tpos) (ItZ K b1 b2 a1 a2) [z, TI, TO, i1, i2] z (fun i h => IsZip h z TI TO .none ∧ IsTupOf2 h TI (.ref i1) (.ref i2) ∧ (∃ x y, IsTupOf2 h TO x y) ∧ IterB b1 h i1 a1 i ∧ IterB b2 h i2 a2 i) where
  mem := by simp
  obj := fun i h stt c hc => by
    obtain ⟨zat, tiat, ⟨x, y, toat⟩, h1, h2⟩ := stt
    have e' : c = z ∨ c = TI ∨ c = TO ∨ c = i1 ∨ c = i2 := by simpa using hc
    rcases e' with q | q | q | q | q
    · rw [q]; exact ⟨_, zat, fun v q => nomatch q⟩
    · rw [q]; exact ⟨_, tiat, fun v q => nomatch q⟩
    · rw [q]; exact ⟨_, toat, fun v q => nomatch q⟩
    · rw [q]; exact iterB_obj h1
    · rw [q]; exact iterB_obj h2
  keep := fun i h h' stt k => by
    obtain ⟨zat, tiat, ⟨x, y, toat⟩, h1, h2⟩ := stt
    exact ⟨k z (by simp) _ zat, k TI (by simp) _ tiat, ⟨x, y, k TO (by simp) _ toat⟩, iterB_at h1 fun o q => k i1 (by simp) o q, iterB_at h2 fun o q => k i2 (by simp) o q⟩
  item := by
    intro X eP hw eK hc i pns s σ H E I fok stt gok
    subst eP hw eK
    obtain ⟨zat, tiat, ⟨x0, y0, toat⟩, h1, h2⟩ := stt
    obtain ⟨xs, ys, x, y, sqx, sqy, xat, yat⟩ := gok
    obtain ⟨itv, rvl, p⟩ := inv_sqB I sqx
    obtain ⟨itv2, rvl2, p2⟩ := inv_sqB I sqy
    obtain ⟨u, uat, urel⟩ := rvl.get xat
    obtain ⟨u2, uat2, urel2⟩ := rvl2.get yat
    have zlt : z < s.heap.objs.size := Heap.lt_size zat
    have l1 : i < itv.toArray.size := by
      rw [List.size_toArray]
      exact (List.getElem?_eq_some_iff.mp uat).1
    have l2 : i < itv2.toArray.size := by
      rw [List.size_toArray]
      exact (List.getElem?_eq_some_iff.mp uat2).1
    refine wpAny_pyNext_zipD2_item S (drawsB (A := X.A.in1) (show X.A.in1.handled = none from I.ok.hd hc) b1 i1 a1 n1 itv.toArray) (drawsB (A := X.A.in1) (show X.A.in1.handled = none from I.ok.hd hc) b2 i2 a2 n2 itv2.toArray) zat tiat toat ⟨h1, p⟩ ⟨h2, p2⟩ l1 l2 fun x1 x2 h' tk e1 e2 z' TO' s1' s2' hT szz kpt => ?_
    have eu : x1 = u := by
      have e1 : itv.toArray[i]? = some x1 := e1
      rw [List.getElem?_toArray] at e1
      rw [uat] at e1
      exact (Option.some.inj e1).symm
    have eu2 : x2 = u2 := by
      have e2 : itv2.toArray[i]? = some x2 := e2
      rw [List.getElem?_toArray] at e2
      rw [uat2] at e2
      exact (Option.some.inj e2).symm
    subst eu eu2
    refine ⟨_, rfl, wpAny_letOwnedTupleGo_zip (s := { s with heap := h', toks := tk }) z' fun h'' z'' sm1 => ?_⟩
    have tup2 : h''.get? s.heap.objs.size = some { cls := .type "tuple", data := .seq #[x1, x2] } := (sm1.2 _ (Nat.ne_of_gt zlt)).trans hT
    have frsh : ObjOk X.prog X.w (upd H s.heap.objs.size (.tup [x, y])) h'' s.heap.objs.size (.tup [x, y]) :=
      ⟨by show 2 ≤ sizeLine; decide, [x1, x2], .cons urel (.cons urel2 .nil), ⟨_, tup2, rfl, _, rfl⟩⟩
    have Inw : Inv X pns σ (upd H s.heap.objs.size (.tup [x, y])) { s with heap := h'', toks := tk } :=
      I.turnedNew (t' := tk) (ch := [z, TI, TO, i1, i2]) (fun c o hb q => (sm1.2 c (fun q' => hb (by simp [q']))).trans (kpt c o (fun q' => hb (by simp [q'])) (fun q' => hb (by simp [q'])) (fun q' => hb (by simp [q'])) (fun q' => hb (by simp [q'])) q)) fok (Nat.le_refl _) frsh
    obtain ⟨oi1, hoi1, _⟩ := iterB_obj h1
    obtain ⟨oi2, hoi2, _⟩ := iterB_obj h2
    have ni1 : i1 ≠ z := fun t => S.zi1 t.symm
    have ni2 : i2 ≠ z := fun t => S.zi2 t.symm
    refine ⟨.ref s.heap.objs.size, _, Inw, rfl, ⟨_, x, y, rfl, I.hok.fresh (Nat.le_refl _), rfl, fun l hl => by rw [inv_sqB_inj I hl sqx]; exact xat, fun l hl => by rw [inv_sqB_inj I hl sqy]; exact yat⟩, ⟨z'', ?_, ⟨x1, x2, ?_⟩, ?_, ?_⟩, fun c cmem => ?_⟩
    · exact (sm1.2 _ S.TIz).trans (kpt _ _ S.TIz S.TITO S.TIi1 S.TIi2 tiat)
    · exact (sm1.2 _ S.TOz).trans TO'
    · exact iterB_at s1'.1 fun o q => (sm1.2 _ ni1).trans q
    · exact iterB_at s2'.1 fun o q => (sm1.2 _ ni2).trans q
    · have ltt : c < s.heap.objs.size := by
        have e' : c = z ∨ c = TI ∨ c = TO ∨ c = i1 ∨ c = i2 := by simpa using cmem
        rcases e' with q | q | q | q | q
        · rw [q]; exact zlt
        · rw [q]; exact Heap.lt_size tiat
        · rw [q]; exact Heap.lt_size toat
        · rw [q]; exact Heap.lt_size hoi1
        · rw [q]; exact Heap.lt_size hoi2
      rw [upd_ne (Nat.ne_of_lt ltt)]
      exact (fok c cmem).1
  done := by
    intro X eP hw eK hc i pns s σ H E I fok stt gok
    subst eP hw eK
    obtain ⟨zat, tiat, ⟨x0, y0, toat⟩, h1, h2⟩ := stt
    obtain ⟨xs, ys, sqx, sqy, le1, le2, endd⟩ := gok
    obtain ⟨itv, rvl, p⟩ := inv_sqB I sqx
    obtain ⟨itv2, rvl2, p2⟩ := inv_sqB I sqy
    have l1 := rvl.length
    have l2 := rvl2.length
    exact wpAny_pyNext_zipD2_end S (drawsB (A := X.A.in1) (show X.A.in1.handled = none from I.ok.hd hc) b1 i1 a1 n1 itv.toArray) (drawsB (A := X.A.in1) (show X.A.in1.handled = none from I.ok.hd hc) b2 i2 a2 n2 itv2.toArray) zat tiat toat ⟨h1, p⟩ ⟨h2, p2⟩ (by rw [List.size_toArray]; omega) (by rw [List.size_toArray]; omega) (by rw [List.size_toArray, List.size_toArray]; omega) fun h' tk kpt =>
      ⟨rfl, I.turnedL (t' := tk) (ch := [z, TI, TO, i1, i2]) (fun c o hb q => kpt c o (fun q' => hb (by simp [q'])) (fun q' => hb (by simp [q'])) (fun q' => hb (by simp [q'])) (fun q' => hb (by simp [q'])) q) fok⟩
  self := fun A i s Q E stt h => wpAny_pyIter_zip stt.1 h
def iZpB (K : PySem.W.Frag) (b1 b2 : Bool) (ta : TA) : TI := fun σ H R => ta σ H fun vs H1 => ∃ a1 a2 xs ys, vs = [.ref a1, .ref a2] ∧ SqB K H1 b1 a1 xs ∧ SqB K H1 b2 a2 ys ∧ R (ItZ K b1 b2 a1 a2) H1
theorem sepB {N a1 a2 : Addr} (h1 : a1 < N) (h2 : a2 < N) : ZipSep2 (N + 4) (N + 2) (N + 3) N (N + 1) [N, a1] [N + 1, a2] :=
  zip_sep2 (fp1 := [a1]) (fp2 := [a2]) (fun b hb => by rw [List.mem_singleton.mp hb]; exact h1) (fun b hb => by rw [List.mem_singleton.mp hb]; exact h2)
theorem pi_zipB {X : Cx} {e e2 : Expr} {ta : TA} {p pos tpos : Pos} {elts : List Expr} {kk : Nat} (b1 b2 : Bool) (gok : Gl X "zip") (hm : X.mg "zip" = none) (ha : PA X [e, e2] ta)
    (hs : starEach [e, e2] X.env = (false, eval e X.env) :: starEach [e2] X.env := by rfl) (hpl : (backTo pos (starEach [e2] X.env)).any (·.1) = false := by rfl) :
    PI X (.Tuple elts kk tpos) (.Call (.Name "zip" p) [e, e2] [] pos) (iZpB X.K b1 b2 ta) := by
  refine ⟨fun pns s σ H R I h => ?_⟩
  refine PyProof.Rows.Call_ (ld_blt I gok hm PyProof.Rows.boot_zip (PyProof.Rows.callWith_type1 (thn (ha.run pos pns s σ H _ I h) fun us s1 ⟨vs, H1, Inw, r1, q1⟩ => ?_) hs hpl))
  obtain ⟨a1, a2, xs, ys, exq, sqx, sqy, q⟩ := q1
  subst exq
  cases r1 with
  | cons r rr =>
    cases rr with
    | cons r' rr =>
      cases rr
      cases r
      cases r'
      obtain ⟨itv, rvl, p1⟩ := inv_sqB Inw sqx
      obtain ⟨itv2, rvl2, p2⟩ := inv_sqB Inw sqy
      have la := heapB_lt p1
      have lb := heapB_lt p2
      refine zip_begins2 (begB b1 a1 itv.toArray) (begB b2 a2 itv2.toArray) p1 p2 fun h' zat tiat toat h1 h2 szz kpt => wpAny_pyIter_zip zat ?_
      have Inw2 : Inv X pns σ H1 { s1 with heap := h' } := Inw.kept (t' := s1.toks) kpt
      refine ⟨s1.heap.objs.size + 4, [s1.heap.objs.size + 4, s1.heap.objs.size + 2, s1.heap.objs.size + 3, s1.heap.objs.size, s1.heap.objs.size + 1], _, _, H1, rfl, Inw2, turn_zipB (sepB la lb) (Nat.ne_of_lt la) (Nat.ne_of_lt (Nat.lt_succ_of_lt lb)), ⟨zat, tiat, ⟨_, _, toat⟩, iterB_new h1, iterB_new h2⟩, fun c cmem => ?_, q⟩
      have e' : c = s1.heap.objs.size + 4 ∨ c = s1.heap.objs.size + 2 ∨ c = s1.heap.objs.size + 3 ∨ c = s1.heap.objs.size ∨ c = s1.heap.objs.size + 1 := by simpa using cmem
      have lee : s1.heap.objs.size ≤ c := by
        rcases e' with z | z | z | z | z
        · rw [z]; exact Nat.le_add_right _ _
        · rw [z]; exact Nat.le_add_right _ _
        · rw [z]; exact Nat.le_add_right _ _
        · rw [z]; exact Nat.le_refl _
        · rw [z]; exact Nat.le_add_right _ _
      exact Inw.fpOk lee (Inw.hok.fresh lee)
theorem walk_zpB {K : PySem.W.Frag} {b1 b2 : Bool} {a1 a2 : Addr} {xs ys : List V} {n : Nat} (hn : n = min xs.length ys.length) : Walk (ItZ K b1 b2 a1 a2) n (fun H => SqB K H b1 a1 xs ∧ SqB K H b2 a2 ys) (YPair (fun i => xs[i]?) (fun i => ys[i]?)) := by
  subst hn
  refine ⟨fun i _ hi q => ?_, fun _ q => ⟨xs, ys, q.1, q.2, by omega, by omega, by omega⟩, fun i H v H' _ q y => ?_⟩
  · have h1 : i < xs.length := by omega
    have h2 : i < ys.length := by omega
    exact ⟨xs, ys, xs[i], ys[i], q.1, q.2, by simp [h1], by simp [h2]⟩
  · obtain ⟨T, x, z, h1, h2, h3, h4, h5⟩ := y
    exact ⟨T, x, z, h1, h2, h3, h4 xs q.1, h5 ys q.2⟩
/-! ### by data -/
def seqB (b : Bool) : D → Option (List D) := if b = true then seqL else seqT
theorem Res.seqI {K : PySem.W.Frag} {H : Hp} {k : Kd} {b : Bool} {d : D} {xs : List D} {v : V} (h : Res K H k d v) (e : seqB b d = some xs) : ∃ a vs, v = .ref a ∧ (∀ H', Same H H' → SqB K H' b a vs) ∧ ItemsR K H (itemK k) vs xs := by
  cases b with
  | true =>
    obtain rfl := seqL_some e
    obtain ⟨a, vs, h1, h2, h3⟩ := h.lstI
    exact ⟨a, vs, h1, fun H' s => .inl (same_rd s h2), h3⟩
  | false =>
    obtain rfl := seqT_some e
    obtain ⟨a, vs, h1, h2, h3⟩ := h.tupI
    exact ⟨a, vs, h1, fun H' s => .inl (same_rd s h2), h3⟩
section
variable {X : Cx} {c : Ct} {U Un UL : List Nat}
def enB (b : Bool) : List D → Option (List D)
  | [d] => (seqB b d).map enumD
  | _ => none
def zpB (b1 b2 : Bool) : List D → Option (List D)
  | [d, e] => (seqB b1 d).bind fun xs => (seqB b2 e).map fun ys => zipD xs ys
  | _ => none
theorem fi_enum (b : Bool) {k : Kd} {e : Expr} {F : SE → M (List D)} {p pos tpos : Pos} {elts : List Expr} {kk : Nat} (hm : X.mg "enumerate" = none) (h : FA X c U [e] [k] F) (gok : Gl X "enumerate" := by rfl) (hs : starEach [e] X.env = [(false, eval e X.env)] := by rfl) :
    FI X c U (itemK k) (.Tuple elts kk tpos) (.Call (.Name "enumerate" p) [e] [] pos) (iA (enB b) F) := by
  obtain ⟨t, p, r⟩ := h
  refine ⟨_, pi_enumB b gok hm p hs, fun Z H0 O en σ H m R hE hG => r Z H0 O en σ H m _ hE (hG.bd.mono (fun ds m1 k1 vs H1 s1 d1 q1 => ?_) fun _ _ k => k)⟩
  obtain ⟨rs, xat, k2⟩ := k1.lft
  obtain ⟨v, d, rfl, rfl, q5⟩ := q1.one
  obtain ⟨xs, hx1, rfl⟩ := Option.map_eq_some_iff.mp xat
  obtain ⟨a, ws, rfl, h1, h2⟩ := q5.seqI hx1
  refine ⟨a, ws, rfl, h1 _ (hide_same _ _), k2 _ H1 s1 d1 ?_⟩
  rw [enumD_len, ← h2.1]
  refine walk_enB.mono (fun H' s => h1 H' s) fun i H x H' hi _ y => YD.pair (itemK_or k) y fun x z e1 e2 => ?_
  cases e1
  have hl : i < xs.length := by rw [← h2.1]; exact hi
  obtain ⟨w, e3, e4⟩ := h2.2 i _ (List.getElem?_eq_getElem hl)
  rw [e2] at e3
  cases e3
  exact ⟨_, _, enumD_get (List.getElem?_eq_getElem hl), res_int _, e4⟩
theorem fi_zip (b1 b2 : Bool) {k1 k2 : Kd} {e e2 : Expr} {F : SE → M (List D)} {p pos tpos : Pos} {elts : List Expr} {kk : Nat} (hm : X.mg "zip" = none) (h : FA X c U [e, e2] [k1, k2] F) (kpt : itemK k1 = itemK k2 := by rfl) (gok : Gl X "zip" := by rfl)
    (hs : starEach [e, e2] X.env = (false, eval e X.env) :: starEach [e2] X.env := by rfl) (hpl : (backTo pos (starEach [e2] X.env)).any (·.1) = false := by rfl) :
    FI X c U (itemK k1) (.Tuple elts kk tpos) (.Call (.Name "zip" p) [e, e2] [] pos) (iA (zpB b1 b2) F) := by
  obtain ⟨t, p, r⟩ := h
  refine ⟨_, pi_zipB b1 b2 gok hm p hs hpl, fun Z H0 O en σ H m R hE hG => r Z H0 O en σ H m _ hE (hG.bd.mono (fun ds m1 kk1 vs H1 s1 d1 q1 => ?_) fun _ _ k => k)⟩
  obtain ⟨rs, xat, kk2⟩ := kk1.lft
  obtain ⟨v, w, d, d', rfl, rfl, q5, q6⟩ := q1.two
  obtain ⟨xs, hx1, hx2⟩ := Option.bind_eq_some_iff.mp xat
  obtain ⟨ys, hx3, rfl⟩ := Option.map_eq_some_iff.mp hx2
  obtain ⟨a, ws, rfl, h1, h2⟩ := q5.seqI hx1
  obtain ⟨a', ws', rfl, h1', h2'⟩ := q6.seqI hx3
  refine ⟨a, a', ws, ws', rfl, h1 _ (hide_same _ _), h1' _ (hide_same _ _), kk2 _ H1 s1 d1 ?_⟩
  rw [zipD_len, ← h2.1, ← h2'.1]
  refine (walk_zpB rfl).mono (fun H' s => ⟨h1 H' s, h1' H' s⟩) fun i H x H' hi _ y => YD.pair (itemK_or k1) y fun x z e1 e2 => ?_
  have hl : i < xs.length := by rw [← h2.1]; omega
  have hl' : i < ys.length := by rw [← h2'.1]; omega
  obtain ⟨w, e3, e4⟩ := h2.2 i _ (List.getElem?_eq_getElem hl)
  obtain ⟨w', e3', e4'⟩ := h2'.2 i _ (List.getElem?_eq_getElem hl')
  rw [e1] at e3
  cases e3
  rw [e2] at e3'
  cases e3'
  rw [← kpt] at e4'
  exact ⟨_, _, zipD_get (List.getElem?_eq_getElem hl) (List.getElem?_eq_getElem hl'), e4, e4'⟩
end
end VL
/-! the value layer: targets, for, comprehensions, while -/
namespace VL
open PySem
open PySem.Spec
open L2

theorem Good.ex {α : Type} {o : Out α} {P : α → MS → Prop} (h : Good o P (fun _ _ => False)) : ∃ a m, P a m := by
  cases o with
  | ok a m => exact ⟨a, m, h⟩
  | exc c m => exact h.elim
  | bad => exact h.elim
/-- exceptions are not borne here -/
def nox {α : Type} (x : M α) : M α := fun m => match x m with
  | .ok a m' => .ok a m'
  | _ => .bad
theorem Good.nox {α : Type} {x : M α} {m : MS} {P : α → MS → Prop} {R : Exn → MS → Prop} (h : Good (VL.nox x m) P R) : Good (x m) P (fun _ _ => False) := by
  unfold VL.nox at h
  cases q : x m with
  | ok a m' => rw [q] at h; exact h
  | exc c m' => rw [q] at h; exact h
  | bad => rw [q] at h; exact h

/-! ### targets -/
section
variable {X : Cx} {c : Ct} {U Un UL : List Nat}
theorem wipe_set {σ : L2.St} {i : Nat} {x : Option V} : ∀ {vs : List Nat}, i ∈ vs → wipe (σ.set i x) vs = wipe σ vs
  | [], h => by cases h
  | v :: vs, h => by
    unfold wipe
    by_cases q : i ∈ vs
    · rw [wipe_set q]
    · have e : i = v := by
        rcases List.mem_cons.mp h with e | e
        · exact e
        · exact absurd e q
      subst e
      have sub : ∀ {ws : List Nat}, i ∉ ws → wipe (σ.set i x) ws = (wipe σ ws).set i x := by
        intro ws
        induction ws with
        | nil => intro _; rfl
        | cons w ws ih =>
          intro hn
          unfold wipe
          rw [ih fun t => hn (List.mem_cons_of_mem _ t)]
          rw [List.set_comm _ _ (fun t => hn (by rw [t]; exact List.mem_cons_self))]
      rw [sub q, List.set_set]
theorem wipe_wipe {σ : L2.St} {vs : List Nat} : wipe (wipe σ vs) vs = wipe σ vs := by
  have gen : ∀ (ws : List Nat), (∀ i ∈ ws, i ∈ vs) → wipe (wipe σ ws) vs = wipe σ vs := by
    intro ws
    induction ws with
    | nil => intro _; rfl
    | cons w ws ih =>
      intro h
      show wipe ((wipe σ ws).set w none) vs = _
      rw [wipe_set (h w List.mem_cons_self)]
      exact ih fun i hi => h i (List.mem_cons_of_mem _ hi)
  exact gen vs fun _ h => h
/-- a target's reading, in its widest form -/
def tG (X : Cx) (c : Ct) (U : List Nat) (k : Kd) (is : List Nat) (G : D → SE → M SE) : TG := fun v σ H Q =>
  ∃ Z H0 O en m d, EnvOk X.K c.W c.ms c.dk Z H0 U O en σ H m ∧ Res X.K (hide (ZO Z O) H) k d v ∧
    Good (G d en m) (fun en' m' => ∀ σ' H', SameW c.W H H' → (∀ vs, (∀ i ∈ is, i ∈ vs) → wipe σ' vs = wipe σ vs) → EnvOk X.K c.W c.ms c.dk Z H0 U O en' σ' H' m' → Q σ' H') (fun _ _ => True)
def FG (X : Cx) (c : Ct) (U : List Nat) (k : Kd) (is : List Nat) (tg : Expr) (G : D → SE → M SE) : Prop := PG X tg (tG X c U k is G)
def tGs (X : Cx) (c : Ct) (U : List Nat) (k : Kd) (is : List Nat) (G : List D → SE → M SE) : TGs := fun vs σ H Q =>
  ∃ Z H0 O en m ds, EnvOk X.K c.W c.ms c.dk Z H0 U O en σ H m ∧ ItemsR X.K (hide (ZO Z O) H) k vs ds ∧
    Good (G ds en m) (fun en' m' => ∀ σ' H', SameW c.W H H' → (∀ vs, (∀ i ∈ is, i ∈ vs) → wipe σ' vs = wipe σ vs) → EnvOk X.K c.W c.ms c.dk Z H0 U O en' σ' H' m' → Q σ' H') (fun _ _ => True)
def FGs (X : Cx) (c : Ct) (U : List Nat) (k : Kd) (is : List Nat) (tgs : List Expr) (G : List D → SE → M SE) : Prop := PGs X tgs (tGs X c U k is G)
theorem pg_weak {tg : Expr} {t u : TG} (h : PG X tg t) (w : ∀ v σ H Q, u v σ H Q → t v σ H Q) : PG X tg u := ⟨fun pins s σ H v x Q I r q => h.run pins s σ H v x Q I r (w v σ H Q q)⟩
theorem pgs_weak {tg : List Expr} {t u : TGs} (h : PGs X tg t) (w : ∀ v σ H Q, u v σ H Q → t v σ H Q) : PGs X tg u := ⟨fun pins s σ H v x Q I r q => h.run pins s σ H v x Q I r (w v σ H Q q)⟩
def gNm (i : Nat) : D → SE → M SE := fun d en => pure (en.set i (some d))
theorem fg_nm (i : Nat) {k : Kd} {x : Str} {pos : Pos} (hN : X.N.Nodup) (hk : c.dk i = k := by rfl) (hU : i ∉ U := by decide) (hm : i ∉ c.ms := by (try dsimp only); decide) (hi : X.N[i]? = some x := by rfl)
    (hx : Loc X.env.scope x := by first | exact Or.inl rfl | exact Or.inr rfl) (hf : X.fn x = true ∨ X.env.scope.names.lookup x = some .local := by first | exact .inl rfl | exact .inr rfl) : FG X c U k [i] (.Name x pos) (gNm i) := by
  refine pg_weak (pg_name hN hi hx hf) fun v σ H Q h => ?_
  obtain ⟨Z, H0, O, en, m, d, hE, hr, hG⟩ := h
  subst hk
  exact hG _ H (SameW.refl _ _) (fun vs hv => wipe_set (hv i List.mem_cons_self)) (hE.put' hU hm hr)
def gN0 : List D → SE → M SE := fun ds en => match ds with
  | [] => pure en
  | _ => M.no
def gC (G : D → SE → M SE) (Gs : List D → SE → M SE) : List D → SE → M SE := fun ds en => match ds with
  | d :: ds => do
    let e ← G d en
    Gs ds e
  | [] => M.no
theorem fg_nil {k : Kd} : FGs X c U k [] [] gN0 := by
  refine pgs_weak pgs_nil fun vs σ H Q h => ?_
  obtain ⟨Z, H0, O, en, m, ds, hE, hr, hG⟩ := h
  cases ds with
  | nil =>
    have e : vs = [] := List.eq_nil_of_length_eq_zero hr.1
    exact ⟨e, hG σ H (SameW.refl _ _) (fun _ _ => rfl) hE⟩
  | cons d ds => exact hG.elim
theorem fg_cons {k : Kd} {is js : List Nat} {e : Expr} {es : List Expr} {G : D → SE → M SE} {Gs : List D → SE → M SE} (h1 : FG X c U k is e G) (h2 : FGs X c U k js es Gs)
    (hs : (assignEach (e :: es) X.env).map (·.2) = assign e X.env :: (assignEach es X.env).map (·.2) := by rfl) : FGs X c U k (is ++ js) (e :: es) (gC G Gs) := by
  refine pgs_weak (pgs_cons h1 h2 hs) fun vs σ H Q h => ?_
  obtain ⟨Z, H0, O, en, m, ds, hE, hr, hG⟩ := h
  cases ds with
  | nil => exact hG.elim
  | cons d ds =>
    cases vs with
    | nil => cases hr.1
    | cons v vs =>
      have r0 : Res X.K (hide (ZO Z O) H) k d v := by
        obtain ⟨w, e1, e2⟩ := hr.2 0 d rfl
        cases e1
        exact e2
      refine ⟨v, vs, rfl, Z, H0, O, en, m, d, hE, r0, hG.bd.mono (fun e1 m1 k1 σ1 H1 s1 w1 E1 => ?_) fun _ _ _ => trivial⟩
      refine ⟨Z, H0, O, e1, m1, ds, E1, ⟨by simpa using hr.1, fun i d' hd => ?_⟩, Good.mono k1 (fun e2 m2 k2 σ2 H2 s2 w2 E2 => k2 σ2 H2 (s1.trans s2) (fun vs hv => ?_) E2) fun _ _ _ => trivial⟩
      · obtain ⟨w, q1, q2⟩ := hr.2 (i + 1) d' hd
        exact ⟨w, q1, q2.mono (s1.hide hE.wzo)⟩
      · rw [w2 vs fun i hi => hv i (List.mem_append_right _ hi), w1 vs fun i hi => hv i (List.mem_append_left _ hi)]
/-- a, b, .. = a tuple -/
def gTp (n : Nat) (Gs : List D → SE → M SE) : D → SE → M SE := fun d en => do
  let ds ← lft (seqT d)
  if ds.length = n then Gs ds en else M.no
theorem fg_tup {k : Kd} {is : List Nat} {es : List Expr} {kk : Nat} {pos : Pos} {n : Nat} {Gs : List D → SE → M SE} (hc : X.calm = true) (h : FGs X c U (itemK k) is es Gs) (hn : (assignEach es X.env).length = n := by rfl) (hst : (assignEach es X.env).findIdx? (·.1) = none := by rfl) : FG X c U k is (.Tuple es kk pos) (gTp n Gs) := by
  refine pg_weak (pg_tup hc h hn hst) fun v σ H Q hh => ?_
  obtain ⟨Z, H0, O, en, m, d, hE, hr, hG⟩ := hh
  obtain ⟨ds, hd, k1⟩ := hG.bd.lft
  obtain rfl := seqT_some hd
  obtain ⟨a, vs, rfl, h1, h2⟩ := hr.tupI
  by_cases hl : ds.length = n
  · have k1 : Good ((if ds.length = n then Gs ds en else M.no : M SE) m) _ _ := k1
    rw [if_pos hl] at k1
    exact ⟨a, vs, rfl, .inl (same_rd (hide_same _ _) h1), h2.1.trans hl, Z, H0, O, en, m, ds, hE, h2, k1⟩
  · have k1 : Good ((if ds.length = n then Gs ds en else M.no : M SE) m) _ _ := k1
    rw [if_neg hl] at k1
    exact k1.elim
/-- target = value -/
def sAsg (G : D → SE → M SE) (F : SE → M D) : SE → M Ctl := fun en => do
  let d ← F en
  let e ← G d en
  pure (.nx e)
theorem Good.bdT {α β : Type} {x : M α} {f : α → M β} {m : MS} {P : β → MS → Prop} {R : Exn → MS → Prop} (h : Good ((x >>= f) m) P R) : Good (x m) (fun a m' => Good (f a m') P R) (fun _ _ => True) := h.bd.mono (fun _ _ k => k) fun _ _ _ => trivial
theorem fs_asg {k : Kd} {is : List Nat} {tg e : Expr} {G : D → SE → M SE} {F : SE → M D} {pos : Pos} (h : FR X c U k e F) (hg : FG X c U k is tg G) (hs : swapsWithSole [tg] e pos.line X.env = pure false := by rfl) (hw : swappedStores [tg] e X.env = pure none := by rfl)
    (h1 : (assignEach [tg] X.env).map (·.2) = [assign tg X.env] := by rfl) : FS X c UL U (.Assign [tg] e pos) (sAsg G F) U := by
  obtain ⟨t, p, r⟩ := h
  refine ⟨_, ps_asg p hg hs hw h1, fun Z H0 O en σ H m Ds hE hG => r Z H0 O en σ H m _ hE (hG.bd.mono (fun d m1 k1 v H1 s1 d1 q1 => ?_) fun _ _ k => k.out hE)⟩
  refine ⟨Z, H0, O, en, m1, d, hE.step s1 d1, q1, k1.bdT.mono (fun e1 m2 k2 σ2 H2 s2 w2 E2 => ?_) fun _ _ _ => trivial⟩
  exact k2 O σ2 H2 E2

/-! ### for -/
def forL (G : D → SE → M SE) (B : SE → M Ctl) : List D → SE → M Ctl
  | [], e => pure (.nx e)
  | d :: ds, e => do
    let e1 ← G d e
    let k ← B e1
    match k with
    | .nx e' => forL G B ds e'
    | .ct e' => forL G B ds e'
    | .bk e' => pure (.nx e')
    | .rt d => pure (.rt d)
def sFor (It : SE → M (List D)) (G : D → SE → M SE) (B : SE → M Ctl) : SE → M Ctl := fun en => do
  let ds ← It en
  forL G B ds en
theorem fs_for {k : Kd} {is : List Nat} {tg it : Expr} {body : List Stmt} {It : SE → M (List D)} {G : D → SE → M SE} {B : SE → M Ctl} {pos : Pos} (hp : PassesOwn (model X.prog X.w) X.A X.env X.xe) (hc : X.calm = true) (hi : FI X c U k tg it It) (hg : FG X c U k is tg G) (hb : FSs X c U U body B U)
    (hs : ∀ x, foldedSetIterable it X.env x = pure x := by intro _; rfl) : FS X c UL U (.For tg it body [] pos) (sFor It G B) U := by
  obtain ⟨wi, pi, ri⟩ := hi
  obtain ⟨tb, pb, rb⟩ := hb
  refine ⟨_, ps_for hp hc pi hg pb hs, fun Z H0 O en σ H m Ds hE hG => ri Z H0 O en σ H m _ hE (hG.bd.mono (fun ds m1 k1 J H1 s1 d1 wk => ?_) fun _ _ k => k.out hE)⟩
  have E1 := hE.step s1 d1
  have dn := E1.down_same
  refine for_it wk (fun i σ' H' => ∃ O' e' m', EnvOk X.K c.W c.ms c.dk Z (hide (O.map (·.2)) H1) U O' e' σ' H' m' ∧ Good (forL G B (ds.drop i) e' m') (fun k m'' => KOk X c Z H0 UL U Ds m'' k) (fun x m'' => ExK X c Z H0 x m'')) ⟨O, en, m1, E1.down, by rw [List.drop_zero]; exact k1⟩ (fun i σ' H' _ ⟨O', e', m', E, _⟩ => Same.trans (E.seen (Z1 := Z)) (hide_same _ _)) (fun i x σ' H' H'' hi ⟨O', e', m', E, hg⟩ y => ?_) (fun σ' H' ⟨O', e', m', E, hg⟩ => ?_)
  · obtain ⟨sy, d, hd, hr⟩ := y
    have e : ds.drop i = d :: ds.drop (i + 1) := by
      rw [List.drop_eq_getElem_cons hi]
      rw [List.getElem?_eq_getElem hi] at hd
      cases hd
      rfl
    rw [e] at hg
    have Eg := E.grow sy
    refine ⟨Z, _, O', e', m', d, Eg, hr _ E.zt (E.seen (Z1 := Z)), (show Good ((G d e' >>= fun e1 => B e1 >>= fun k => _) m') _ _ from hg).bdT.mono (fun e1 m2 k2 σ2 H2 s2 w2 E2 => ?_) fun _ _ _ => trivial⟩
    refine rb Z _ O' e1 σ2 H2 m2 _ E2 (k2.bd.mono (fun k3 m3 k4 => ?_) fun _ _ k => ExK.step k dn)
    cases k3 with
    | nx e3 => exact fun O3 σ3 H3 E3 => ⟨O3, e3, m3, E3, k4⟩
    | ct e3 => exact fun O3 σ3 H3 E3 => ⟨O3, e3, m3, E3, k4⟩
    | bk e3 => exact fun O3 σ3 H3 E3 => (show ∀ O' σ' H', EnvOk X.K c.W c.ms c.dk Z H0 U O' e3 σ' H' m3 → Ds.nx σ' H' from k4) O3 σ3 H3 (E3.up dn E1.w0)
    | rt d3 => exact fun v H3 s3 d4 q => (show ∀ v H', SameW c.W H0 H' → DrawOk c.W H' m3 → Res X.K (hide Z H') c.rd d3 v → Ds.rt v H' from k4) v H3 (dn.trans s3) d4 q
  · rw [List.drop_eq_nil_of_le (Nat.le_refl _)] at hg
    exact (show ∀ O' σ' H'', EnvOk X.K c.W c.ms c.dk Z H0 U O' e' σ' H'' m' → Ds.nx σ' H'' from hg) O' σ' H' (E.up dn E1.w0)
end
end VL
/-! the value layer: comprehensions -/
namespace VL
open PySem
open PySem.Spec
open L2

section
variable {X : Cx} {c : Ct} {U Un UL : List Nat}
/-- readings in their widest form -/
def tE (X : Cx) (c : Ct) (U : List Nat) (k : Kd) (F : SE → M D) : TE := fun σ H Q => ∃ Z H0 O en m, EnvOk X.K c.W c.ms c.dk Z H0 U O en σ H m ∧
    Good (F en m) (fun d m' => ∀ v H', SameW c.W H H' → DrawOk c.W H' m' → Res X.K (hide (ZO Z O) H') k d v → Q v H') (fun _ _ => False)
def tT (X : Cx) (c : Ct) (U : List Nat) (F : SE → M Bool) : TT := fun σ H Q => ∃ Z H0 O en m, EnvOk X.K c.W c.ms c.dk Z H0 U O en σ H m ∧
    Good (F en m) (fun b m' => ∀ H', SameW c.W H H' → DrawOk c.W H' m' → Q b H') (fun _ _ => False)
theorem FR.pe {k : Kd} {e : Expr} {F : SE → M D} (h : FR X c U k e F) : PE X e (tE X c U k F) := by
  obtain ⟨t, p, r⟩ := h
  refine ⟨fun pins s σ H Q I q => p.run pins s σ H Q I ?_⟩
  obtain ⟨Z, H0, O, en, m, hE, hG⟩ := q
  exact r Z H0 O en σ H m Q hE (hG.mono (fun _ _ k => k) fun _ _ k => k.elim)
theorem FT.pt {e : Expr} {F : SE → M Bool} (h : FT X c U e F) : PT X e (tT X c U F) := by
  obtain ⟨t, p, r⟩ := h
  refine ⟨fun pins s σ H Q I q => p.run pins s σ H Q I ?_⟩
  obtain ⟨Z, H0, O, en, m, hE, hG⟩ := q
  exact r Z H0 O en σ H m Q hE (hG.mono (fun _ _ k => k) fun _ _ k => k.elim)
/-- a clause's tests -/
def FTs (X : Cx) (c : Ct) (U : List Nat) (es : List Expr) (F : SE → M Bool) : Prop := PTs X es (tT X c U F)
def tYs : SE → M Bool := fun _ => pure true
theorem fts_nil : FTs X c U [] tYs := ⟨fun pins s σ H Q I q => by
  obtain ⟨Z, H0, O, en, m, hE, hG⟩ := q
  exact pts_nil.run pins s σ H Q I (hG H (SameW.refl _ _) hE.dr)⟩
theorem fts_one {e : Expr} {F : SE → M Bool} (h : FT X c U e F) : FTs X c U [e] F := pts_one h.pt
/-- what a list holds -/
def ItK (K : PySem.W.Frag) (H : Hp) (k : Kd) (vs : List V) (ds : List D) : Prop := match k with
  | .pl => DzAll K H vs ds
  | _ => DqAll K H vs ds
theorem ItK.len {K : PySem.W.Frag} {H : Hp} {k : Kd} {vs : List V} {ds : List D} (h : ItK K H k vs ds) : vs.length = ds.length := by
  cases k <;> first | exact DqAll.length h | exact DqAll.length (DzAll.dq h)
theorem ItK.mono {K : PySem.W.Frag} {H H' : Hp} (s : Same H H') {k : Kd} {vs : List V} {ds : List D} (h : ItK K H k vs ds) : ItK K H' k vs ds := by
  cases k <;> first | exact DqAll.mono s h | exact DzAll.mono s h
theorem ItK.snoc {K : PySem.W.Frag} {H : Hp} {k : Kd} (hk : toDat k = true) {vs : List V} {ds : List D} {v : V} {d : D} (h : ItK K H k vs ds) (r : Res K H k d v) : ItK K H k (vs ++ [v]) (ds ++ [d]) := by
  cases k with
  | dat => exact DqAll.append h (DqAll.one r)
  | dic => cases hk
  | dit => cases hk
  | nd => exact DqAll.append h (DqAll.one r.1)
  | pl => exact DzAll.append h (.cons r .nil)
theorem ItK.nil {K : PySem.W.Frag} {H : Hp} {k : Kd} : ItK K H k [] [] := by
  cases k <;> first | exact DqAll.nil | exact DzAll.nil
def lcC : Option D → List D → List D
  | some v, r => v :: r
  | none, r => r
/-- a comprehension's turns -/
def lcL (f : D → M (Option D)) : List D → M (List D)
  | [] => pure []
  | d :: ds => do
    let o ← f d
    let r ← lcL f ds
    pure (lcC o r)
def lcStep (G : D → SE → M SE) (T : SE → M Bool) (E : SE → M D) (en : SE) : D → M (Option D) := fun d => do
  let e1 ← G d en
  let b ← T e1
  if b = true then do
    let v ← E e1
    pure (some v)
  else pure none
def lcF (It : SE → M (List D)) (G : D → SE → M SE) (T : SE → M Bool) (E : SE → M D) (vs : List Nat) : SE → M D := fun en => nox do
  let ds ← It en
  let rs ← lcL (lcStep G T E (wipeE en vs)) ds
  if rs.length ≤ lineN then pure (.list rs) else M.no
/-- a comprehension's reading -/
theorem lc_read {k ke : Kd} (hke : toDat ke = true) {is : List Nat} {It : SE → M (List D)} {G : D → SE → M SE} {T : SE → M Bool} {El : SE → M D} {vs : List Nat} {wi : TI}
    (ri : ∀ Z H0 O en σ H m R, EnvOk X.K c.W c.ms c.dk Z H0 U O en σ H m → Good (It en m) (fun ds m' => ∀ J H1, SameW c.W H H1 → DrawOk c.W H1 m' → Walk J ds.length (fun H' => Same (hide (ZO Z O) H1) H') (YD X.K (ZO Z O) H1 k ds) → R J H1) (fun x m' => ExK X c (ZO Z O) H x m') → wi σ H R)
    (his : ∀ i ∈ is, i ∈ vs) (hU : ∀ i ∈ vs, i ∉ U) (hms : ∀ i ∈ vs, i ∉ c.ms) {Z : List Addr} {H0 : Hp} {O : List (Nat × Addr)} {en : SE} {σ : L2.St} {H : Hp} {m : MS} {Q : VK} {R : Exn → MS → Prop} (hE : EnvOk X.K c.W c.ms c.dk Z H0 U O en σ H m)
    (hG : Good (lcF It G T El vs en m) (fun d m' => ∀ a ws xs H', d = .list xs → SameW c.W H H' → DrawOk c.W H' m' → H a = none → H' a = some (.lst ws) → ItK X.K (hide (a :: ZO Z O) H') ke ws xs → Q (.ref a) H') R) :
    tLc wi (tG X c U k is G) (tT X c U T) (tE X c U ke El) vs σ H Q := by
  refine ri Z H0 O en σ H m _ hE (hG.nox.bd.mono (fun ds m1 k1 J H1 s1 d1 wk a na => ?_) fun _ _ k => k.elim)
  have nH : H a = none := none_step s1 d1 na
  have n0 : H0 a = none := hE.none0 nH
  have su : SameW c.W H1 (upd H1 a (.lst [])) := .of (same_new na _)
  have hw := hE.wzo
  have nw := (hE.step s1 d1).nw0 n0
  have E0 : EnvOk X.K c.W c.ms c.dk (a :: Z) H0 U O en σ (upd H1 a (.lst [])) m1 := hE.temp (s1.trans su) (d1.same (same_new na _)) nH (by rw [upd_same]; exact fun x => nomatch x)
  have k1 : Good ((lcL (lcStep G T El (wipeE en vs)) ds >>= fun rs => (if rs.length ≤ lineN then pure (.list rs) else M.no : M D)) m1) _ _ := k1
  refine lc_it wk (fun i H' => ∃ m' ws acc, EnvOk X.K c.W c.ms c.dk (a :: Z) H0 U O en σ H' m' ∧ SameW c.W H1 H' ∧ H' a = some (.lst ws) ∧ ItK X.K (hide (a :: ZO Z O) H') ke ws acc ∧
    Good (lcL (lcStep G T El (wipeE en vs)) (ds.drop i) m') (fun rs m'' => Good ((if (acc ++ rs).length ≤ lineN then pure (.list (acc ++ rs)) else M.no : M D) m'') (fun d m' => ∀ a ws xs H', d = .list xs → SameW c.W H H' → DrawOk c.W H' m' → H a = none → H' a = some (.lst ws) → ItK X.K (hide (a :: ZO Z O) H') ke ws xs → Q (.ref a) H') (fun _ _ => False)) (fun _ _ => False))
    ⟨m1, [], [], E0, su, upd_same, .nil, by rw [List.drop_zero]; exact k1.bd⟩ (fun i H' _ ⟨m', ws, acc, E, s, _⟩ => Same.trans (s.hide hw) (hide_same _ _)) (fun i x H3 H4 hi ⟨m', ws, acc, E, s, ha, hI, hg⟩ y => ?_) (fun H' ⟨m', ws, acc, E, s, ha, hI, hg⟩ => ?_)
  · obtain ⟨sy, d, hd, hr⟩ := y
    have e : ds.drop i = d :: ds.drop (i + 1) := by
      rw [List.drop_eq_getElem_cons hi]
      rw [List.getElem?_eq_getElem hi] at hd
      cases hd
      rfl
    rw [e] at hg
    have Eg := (E.grow sy).wiped hU hms
    refine ⟨a :: Z, H0, O, wipeE en vs, m', d, Eg, hr _ E.zt (hide_temp s hw na), ?_⟩
    have hg : Good (((lcStep G T El (wipeE en vs) d) >>= fun o => lcL (lcStep G T El (wipeE en vs)) (ds.drop (i + 1)) >>= fun r => pure (lcC o r)) m') _ _ := hg
    refine (show Good ((G d (wipeE en vs) >>= fun e1 => T e1 >>= fun b => (if b = true then (El e1 >>= fun v => pure (some v)) else pure none : M (Option D))) m') _ _ from hg.bd).bdT.mono (fun e1 m2 k2 σ2 H5 s5 w5 E5 => ?_) fun _ _ _ => trivial
    refine ⟨(w5 vs his).trans wipe_wipe, a :: Z, H0, O, e1, m2, E5, k2.bd.mono (fun b m3 k3 H6 s6 d6 => ?_) fun _ _ k => k⟩
    have s36 : SameW c.W H3 H6 := (SameW.of sy).trans (s5.trans s6)
    have E6 : EnvOk X.K c.W c.ms c.dk (a :: Z) H0 U O en σ H6 m3 := E.step s36 d6
    have na0 : ∀ w, c.W = some w → a ≠ w.am ∧ a ≠ w.gA := fun w q => ⟨(nw w q).1, (nw w q).2.2⟩
    have ha6 : H6 a = some (.lst ws) := s36 a _ na0 ha
    cases b with
    | false =>
      have k3 : Good ((pure none : M (Option D)) m3) _ _ := k3
      refine ⟨m3, ws, acc, E6, s.trans s36, ha6, hI.mono (s36.hide E.wzo), ?_⟩
      have k5 := Good.bd (show Good ((lcL (lcStep G T El (wipeE en vs)) (ds.drop (i + 1)) >>= fun r => pure (lcC none r)) m3) _ _ from k3)
      exact k5
    | true =>
      refine ⟨a :: Z, H0, O, e1, m3, E5.step s6 d6, Good.mono (Good.bd k3) (fun v m4 k4 w H7 s7 d7 q7 => ?_) fun _ _ k => k⟩
      have s37 : SameW c.W H3 H7 := s36.trans s7
      have E7 : EnvOk X.K c.W c.ms c.dk (a :: Z) H0 U O en σ H7 m4 := E.step s37 d7
      have ha7 : H7 a = some (.lst ws) := s37 a _ na0 ha
      have k4 : Good (lcL (lcStep G T El (wipeE en vs)) (ds.drop (i + 1)) m4) _ _ := Good.bd (show Good ((lcL (lcStep G T El (wipeE en vs)) (ds.drop (i + 1)) >>= fun r => pure (v :: r)) m4) _ _ from k4)
      have hlen : acc.length < lineN := by
        obtain ⟨rs, m8, q8⟩ := Good.ex k4
        have q8 : Good ((if (acc ++ v :: rs).length ≤ lineN then pure (.list (acc ++ v :: rs)) else M.no : M D) m8) _ _ := q8
        by_cases hz : (acc ++ v :: rs).length ≤ lineN
        · rw [List.length_append, List.length_cons] at hz
          omega
        · rw [if_neg hz] at q8
          exact q8.elim
      refine ⟨ws, ha7, by rw [hI.len]; exact own_line hlen, m4, ws ++ [w], acc ++ [v], E7.turn n0, same_updW (s.trans s37) na, upd_same, ?_, ?_⟩
      · rw [hide_updZ List.mem_cons_self]
        exact ItK.snoc hke (hI.mono (s37.hide E.wzo)) q7
      · refine Good.mono k4 (fun rs m8 q8 => ?_) fun _ _ k => k
        rw [List.append_assoc]
        exact q8
  · rw [List.drop_eq_nil_of_le (Nat.le_refl _)] at hg
    have hg : Good ((if (acc ++ []).length ≤ lineN then pure (.list (acc ++ [])) else M.no : M D) m') _ _ := hg
    rw [List.append_nil] at hg
    by_cases hz : acc.length ≤ lineN
    · rw [if_pos hz] at hg
      exact hg a ws acc H' rfl (s1.trans s) E.dr nH ha hI
    · rw [if_neg hz] at hg
      exact hg.elim
theorem lcF_list {It : SE → M (List D)} {G : D → SE → M SE} {T : SE → M Bool} {E : SE → M D} {vs : List Nat} {en : SE} {m : MS} {P : D → MS → Prop} {R : Exn → MS → Prop} (h : Good (lcF It G T E vs en m) P R) : Good (lcF It G T E vs en m) (fun d m' => P d m' ∧ ∃ xs, d = .list xs) R := by
  unfold lcF at h ⊢
  unfold VL.nox at h ⊢
  revert h
  have key : ∀ d m', ((It en >>= fun ds => lcL (lcStep G T E (wipeE en vs)) ds >>= fun rs => (if rs.length ≤ lineN then pure (.list rs) else M.no : M D)) m) = .ok d m' → ∃ xs, d = .list xs := by
    intro d m' e
    have e : M.bd (It en) (fun ds => lcL (lcStep G T E (wipeE en vs)) ds >>= fun rs => (if rs.length ≤ lineN then pure (.list rs) else M.no : M D)) m = .ok d m' := e
    unfold M.bd at e
    cases q : It en m with
    | bad => rw [q] at e; cases e
    | exc x y => rw [q] at e; cases e
    | ok ds m1 =>
      rw [q] at e
      have e : M.bd (lcL (lcStep G T E (wipeE en vs)) ds) (fun rs => (if rs.length ≤ lineN then pure (.list rs) else M.no : M D)) m1 = .ok d m' := e
      unfold M.bd at e
      cases q2 : lcL (lcStep G T E (wipeE en vs)) ds m1 with
      | bad => rw [q2] at e; cases e
      | exc x y => rw [q2] at e; cases e
      | ok rs m2 =>
        rw [q2] at e
        have e : (if rs.length ≤ lineN then pure (.list rs) else M.no : M D) m2 = .ok d m' := e
        by_cases hz : rs.length ≤ lineN
        · rw [if_pos hz] at e
          cases e
          exact ⟨rs, rfl⟩
        · rw [if_neg hz] at e
          cases e
  cases q : ((It en >>= fun ds => lcL (lcStep G T E (wipeE en vs)) ds >>= fun rs => (if rs.length ≤ lineN then pure (.list rs) else M.no : M D)) m) with
  | ok d m' => exact fun h => ⟨h, key d m' q⟩
  | exc x y => exact fun h => h
  | bad => exact fun h => h
variable {k ke : Kd} {is : List Nat} {elt tg it : Expr} {ifs : List Expr} {scope : Scope} {own : List (Str × Nat)} {pos : Pos} {It : SE → M (List D)} {G : D → SE → M SE} {T : SE → M Bool} {El : SE → M D}
/-- [elt for tg in it if ..] of any kind of items: its reading -/
theorem fo_lc (own : List (Str × Nat)) (hc : X.calm = true) (hN : X.N.Nodup) (hi : FI X c U k tg it It)
    (hg : ∀ (s : Shared) (H : Hp) (C : Addr) (cl : List (Str × Addr)) (fp : List Addr), FG (X.blk s H scope (compEnvC scope cl C X.env) fp) c U k is tg G)
    (ht : ∀ (s : Shared) (H : Hp) (C : Addr) (cl : List (Str × Addr)) (fp : List Addr), FTs (X.blk s H scope (compEnvC scope cl C X.env) fp) c U ifs T)
    (he : ∀ (s : Shared) (H : Hp) (C : Addr) (cl : List (Str × Addr)) (fp : List Addr), FE (X.blk s H scope (compEnvC scope cl C X.env) fp) c U elt El)
    (ok : blkC X.N X.env.scope scope own = true := by rfl) (his : ∀ i ∈ is, i ∈ own.map (·.2) := by decide) (hU : ∀ i ∈ own.map (·.2), i ∉ U := by decide) (hms : ∀ i ∈ own.map (·.2), i ∉ c.ms := by (try dsimp only); decide)
    (hs : ∀ x, foldedSetIterable it X.env x = pure x := by intro _; rfl) : FO X c U .dat (.ListComp elt [⟨tg, it, ifs, 0⟩] scope pos) (lcF It G T El (own.map (·.2))) := by
  obtain ⟨wi, pi, ri⟩ := hi
  refine ⟨_, pe_lc (g := tG X c U k is G) (tt := tT X c U T) (te := tE X c U .dat El) hc hN pi (blkOk_by ok) hg ht (fun s H C cl fp => (he s H C cl fp).pe) hs, fun Z H0 O en σ H m Q hE hG => ?_⟩
  refine lc_read (ke := .dat) rfl ri his hU hms hE (hG.mono (fun d m' kk a ws xs H' e s d1 n1 h1 hI => ?_) fun _ _ k => k)
  subst e
  exact kk a _ H' s d1 n1 h1 (.lst xs ws hI) rfl
/-- .. of plainly known items -/
theorem fr_lcP (own : List (Str × Nat)) (hc : X.calm = true) (hN : X.N.Nodup) (hi : FI X c U k tg it It)
    (hg : ∀ (s : Shared) (H : Hp) (C : Addr) (cl : List (Str × Addr)) (fp : List Addr), FG (X.blk s H scope (compEnvC scope cl C X.env) fp) c U k is tg G)
    (ht : ∀ (s : Shared) (H : Hp) (C : Addr) (cl : List (Str × Addr)) (fp : List Addr), FTs (X.blk s H scope (compEnvC scope cl C X.env) fp) c U ifs T)
    (he : ∀ (s : Shared) (H : Hp) (C : Addr) (cl : List (Str × Addr)) (fp : List Addr), FR (X.blk s H scope (compEnvC scope cl C X.env) fp) c U .pl elt El)
    (ok : blkC X.N X.env.scope scope own = true := by rfl) (his : ∀ i ∈ is, i ∈ own.map (·.2) := by decide) (hU : ∀ i ∈ own.map (·.2), i ∉ U := by decide) (hms : ∀ i ∈ own.map (·.2), i ∉ c.ms := by (try dsimp only); decide)
    (hs : ∀ x, foldedSetIterable it X.env x = pure x := by intro _; rfl) : FR X c U .pl (.ListComp elt [⟨tg, it, ifs, 0⟩] scope pos) (lcF It G T El (own.map (·.2))) := by
  obtain ⟨wi, pi, ri⟩ := hi
  refine ⟨_, pe_lc (g := tG X c U k is G) (tt := tT X c U T) (te := tE X c U .pl El) hc hN pi (blkOk_by ok) hg ht (fun s H C cl fp => (he s H C cl fp).pe) hs, fun Z H0 O en σ H m Q hE hG => ?_⟩
  refine lc_read (ke := .pl) rfl ri his hU hms hE (hG.mono (fun d m' kk a ws xs H' e s d1 n1 h1 hI => ?_) fun _ _ k => k)
  subst e
  have na : a ∉ ZO Z O := fun z => hE.zt a z n1
  exact kk _ H' s d1 (Dz.lst (Rd.of (by rw [hide_ne na]; exact h1)) (DzAll.mono (hide_sub fun b hb => List.mem_cons_of_mem _ hb) hI))
/-- name = [..] on the name's line -/
theorem fs_setLc (i : Nat) {y : Str} {py spos : Pos} (own : List (Str × Nat)) (hc : X.calm = true) (hN : X.N.Nodup) (hi : FI X c U k tg it It)
    (hg : ∀ (s : Shared) (H : Hp) (C : Addr) (cl : List (Str × Addr)) (fp : List Addr), FG (X.blk s H scope (compEnvC scope cl C X.env) fp) c U k is tg G)
    (ht : ∀ (s : Shared) (H : Hp) (C : Addr) (cl : List (Str × Addr)) (fp : List Addr), FTs (X.blk s H scope (compEnvC scope cl C X.env) fp) c U ifs T)
    (he : ∀ (s : Shared) (H : Hp) (C : Addr) (cl : List (Str × Addr)) (fp : List Addr), FE (X.blk s H scope (compEnvC scope cl C X.env) fp) c U elt El)
    (hsw : swapsWith (.ListComp elt [⟨tg, it, ifs, 0⟩] scope pos) (some (.Name y py)) spos.line X.env = pure true)
    (hk : c.dk i = .dat := by rfl) (hUi : i ∉ U := by decide) (hmi : i ∉ c.ms := by (try dsimp only); decide) (hy : X.N[i]? = some y := by rfl) (hyl : X.env.scope.names.lookup y = some .local := by rfl)
    (ok : blkC X.N X.env.scope scope own = true := by rfl) (his : ∀ i ∈ is, i ∈ own.map (·.2) := by decide) (hU : ∀ i ∈ own.map (·.2), i ∉ U := by decide) (hms : ∀ i ∈ own.map (·.2), i ∉ c.ms := by (try dsimp only); decide)
    (hs : ∀ x, foldedSetIterable it X.env x = pure x := by intro _; rfl) : FS X c UL U (.Assign [.Name y py] (.ListComp elt [⟨tg, it, ifs, 0⟩] scope pos) spos) (sSetO i (lcF It G T El (own.map (·.2)))) (i :: U) := by
  obtain ⟨wi, pi, ri⟩ := hi
  refine ⟨_, ps_setLc (g := tG X c U k is G) (tt := tT X c U T) (te := tE X c U .dat El) hc hN hy hyl hsw pi (blkOk_by ok) hg ht (fun s H C cl fp => (he s H C cl fp).pe) hs, fun Z H0 O en σ H m Ds hE hG => ?_⟩
  refine lc_read (ke := .dat) (R := fun x m' => ExK X c (ZO Z O) H x m') rfl ri his hU hms hE (hG.bd.mono (fun d m' kk a ws xs H' e s d1 n1 h1 hI => ?_) fun _ _ k => k.out hE)
  subst e
  by_cases hl : i < en.length
  · have kk : Good ((if i < en.length then pure (.nx (en.set i (some (.list xs)))) else M.no : M Ctl) m') _ _ := kk
    rw [if_pos hl] at kk
    exact kk _ _ H' (hE.putO s d1 hUi hmi (by rw [← hE.len]; exact hl) n1 h1 (.lst xs ws hI) hk)
  · have kk : Good ((if i < en.length then pure (.nx (en.set i (some (.list xs)))) else M.no : M Ctl) m') _ _ := kk
    rw [if_neg hl] at kk
    exact kk.elim
theorem fs_setLcP (i : Nat) {y : Str} {py spos : Pos} (own : List (Str × Nat)) (hc : X.calm = true) (hN : X.N.Nodup) (hi : FI X c U k tg it It)
    (hg : ∀ (s : Shared) (H : Hp) (C : Addr) (cl : List (Str × Addr)) (fp : List Addr), FG (X.blk s H scope (compEnvC scope cl C X.env) fp) c U k is tg G)
    (ht : ∀ (s : Shared) (H : Hp) (C : Addr) (cl : List (Str × Addr)) (fp : List Addr), FTs (X.blk s H scope (compEnvC scope cl C X.env) fp) c U ifs T)
    (he : ∀ (s : Shared) (H : Hp) (C : Addr) (cl : List (Str × Addr)) (fp : List Addr), FR (X.blk s H scope (compEnvC scope cl C X.env) fp) c U .pl elt El)
    (hsw : swapsWith (.ListComp elt [⟨tg, it, ifs, 0⟩] scope pos) (some (.Name y py)) spos.line X.env = pure true)
    (hk : c.dk i = .pl := by rfl) (hUi : i ∉ U := by decide) (hmi : i ∉ c.ms := by (try dsimp only); decide) (hy : X.N[i]? = some y := by rfl) (hyl : X.env.scope.names.lookup y = some .local := by rfl)
    (ok : blkC X.N X.env.scope scope own = true := by rfl) (his : ∀ i ∈ is, i ∈ own.map (·.2) := by decide) (hU : ∀ i ∈ own.map (·.2), i ∉ U := by decide) (hms : ∀ i ∈ own.map (·.2), i ∉ c.ms := by (try dsimp only); decide)
    (hs : ∀ x, foldedSetIterable it X.env x = pure x := by intro _; rfl) : FS X c UL U (.Assign [.Name y py] (.ListComp elt [⟨tg, it, ifs, 0⟩] scope pos) spos) (sSet i (lcF It G T El (own.map (·.2)))) U := by
  obtain ⟨wi, pi, ri⟩ := hi
  refine ⟨_, ps_setLc (g := tG X c U k is G) (tt := tT X c U T) (te := tE X c U .pl El) hc hN hy hyl hsw pi (blkOk_by ok) hg ht (fun s H C cl fp => (he s H C cl fp).pe) hs, fun Z H0 O en σ H m Ds hE hG => ?_⟩
  refine lc_read (ke := .pl) (R := fun x m' => ExK X c (ZO Z O) H x m') rfl ri his hU hms hE (hG.bd.mono (fun d m' kk a ws xs H' e s d1 n1 h1 hI => ?_) fun _ _ k => k.out hE)
  subst e
  have na : a ∉ ZO Z O := fun z => hE.zt a z n1
  refine kk O _ H' ((hE.step s d1).put' hUi hmi ?_)
  rw [hk]
  exact Dz.lst (Rd.of (by rw [hide_ne na]; exact h1)) (DzAll.mono (hide_sub fun b hb => List.mem_cons_of_mem _ hb) hI)
end
end VL
/-! the value layer: defs, their promises, calls -/
namespace VL
open PySem
open PySem.Spec
open L2

/-! ### a def's promise, where no guard stands -/
structure FnV (P : Program) (w : World) (K : PySem.W.Frag) (mg : Str → Option Value) (base : Heap) (CX : CXT) (k : Nat) (f : Addr) (fd : FuncData) (ps : List Str) (sp : Sp) : Prop where
  lens : ∀ vs H Q E, sp vs H Q E → vs.length = ps.length
  runs : ∀ (A : Around) (outer : List Env) (s : Shared) (H : Hp) (args : Args) (us : List Value) (vs : List V) (Q : VK) (E : XK), A.guards = some [] → Room k A → Env0 P w K mg base A outer s H → BindsTo s fd args (ps.zip us) → Vals vs us → sp vs H Q E →
    codeAny (model P w) A (.call (.ref f) args) (CR CX outer P w H s Q E) s
theorem FnV.mono {P : Program} {w : World} {K : PySem.W.Frag} {mg : Str → Option Value} {base : Heap} {CX : CXT} {j k : Nat} {f : Addr} {fd : FuncData} {ps : List Str} {sp : Sp} (F : FnV P w K mg base CX j f fd ps sp) (h : j ≤ k) : FnV P w K mg base CX k f fd ps sp :=
  ⟨F.lens, fun A outer s H args us vs Q E hg hr => F.runs A outer s H args us vs Q E hg (hr.mono h)⟩
section
variable {X : Cx} {CX : CXT} {k : Nat} {f : Addr} {fd : FuncData} {ps : List Str} {sp : Sp} {E : XK} {x : Str} {p pos : Pos} {e : Expr} {es : List Expr} {t : TA}
theorem run_V {pins : List (Addr × Obj)} {σ : L2.St} {H : Hp} {s : Shared} {Q : VK} {us : List Value} {vs : List V} (F : FnV X.prog X.w X.K X.mg X.base CX k f fd ps sp) (hgd : X.A.guards = some []) (hr : Room k X.A) (hb : Binds X.K fd ps []) (hx : Passes CX X E)
    (I : Inv X pins σ H s) (r : Vals vs us) (h : sp vs H Q E) : wpAny (model X.prog X.w) X.A (call (.ref f) us) (EP X pins σ Q) X.xe s := by
  have hle : us.length = ps.length := r.length.symm.trans (F.lens _ _ _ _ h)
  have hbd : BindsTo s fd ⟨us, []⟩ (ps.zip us) := by
    have q := hb s us I.kIn (by rw [List.append_nil]; exact hle)
    rwa [List.append_nil] at q
  refine wpAny_call (codeAny_mono (F.runs X.A X.stack s H ⟨us, []⟩ us vs Q E hgd hr I.env0 hbd r h) fun res s' got => ?_)
  rcases res with ex | fl
  · exact hx pins σ H s _ s' I got
  · cases fl <;> first | exact I.after got | exact False.elim got
theorem pe_V (F : FnV X.prog X.w X.K X.mg X.base CX k f fd ps sp) (hgd : X.A.guards = some []) (hr : Room k X.A) (hg : Gl X x) (hm : X.mg x = some (.ref f)) (hk : PySem.W.keepIn X.K (.ref f) = true) (hb : Binds X.K fd ps []) (hx : Passes CX X E)
    (ha : PA X (e :: es) t) (hdb : (x == ("__debug__" : Str)) = false := by decide) (he : starEach (e :: es) X.env = (false, eval e X.env) :: starEach es X.env := by rfl) (hpl : (backTo pos (starEach es X.env)).any (·.1) = false := by rfl) :
    PE X (.Call (.Name x p) (e :: es) [] pos) (fun σ H Q => t σ H fun vs H1 => sp vs H1 Q E) := by
  refine ⟨fun pins s σ H Q I h => wpAny_Call_Name_kw (ld_glob I hg hm ?_ hdb)⟩
  exact PySem.W.callWith_K (h₀ := X.base) I.ok.mod.kin hk (thn (ha.run pos pins s σ H _ I h) fun us s1 ⟨vs, H1, I1, r, q⟩ => ⟨I1.kIn, run_V F hgd hr hb hx I1 r q⟩) he hpl
end
/-- a def of the text, by its body -/
theorem fnV_of {CX : CXT} {P : Program} {w : World} {K : PySem.W.Frag} {mg : Str → Option Value} {base : Heap} {x qual : Str} {st : Stmt} {f : Addr} {fd : FuncData} {N ps : List Str} {k : Nat} {sp : Sp} (F : Fun K x qual st f fd) (S : FnScope N ps (defScope st)) (lens : ∀ vs H Q E, sp vs H Q E → vs.length = ps.length)
    (body : ∀ (cdv : Value) (A : Around) (outer : List Env) (s : Shared) (H : Hp) (vs : List V) (Q : VK) (E : XK), A.guards = some [] → Room k (A.deeper (PyProof.Rows.envOfC qual (defScope st) s.heap.objs.size f cdv)) → sp vs H Q E →
      ∃ t, PSs (cxOf CX P w K mg base N qual (defScope st) f cdv A outer s H E) (defBody st) t ∧ t { nx := fun _ H' => Q .non H', rt := Q } (L2.start N vs) H) : FnV P w K mg base CX (k + 1) f fd ps sp := by
  obtain ⟨oc, od, kV, doc, pm, an, cdv, ct, osl, rfl, lk, hcd⟩ := F.ex
  refine ⟨lens, fun A outer s H args us vs Q E hgd hr e0 hb r hsp => ?_⟩
  have kin : K.In s.heap := e0.mod.kin.keeps fun b o q => (e0.bs b o q).1
  have nol : s.heap.NoLimit := e0.mod.nolimit.keeps fun b o q => (e0.bs b o q).1
  have kinds : ∀ y ∈ ps.zip us, (defScope st).names.lookup y.1 = some .local ∨ ((defScope st).names.lookup y.1 = some .cell ∧ ((cellsFrom (s.heap.objs.size + 1) (defScope st).names []).lookup y.1).isSome = true) := fun y hy => by
    rcases S.par y.1 (List.of_mem_zip (a := y.1) (b := y.2) hy).1 with q | q
    · exact .inl q
    · exact .inr ⟨q, PySem.W.cellsFrom_some _ _ _ (.inl q)⟩
  refine codeAny_call_function hr.depth (kin _ _ lk) rfl S.co S.gen rfl (PySem.W.codeRec_of kin hcd) (hb _ _ _ _ (wpAny_newFunctionEnv_cells S.kind kinds fun env he s1 ic => ?_))
  subst he
  refine ⟨nol.keeps ic.toInCall.keep, codeAny_func ?_⟩
  obtain ⟨t, pt, qt⟩ := body cdv A outer s H vs Q E hgd (hr.deeper _) hsp
  refine wpAny_mono (pt.run [] s1 (L2.start N vs) H _ (inv_start S hr.hd e0 (lens _ _ _ _ hsp) r ic) qt) (fun fl s' got => ?_) fun ex s' got => got
  cases fl with
  | brk => exact let ⟨_, _, _, no⟩ := got; no.elim
  | cont => exact let ⟨_, _, _, no⟩ := got; no.elim
  | next => exact let ⟨_, H', J, q⟩ := got; ⟨V.non, H', J.os, J.bare, J.base, J.hok, rfl, q⟩
  | ret u => exact let ⟨v, _, H', J, rv, q⟩ := got; ⟨v, H', J.os, J.bare, J.base, J.hok, rv, q⟩

/-! ### the promises by data -/
def ms0 : MS := ([], [], 0)
/-- nothing but the arguments is asked -/
def spP (K : PySem.W.Frag) (ks : List Kd) (kr : Kd) (F : List D → M D) : Sp := fun vs H Q E => ∃ Zs ds, (∀ z ∈ Zs, H z ≠ none) ∧ AllK K (hide Zs H) ks vs ds ∧
  Good (F ds ms0) (fun d _ => ∀ v H', Same H H' → Res K (hide Zs H') kr d v → Q v H') (fun _ _ => False)
/-- the first argument is the machine -/
def spM (K : PySem.W.Frag) (ks : List Kd) (kr : Kd) (F : List D → M D) : Sp := fun vs H Q E => ∃ w Zs ds m vs', vs = .ref w.am :: vs' ∧ WIn (some w) Zs ∧ (∀ z ∈ Zs, H z ≠ none) ∧ DrawOk (some w) H m ∧ AllK K (hide Zs H) ks vs' ds ∧
  Good (F ds m) (fun d m' => ∀ v H', SameW (some w) H H' → DrawOk (some w) H' m' → Res K (hide Zs H') kr d v → Q v H') (fun _ _ => False)
theorem spP_len {K : PySem.W.Frag} {ks : List Kd} {kr : Kd} {F : List D → M D} {n : Nat} (h : ks.length = n) : ∀ vs H Q E, spP K ks kr F vs H Q E → vs.length = n := fun vs H Q E ⟨_, _, _, q, _⟩ => q.len.1.trans h
theorem spM_len {K : PySem.W.Frag} {ks : List Kd} {kr : Kd} {F : List D → M D} {n : Nat} (h : ks.length + 1 = n) : ∀ vs H Q E, spM K ks kr F vs H Q E → vs.length = n := fun vs H Q E ⟨_, _, _, _, vs', e, _, _, _, q, _⟩ => by
  subst e
  rw [List.length_cons, q.len.1]
  exact h
/-- the machine stands still -/
def still {α : Type} (x : M α) : M α := fun m => match x ms0 with
  | .ok a _ => .ok a m
  | .exc e _ => .exc e m
  | .bad => .bad
theorem Good.still {α : Type} {x : M α} {m : MS} {P : α → MS → Prop} {R : Exn → MS → Prop} (h : Good (VL.still x m) P R) : Good (x ms0) (fun a _ => P a m) (fun e _ => R e m) := by
  unfold VL.still at h
  cases q : x ms0 with
  | ok a m' => rw [q] at h; exact h
  | exc c m' => rw [q] at h; exact h
  | bad => rw [q] at h; exact h
section
variable {X : Cx} {c : Ct} {U : List Nat} {k : Nat} {f : Addr} {fd : FuncData} {ps : List Str} {x : Str} {p pos : Pos} {e : Expr} {es : List Expr} {ks : List Kd} {kr : Kd} {Fn : List D → M D} {A : SE → M (List D)}
/-- f(..), no exception -/
def eCall (Fn : List D → M D) (A : SE → M (List D)) : SE → M D := fun en => do
  let ds ← A en
  still (nox (Fn ds))
theorem fr_call (F : FnV X.prog X.w X.K X.mg X.base CX0 k f fd ps (spP X.K ks kr Fn)) (hgd : X.A.guards = some []) (hr : Room k X.A) (hm : X.mg x = some (.ref f)) (hk : PySem.W.keepIn X.K (.ref f) = true) (hb : Binds X.K fd ps []) (ha : FA X c U (e :: es) ks A) (hg : Gl X x := by rfl)
    (hdb : (x == ("__debug__" : Str)) = false := by decide) (he : starEach (e :: es) X.env = (false, eval e X.env) :: starEach es X.env := by rfl) (hpl : (backTo pos (starEach es X.env)).any (·.1) = false := by rfl) : FR X c U kr (.Call (.Name x p) (e :: es) [] pos) (eCall Fn A) := by
  obtain ⟨t, pa, ra⟩ := ha
  refine ⟨_, pe_V F hgd hr hg hm hk hb pass0 pa hdb he hpl, fun Z H0 O en σ H m Q hE hG => ra Z H0 O en σ H m _ hE (hG.bd.mono (fun ds m1 k1 vs H1 s1 d1 q1 => ?_) fun _ _ k => k)⟩
  have E1 := hE.step s1 d1
  exact ⟨ZO Z O, ds, E1.zt, q1, (show Good (VL.nox (Fn ds) ms0) _ _ from k1.still).nox.mono (fun d m2 k2 v H2 s2 q2 => k2 v H2 (s1.trans (.of s2)) (d1.same s2) q2) fun _ _ k => k⟩
/-- the machine ahead of the arguments -/
theorem fr_callM (j : Nat) {y : Str} {py : Pos} {w : Wd} (F : FnV X.prog X.w X.K X.mg X.base CX0 k f fd ps (spM X.K ks kr Fn)) (hW : c.W = some w) (hgd : X.A.guards = some []) (hr : Room k X.A) (hm : X.mg x = some (.ref f)) (hk : PySem.W.keepIn X.K (.ref f) = true) (hb : Binds X.K fd ps []) (ha : FA X c U es ks A)
    (hj : j ∈ c.ms := by (try dsimp only); decide) (hN : X.N[j]? = some y := by rfl) (hv : Vis X.env.scope y := by first | exact Or.inl rfl | exact Or.inr (Or.inl rfl) | exact Or.inr (Or.inr rfl)) (hd : (y == ("__debug__" : Str)) = false := by decide) (hcd : (y == ("__classdict__" : Str)) = false := by decide) (hg : Gl X x := by rfl)
    (hdb : (x == ("__debug__" : Str)) = false := by decide) (he : starEach (.Name y py :: es) X.env = (false, eval (.Name y py) X.env) :: starEach es X.env := by rfl) (hpl : (backTo pos (starEach es X.env)).any (·.1) = false := by rfl) : FR X c U kr (.Call (.Name x p) (.Name y py :: es) [] pos) (fun en => do let ds ← A en; nox (Fn ds)) := by
  obtain ⟨t, pa, ra⟩ := ha
  refine ⟨_, pe_V F hgd hr hg hm hk hb pass0 (pa_cons (pe_var hN hv hd hcd) pa he) hdb he hpl, fun Z H0 O en σ H m Q hE hG => ⟨_, hE.dm w hW j hj, ra Z H0 O en σ H m _ hE (hG.bd.mono (fun ds m1 k1 vs H1 s1 d1 q1 => ?_) fun _ _ k => k)⟩⟩
  have E1 := hE.step s1 d1
  have hz := E1.wzo
  have d1' := d1
  rw [hW] at hz d1'
  refine ⟨w, ZO Z O, ds, m1, vs, rfl, hz, E1.zt, d1', q1, k1.nox.mono (fun d m2 k2 v H2 s2 d2 q2 => ?_) fun _ _ k => k⟩
  exact k2 v H2 (s1.trans (by rw [hW]; exact s2)) (by rw [hW]; exact d2) q2
end

/-! ### a def's body -/
/-- the slots at the entry -/
def env0 (n : Nat) (ds : List D) : SE := ds.map some ++ List.replicate (n - ds.length) none
def envM (n : Nat) (ds : List D) : SE := none :: (ds.map some ++ List.replicate (n - (ds.length + 1)) none)
/-- how a body ends -/
def endC : Ctl → M D
  | .rt d => pure d
  | .nx _ => pure .none
  | _ => M.no
def runB (S : SE → M Ctl) (en : SE) : M D := do
  let k ← S en
  endC k
theorem AllK.get {K : PySem.W.Frag} {H : Hp} : ∀ {ks : List Kd} {vs : List V} {ds : List D} {i : Nat} {d : D}, AllK K H ks vs ds → ds[i]? = some d → ∃ k v, ks[i]? = some k ∧ vs[i]? = some v ∧ Res K H k d v
  | [], [], [], _, _, _, e => by simp at e
  | k :: ks, v :: vs, d :: ds, 0, d', h, e => by
    simp at e
    subst e
    exact ⟨k, v, rfl, rfl, h.1⟩
  | k :: ks, v :: vs, d :: ds, i + 1, d', h, e => by
    obtain ⟨k', v', h1, h2, h3⟩ := AllK.get (i := i) h.2 (by simpa using e)
    exact ⟨k', v', by simpa using h1, by simpa using h2, h3⟩
  | [], _ :: _, _, _, _, h, _ => by cases h
  | [], [], _ :: _, _, _, h, _ => by cases h
  | _ :: _, [], _, _, _, h, _ => by cases h
  | _ :: _, _ :: _, [], _, _, h, _ => by cases h
theorem start_get {N : List Str} {vs : List V} {i : Nat} {v : V} (h : vs[i]? = some v) : (L2.start N vs)[i]? = some (some v) := by
  have hi := (List.getElem?_eq_some_iff.mp h).1
  unfold L2.start
  rw [List.getElem?_append_left (by simpa using hi), List.getElem?_map, h]
  rfl
theorem env0_get {n : Nat} {ds : List D} {i : Nat} {d : D} (h : (env0 n ds)[i]? = some (some d)) : ds[i]? = some d := by
  unfold env0 at h
  by_cases hi : i < ds.length
  · rw [List.getElem?_append_left (by simpa using hi), List.getElem?_map] at h
    cases q : ds[i]? with
    | none => rw [q] at h; cases h
    | some d' => rw [q] at h; cases h; rfl
  · rw [List.getElem?_append_right (by simpa using hi), List.getElem?_replicate] at h
    split at h <;> cases h
section
variable {P : Program} {w : World} {K : PySem.W.Frag} {mg : Str → Option Value} {base : Heap} {x qual : Str} {st : Stmt} {f : Addr} {fd : FuncData} {N ps : List Str} {k : Nat} {ks : List Kd} {kr : Kd} {S : SE → M Ctl} {U' : List Nat} {dk : Nat → Kd}
theorem sameN {H H' : Hp} (h : SameW none H H') : Same H H' := fun b o e => h b o (fun _ q => nomatch q) e
/-- what a body's reading gives -/
theorem end_of {X : Cx} {c : Ct} {t : TS} {Zs : List Addr} {H : Hp} {O : List (Nat × Addr)} {en : SE} {σ : L2.St} {m : MS} {Q : VK} (rt : RdS X c [] [] t S U') (hE : EnvOk X.K c.W c.ms c.dk Zs H [] O en σ H m) (hkr : c.rd = .dat ∨ ∀ e m1 m2, S en m1 ≠ .ok (.nx e) m2)
    (hG : Good (runB S en m) (fun d m' => ∀ v H', SameW c.W H H' → DrawOk c.W H' m' → Res X.K (hide Zs H') c.rd d v → Q v H') (fun _ _ => False)) : t { nx := fun _ H' => Q .non H', rt := Q } σ H := by
  refine rt Zs H O en σ H m _ hE ?_
  have hG := hG.bd
  revert hG
  cases q : S en m with
  | bad => exact fun h => h
  | exc x y => exact fun h => h.elim
  | ok k m1 =>
    intro hG
    cases k with
    | nx e =>
      rcases hkr with hkr | hkr
      · intro O' σ' H' E'
        refine (show ∀ v H', SameW c.W H H' → DrawOk c.W H' m1 → Res X.K (hide Zs H') c.rd .none v → Q v H' from hG) .non H' E'.same E'.dr ?_
        rw [hkr]
        exact Dq.non
      · exact absurd q (hkr e m m1)
    | bk e => exact hG.elim
    | ct e => exact hG.elim
    | rt d => exact fun v H' s d' r => (show ∀ v H', SameW c.W H H' → DrawOk c.W H' m1 → Res X.K (hide Zs H') c.rd d v → Q v H' from hG) v H' s d' r
/-- a def that asks nothing but its arguments -/
theorem fn_P (F : Fun K x qual st f fd) (Sc : FnScope N ps (defScope st)) (hks : ks.length = ps.length) (hdk : ∀ i kk, ks[i]? = some kk → dk i = kk)
    (body : ∀ (cdv : Value) (A : Around) (outer : List Env) (s : Shared) (H : Hp) (E : XK), (A.deeper (PyProof.Rows.envOfC qual (defScope st) s.heap.objs.size f cdv)).guards = some [] → Room k (A.deeper (PyProof.Rows.envOfC qual (defScope st) s.heap.objs.size f cdv)) →
      FSs (cxOf CX0 P w K mg base N qual (defScope st) f cdv A outer s H E).nox ⟨none, [], dk, kr, E0⟩ [] [] (defBody st) S U') (hkr : kr = .dat ∨ ∀ en e m1 m2, S en m1 ≠ .ok (.nx e) m2) : FnV P w K mg base CX0 (k + 1) f fd ps (spP K ks kr fun ds => runB S (env0 N.length ds)) := by
  refine fnV_of F Sc (spP_len hks) fun cdv A outer s H vs Q E hgd hr hsp => ?_
  obtain ⟨Zs, ds, hz, hA, hG⟩ := hsp
  obtain ⟨t, pt, rt⟩ := body cdv A outer s H E hgd hr
  have hl := hA.len
  refine ⟨t, pt.nox, end_of rt (m := ms0) (en := env0 N.length ds) (O := []) (Zs := Zs) ⟨?_, fun i => Iff.rfl, List.nodup_nil, (fun w q => nomatch q), hz, (fun w q => nomatch q), (fun w q => nomatch q), SameW.refl _ _, (fun w q => nomatch q), List.nodup_nil, (fun p hp => nomatch hp), (fun p hp => nomatch hp), fun i d h1 _ => ?_⟩ ?_ ?_⟩
  · unfold env0 L2.start
    rw [List.length_append, List.length_append, List.length_map, List.length_map, List.length_replicate, List.length_replicate, hl.1, hl.2]
  · obtain ⟨kk, v, h2, h3, h4⟩ := hA.get (env0_get h1)
    refine ⟨v, start_get h3, ?_⟩
    show Res K (hide (ZO Zs []) H) (dk i) d v
    rw [hdk i kk h2]
    exact h4.mono (hide_sub fun b hb => by simpa [ZO] using hb)
  · rcases hkr with q | q
    · exact .inl q
    · exact .inr fun e m1 m2 => q _ e m1 m2
  · exact hG.mono (fun d m' kk v H' s' d' r => kk v H' (sameN s') r) fun _ _ k => k
/-- a def whose first argument is the machine -/
theorem fn_M (F : Fun K x qual st f fd) (Sc : FnScope N ps (defScope st)) (hks : ks.length + 1 = ps.length) (hdk : ∀ i kk, ks[i]? = some kk → dk (i + 1) = kk)
    (body : ∀ (W : Wd) (cdv : Value) (A : Around) (outer : List Env) (s : Shared) (H : Hp) (E : XK), (A.deeper (PyProof.Rows.envOfC qual (defScope st) s.heap.objs.size f cdv)).guards = some [] → Room k (A.deeper (PyProof.Rows.envOfC qual (defScope st) s.heap.objs.size f cdv)) →
      FSs (cxOf CX0 P w K mg base N qual (defScope st) f cdv A outer s H E).nox ⟨some W, [0], dk, kr, E0⟩ [] [] (defBody st) S U') (hkr : kr = .dat ∨ ∀ en e m1 m2, S en m1 ≠ .ok (.nx e) m2) : FnV P w K mg base CX0 (k + 1) f fd ps (spM K ks kr fun ds => runB S (envM N.length ds)) := by
  refine fnV_of F Sc (spM_len hks) fun cdv A outer s H vs Q E hgd hr hsp => ?_
  obtain ⟨W, Zs, ds, m, vs', rfl, hw, hz, hd, hA, hG⟩ := hsp
  obtain ⟨t, pt, rt⟩ := body W cdv A outer s H E hgd hr
  have hl := hA.len
  refine ⟨t, pt.nox, end_of rt (m := m) (en := envM N.length ds) (O := []) (Zs := Zs) ⟨?_, fun i => Iff.rfl, List.nodup_nil, hw, hz, (fun w q => ?_), hd, SameW.refl _ _, (fun w q j hj => ?_), List.nodup_nil, (fun p hp => nomatch hp), (fun p hp => nomatch hp), fun i d h1 _ => ?_⟩ ?_ hG⟩
  · unfold envM L2.start
    simp only [List.length_append, List.length_map, List.length_replicate, List.length_cons, hl.1, hl.2]
    omega
  · obtain ⟨a, b, c⟩ := hw w q
    exact ⟨hz _ a, hz _ b, hz _ c⟩
  · cases q
    obtain rfl : j = 0 := List.mem_singleton.mp hj
    exact start_get rfl
  · cases i with
    | zero => cases h1
    | succ i =>
      have h1 : (ds.map some ++ List.replicate (N.length - (ds.length + 1)) none)[i]? = some (some d) := h1
      have h5 : ds[i]? = some d := by
        by_cases hi : i < ds.length
        · rw [List.getElem?_append_left (by simpa using hi), List.getElem?_map] at h1
          cases q : ds[i]? with
          | none => rw [q] at h1; cases h1
          | some d' => rw [q] at h1; cases h1; rfl
        · rw [List.getElem?_append_right (by simpa using hi), List.getElem?_replicate] at h1
          split at h1 <;> cases h1
      obtain ⟨kk, v, h2, h3, h4⟩ := hA.get h5
      refine ⟨v, start_get (by simpa using h3), ?_⟩
      show Res K (hide (ZO Zs []) H) (dk (i + 1)) d v
      rw [hdk i kk h2]
      exact h4.mono (hide_sub fun b hb => by simpa [ZO] using hb)
  · rcases hkr with q | q
    · exact .inl q
    · exact .inr fun e m1 m2 => q _ e m1 m2
end
end VL
/-! the value layer: short words for printed derivations -/
namespace VL
open PySem
open PySem.Spec
open L2
section
variable {X : Cx} {c : Ct} {U Un UL : List Nat}
theorem fe_gI {x : Str} {i : Int} {pos : Pos} (h : ∃ t, X.mg x = some (.int i t)) (hg : Gl X x := by rfl) (hd : (x == ("__debug__" : Str)) = false := by decide) : FE X c U (.Name x pos) (eC (.int i)) := by
  obtain ⟨t, h⟩ := h
  exact fe_gi h ⟨t, rfl⟩ hg hd
theorem hu_1 (h : HU X) : X.A.units + 1 < cLine := by
  unfold HU at h
  omega
theorem hu_64 (h : HU X) : X.A.units + 64 < cLine := by
  unfold HU at h
  omega
theorem hu_65 (h : HU X) : X.A.units + 65 < cLine := by
  unfold HU at h
  omega
end
/-- a def of the module: where it stands, what it promises -/
structure Fc (P : Program) (w : World) (K : PySem.W.Frag) (mg : Str → Option Value) (base : Heap) (x : Str) (k : Nat) (f : Addr) (fd : FuncData) (ps : List Str) (ks : List Kd) (kr : Kd) (Fn : List D → M D) : Prop where
  fn : FnV P w K mg base CX0 k f fd ps (spP K ks kr Fn)
  here : mg x = some (.ref f)
  kp : PySem.W.keepIn K (.ref f) = true
  bi : Binds K fd ps []
structure FcM (P : Program) (w : World) (K : PySem.W.Frag) (mg : Str → Option Value) (base : Heap) (x : Str) (k : Nat) (f : Addr) (fd : FuncData) (ps : List Str) (ks : List Kd) (kr : Kd) (Fn : List D → M D) : Prop where
  fn : FnV P w K mg base CX0 k f fd ps (spM K ks kr Fn)
  here : mg x = some (.ref f)
  kp : PySem.W.keepIn K (.ref f) = true
  bi : Binds K fd ps []
def eCallM (Fn : List D → M D) (A : SE → M (List D)) : SE → M D := fun en => do
  let ds ← A en
  nox (Fn ds)
section
variable {X : Cx} {c : Ct} {U Un UL : List Nat} {k : Nat} {f : Addr} {fd : FuncData} {ps : List Str} {x : Str} {p pos : Pos} {e : Expr} {es : List Expr} {ks : List Kd} {kr : Kd} {Fn : List D → M D} {A : SE → M (List D)}
theorem fr_f (C : Fc X.prog X.w X.K X.mg X.base x k f fd ps ks kr Fn) (hgd : X.A.guards = some []) (hr : Room k X.A) (ha : FA X c U (e :: es) ks A) (hg : Gl X x := by rfl)
    (hdb : (x == ("__debug__" : Str)) = false := by decide) (he : starEach (e :: es) X.env = (false, eval e X.env) :: starEach es X.env := by rfl) (hpl : (backTo pos (starEach es X.env)).any (·.1) = false := by rfl) : FR X c U kr (.Call (.Name x p) (e :: es) [] pos) (eCall Fn A) :=
  fr_call C.fn hgd hr C.here C.kp C.bi ha hg hdb he hpl
theorem fr_m (j : Nat) {y : Str} {py : Pos} {w : Wd} (hW : c.W = some w) (C : FcM X.prog X.w X.K X.mg X.base x k f fd ps ks kr Fn) (hgd : X.A.guards = some []) (hr : Room k X.A) (ha : FA X c U es ks A)
    (hj : j ∈ c.ms := by (try dsimp only); decide) (hN : X.N[j]? = some y := by rfl) (hv : Vis X.env.scope y := by first | exact Or.inl rfl | exact Or.inr (Or.inl rfl) | exact Or.inr (Or.inr rfl)) (hd : (y == ("__debug__" : Str)) = false := by decide) (hcd : (y == ("__classdict__" : Str)) = false := by decide) (hg : Gl X x := by rfl)
    (hdb : (x == ("__debug__" : Str)) = false := by decide) (he : starEach (.Name y py :: es) X.env = (false, eval (.Name y py) X.env) :: starEach es X.env := by rfl) (hpl : (backTo pos (starEach es X.env)).any (·.1) = false := by rfl) : FR X c U kr (.Call (.Name x p) (.Name y py :: es) [] pos) (eCallM Fn A) :=
  fr_callM j C.fn hW hgd hr C.here C.kp C.bi ha hj hN hv hd hcd hg hdb he hpl

/-! ### two names at once -/
def sPar (i j : Nat) (A : SE → M (List D)) : SE → M Ctl := fun en => do
  let ds ← A en
  match ds with
  | [a, b] => pure (.nx ((en.set i (some a)).set j (some b)))
  | _ => M.no
theorem fs_par (i j : Nat) {x y : Str} {a b : Expr} {ki kj : Kd} {px py pt pos : Pos} {kt k2 pt2} (hc : X.calm = true) (hN : X.N.Nodup) (ha : FA X c U [a, b] [ki, kj] A)
    (hki : c.dk i = ki := by rfl) (hkj : c.dk j = kj := by rfl) (hUi : i ∉ U := by decide) (hUj : j ∉ U := by decide) (hmi : i ∉ c.ms := by (try dsimp only); decide) (hmj : j ∉ c.ms := by (try dsimp only); decide) (hi : X.N[i]? = some x := by rfl) (hj : X.N[j]? = some y := by rfl) (hij : i ≠ j := by decide)
    (hx : X.env.scope.names.lookup x = some .local := by rfl) (hy : X.env.scope.names.lookup y = some .local := by rfl)
    (hw : swappedStores [.Tuple [.Name x px, .Name y py] kt pt] (.Tuple [a, b] k2 pt2) X.env = pure (some [x, y]) := by rfl)
    (hs : swapsWithSole [.Tuple [.Name x px, .Name y py] kt pt] (.Tuple [a, b] k2 pt2) pos.line X.env = pure false := by rfl) :
    FS X c UL U (.Assign [.Tuple [.Name x px, .Name y py] kt pt] (.Tuple [a, b] k2 pt2) pos) (sPar i j A) U := by
  obtain ⟨t, p, r⟩ := ha
  refine ⟨_, ps_par hc hN hi hj hij hx hy p hw hs, fun Z H0 O en σ H m Ds hE hG => r Z H0 O en σ H m _ hE (hG.bd.mono (fun ds m1 k1 vs H1 s1 d1 q1 => ?_) fun _ _ k => k.out hE)⟩
  obtain ⟨v, w, d, e, rfl, rfl, q5, q6⟩ := q1.two
  subst hki hkj
  refine ⟨v, w, rfl, ?_⟩
  exact (show ∀ O' σ' H', EnvOk X.K c.W c.ms c.dk Z H0 U O' ((en.set i (some d)).set j (some e)) σ' H' m1 → Ds.nx σ' H' from k1) O _ H1 (((hE.step s1 d1).put' hUi hmi q5).put' hUj hmj q6)
def sParO (i j : Nat) (F G : SE → M D) : SE → M Ctl := fun en => do
  let a ← F en
  let b ← G en
  if i < en.length ∧ j < en.length then pure (.nx ((en.set i (some a)).set j (some b))) else M.no
/-- a new object that is kept for a while is taken into a slot -/
theorem EnvOk.adopt {K : PySem.W.Frag} {W : Option Wd} {ms : List Nat} {dk : Nat → Kd} {Z : List Addr} {H0 H : Hp} {U : List Nat} {O : List (Nat × Addr)} {e : SE} {σ : L2.St} {m : MS} {i : Nat} {a : Addr} {d : D} {o : HO} (h : EnvOk K W ms dk (a :: Z) H0 U O e σ H m) (wz : WIn W Z) (nz : a ∉ Z) (n0 : H0 a = none) (hi : i ∉ U) (hm : i ∉ ms) (hl : i < σ.length)
    (ho : H a = some o) (r : OwnR K (hide (ZO (a :: Z) O) H) d o) (hk : dk i = kO o) : EnvOk K W ms dk Z H0 (i :: U) ((i, a) :: O) (e.set i (some d)) (σ.set i (some (.ref a))) H m := by
  have sub : ∀ b ∈ ZO Z ((i, a) :: O), b ∈ ZO (a :: Z) O := fun b hb => by
    rcases List.mem_append.mp hb with q | q
    · exact List.mem_cons_of_mem _ (List.mem_append_left _ q)
    · rcases List.mem_cons.mp q with q | q
      · exact List.mem_cons.mpr (.inl q)
      · exact List.mem_cons_of_mem _ (List.mem_append_right _ q)
  have st : Same (hide (ZO (a :: Z) O) H) (hide (ZO Z ((i, a) :: O)) H) := hide_sub sub
  refine ⟨by rw [List.length_set, List.length_set]; exact h.len, fun j => ?_, ?_, wz, fun z hz => h.zt0 z (List.mem_cons_of_mem _ hz), h.w0, h.dr, h.same, fun w q j hj => ?_, ?_, fun p hp => ?_, fun p hp => ?_, fun j d1 h1 h2 => ?_⟩
  · rw [List.map_cons, List.mem_cons, List.mem_cons, h.us]
  · rw [List.map_cons, List.nodup_cons]
    exact ⟨fun q => hi ((h.us i).mp q), h.und⟩
  · have : i ≠ j := fun t => hm (t ▸ hj)
    rw [List.getElem?_set_ne this]
    exact h.dm w q j hj
  · rw [List.map_cons, List.nodup_cons]
    refine ⟨fun q => ?_, h.nds⟩
    obtain ⟨p, hp, e1⟩ := List.mem_map.mp q
    exact h.nz p hp (by rw [e1]; exact List.mem_cons_self)
  · rcases List.mem_cons.mp hp with rfl | hp
    · exact nz
    · exact fun q => h.nz p hp (List.mem_cons_of_mem _ q)
  · rcases List.mem_cons.mp hp with rfl | hp
    · exact ⟨n0, d, o, by rw [List.getElem?_set_self (by rw [h.len]; exact hl)], by rw [List.getElem?_set_self hl], ho, r.mono st, hk⟩
    · obtain ⟨n', d1, o1, h1, h2, h3, h4, h5⟩ := h.own p hp
      have ne : i ≠ p.1 := h.ne_own hi hp
      exact ⟨n', d1, o1, by rw [List.getElem?_set_ne ne]; exact h1, by rw [List.getElem?_set_ne ne]; exact h2, h3, h4.mono st, h5⟩
  · have ne : i ≠ j := fun t => h2 (by rw [t]; exact List.mem_cons_self)
    rw [List.getElem?_set_ne ne] at h1 ⊢
    obtain ⟨v, g1, g2⟩ := h.rep j d1 h1 fun q => h2 (List.mem_cons_of_mem _ q)
    exact ⟨v, g1, g2.mono st⟩
theorem EnvOk.perm {K : PySem.W.Frag} {W : Option Wd} {ms : List Nat} {dk : Nat → Kd} {Z Z' : List Addr} {H0 H : Hp} {U : List Nat} {O : List (Nat × Addr)} {e : SE} {σ : L2.St} {m : MS} (h : EnvOk K W ms dk Z H0 U O e σ H m) (p : ∀ b, b ∈ Z ↔ b ∈ Z') : EnvOk K W ms dk Z' H0 U O e σ H m := by
  have st : Same (hide (ZO Z O) H) (hide (ZO Z' O) H) := hide_sub fun b hb => by
    rcases List.mem_append.mp hb with q | q
    · exact List.mem_append_left _ ((p b).mpr q)
    · exact List.mem_append_right _ q
  refine ⟨h.len, h.us, h.und, fun w q => ?_, fun z hz => h.zt0 z ((p z).mpr hz), h.w0, h.dr, h.same, h.dm, h.nds, fun q hq t => h.nz q hq ((p _).mpr t), fun q hq => ?_, fun j d1 h1 h2 => ?_⟩
  · obtain ⟨q1, q2, q3⟩ := h.wz w q
    exact ⟨(p _).mp q1, (p _).mp q2, (p _).mp q3⟩
  · obtain ⟨n', d, o, h1, h2, h3, h4, h5⟩ := h.own q hq
    exact ⟨n', d, o, h1, h2, h3, h4.mono st, h5⟩
  · obtain ⟨v, g1, g2⟩ := h.rep j d1 h1 h2
    exact ⟨v, g1, g2.mono st⟩
theorem ExK.temp {Z : List Addr} {H : Hp} {O : List (Nat × Addr)} {x : Exn} {m : MS} {v : Addr} (h : ExK X c (ZO Z O) H x m) : ExK X c (ZO (v :: Z) O) H x m := fun C od H' s d r => by
  refine h C od H' s d ?_
  obtain ⟨Ca, dd, vs, h1, h2, h3, h4, h5⟩ := r
  have sub : Same (hide (ZO (v :: Z) O) H') (hide (ZO Z O) H') := hide_sub fun b hb => List.mem_cons_of_mem _ hb
  exact ⟨Ca, dd, vs, h1, h2, h3, sub _ _ h4, DqAll.mono sub h5⟩
theorem OwnR.drop {K : PySem.W.Frag} {H H' : Hp} {d : D} {o : HO} (h : OwnR K H d o) (s : Same H H') : OwnR K H' d o := h.mono s
theorem fs_parO (i j : Nat) {x y : Str} {a b : Expr} {ki kj : Kd} {F G : SE → M D} {px py pt pos : Pos} {kt k2 pt2} (hc : X.calm = true) (hN : X.N.Nodup) (ha : FO X c U ki a F) (hb : FO X c U kj b G)
    (hki : c.dk i = ki := by rfl) (hkj : c.dk j = kj := by rfl) (hUi : i ∉ U := by decide) (hUj : j ∉ U := by decide) (hmi : i ∉ c.ms := by (try dsimp only); decide) (hmj : j ∉ c.ms := by (try dsimp only); decide) (hi : X.N[i]? = some x := by rfl) (hj : X.N[j]? = some y := by rfl) (hij : i ≠ j := by decide)
    (hx : X.env.scope.names.lookup x = some .local := by rfl) (hy : X.env.scope.names.lookup y = some .local := by rfl)
    (hw : swappedStores [.Tuple [.Name x px, .Name y py] kt pt] (.Tuple [a, b] k2 pt2) X.env = pure (some [x, y]) := by rfl)
    (hs : swapsWithSole [.Tuple [.Name x px, .Name y py] kt pt] (.Tuple [a, b] k2 pt2) pos.line X.env = pure false := by rfl)
    (h1 : starEach [a, b] X.env = (false, eval a X.env) :: starEach [b] X.env := by rfl) (h2 : starEach [b] X.env = (false, eval b X.env) :: starEach [] X.env := by rfl) :
    FS X c UL U (.Assign [.Tuple [.Name x px, .Name y py] kt pt] (.Tuple [a, b] k2 pt2) pos) (sParO i j F G) (j :: i :: U) := by
  obtain ⟨ta, pa, ra⟩ := ha
  obtain ⟨tb, pb, rb⟩ := hb
  refine ⟨_, ps_par hc hN hi hj hij hx hy (pa_cons pa (pa_cons pb pa_nil h2) h1) hw hs, fun Z H0 O en σ H m Ds hE hG => ra Z H0 O en σ H m _ hE (hG.bd.mono (fun d m1 k1 v o H1 s1 d1 n1 o1 r1 e1 => ?_) fun _ _ k => k.out hE)⟩
  have nv : v ∉ ZO Z O := fun z => hE.zt v z n1
  have n0 := hE.none0 n1
  have E1 : EnvOk X.K c.W c.ms c.dk (v :: Z) H0 U O en σ H1 m1 := hE.temp s1 d1 n1 (by rw [o1]; exact fun x => nomatch x)
  refine rb (v :: Z) H0 O en σ H1 m1 _ E1 (k1.bd.mono (fun d' m2 k2 w o' H2 s2 d2 n2 o2 r2 e2 => ?_) fun x m' k => (ExK.outS (ExK.out hE k) s1).temp)
  have hw0 := E1.nw0 n0
  have o1' : H2 v = some o := s2 v o (fun w q => ⟨(hw0 w q).1, (hw0 w q).2.2⟩) o1
  have nw : w ∉ ZO (v :: Z) O := fun z => E1.zt w z n2
  have nwv : w ≠ v := fun t => nw (by rw [t]; exact List.mem_append_left _ List.mem_cons_self)
  refine ⟨.ref v, .ref w, rfl, ?_⟩
  have k2 : Good ((if i < en.length ∧ j < en.length then pure (.nx ((en.set i (some d)).set j (some d'))) else M.no : M Ctl) m2) _ _ := k2
  by_cases hl : i < en.length ∧ j < en.length
  · rw [if_pos hl] at k2
    have E2 : EnvOk X.K c.W c.ms c.dk (w :: v :: Z) H0 U O en σ H2 m2 := E1.temp s2 d2 n2 (by rw [o2]; exact fun x => nomatch x)
    have r1' : OwnR X.K (hide (ZO (w :: v :: Z) O) H2) d o := r1.mono (Same.trans (hide_temp (Z := v :: ZO Z O) s2 E1.wzo n2) (hide_sub fun b hb => hb))
    have E3 : EnvOk X.K c.W c.ms c.dk (w :: Z) H0 (i :: U) ((i, v) :: O) (en.set i (some d)) (σ.set i (some (.ref v))) H2 m2 := by
      have E2' : EnvOk X.K c.W c.ms c.dk (v :: w :: Z) H0 U O en σ H2 m2 := E2.perm (fun b => by simp only [List.mem_cons]; exact or_left_comm)
      refine E2'.adopt (fun w' q => ?_) (by simp only [List.mem_cons, not_or]; exact ⟨fun t => nwv t.symm, fun t => nv (List.mem_append_left _ t)⟩) n0 hUi hmi (by rw [← hE.len]; exact hl.1) o1' ?_ (hki.trans e1.symm)
      · obtain ⟨q1, q2, q3⟩ := hE.wz w' q
        exact ⟨List.mem_cons_of_mem _ q1, List.mem_cons_of_mem _ q2, List.mem_cons_of_mem _ q3⟩
      · refine r1'.mono (hide_sub fun b hb => ?_)
        rcases List.mem_append.mp hb with q | q
        · refine List.mem_append_left _ ?_
          simp only [List.mem_cons] at q ⊢
          exact or_left_comm.mp q
        · exact List.mem_append_right _ q
    have hUj' : j ∉ i :: U := by
      simp only [List.mem_cons, not_or]
      exact ⟨hij.symm, hUj⟩
    have w0 : H0 w = none := E1.none0 n2
    refine k2 _ _ H2 (E3.adopt hE.wz (fun t => nw (List.mem_append_left _ (List.mem_cons_of_mem _ t))) w0 hUj' hmj (by rw [List.length_set, ← hE.len]; exact hl.2) o2 ?_ (hkj.trans e2.symm))
    refine r2.mono (hide_sub fun b hb => ?_)
    rcases List.mem_append.mp hb with q | q
    · rcases List.mem_cons.mp q with q | q
      · exact List.mem_cons.mpr (.inl q)
      · exact List.mem_cons_of_mem _ (List.mem_append_left _ (List.mem_cons_of_mem _ q))
    · rcases List.mem_cons.mp q with q | q
      · exact List.mem_cons_of_mem _ (List.mem_append_left _ (List.mem_cons.mpr (.inl q)))
      · exact List.mem_cons_of_mem _ (List.mem_append_right _ q)
  · rw [if_neg hl] at k2
    exact k2.elim
end
end VL
/-! the value layer: list(range), len of dicts -/
namespace VL
open PySem
open PySem.Spec
open L2
def addI : D → D → Option D := fun a b => match a, b with
  | .int i, .int j => some (.int (i + j))
  | _, _ => none
section
variable {X : Cx} {c : Ct} {U Un UL : List Nat}
theorem iv_addI : IpV X .Add addI := iv_add
def lrngD : D → Option D
  | .int j => if -(2 ^ 62) ≤ j ∧ j < 2 ^ 62 ∧ j.toNat ≤ 2 ^ 24 then some (.list (rngI 0 j.toNat)) else none
  | _ => none
theorem lrngD_some {e d : D} (h : lrngD e = some d) : ∃ j : Int, e = .int j ∧ (-(2 ^ 62) ≤ j ∧ j < 2 ^ 62 ∧ j.toNat ≤ 2 ^ 24) ∧ d = .list (rngI 0 j.toNat) := by
  unfold lrngD at h
  split at h
  · rename_i j
    by_cases hc : -(2 ^ 62) ≤ j ∧ j < 2 ^ 62 ∧ j.toNat ≤ 2 ^ 24
    · rw [if_pos hc] at h
      cases h
      exact ⟨j, rfl, hc, rfl⟩
    · rw [if_neg hc] at h
      cases h
  · cases h
theorem dq_rng {K : PySem.W.Frag} {H : Hp} (lo : Int) : ∀ l : List Nat, DqAll K H (l.map fun i => V.int (lo + (i : Nat))) (l.map fun i => PyData.int (lo + (i : Nat)))
  | [] => .nil
  | i :: l => .cons (.int _) (dq_rng lo l)
theorem fo_lrng {a : Expr} {F : SE → M D} {p1 p2 q1 q2 : Pos} (hl : X.mg "list" = none) (hm : X.mg "range" = none) (h : FE X c U a F) (hc : X.calm = true := by rfl) (hg : Gl X "range" := by rfl) (hg2 : Gl X "list" := by rfl)
    (na : starEach [a] X.env = (false, eval a X.env) :: starEach [] X.env := by rfl)
    (nb : starEach [.Call (.Name "range" p1) [a] [] q1] X.env = (false, eval (.Call (.Name "range" p1) [a] [] q1) X.env) :: starEach [] X.env := by rfl) :
    FO X c U .dat (.Call (.Name "list" p2) [.Call (.Name "range" p1) [a] [] q1] [] q2) (e1 lrngD F) := by
  obtain ⟨t, p, r⟩ := h
  refine ⟨_, pe_listRg hc hg2 hl (prg_1 hg hm p na) nb, fun Z H0 O en σ H m Q hE hG => r Z H0 O en σ H m _ hE (hG.bd.mono (fun d m1 k1 v H1 s1 d1 q5 => ?_) fun _ _ k => k)⟩
  obtain ⟨d, hx, k2⟩ := k1.lft
  obtain ⟨j, rfl, hcs, rfl⟩ := lrngD_some hx
  cases (show Dq X.K _ v (.int j) from q5)
  refine ⟨j, rfl, ⟨by omega, by omega, hcs.1, hcs.2.1, by rw [Int.sub_zero]; exact hcs.2.2⟩, fun q hq => ?_⟩
  refine k2 q _ _ (s1.trans (.of (same_new hq _))) (d1.same (same_new hq _)) (none_step s1 d1 hq) upd_same ?_ rfl
  have e1 : (j - 0).toNat = j.toNat := by rw [Int.sub_zero]
  show OwnR X.K _ (.list (rngI 0 j.toNat)) (.lst (rgV 0 j))
  unfold rngI rgV
  rw [e1]
  exact .lst _ _ (dq_rng 0 _)
/-! ### len of a dict -/
theorem call_len_dK : CallR X (.builtin "len") (fun xs H Q => ∃ (p : Addr) (kvs : List (Key × V)), xs = [.ref p] ∧ H p = some (.dK kvs) ∧ Q (.int ((kvs.length : Nat) : Int)) H) := by
  intro pins s σ H ws us Q I rl hh
  obtain ⟨p, kvs, rfl, hp, q⟩ := hh
  obtain ⟨u, rfl, rx⟩ := vals1 rl
  obtain rfl : u = .ref p := rx
  exact d_len I (.inl hp) fun t s' I' => ⟨.int ((kvs.length : Nat) : Int), H, I', ⟨t, rfl⟩, q⟩
theorem fe_lenK (i : Nat) {x : Str} {px p pos : Pos} (hm : X.mg "len" = none) (hk : c.dk i = .dic := by rfl) (hN : X.N[i]? = some x := by rfl) (hv : Vis X.env.scope x := by first | exact Or.inl rfl | exact Or.inr (Or.inl rfl) | exact Or.inr (Or.inr rfl)) (hd : (x == ("__debug__" : Str)) = false := by decide) (hcd : (x == ("__classdict__" : Str)) = false := by decide) (hg : Gl X "len" := by rfl)
    (he : starEach [.Name x px] X.env = (false, eval (.Name x px) X.env) :: starEach [] X.env := by rfl) (hpl : (backTo pos (starEach [] X.env)).any (·.1) = false := by rfl) : FE X c U (.Call (.Name "len" p) [.Name x px] [] pos) (eDlen i) := by
  refine ⟨_, pe_callB call_len_dK hg hm PySem.boot_len (pa_cons (pe_var hN hv hd hcd) pa_nil he) (by decide) (by decide) he hpl, fun Z H0 O en σ H m Q hE hG => ?_⟩
  obtain ⟨kvs, he', kG⟩ := hG.bd.lft
  obtain ⟨a, ks, vs, ds, h1, h2, rfl, h4, h5, h6, h7⟩ := hE.dicR he' hk
  refine ⟨_, h1, a, _, rfl, h2, ?_⟩
  have e : (ks.zip vs).length = ((ks.map keyD).zip ds).length := by
    rw [zip_len h5, zip_len (by rw [List.length_map, h5, DqAll.length h4]), List.length_map]
  rw [e]
  exact kG _ H (SameW.refl _ _) hE.dr (.int _)
theorem fe_lenT (i : Nat) {x : Str} {px p pos : Pos} (hm : X.mg "len" = none) (hk : c.dk i = .dit := by rfl) (hN : X.N[i]? = some x := by rfl) (hv : Vis X.env.scope x := by first | exact Or.inl rfl | exact Or.inr (Or.inl rfl) | exact Or.inr (Or.inr rfl)) (hd : (x == ("__debug__" : Str)) = false := by decide) (hcd : (x == ("__classdict__" : Str)) = false := by decide) (hg : Gl X "len" := by rfl)
    (he : starEach [.Name x px] X.env = (false, eval (.Name x px) X.env) :: starEach [] X.env := by rfl) (hpl : (backTo pos (starEach [] X.env)).any (·.1) = false := by rfl) : FE X c U (.Call (.Name "len" p) [.Name x px] [] pos) (eDlen i) := by
  refine ⟨_, pe_callB call_len_dT hg hm PySem.boot_len (pa_cons (pe_var hN hv hd hcd) pa_nil he) (by decide) (by decide) he hpl, fun Z H0 O en σ H m Q hE hG => ?_⟩
  obtain ⟨kvs, he', kG⟩ := hG.bd.lft
  obtain ⟨a, ks, vs, ds, h1, h2, rfl, h4, h5, h6, h7⟩ := hE.ditR he' hk
  refine ⟨_, h1, a, _, rfl, h2, ?_⟩
  have e : (ks.zip vs).length = ((ks.map keyT).zip ds).length := by
    rw [zip_len h5, zip_len (by rw [List.length_map, h5, DqAll.length h4]), List.length_map]
  rw [e]
  exact kG _ H (SameW.refl _ _) hE.dr (.int _)
end
end VL
/-! the value layer: tuples known to the object; tuple.index -/
namespace VL
open PySem
open PySem.Spec
open L2
/-- tuple(list): a new tuple that has no dict of its own -/
def rTupN (K : PySem.W.Frag) : List V → Hp → VK → Prop := fun xs H Q => ∃ p ys, xs = [.ref p] ∧ SqL K H p ys ∧ ∀ l o, o.dict = none → H l = none → Q (.ref l) (upd H l (.frz o (.tup ys)))
section
variable {X : Cx} {c : Ct} {U Un UL : List Nat}
theorem cr_tupN : CallR X (.type "tuple") (rTupN X.K) := by
  intro pins s σ H ws us Q I rl hh
  obtain ⟨p, ys, rfl, hq, q⟩ := hh
  obtain ⟨u, rfl, rx⟩ := vals1 rl
  cases rx
  obtain ⟨its, rv, pl, hz⟩ := I.list hq
  have hle := rv.length
  refine call_tuple_list pl.isList (fun h' kp => ?_) (by simp only [List.size_toArray] <;> omega)
  have Ia : Inv X pins σ H { s with heap := h' } := I.kept (t' := s.toks) kp
  have Ib : Inv X pins σ (upd H h'.objs.size (.frz { cls := .type "tuple", data := .seq its.toArray } (.tup ys))) { s with heap := h'.push { cls := .type "tuple", data := .seq its.toArray } } :=
    Ia.laid (t' := s.toks) (fun b o e => Heap.get?_push_of_some _ e) (Nat.le_refl _) ⟨Heap.get?_push_size _ rfl, hz, its, rv, PyProof.Rows.IsTup.new _ _⟩
  exact ⟨.ref h'.objs.size, _, Ib, rfl, q _ _ rfl (Ia.hok.fresh (Nat.le_refl _))⟩
theorem fr_tupN {p pos : Pos} {e : Expr} {F : SE → M (List D)} (hm : X.mg "tuple" = none) (ha : FAb X c U [e] F) (hg : Gl X "tuple" := by rfl) (he : starEach [e] X.env = (false, eval e X.env) :: starEach [] X.env := by rfl) (hpl : (backTo pos (starEach [] X.env)).any (·.1) = false := by rfl) :
    FR X c U .nd (.Call (.Name "tuple" p) [e] [] pos) (eL (one1 fun d => (seqL d).map .tuple) F) := by
  obtain ⟨t, pa, ra⟩ := ha
  refine ⟨_, pe_callTy cr_tupN hg hm PyProof.Rows.boot_tuple pa (by decide) (by decide) he hpl, fun Z H0 O en σ H m Q hE hG => ra Z H0 O en σ H m _ hE (hG.bd.mono (fun ds m1 k1 vs H1 s1 d1 q1 => ?_) fun _ _ k => k)⟩
  obtain ⟨d, hd, k2⟩ := k1.lft
  obtain ⟨a, rfl, hd⟩ := one1_some hd
  obtain ⟨xs, hx, rfl⟩ := Option.map_eq_some_iff.mp hd
  obtain rfl := seqL_some hx
  obtain ⟨v, rfl, hv⟩ := all2_1 (q1 H1 (SameW.refl _ _))
  obtain ⟨b, ys, rfl, h1, h2⟩ := hv.lst
  have E1 := hE.step s1 d1
  refine ⟨b, ys, rfl, h1, fun l o ho hl => ?_⟩
  have nl : l ∉ ZO Z O := fun z => E1.zt l z hl
  have hn : hide (ZO Z O) (upd H1 l (.frz o (.tup ys))) l = some (.frz o (.tup ys)) := by rw [hide_ne nl, upd_same]
  refine k2 _ _ (s1.trans (.of (same_new hl _))) (d1.same (same_new hl _)) ⟨Dq.tup (.inr ⟨o, hn⟩) (DqAll.mono (hide_push0 hl) h2), l, o, ys, rfl, hn, ho⟩
/-! ### t.index(k), ints -/
def rIxOf (K : PySem.W.Frag) : V → List V → Hp → VK → Prop := fun x vs H Q => ∃ (a : Addr) (ns : List Int) (i : Int), x = .ref a ∧ vs = [.int i] ∧ SqT K H a (ns.map V.int) ∧ i ∈ ns ∧ Q (.int (ns.idxOf i : Nat)) H
theorem mt_tindex : MtR X "tuple.index" (rIxOf X.K) := by
  intro pins s σ H x ws v us Q I rx rl hh
  obtain ⟨a, ns, i, rfl, rfl, hs, hi, q⟩ := hh
  cases rx
  obtain ⟨u, rfl, t, rfl⟩ := vals1 rl
  obtain ⟨its, rv, p, _⟩ := I.tuple hs
  exact PySem.SeqAt.tuple_index_ints p (intsAre_of rv) hi ⟨.int (ns.idxOf i : Nat), H, I.tok _, ⟨_, rfl⟩, q⟩
def tyNd (x : V) (H : Hp) : Prop := NoDt H x
theorem ty_nd : TyOk X "tuple" tyNd := by
  intro pins σ H s x v I r ty
  obtain ⟨a, o, xs, rfl, h1, h2⟩ := ty
  cases r
  obtain ⟨e, z, its, rv, p⟩ := I.hok a _ h1
  have p := p
  refine ⟨?_, fun b q => ?_⟩
  · obtain ⟨o', e', c', _⟩ := p
    exact ⟨o', e', c'⟩
  · cases q
    exact ⟨o, e, h2⟩
def idxD (d e : D) : Option D := match d, e with
  | .tuple xs, .int i => (intsD xs).bind fun ns => if i ∈ ns then some (.int (ns.idxOf i : Nat)) else none
  | _, _ => none
theorem idxD_some {d e r : D} (h : idxD d e = some r) : ∃ (ns : List Int) (i : Int), d = .tuple (ns.map PyData.int) ∧ e = .int i ∧ i ∈ ns ∧ r = .int (ns.idxOf i : Nat) := by
  unfold idxD at h
  split at h
  · rename_i xs i
    obtain ⟨ns, h1, h2⟩ := Option.bind_eq_some_iff.mp h
    obtain rfl := intsD_some h1
    by_cases hi : i ∈ ns
    · rw [if_pos hi] at h2
      cases h2
      exact ⟨ns, i, rfl, rfl, hi, rfl⟩
    · rw [if_neg hi] at h2
      cases h2
  · cases h
theorem fe_tindex {e o : Expr} {apos cpos : Pos} {F G : SE → M D} (ho : FR X c U .nd o F) (h : FE X c U e G)
    (hbase : attributeBase o "index" X.env (eval o X.env) = eval o X.env := by rfl)
    (hfew : ((backTo cpos (starEach [e] X.env)).all (fun x => !x.1) && (backToKw cpos (keywordEach [] X.env)).all (fun x => x.1.isSome)
      && decide (([e] : List Expr).length + ([] : List Keyword).length + (if ([] : List Keyword).isEmpty then 0 else 1) < 30)) = true := by rfl)
    (hline : (apos.endLine == cpos.line) = true := by rfl) (hs : starEach [e] X.env = (false, eval e X.env) :: starEach [] X.env := by rfl) (hplain : (backTo cpos (starEach [] X.env)).any (·.1) = false := by rfl) :
    FE X c U (.Call (.Attribute o "index" apos) [e] [] cpos) (e2 idxD F G) := by
  obtain ⟨to, po, ro⟩ := ho
  obtain ⟨t, p, r⟩ := h
  refine ⟨_, pe_mG ty_nd PySem.F.plainAttrs_tuple PySem.F.slot_tuple_index PySem.F.type_tuple_index mt_tindex po (pa_cons p pa_nil hs) hbase hfew hline hs hplain, fun Z H0 O en σ H m Q hE hG => ?_⟩
  refine ro Z H0 O en σ H m _ hE (hG.bd.mono (fun a m1 k1 x H1 s1 d1 q1 => ?_) fun _ _ k => k)
  refine ⟨q1.2.mono (hide_same _ _), r Z H0 O en σ H1 m1 _ (hE.step s1 d1) (k1.bd.mono (fun b m2 k2 y H2 s2 d2 q2 => ?_) fun _ _ k => k.step s1)⟩
  obtain ⟨d, hd, k3⟩ := k2.lft
  obtain ⟨ns, i, rfl, rfl, hi, rfl⟩ := idxD_some hd
  cases (show Dq X.K _ y (.int i) from q2)
  obtain ⟨p', vs, rfl, h1, h2⟩ := Dq.tupE q1.1
  obtain rfl := DqAll.ints h2
  exact ⟨p', ns, i, rfl, rfl, .inl (same_rd (hide_same _ _) (same_rd (s2.hide hE.wzo) h1)), hi, k3 _ H2 (s1.trans s2) d2 (.int _)⟩
end
end VL
set_option maxHeartbeats 2000000
/-! the value layer: list(zip(a, b)) -/
namespace VL
open PySem
open PySem.Spec
open L2
section raw
variable {prog : Program} {w : World} {A : Around} {E : Value → Shared → Prop} {s : Shared} {z TI TO i1 i2 : Addr} {fp1 fp2 : List Addr} {n1 n2 i : Nat} {P1 P2 : Nat → Value → Prop} {St1 St2 : Nat → Heap → Prop}
/-- next of a zip whose last tuple is kept -/
theorem zh_item {T : Addr} {f : Bool} {oT : Obj} {Q : Value → Shared → Prop} (S : ZipSep2 z TI TO i1 i2 fp1 fp2) (D1 : Draws prog w A i1 fp1 n1 P1 St1) (D2 : Draws prog w A i2 fp2 n2 P2 St2)
    (hz : IsZipHeld s.heap z TI TO T f) (hT : s.heap.get? T = some oT) (hTI : IsTupOf2 s.heap TI (.ref i1) (.ref i2)) (st1 : St1 i s.heap) (st2 : St2 i s.heap) (lt1 : i < n1) (lt2 : i < n2)
    (hQ : ∀ x1 x2 h' tk, P1 i x1 → P2 i x2 → IsZipHeld h' z TI TO T true → St1 (i + 1) h' → St2 (i + 1) h' → IsTupOf2 h' s.heap.objs.size x1 x2 → h'.objs.size = s.heap.objs.size + 1 →
      (∀ c o, c ≠ z → c ≠ i1 → c ≠ i2 → s.heap.get? c = some o → h'.get? c = some o) → Q (.ref s.heap.objs.size) { s with heap := h', toks := tk }) :
    wpAny (model prog w) A (Builtin.«zip.__next__» ⟨[.ref z], []⟩) (fun fin s' => ∃ v, fin = .done (.ret v) ∧ Q v s') E s := by
  obtain ⟨hp, g, d, tk0, os⟩ := s
  show wpAny _ _ (field (.ref z) 2 >>= _) _ _ _
  refine wpAny_bind (wpAny_field hz rfl (x := .bool false) rfl ?_)
  show wpAny _ _ (field (.ref z) 3 >>= _) _ _ _
  refine wpAny_bind (wpAny_field hz rfl (x := .ref TI) rfl ?_)
  refine wpAny_bind (wpAny_seqItems hTI rfl ?_)
  show wpAny _ _ (Builtin.SmallTypes.ownedTupleIsFree (.ref z) >>= _) _ _ _
  refine wpAny_bind (wpAny_tupleHeld_zip hz hT fun g1 za sa => ?_)
  replace sa : Heap.SameBut z hp g1 := sa
  simp only [Bool.false_eq_true, if_false]
  refine wpAny_bind ?_
  rw [← Array.forIn_toList]
  simp only [List.forIn_cons, List.forIn_nil]
  refine wpAny_bind (wpAny_bind (wpAny_holding ?_))
  show wpAny _ _ (Builtin.SmallTypes.nextOf (.ref i1) >>= _) _ _ ⟨g1, g, d, tk0, os⟩
  refine wpAny_bind (D1.item i _ _ _ lt1 (D1.over st1 sa S.zf1) fun x1 g2 tk1 p1 sn1 sb => wpAny_pure ?_)
  replace sb : Heap.SameBut i1 g1 g2 := sb
  refine wpAny_pure ?_
  refine wpAny_bind (wpAny_bind (wpAny_holding ?_))
  show wpAny _ _ (Builtin.SmallTypes.nextOf (.ref i2) >>= _) _ _ ⟨g2, g, d, tk1, os⟩
  refine wpAny_bind (D2.item i _ _ _ lt2 (D2.over (D2.over st2 sa S.zf2) sb S.sep1_2) fun x2 g3 tk2 p2 sn2 sc => wpAny_pure ?_)
  replace sc : Heap.SameBut i2 g2 g3 := sc
  refine wpAny_pure (wpAny_pure ?_)
  show wpAny _ _ (newTuple [x1, x2] >>= _) _ _ ⟨g3, g, d, tk2, os⟩
  refine wpAny_bind (wpAny_newTuple ?_)
  have size3 : g3.objs.size = hp.objs.size := by rw [sc.1, sb.1, sa.1]
  have z3 : IsZipHeld g3 z TI TO T true := sc.extBut _ _ S.zi2 (sb.extBut _ _ S.zi1 za)
  have keep3 : ∀ c o, c ≠ z → c ≠ i1 → c ≠ i2 → hp.get? c = some o → g3.get? c = some o := fun c o c1 c2 c3 e => sc.extBut _ _ c3 (sb.extBut _ _ c2 (sa.extBut _ _ c1 e))
  have sd1 : St1 (i + 1) g3 := D1.over sn1 sc S.sep2_1
  refine wpAny_pure ⟨_, rfl, ?_⟩
  show Q (.ref g3.objs.size) ⟨g3.push { cls := .type "tuple", data := .seq #[x1, x2] }, g, d, tk2, os⟩
  have tp : IsTupOf2 (g3.push { cls := .type "tuple", data := .seq #[x1, x2] }) g3.objs.size x1 x2 := Heap.get?_push_size _ rfl
  have sz : (g3.push { cls := .type "tuple", data := .seq #[x1, x2] }).objs.size = g3.objs.size + 1 := Heap.size_push ..
  rw [size3] at tp sz ⊢
  exact hQ x1 x2 _ tk2 p1 p2 (Heap.get?_push_of_some _ z3) (D1.frame _ _ _ sd1 fun b _ o e => Heap.get?_push_of_some _ e) (D2.frame _ _ _ sn2 fun b _ o e => Heap.get?_push_of_some _ e) tp sz fun c o c1 c2 c3 e => Heap.get?_push_of_some _ (keep3 c o c1 c2 c3 e)
theorem zh_end {T : Addr} {f : Bool} {oT : Obj} {Q : Fin → Shared → Prop} (S : ZipSep2 z TI TO i1 i2 fp1 fp2) (D1 : Draws prog w A i1 fp1 n1 P1 St1) (D2 : Draws prog w A i2 fp2 n2 P2 St2)
    (hz : IsZipHeld s.heap z TI TO T f) (hT : s.heap.get? T = some oT) (hTI : IsTupOf2 s.heap TI (.ref i1) (.ref i2)) (st1 : St1 i s.heap) (st2 : St2 i s.heap) (le1 : i ≤ n1) (le2 : i ≤ n2) (hend : i = n1 ∨ i = n2)
    (hE : ∀ h' tk e, (∀ c o, c ≠ z → c ≠ i1 → c ≠ i2 → s.heap.get? c = some o → h'.get? c = some o) → (∃ o, h'.get? e = some o ∧ o.cls = .type "StopIteration") → E (.ref e) { s with heap := h', toks := tk }) :
    wpAny (model prog w) A (Builtin.«zip.__next__» ⟨[.ref z], []⟩) Q E s := by
  obtain ⟨hp, g, d, tk0, os⟩ := s
  show wpAny _ _ (field (.ref z) 2 >>= _) _ _ _
  refine wpAny_bind (wpAny_field hz rfl (x := .bool false) rfl ?_)
  show wpAny _ _ (field (.ref z) 3 >>= _) _ _ _
  refine wpAny_bind (wpAny_field hz rfl (x := .ref TI) rfl ?_)
  refine wpAny_bind (wpAny_seqItems hTI rfl ?_)
  show wpAny _ _ (Builtin.SmallTypes.ownedTupleIsFree (.ref z) >>= _) _ _ _
  refine wpAny_bind (wpAny_tupleHeld_zip hz hT fun g1 za sa => ?_)
  replace sa : Heap.SameBut z hp g1 := sa
  simp only [Bool.false_eq_true, if_false]
  refine wpAny_bind ?_
  rw [← Array.forIn_toList]
  simp only [List.forIn_cons, List.forIn_nil]
  refine wpAny_bind (wpAny_bind (wpAny_holding ?_))
  show wpAny _ _ (Builtin.SmallTypes.nextOf (.ref i1) >>= _) _ _ ⟨g1, g, d, tk0, os⟩
  by_cases e1 : i = n1
  · subst e1
    refine wpAny_bind (D1.done _ _ _ (D1.over st1 sa S.zf1) fun g2 e sb he => ?_)
    exact hE g2 tk0 e (fun c o c1 c2 _ x => sb _ _ c2 (sa.extBut _ _ c1 x)) he
  · have e2 : i = n2 := by
      rcases hend with q | q
      · exact absurd q e1
      · exact q
    subst e2
    refine wpAny_bind (D1.item i _ _ _ (by omega) (D1.over st1 sa S.zf1) fun x1 g2 tk1 p1 sn1 sb => wpAny_pure ?_)
    replace sb : Heap.SameBut i1 g1 g2 := sb
    refine wpAny_pure ?_
    refine wpAny_bind (wpAny_bind (wpAny_holding ?_))
    show wpAny _ _ (Builtin.SmallTypes.nextOf (.ref i2) >>= _) _ _ ⟨g2, g, d, tk1, os⟩
    refine wpAny_bind (D2.done ⟨g2, g, d, tk1, os⟩ _ _ (D2.over (D2.over st2 sa S.zf2) sb S.sep1_2) fun g3 e sc he => ?_)
    exact hE g3 tk1 e (fun c o c1 c2 c3 x => sc _ _ c3 (sb.extBut _ _ c2 (sa.extBut _ _ c1 x))) he
theorem zh_pyItem {T : Addr} {f : Bool} {oT : Obj} {Q : Option Value → Shared → Prop} (S : ZipSep2 z TI TO i1 i2 fp1 fp2) (D1 : Draws prog w A.in1 i1 fp1 n1 P1 St1) (D2 : Draws prog w A.in1 i2 fp2 n2 P2 St2)
    (hz : IsZipHeld s.heap z TI TO T f) (hT : s.heap.get? T = some oT) (hTI : IsTupOf2 s.heap TI (.ref i1) (.ref i2)) (st1 : St1 i s.heap) (st2 : St2 i s.heap) (lt1 : i < n1) (lt2 : i < n2)
    (hQ : ∀ x1 x2 h' tk, P1 i x1 → P2 i x2 → IsZipHeld h' z TI TO T true → St1 (i + 1) h' → St2 (i + 1) h' → IsTupOf2 h' s.heap.objs.size x1 x2 → h'.objs.size = s.heap.objs.size + 1 →
      (∀ c o, c ≠ z → c ≠ i1 → c ≠ i2 → s.heap.get? c = some o → h'.get? c = some o) → Q (some (.ref s.heap.objs.size)) { s with heap := h', toks := tk }) :
    wpAny (model prog w) A (pyNext (.ref z)) Q E s := by
  have hTy : s.TypeIs (.ref z) "zip" := ⟨_, hz, rfl⟩
  unfold pyNext
  exact wpAny_bind (wpAny_attempt (wpAny_callSpecial?_slot (name := Str.ofString "__next__") hTy F.slot_zip_next
    (wpAny_call_entry F.slot_zip_next hTy F.entry_zip_next
      (zh_item S D1 D2 hz hT hTI st1 st2 lt1 lt2 fun x1 x2 h' tk b1 b2 b3 b4 b5 b6 b7 b8 => wpAny_pure (hQ x1 x2 h' tk b1 b2 b3 b4 b5 b6 b7 b8)) (F.args_zip_next_1 _))))
theorem zh_pyEnd {T : Addr} {f : Bool} {oT : Obj} {Q : Option Value → Shared → Prop} (S : ZipSep2 z TI TO i1 i2 fp1 fp2) (D1 : Draws prog w A.in1 i1 fp1 n1 P1 St1) (D2 : Draws prog w A.in1 i2 fp2 n2 P2 St2)
    (hz : IsZipHeld s.heap z TI TO T f) (hT : s.heap.get? T = some oT) (hTI : IsTupOf2 s.heap TI (.ref i1) (.ref i2)) (st1 : St1 i s.heap) (st2 : St2 i s.heap) (le1 : i ≤ n1) (le2 : i ≤ n2) (hend : i = n1 ∨ i = n2)
    (hQ : ∀ h' tk, (∀ c o, c ≠ z → c ≠ i1 → c ≠ i2 → s.heap.get? c = some o → h'.get? c = some o) → Q none { s with heap := h', toks := tk }) : wpAny (model prog w) A (pyNext (.ref z)) Q E s := by
  have hTy : s.TypeIs (.ref z) "zip" := ⟨_, hz, rfl⟩
  unfold pyNext
  refine wpAny_bind (wpAny_attempt (wpAny_callSpecial?_slot (name := Str.ofString "__next__") hTy F.slot_zip_next
    (wpAny_call_entry F.slot_zip_next hTy F.entry_zip_next (zh_end S D1 D2 hz hT hTI st1 st2 le1 le2 hend fun h' tk e hk he => ?_) (F.args_zip_next_1 _))))
  obtain ⟨o, ho, hc⟩ := he
  refine wpAny_bind (wpAny_isInstance (T := "StopIteration") (b := true) ⟨o, ho, hc⟩ isSubtype_stop ?_)
  exact wpAny_pure (hQ _ _ hk)
theorem zip_no_len : typeLookup (.type "zip") "__len__" = pure none := by rw [typeLookup_type, builtinLookup_eq_fast]; kernel_rfl
theorem zip_no_hint : typeLookup (.type "zip") "__length_hint__" = pure none := by rw [typeLookup_type, builtinLookup_eq_fast]; kernel_rfl
end raw
/-! ### the loop: each pair tracked -/
section
variable {X : Cx} {pins : List (Addr × Obj)} {σ : L2.St}
/-- where the zip stands at the i-th turn -/
def ZAt (H : Hp) (h : Heap) (z TI TO i1 i2 : Addr) (i : Nat) : Prop :=
  IsTupOf2 h TI (.ref i1) (.ref i2) ∧ (∃ o, h.get? TO = some o) ∧ ((i = 0 ∧ IsZip h z TI TO .none ∧ ∃ x y, IsTupOf2 h TO x y) ∨ ∃ T f ts, IsZipHeld h z TI TO T f ∧ H T = some (.tup ts))
/-- the pairs that the list holds -/
def Prs (H0 H : Hp) (xs ys vs : List V) (n : Nat) : Prop := vs.length = n ∧ ∀ j, j < n → ∃ T x y, vs[j]? = some (.ref T) ∧ H0 T = none ∧ H T = some (.tup [x, y]) ∧ xs[j]? = some x ∧ ys[j]? = some y
theorem Prs.snoc {H0 H H' : Hp} {xs ys vs : List V} {n : Nat} (h : Prs H0 H xs ys vs n) (s : ∀ b o, H b = some o → (∃ ts, o = .tup ts) → H' b = some o) {T : Addr} {x y : V} (hn : H0 T = none) (hT : H' T = some (.tup [x, y])) (hx : xs[n]? = some x) (hy : ys[n]? = some y) : Prs H0 H' xs ys (vs ++ [.ref T]) (n + 1) := by
  refine ⟨by rw [List.length_append, h.1]; rfl, fun j hj => ?_⟩
  by_cases q : j < n
  · obtain ⟨T', x', y', h1, h0, h2, h3, h4⟩ := h.2 j q
    exact ⟨T', x', y', by rw [List.getElem?_append_left (by rw [h.1]; exact q)]; exact h1, h0, s _ _ h2 ⟨_, rfl⟩, h3, h4⟩
  · have e : j = n := by omega
    subst e
    exact ⟨T, x, y, by rw [List.getElem?_append_right (by rw [h.1]; exact Nat.le_refl _), h.1, Nat.sub_self]; rfl, hn, hT, hx, hy⟩
theorem lz_loop {A : Around} {R : Result → Shared → Prop} {b1 b2 : Bool} {a1 a2 z TI TO i1 i2 S : Addr} {xs ys : List V} {n : Nat} {res : Value} (hh : A.handled = none) (Sp : ZipSep2 z TI TO i1 i2 [i1, a1] [i2, a2]) (d1 : a1 ≠ i1) (d2 : a2 ≠ i2) (hn : n = min xs.length ys.length) (hnz : n ≤ sizeLine)
    (nS : S ≠ z ∧ S ≠ TI ∧ S ≠ TO ∧ S ≠ i1 ∧ S ≠ i2) (H0 : Hp) (nS1 : H0 S = none) (hxs : ∀ H', Same H0 H' → SqB X.K H' b1 a1 xs) (hys : ∀ H', Same H0 H' → SqB X.K H' b2 a2 ys) :
    ∀ (k i : Nat) (H : Hp) (s : Shared) (its : List Value) (cc : Nat) (vs : List V), n - i = k → i ≤ n → Inv X pins σ H s → (∀ b ∈ [z, TI, TO, i1, i2], FpOk X pins H b) → ZAt H s.heap z TI TO i1 i2 i → IterB b1 s.heap i1 a1 i → IterB b2 s.heap i2 a2 i →
    s.heap.get? S = some { cls := .type "list", data := .seq its.toArray cc } → Vals vs its → H S = some (.lst vs) → Prs H0 H xs ys vs i → Same H0 H →
    (∀ s' H' vs', Inv X pins σ H' s' → Same H0 H' → H' S = some (.lst vs') → Prs H0 H' xs ys vs' n → R (.ok (.ret res)) s') →
    codeAny (model X.prog X.w) A (.builtin "list.extend.loop" ⟨[.ref S, .ref z, res], []⟩) R s := by
  intro k
  induction k with
  | zero =>
    intro i H s its cc vs hk hi I hf zat t1 t2 gS rvs hS hP hs hR
    obtain rfl : i = n := by omega
    refine codeAny_builtin F.entry_extend_loop ?_
    rw [Around.under_plainId F.plain_extend_loop _]
    show wpAny _ A.in1 (pyNext (.ref z) >>= _) _ _ s
    obtain ⟨itx, rx, px⟩ := inv_sqB I (hxs H hs)
    obtain ⟨ity, ry, py⟩ := inv_sqB I (hys H hs)
    have lx := rx.length
    have ly := ry.length
    have hfin : ∀ h' tk, (∀ c o, c ≠ z → c ≠ TO → c ≠ i1 → c ≠ i2 → s.heap.get? c = some o → h'.get? c = some o) → R (.ok (.ret res)) { s with heap := h', toks := tk } := fun h' tk kp =>
      hR _ H vs (I.turnedL (t' := tk) (ch := [z, TI, TO, i1, i2]) (fun c o hb q => kp c o (fun q' => hb (by simp [q'])) (fun q' => hb (by simp [q'])) (fun q' => hb (by simp [q'])) (fun q' => hb (by simp [q'])) q) hf) hs hS hP
    refine wpAny_bind ?_
    obtain ⟨gTI, ⟨oTO, goTO⟩, zz⟩ := zat
    rcases zz with ⟨e0, gz, x0, y0, gTO⟩ | ⟨T, f, ts, gz, hT⟩
    · exact wpAny_pyNext_zipD2_end Sp (drawsB (A := A.in1.in1) hh b1 i1 a1 d1 itx.toArray) (drawsB (A := A.in1.in1) hh b2 i2 a2 d2 ity.toArray) gz gTI gTO ⟨t1, px⟩ ⟨t2, py⟩ (by rw [List.size_toArray]; omega) (by rw [List.size_toArray]; omega) (by rw [List.size_toArray, List.size_toArray]; omega) fun h' tk kp => wpAny_pure (hfin h' tk kp)
    · obtain ⟨_, _, _, oT, goT, _⟩ := I.hok T _ hT
      exact zh_pyEnd Sp (drawsB (A := A.in1.in1) hh b1 i1 a1 d1 itx.toArray) (drawsB (A := A.in1.in1) hh b2 i2 a2 d2 ity.toArray) gz goT gTI ⟨t1, px⟩ ⟨t2, py⟩ (by rw [List.size_toArray]; omega) (by rw [List.size_toArray]; omega) (by rw [List.size_toArray, List.size_toArray]; omega) fun h' tk kp => wpAny_pure (hfin h' tk fun c o c1 _ c3 c4 e => kp c o c1 c3 c4 e)
  | succ k ih =>
    intro i H s its cc vs hk hi I hf zat t1 t2 gS rvs hS hP hs hR
    have hlt : i < n := by omega
    refine codeAny_builtin F.entry_extend_loop ?_
    rw [Around.under_plainId F.plain_extend_loop _]
    show wpAny _ A.in1 (pyNext (.ref z) >>= _) _ _ s
    obtain ⟨itx, rx, px⟩ := inv_sqB I (hxs H hs)
    obtain ⟨ity, ry, py⟩ := inv_sqB I (hys H hs)
    have lx := rx.length
    have ly := ry.length
    have hx1 : i < xs.length := by omega
    have hy1 : i < ys.length := by omega
    obtain ⟨u1, gu1, ru1⟩ := rx.get (List.getElem?_eq_getElem hx1)
    obtain ⟨u2, gu2, ru2⟩ := ry.get (List.getElem?_eq_getElem hy1)
    obtain ⟨gTI, ⟨oTO, goTO⟩, zz⟩ := zat
    obtain ⟨oi1, goi1, _⟩ := iterB_obj t1
    obtain ⟨oi2, goi2, _⟩ := iterB_obj t2
    have lS : S < s.heap.objs.size := Heap.lt_size gS
    -- behind next
    have step : ∀ x1 x2 h' tk, itx.toArray[i]? = some x1 → ity.toArray[i]? = some x2 → (∃ T' f', IsZipHeld h' z TI TO T' f' ∧ (T' = s.heap.objs.size ∨ ∃ ts, H T' = some (.tup ts))) → IterB b1 h' i1 a1 (i + 1) → IterB b2 h' i2 a2 (i + 1) → IsTupOf2 h' s.heap.objs.size x1 x2 → (∃ o, h'.get? TO = some o) →
        (∀ c o, c ≠ z → c ≠ TO → c ≠ i1 → c ≠ i2 → s.heap.get? c = some o → h'.get? c = some o) →
        wpAny (model X.prog X.w) A.in1 (updateSeq S (·.push (.ref s.heap.objs.size)) >>= fun _ => again (.builtin "list.extend.loop" ⟨[.ref S, .ref z, res], []⟩))
          (fun fin s' => match fin with | .done fl => R (.ok fl) s' | .again c' => c'.quiet = true ∧ codeAny (model X.prog X.w) A c' R s') (fun e s' => R (.error e) s') { s with heap := h', toks := tk } := by
      intro x1 x2 h' tk e1 e2 gz' t1' t2' gT gTO' kp
      have q1 : x1 = u1 := by
        rw [List.getElem?_toArray, gu1] at e1
        exact (Option.some.inj e1).symm
      have q2 : x2 = u2 := by
        rw [List.getElem?_toArray, gu2] at e2
        exact (Option.some.inj e2).symm
      subst q1 q2
      have frsh : ObjOk X.prog X.w (upd H s.heap.objs.size (.tup [xs[i], ys[i]])) h' s.heap.objs.size (.tup [xs[i], ys[i]]) :=
        ⟨by show 2 ≤ sizeLine; decide, [x1, x2], .cons ru1 (.cons ru2 .nil), ⟨_, gT, rfl, _, rfl⟩⟩
      have nT := I.hok.fresh (Nat.le_refl s.heap.objs.size)
      have I1 : Inv X pins σ (upd H s.heap.objs.size (.tup [xs[i], ys[i]])) { s with heap := h', toks := tk } :=
        I.turnedNew (t' := tk) (ch := [z, TI, TO, i1, i2]) (fun c o hb q => kp c o (fun q' => hb (by simp [q'])) (fun q' => hb (by simp [q'])) (fun q' => hb (by simp [q'])) (fun q' => hb (by simp [q'])) q) hf (Nat.le_refl _) frsh
      have nST : S ≠ s.heap.objs.size := Nat.ne_of_lt lS
      have gS' : h'.get? S = some { cls := .type "list", data := .seq its.toArray cc } := kp _ _ nS.1 nS.2.2.1 nS.2.2.2.1 nS.2.2.2.2 gS
      have hS1 : upd H s.heap.objs.size (.tup [xs[i], ys[i]]) S = some (.lst vs) := by rw [upd_ne nST]; exact hS
      have rl := rvs.length
      have I2 := I1.lset (t' := tk) (its' := its ++ [.ref s.heap.objs.size]) (ys := vs ++ [.ref s.heap.objs.size]) (f := (·.push (.ref s.heap.objs.size))) hS1 gS' (by simp) (rvs.append (.cons (show RelV (.ref s.heap.objs.size) (.ref s.heap.objs.size) from rfl) .nil)) (by rw [List.length_append, hP.1]; show i + 1 ≤ sizeLine; omega)
      have gS2 := PySem.IsL.update gS' (·.push (.ref s.heap.objs.size))
      rw [List.push_toArray] at gS2
      have oth : ∀ c o, c ≠ S → h'.get? c = some o → (h'.update S (Obj.mapSeq (·.push (.ref s.heap.objs.size)))).get? c = some o := fun c o hc q => (Heap.get?_update_other _ _ (Ne.symm hc)).trans q
      have s1 : Same H (upd H s.heap.objs.size (.tup [xs[i], ys[i]])) := same_new nT _
      refine wpAny_bind (wpAny_updateSeq gS' rfl ?_ (by rw [List.size_toArray, ← rl, hP.1]; omega) (by show (its.toArray.push _).size ≤ sizeLine + 1; rw [Array.size_push, List.size_toArray, ← rl, hP.1]; omega))
      refine wpAny_pure ⟨plainId_quiet F.plain_extend_loop _, ih (i + 1) _ _ (its ++ [.ref s.heap.objs.size]) _ (vs ++ [.ref s.heap.objs.size]) (by omega) hlt I2 (fun b hb => ?_) ⟨?_, ?_⟩ (iterB_at t1' fun o q => oth _ _ nS.2.2.2.1.symm q) (iterB_at t2' fun o q => oth _ _ nS.2.2.2.2.symm q) gS2 (rvs.append (.cons (show RelV (.ref s.heap.objs.size) (.ref s.heap.objs.size) from rfl) .nil)) upd_same ?_ (fun b o q => ?_) hR⟩
      · obtain ⟨f0, f1⟩ := hf b hb
        refine ⟨?_, f1⟩
        have hbS : b ≠ S := fun q => by
          rw [q, hS] at f0
          cases f0
        have hbT : b ≠ s.heap.objs.size := by
          have e' : b = z ∨ b = TI ∨ b = TO ∨ b = i1 ∨ b = i2 := by simpa using hb
          rcases e' with q | q | q | q | q
          · rw [q]
            rcases zz with ⟨_, gz, _⟩ | ⟨_, _, _, gz, _⟩
            · exact Nat.ne_of_lt (Heap.lt_size gz)
            · exact Nat.ne_of_lt (Heap.lt_size gz)
          · rw [q]; exact Nat.ne_of_lt (Heap.lt_size gTI)
          · rw [q]; exact Nat.ne_of_lt (Heap.lt_size goTO)
          · rw [q]; exact Nat.ne_of_lt (Heap.lt_size goi1)
          · rw [q]; exact Nat.ne_of_lt (Heap.lt_size goi2)
        rw [upd_ne hbS, upd_ne hbT]
        exact f0
      · exact oth _ _ nS.2.1.symm (kp _ _ Sp.TIz Sp.TITO Sp.TIi1 Sp.TIi2 gTI)
      · refine ⟨?_, .inr ?_⟩
        · obtain ⟨o, go⟩ := gTO'
          exact ⟨o, oth _ _ nS.2.2.1.symm go⟩
        · obtain ⟨T', f', gz'', hT'⟩ := gz'
          rcases hT' with q | ⟨ts, q⟩
          · exact ⟨T', f', [xs[i], ys[i]], oth _ _ nS.1.symm gz'', by rw [q, upd_ne (Ne.symm nST), upd_same]⟩
          · have n1 : T' ≠ S := fun e => by
              rw [e, hS] at q
              cases q
            exact ⟨T', f', ts, oth _ _ nS.1.symm gz'', by rw [upd_ne n1]; exact s1 _ _ q⟩
      · refine hP.snoc (fun b o q ht => ?_) (T := s.heap.objs.size) (hs.free nT) (by rw [upd_ne (Ne.symm nST), upd_same]) (List.getElem?_eq_getElem hx1) (List.getElem?_eq_getElem hy1)
        obtain ⟨ts, rfl⟩ := ht
        have n1 : b ≠ S := fun e => by
          rw [e, hS] at q
          cases q
        rw [upd_ne n1]
        exact s1 _ _ q
      · have n1 : b ≠ S := fun e => by
          rw [e, nS1] at q
          cases q
        rw [upd_ne n1]
        exact s1 _ _ (hs _ _ q)
    refine wpAny_bind ?_
    have sx : i < itx.toArray.size := by rw [List.size_toArray]; omega
    have sy : i < ity.toArray.size := by rw [List.size_toArray]; omega
    rcases zz with ⟨e0, gz, x0, y0, gTO⟩ | ⟨T, f, ts, gz, hT⟩
    · exact wpAny_pyNext_zipD2_item Sp (drawsB (A := A.in1.in1) hh b1 i1 a1 d1 itx.toArray) (drawsB (A := A.in1.in1) hh b2 i2 a2 d2 ity.toArray) gz gTI gTO ⟨t1, px⟩ ⟨t2, py⟩ sx sy fun x1 x2 h' tk p1 p2 z' TO' w1 w2 gT _ kp =>
        step x1 x2 h' tk p1 p2 ⟨_, false, z', .inl rfl⟩ w1.1 w2.1 gT ⟨_, TO'⟩ kp
    · obtain ⟨_, _, _, oT, goT, _⟩ := I.hok T _ hT
      exact zh_pyItem Sp (drawsB (A := A.in1.in1) hh b1 i1 a1 d1 itx.toArray) (drawsB (A := A.in1.in1) hh b2 i2 a2 d2 ity.toArray) gz goT gTI ⟨t1, px⟩ ⟨t2, py⟩ sx sy fun x1 x2 h' tk p1 p2 z' w1 w2 gT _ kp =>
        step x1 x2 h' tk p1 p2 ⟨T, true, z', .inr ⟨ts, hT⟩⟩ w1.1 w2.1 gT ⟨oTO, kp _ _ Sp.TOz Sp.Ti1 Sp.Ti2 goTO⟩ fun c o c1 _ c3 c4 e => kp c o c1 c3 c4 e
end
end VL
set_option maxHeartbeats 2000000
/-! the value layer: list(zip(a, b)), the call -/
namespace VL
open PySem
open PySem.Spec
open L2
section
variable {X : Cx} {pins : List (Addr × Obj)} {σ : L2.St}
theorem lz_init {A : Around} {R : Result → Shared → Prop} {b1 b2 : Bool} {a1 a2 z TI TO i1 i2 S : Addr} {xs ys : List V} {n : Nat} (hh : A.handled = none) (Sp : ZipSep2 z TI TO i1 i2 [i1, a1] [i2, a2]) (d1 : a1 ≠ i1) (d2 : a2 ≠ i2) (hn : n = min xs.length ys.length) (hnz : n ≤ sizeLine)
    (nS : S ≠ z ∧ S ≠ TI ∧ S ≠ TO ∧ S ≠ i1 ∧ S ≠ i2) (H0 : Hp) (nS1 : H0 S = none) (hxs : ∀ H', Same H0 H' → SqB X.K H' b1 a1 xs) (hys : ∀ H', Same H0 H' → SqB X.K H' b2 a2 ys) {H : Hp} {s : Shared} {cc : Nat} (I : Inv X pins σ H s) (hf : ∀ b ∈ [z, TI, TO, i1, i2], FpOk X pins H b)
    (gz : IsZip s.heap z TI TO .none) (gTI : IsTupOf2 s.heap TI (.ref i1) (.ref i2)) {x0 y0 : Value} (gTO : IsTupOf2 s.heap TO x0 y0) (t1 : IterB b1 s.heap i1 a1 0) (t2 : IterB b2 s.heap i2 a2 0)
    (gS : s.heap.get? S = some { cls := .type "list", data := .seq #[] cc }) (hS : H S = some (.lst [])) (hs : Same H0 H)
    (hR : ∀ s' H' vs', Inv X pins σ H' s' → Same H0 H' → H' S = some (.lst vs') → Prs H0 H' xs ys vs' n → R (.ok (.ret .none)) s') :
    wpAny (model X.prog X.w) A.in1 (Builtin.«list.__init__» ⟨[.ref S, .ref z], []⟩)
      (fun fin s' => match fin with | .done f => R (.ok f) s' | .again c' => c'.quiet = true ∧ codeAny (model X.prog X.w) A c' R s') (fun e s' => R (.error e) s') s := by
  show wpAny _ A.in1 (do let old ← Builtin.List.listItems (.ref S); Builtin.List.listUpdate (.ref S) (fun _ => #[]); letGo old.toList.reverse; Builtin.List.listExtendWith (.ref S) (.ref z) .none) _ _ s
  refine wpAny_bind ?_
  unfold Builtin.List.listItems
  refine wpAny_bind (wpAny_seqItems gS rfl (wpAny_pure ?_))
  show wpAny _ A.in1 (updateSeq S (fun _ => #[]) >>= fun _ => letGo (#[] : Array Value).toList.reverse >>= fun _ => Builtin.List.listExtendWith (.ref S) (.ref z) .none) _ _ s
  have I1 := I.lset (t' := s.toks) (its := []) (its' := []) (ys := []) (f := fun _ => #[]) hS gS rfl .nil (Nat.zero_le _)
  refine wpAny_bind (wpAny_updateSeq gS rfl ?_ (Nat.zero_le _) (Nat.zero_le _))
  have gS1 := PySem.IsL.update gS (fun _ => (#[] : Array Value))
  have oth : ∀ c o, c ≠ S → s.heap.get? c = some o → (s.heap.update S (Obj.mapSeq (fun _ => (#[] : Array Value)))).get? c = some o := fun c o hc q => (Heap.get?_update_other _ _ (Ne.symm hc)).trans q
  generalize eh : s.heap.update S (Obj.mapSeq (fun _ => (#[] : Array Value))) = h1 at gS1 oth I1 ⊢
  refine wpAny_bind (wpAny_letGo ?_)
  have gz1 : IsZip h1 z TI TO .none := oth _ _ nS.1.symm gz
  have hTy : ({ s with heap := h1 } : Shared).TypeIs (.ref z) "zip" := ⟨_, gz1, rfl⟩
  unfold Builtin.List.listExtendWith
  refine wpAny_bind (wpAny_typeOf hTy ?_)
  have e1 : Builtin.List.listSameRef (.ref S) (.ref z) = false := by simp [Builtin.List.listSameRef, nS.1]
  have e2 : (Value.type "zip" == Value.type "list") = false := by decide
  have e3 : (Value.type "zip" == Value.type "tuple") = false := by decide
  simp only [e1, e2, e3, Bool.or_false, Bool.false_eq_true, if_false]
  refine wpAny_bind (wpAny_pyIter_zip gz1 ?_)
  refine wpAny_bind (wpAny_holding ?_)
  unfold Builtin.List.listLengthHint
  refine wpAny_bind (wpAny_specialOf hTy zip_no_len ?_)
  show wpAny _ A.in1 (specialOf (Value.ref z) (Str.ofString "__length_hint__") >>= _) _ _ _
  refine wpAny_bind (wpAny_specialOf hTy zip_no_hint ?_)
  refine wpAny_pure ?_
  show wpAny _ A.in1 (rule "list.extend.makes-room" >>= fun _ => Builtin.List.listTouch (.ref S) >>= fun _ =>
    again (.builtin "list.extend.loop" ⟨[.ref S, .ref z, .none], []⟩)) _ _ _
  refine wpAny_bind (wpAny_rule ?_)
  refine wpAny_bind ?_
  show wpAny _ A.in1 (updateSeq S (·.push .none) >>= fun _ => updateSeq S (·.pop)) _ _ _
  have hS1 : upd H S (.lst []) S = some (.lst []) := upd_same
  have I2 := I1.lset (t' := s.toks) (its := []) (its' := [.none]) (ys := [.non]) (f := (·.push .none)) hS1 gS1 rfl (.cons (show RelV .non .none from rfl) .nil) (by show 1 ≤ sizeLine; rw [sizeLine_eq]; decide)
  refine wpAny_bind (wpAny_updateSeq gS1 rfl ?_ (Nat.zero_le _) (by show 1 ≤ sizeLine + 1; omega))
  have gS2 := PySem.IsL.update gS1 (·.push Value.none)
  have oth2 : ∀ c o, c ≠ S → h1.get? c = some o → (h1.update S (Obj.mapSeq (·.push Value.none))).get? c = some o := fun c o hc q => (Heap.get?_update_other _ _ (Ne.symm hc)).trans q
  generalize eh2 : h1.update S (Obj.mapSeq (·.push Value.none)) = h2 at gS2 oth2 I2 ⊢
  have hS2 : upd (upd H S (.lst [])) S (.lst [.non]) S = some (.lst [.non]) := upd_same
  have I3 := I2.lset (t' := s.toks) (its := [.none]) (its' := []) (ys := []) (f := (·.pop)) hS2 gS2 rfl .nil (Nat.zero_le _)
  refine wpAny_updateSeq gS2 rfl ?_ (by show 1 ≤ sizeLine; rw [sizeLine_eq]; decide) (Nat.zero_le _)
  have gS3 := PySem.IsL.update gS2 (·.pop)
  have oth3 : ∀ c o, c ≠ S → h2.get? c = some o → (h2.update S (Obj.mapSeq (·.pop))).get? c = some o := fun c o hc q => (Heap.get?_update_other _ _ (Ne.symm hc)).trans q
  generalize eh3 : h2.update S (Obj.mapSeq (·.pop)) = h3 at gS3 oth3 I3 ⊢
  have all : ∀ c o, c ≠ S → s.heap.get? c = some o → h3.get? c = some o := fun c o hc q => oth3 _ _ hc (oth2 _ _ hc (oth _ _ hc q))
  rw [upd_upd, upd_upd] at I3
  have eH : upd H S (.lst []) = H := by
    funext b
    by_cases q : b = S
    · rw [q, upd_same, hS]
    · rw [upd_ne q]
  rw [eH] at I3
  refine wpAny_pure ⟨plainId_quiet F.plain_extend_loop _, lz_loop hh Sp d1 d2 hn hnz nS H0 nS1 hxs hys n 0 H { s with heap := h3 } [] _ [] (Nat.sub_zero _) (Nat.zero_le _) I3 hf ⟨all _ _ nS.2.1.symm gTI, ⟨_, all _ _ nS.2.2.1.symm gTO⟩, .inl ⟨rfl, all _ _ nS.1.symm gz, _, _, all _ _ nS.2.2.1.symm gTO⟩⟩
    (iterB_at t1 fun o q => all _ _ nS.2.2.2.1.symm q) (iterB_at t2 fun o q => all _ _ nS.2.2.2.2.symm q) gS3 .nil hS ⟨rfl, fun j hj => absurd hj (Nat.not_lt_zero _)⟩ hs hR⟩
/-- list(z), z a zip just made -/
theorem lz_call {Q : Value → Shared → Prop} {b1 b2 : Bool} {a1 a2 z TI TO i1 i2 : Addr} {xs ys : List V} {n : Nat} (hh : X.A.handled = none) (Sp : ZipSep2 z TI TO i1 i2 [i1, a1] [i2, a2]) (d1 : a1 ≠ i1) (d2 : a2 ≠ i2) (hn : n = min xs.length ys.length) (hnz : n ≤ sizeLine)
    {H : Hp} {s : Shared} (hxs : ∀ H', Same H H' → SqB X.K H' b1 a1 xs) (hys : ∀ H', Same H H' → SqB X.K H' b2 a2 ys) (I : Inv X pins σ H s) (hf : ∀ b ∈ [z, TI, TO, i1, i2], FpOk X pins H b)
    (gz : IsZip s.heap z TI TO .none) (gTI : IsTupOf2 s.heap TI (.ref i1) (.ref i2)) {x0 y0 : Value} (gTO : IsTupOf2 s.heap TO x0 y0) (t1 : IterB b1 s.heap i1 a1 0) (t2 : IterB b2 s.heap i2 a2 0)
    (hQ : ∀ s' H' vs' S, Inv X pins σ H' s' → Same H H' → H S = none → H' S = some (.lst vs') → Prs H H' xs ys vs' n → Q (.ref S) s') : wpAny (model X.prog X.w) X.A (call (.type "list") [.ref z]) Q X.xe s := by
  refine callType_codes (Q₁ := fun obj s₁ => obj = .ref s.heap.objs.size ∧ s₁ = { s with heap := s.heap.push { cls := .type "list", data := .seq #[] } }) F.called_list (F.typeCall_list_1 _) F.entry_list_init
    (code_list_new _ ⟨rfl, rfl⟩) fun obj s₁ h₁ => ?_
  obtain ⟨rfl, rfl⟩ := h₁
  have gS : (s.heap.push { cls := .type "list", data := .seq #[] }).get? s.heap.objs.size = some { cls := .type "list", data := .seq #[] } := Heap.get?_push_size _ rfl
  have nS := I.hok.fresh (Nat.le_refl s.heap.objs.size)
  have I1 : Inv X pins σ (upd H s.heap.objs.size (.lst [])) { s with heap := s.heap.push { cls := .type "list", data := .seq #[] } } := I.laid (t' := s.toks) (fun _ _ q => Heap.get?_push_of_some _ q) (Nat.le_refl _) ⟨Nat.zero_le _, [], 0, .nil, gS⟩
  have up : ∀ b o, s.heap.get? b = some o → (s.heap.push { cls := .type "list", data := .seq #[] }).get? b = some o := fun b o q => Heap.get?_push_of_some _ q
  obtain ⟨oi1, goi1, _⟩ := iterB_obj t1
  obtain ⟨oi2, goi2, _⟩ := iterB_obj t2
  refine ⟨⟨_, gS, rfl⟩, F.args_list_init_2 _ _, lz_init (A := X.A.in1) (S := s.heap.objs.size) hh Sp d1 d2 hn hnz ⟨Ne.symm (Nat.ne_of_lt (Heap.lt_size gz)), Ne.symm (Nat.ne_of_lt (Heap.lt_size gTI)), Ne.symm (Nat.ne_of_lt (Heap.lt_size gTO)), Ne.symm (Nat.ne_of_lt (Heap.lt_size goi1)), Ne.symm (Nat.ne_of_lt (Heap.lt_size goi2))⟩ H nS hxs hys I1 (fun b hb => ?_)
    (up _ _ gz) (up _ _ gTI) (up _ _ gTO) (iterB_at t1 fun o q => up _ _ q) (iterB_at t2 fun o q => up _ _ q) gS upd_same (same_new nS _) fun s' H' vs' J hs hS hP => ⟨rfl, hQ s' H' vs' _ J hs nS hS hP⟩⟩
  obtain ⟨f0, f1⟩ := hf b hb
  have hlt : b ≠ s.heap.objs.size := by
    have e' : b = z ∨ b = TI ∨ b = TO ∨ b = i1 ∨ b = i2 := by simpa using hb
    rcases e' with q | q | q | q | q
    · rw [q]; exact Nat.ne_of_lt (Heap.lt_size gz)
    · rw [q]; exact Nat.ne_of_lt (Heap.lt_size gTI)
    · rw [q]; exact Nat.ne_of_lt (Heap.lt_size gTO)
    · rw [q]; exact Nat.ne_of_lt (Heap.lt_size goi1)
    · rw [q]; exact Nat.ne_of_lt (Heap.lt_size goi2)
  exact ⟨by rw [upd_ne hlt]; exact f0, f1⟩
def tLz (X : Cx) (b1 b2 : Bool) (ta : TA) : TE := fun σ H Q => ta σ H fun vs H1 => ∃ a1 a2 xs ys, vs = [.ref a1, .ref a2] ∧ (∀ H', Same H1 H' → SqB X.K H' b1 a1 xs) ∧ (∀ H', Same H1 H' → SqB X.K H' b2 a2 ys) ∧ min xs.length ys.length ≤ sizeLine ∧
  ∀ S H2 vs', Same H1 H2 → H1 S = none → H2 S = some (.lst vs') → Prs H1 H2 xs ys vs' (min xs.length ys.length) → Q (.ref S) H2
theorem pe_lz {e e2 : Expr} {ta : TA} {p pos p2 pos2 : Pos} (b1 b2 : Bool) (hc : X.calm = true) (hg : Gl X "zip") (hm : X.mg "zip" = none) (hg2 : Gl X "list") (hm2 : X.mg "list" = none) (ha : PA X [e, e2] ta)
    (hs : starEach [e, e2] X.env = (false, eval e X.env) :: starEach [e2] X.env := by rfl) (hpl : (backTo pos (starEach [e2] X.env)).any (·.1) = false := by rfl)
    (na : starEach [.Call (.Name "zip" p) [e, e2] [] pos] X.env = (false, eval (.Call (.Name "zip" p) [e, e2] [] pos) X.env) :: starEach [] X.env := by rfl) :
    PE X (.Call (.Name "list" p2) [.Call (.Name "zip" p) [e, e2] [] pos] [] pos2) (tLz X b1 b2 ta) := by
  refine ⟨fun pins s σ H Q I h => ?_⟩
  refine PyProof.Rows.Call_ (ld_blt I hg2 hm2 PyProof.Rows.boot_list (PyProof.Rows.callWith_type1 (PyProof.Rows.args_cons (PyProof.Rows.Call_ (ld_blt I hg hm PyProof.Rows.boot_zip (PyProof.Rows.callWith_type1 (thn (ha.run pos pins s σ H _ I h) fun us s1 ⟨vs, H1, I1, r1, q1⟩ => ?_) hs hpl))) na) na))
  obtain ⟨a1, a2, xs, ys, rfl, hx, hy, hz, q⟩ := q1
  cases r1 with
  | cons r rr =>
    cases rr with
    | cons r' rr =>
      cases rr
      cases r
      cases r'
      obtain ⟨itx, rx, px⟩ := inv_sqB I1 (hx _ (Same.refl _))
      obtain ⟨ity, ry, py⟩ := inv_sqB I1 (hy _ (Same.refl _))
      have la := heapB_lt px
      have lb := heapB_lt py
      refine zip_begins2 (begB b1 a1 itx.toArray) (begB b2 a2 ity.toArray) px py fun h' zz zTI zTO z1 z2 zsz kp => PyProof.Rows.args_nil ?_
      have I2 : Inv X pins σ H1 { s1 with heap := h' } := I1.kept (t' := s1.toks) kp
      refine lz_call (I1.ok.hd hc) (sepB la lb) (Nat.ne_of_lt la) (Nat.ne_of_lt (Nat.lt_succ_of_lt lb)) rfl hz hx hy I2 (fun b hb => ?_) zz zTI zTO (iterB_new z1) (iterB_new z2) fun s' H' vs' S J hs hn hS hP => ⟨.ref S, H', J, rfl, q S H' vs' hs hn hS hP⟩
      have e' : b = s1.heap.objs.size + 4 ∨ b = s1.heap.objs.size + 2 ∨ b = s1.heap.objs.size + 3 ∨ b = s1.heap.objs.size ∨ b = s1.heap.objs.size + 1 := by simpa using hb
      have hle : s1.heap.objs.size ≤ b := by
        rcases e' with z | z | z | z | z
        · rw [z]; exact Nat.le_add_right _ _
        · rw [z]; exact Nat.le_add_right _ _
        · rw [z]; exact Nat.le_add_right _ _
        · rw [z]; exact Nat.le_refl _
        · rw [z]; exact Nat.le_add_right _ _
      exact I1.fpOk hle (I1.hok.fresh hle)
/-! ### by data -/
/-- a thing without parts -/
def flatD : D → Bool
  | .none => true
  | .bool _ => true
  | .int _ => true
  | .str _ => true
  | _ => false
theorem flat_dz {K : PySem.W.Frag} {H : Hp} {v : V} {d : D} (h : Dq K H v d) (f : flatD d = true) : Dz K H v d := by
  cases h with
  | non => exact .non
  | bl b => exact .bl b
  | int i => exact .int i
  | str x => exact .str x
  | lst _ _ => cases f
  | tup _ _ => cases f
def lzD (b1 b2 : Bool) : List D → Option D
  | [d, e] => (seqB b1 d).bind fun xs => (seqB b2 e).bind fun ys => if (xs.all flatD && ys.all flatD && decide (min xs.length ys.length ≤ lineN)) = true then some (.list (zipD xs ys)) else none
  | _ => none
theorem Res.dq {K : PySem.W.Frag} {H : Hp} {k : Kd} {d : D} {v : V} (h : Res K H (itemK k) d v) : Dq K H v d := by
  rcases itemK_or k with q | q
  · rw [q] at h; exact h
  · rw [q] at h; exact Dz.dq h
theorem all_get {xs : List D} {f : D → Bool} (h : xs.all f = true) {i : Nat} {d : D} (e : xs[i]? = some d) : f d = true := List.all_eq_true.mp h d (List.mem_of_getElem? e)
theorem prs_dz {K : PySem.W.Frag} {Zs : List Addr} {H1 H2 : Hp} {xs ys vs : List V} {ds es : List D} {n : Nat} {k1 k2 : Kd} (h1 : ItemsR K (hide Zs H1) (itemK k1) xs ds) (h2 : ItemsR K (hide Zs H1) (itemK k2) ys es) (f1 : ds.all flatD = true) (f2 : es.all flatD = true) (hz : ∀ z ∈ Zs, H1 z ≠ none)
    (s : Same (hide Zs H1) (hide Zs H2)) (h : Prs H1 H2 xs ys vs n) (hn : n = min xs.length ys.length) : DzAll K (hide Zs H2) vs (zipD ds es) := by
  have len : vs.length = (zipD ds es).length := by rw [zipD_len, h.1, hn, h1.1, h2.1]
  have gen : ∀ (vs : List V) (zs : List D), vs.length = zs.length → (∀ (j : Nat) (v : V) (d : D), vs[j]? = some v → zs[j]? = some d → Dz K (hide Zs H2) v d) → DzAll K (hide Zs H2) vs zs := by
    intro vs
    induction vs with
    | nil =>
      intro zs hl _
      cases zs with
      | nil => exact .nil
      | cons _ _ => cases hl
    | cons v vs ih =>
      intro zs hl f
      cases zs with
      | nil => cases hl
      | cons d zs => exact .cons (f 0 v d rfl rfl) (ih zs (by simpa using hl) fun j w e a b => f (j + 1) w e (by simpa using a) (by simpa using b))
  refine gen vs _ len fun j v d e1 e2 => ?_
  have hj : j < n := by rw [← h.1]; exact (List.getElem?_eq_some_iff.mp e1).1
  obtain ⟨T, x, y, g1, g0, g2, g3, g4⟩ := h.2 j hj
  rw [e1] at g1
  cases g1
  have jx : j < ds.length := by rw [← h1.1]; exact (List.getElem?_eq_some_iff.mp g3).1
  have jy : j < es.length := by rw [← h2.1]; exact (List.getElem?_eq_some_iff.mp g4).1
  obtain ⟨x', q1, q2⟩ := h1.2 j _ (List.getElem?_eq_getElem jx)
  obtain ⟨y', q3, q4⟩ := h2.2 j _ (List.getElem?_eq_getElem jy)
  rw [g3] at q1
  cases q1
  rw [g4] at q3
  cases q3
  rw [zipD_get (List.getElem?_eq_getElem jx) (List.getElem?_eq_getElem jy)] at e2
  cases e2
  have nT : T ∉ Zs := fun q => hz T q g0
  refine Dz.tup (by rw [hide_ne nT]; exact g2) (.cons (flat_dz (Dq.mono s q2.dq) ?_) (.cons (flat_dz (Dq.mono s q4.dq) ?_) .nil))
  · exact all_get f1 (List.getElem?_eq_getElem jx)
  · exact all_get f2 (List.getElem?_eq_getElem jy)
variable {c : Ct} {U Un UL : List Nat}
theorem fr_lz (b1 b2 : Bool) {k1 k2 : Kd} {e e2 : Expr} {F : SE → M (List D)} {p pos p2 pos2 : Pos} (hc : X.calm = true) (hm : X.mg "zip" = none) (hm2 : X.mg "list" = none) (h : FA X c U [e, e2] [k1, k2] F) (hg : Gl X "zip" := by rfl) (hg2 : Gl X "list" := by rfl)
    (hs : starEach [e, e2] X.env = (false, eval e X.env) :: starEach [e2] X.env := by rfl) (hpl : (backTo pos (starEach [e2] X.env)).any (·.1) = false := by rfl)
    (na : starEach [.Call (.Name "zip" p) [e, e2] [] pos] X.env = (false, eval (.Call (.Name "zip" p) [e, e2] [] pos) X.env) :: starEach [] X.env := by rfl) :
    FR X c U .pl (.Call (.Name "list" p2) [.Call (.Name "zip" p) [e, e2] [] pos] [] pos2) (eL (lzD b1 b2) F) := by
  obtain ⟨t, pa, ra⟩ := h
  refine ⟨_, pe_lz b1 b2 hc hg hm hg2 hm2 pa hs hpl na, fun Z H0 O en σ H m Q hE hG => ra Z H0 O en σ H m _ hE (hG.bd.mono (fun ds m1 kk1 vs H1 s1 d1 q1 => ?_) fun _ _ k => k)⟩
  obtain ⟨r, hr, kk2⟩ := kk1.lft
  obtain ⟨v, w, d, d', rfl, rfl, q5, q6⟩ := q1.two
  obtain ⟨xs, hx1, hx2⟩ := Option.bind_eq_some_iff.mp hr
  obtain ⟨ys, hx3, hx4⟩ := Option.bind_eq_some_iff.mp hx2
  by_cases hb : (xs.all flatD && ys.all flatD && decide (min xs.length ys.length ≤ lineN)) = true
  · rw [if_pos hb] at hx4
    cases hx4
    obtain ⟨hb1, hb2⟩ := Bool.and_eq_true_iff.mp hb
    obtain ⟨hb3, hb4⟩ := Bool.and_eq_true_iff.mp hb1
    obtain ⟨a, ws, rfl, g1, g2⟩ := q5.seqI hx1
    obtain ⟨a', ws', rfl, g1', g2'⟩ := q6.seqI hx3
    have E1 := hE.step s1 d1
    have lift : ∀ H', Same H1 H' → Same (hide (ZO Z O) H1) H' := fun H' s => Same.trans (hide_same _ _) s
    refine ⟨a, a', ws, ws', rfl, fun H' s => g1 H' (lift H' s), fun H' s => g1' H' (lift H' s), by rw [g2.1, g2'.1]; exact Nat.le_trans (of_decide_eq_true hb2) lineN_le, fun S H2 vs' s2 n2 hS hP => ?_⟩
    have nS : S ∉ ZO Z O := fun q => E1.zt S q n2
    have sw : SameW c.W H1 H2 := .of s2
    refine kk2 _ H2 (s1.trans sw) (d1.same s2) (Dz.lst (Rd.of (by rw [hide_ne nS]; exact hS)) (prs_dz g2 g2' hb3 hb4 E1.zt (sw.hide hE.wzo) hP rfl))
  · rw [if_neg hb] at hx4
    cases hx4
end
end VL
/-! the value layer: comprehensions of two clauses -/
namespace VL
open PySem
open PySem.Spec
open L2
section
variable {X : Cx} {c : Ct} {U Un UL : List Nat}
def tI (X : Cx) (c : Ct) (U : List Nat) (k : Kd) (F : SE → M (List D)) : TI := fun σ H R => ∃ Z H0 O en m, EnvOk X.K c.W c.ms c.dk Z H0 U O en σ H m ∧
    Good (F en m) (fun ds m' => ∀ J H1, SameW c.W H H1 → DrawOk c.W H1 m' → Walk J ds.length (fun H' => Same (hide (ZO Z O) H1) H') (YD X.K (ZO Z O) H1 k ds) → R J H1) (fun _ _ => False)
theorem FI.pi {k : Kd} {tg e : Expr} {F : SE → M (List D)} (h : FI X c U k tg e F) : PI X tg e (tI X c U k F) := by
  obtain ⟨t, p, r⟩ := h
  refine ⟨fun pins s σ H Q I q => p.run pins s σ H Q I ?_⟩
  obtain ⟨Z, H0, O, en, m, hE, hG⟩ := q
  exact r Z H0 O en σ H m Q hE (hG.mono (fun _ _ k => k) fun _ _ k => k.elim)
def lcLL (f : D → M (List D)) : List D → M (List D)
  | [] => pure []
  | d :: ds => do
    let o ← f d
    let r ← lcLL f ds
    pure (o ++ r)
def lc2Step (G : D → SE → M SE) (T : SE → M Bool) (It1 : SE → M (List D)) (G1 : D → SE → M SE) (T1 : SE → M Bool) (El : SE → M D) (vs1 : List Nat) (en : SE) : D → M (List D) := fun d => do
  let e1 ← G d en
  let b ← T e1
  if b = true then do
    let ds ← It1 e1
    lcL (lcStep G1 T1 El (wipeE e1 vs1)) ds
  else pure []
def lc2F (It : SE → M (List D)) (G : D → SE → M SE) (T : SE → M Bool) (It1 : SE → M (List D)) (G1 : D → SE → M SE) (T1 : SE → M Bool) (El : SE → M D) (vs vs1 : List Nat) : SE → M D := fun en => nox do
  let ds ← It en
  let rs ← lcLL (lc2Step G T It1 G1 T1 El vs1 (wipeE en vs)) ds
  if rs.length ≤ lineN then pure (.list rs) else M.no
theorem lc2_read {k k1 ke : Kd} (hke : toDat ke = true) {is is1 : List Nat} {It It1 : SE → M (List D)} {G G1 : D → SE → M SE} {T T1 : SE → M Bool} {El : SE → M D} {vs vs1 : List Nat} {wi : TI}
    (ri : ∀ Z H0 O en σ H m R, EnvOk X.K c.W c.ms c.dk Z H0 U O en σ H m → Good (It en m) (fun ds m' => ∀ J H1, SameW c.W H H1 → DrawOk c.W H1 m' → Walk J ds.length (fun H' => Same (hide (ZO Z O) H1) H') (YD X.K (ZO Z O) H1 k ds) → R J H1) (fun x m' => ExK X c (ZO Z O) H x m') → wi σ H R)
    (his : ∀ i ∈ is, i ∈ vs) (his1 : ∀ i ∈ is1, i ∈ vs1) (hsub : ∀ i ∈ vs1, i ∈ vs) (hU : ∀ i ∈ vs, i ∉ U) (hms : ∀ i ∈ vs, i ∉ c.ms) {Z : List Addr} {H0 : Hp} {O : List (Nat × Addr)} {en : SE} {σ : L2.St} {H : Hp} {m : MS} {Q : VK} {R : Exn → MS → Prop} (hE : EnvOk X.K c.W c.ms c.dk Z H0 U O en σ H m)
    (hG : Good (lc2F It G T It1 G1 T1 El vs vs1 en m) (fun d m' => ∀ a ws xs H', d = .list xs → SameW c.W H H' → DrawOk c.W H' m' → H a = none → H' a = some (.lst ws) → ItK X.K (hide (a :: ZO Z O) H') ke ws xs → Q (.ref a) H') R) :
    tLc2 wi (tG X c U k is G) (tT X c U T) (tI X c U k1 It1) (tG X c U k1 is1 G1) (tT X c U T1) (tE X c U ke El) vs vs1 σ H Q := by
  refine ri Z H0 O en σ H m _ hE (hG.nox.bd.mono (fun ds m1 kk1 J H1 s1 d1 wk a na => ?_) fun _ _ k => k.elim)
  have nH : H a = none := none_step s1 d1 na
  have n0 : H0 a = none := hE.none0 nH
  have su : SameW c.W H1 (upd H1 a (.lst [])) := .of (same_new na _)
  have hw := hE.wzo
  have nw := (hE.step s1 d1).nw0 n0
  have na0 : ∀ w, c.W = some w → a ≠ w.am ∧ a ≠ w.gA := fun w q => ⟨(nw w q).1, (nw w q).2.2⟩
  have E0 : EnvOk X.K c.W c.ms c.dk (a :: Z) H0 U O en σ (upd H1 a (.lst [])) m1 := hE.temp (s1.trans su) (d1.same (same_new na _)) nH (by rw [upd_same]; exact fun x => nomatch x)
  generalize hF : (fun (xs : List D) (m' : MS) => Good ((if xs.length ≤ lineN then pure (.list xs) else M.no : M D) m') (fun d m' => ∀ a ws xs H', d = .list xs → SameW c.W H H' → DrawOk c.W H' m' → H a = none → H' a = some (.lst ws) → ItK X.K (hide (a :: ZO Z O) H') ke ws xs → Q (.ref a) H') (fun _ _ => False)) = FIN
  have fin_len : ∀ xs m', FIN xs m' → xs.length ≤ lineN := fun xs m' h => by
    rw [← hF] at h
    by_cases hz : xs.length ≤ lineN
    · exact hz
    · rw [if_neg hz] at h
      exact h.elim
  have kk1 : Good ((lcLL (lc2Step G T It1 G1 T1 El vs1 (wipeE en vs)) ds >>= fun rs => (if rs.length ≤ lineN then pure (.list rs) else M.no : M D)) m1) _ _ := kk1
  have kk2 : Good (lcLL (lc2Step G T It1 G1 T1 El vs1 (wipeE en vs)) (ds.drop 0) m1) (fun rs m'' => FIN ([] ++ rs) m'') (fun _ _ => False) := by
    rw [← hF, List.drop_zero]
    exact kk1.bd
  refine ⟨fun i mm H' => mm = ds.length - i ∧ i ≤ ds.length ∧ ∃ m' ws acc, EnvOk X.K c.W c.ms c.dk (a :: Z) H0 U O en σ H' m' ∧ SameW c.W H1 H' ∧ H' a = some (.lst ws) ∧ ItK X.K (hide (a :: ZO Z O) H') ke ws acc ∧
    Good (lcLL (lc2Step G T It1 G1 T1 El vs1 (wipeE en vs)) (ds.drop i) m') (fun rs m'' => FIN (acc ++ rs) m'') (fun _ _ => False), ⟨ds.length, by simp, Nat.zero_le _, m1, [], [], E0, su, upd_same, ItK.nil, kk2⟩, ?_⟩
  rintro i mm H3 ⟨rfl, hi, m', ws, acc, E, s, ha, hI, hg⟩
  have hsm : Same (hide (ZO Z O) H1) H3 := Same.trans (s.hide hw) (hide_same _ _)
  by_cases hlt : i < ds.length
  · refine .inr ⟨wk.goes i H3 hlt hsm, fun H' => ∃ m' ws acc, EnvOk X.K c.W c.ms c.dk (a :: Z) H0 U O en σ H' m' ∧ SameW c.W H1 H' ∧ H' a = some (.lst ws) ∧ ItK X.K (hide (a :: ZO Z O) H') ke ws acc ∧
      Good (lcLL (lc2Step G T It1 G1 T1 El vs1 (wipeE en vs)) (ds.drop (i + 1)) m') (fun rs m'' => FIN (acc ++ rs) m'') (fun _ _ => False), fun H' hh => ⟨ds.length - (i + 1), by omega, rfl, hlt, hh⟩, fun x H4 y => ?_⟩
    obtain ⟨sy, d, hd, hr⟩ := wk.yields i H3 x H4 hlt hsm y
    have e : ds.drop i = d :: ds.drop (i + 1) := by
      rw [List.drop_eq_getElem_cons hlt]
      rw [List.getElem?_eq_getElem hlt] at hd
      cases hd
      rfl
    rw [e] at hg
    have Eg := (E.grow sy).wiped hU hms
    refine ⟨a :: Z, H0, O, wipeE en vs, m', d, Eg, hr _ E.zt (hide_temp s hw na), ?_⟩
    have hg : Good (((lc2Step G T It1 G1 T1 El vs1 (wipeE en vs) d) >>= fun o => lcLL (lc2Step G T It1 G1 T1 El vs1 (wipeE en vs)) (ds.drop (i + 1)) >>= fun r => pure (o ++ r)) m') _ _ := hg
    refine (show Good ((G d (wipeE en vs) >>= fun e1 => T e1 >>= fun b => (if b = true then (It1 e1 >>= fun ds1 => lcL (lcStep G1 T1 El (wipeE e1 vs1)) ds1) else pure [] : M (List D))) m') _ _ from hg.bd).bdT.mono (fun e1 m2 k2 σ2 H5 s5 w5 E5 => ?_) fun _ _ _ => trivial
    refine ⟨(w5 vs his).trans wipe_wipe, a :: Z, H0, O, e1, m2, E5, k2.bd.mono (fun b m3 k3 H6 s6 d6 => ?_) fun _ _ k => k⟩
    have s36 : SameW c.W H3 H6 := (SameW.of sy).trans (s5.trans s6)
    have E6 : EnvOk X.K c.W c.ms c.dk (a :: Z) H0 U O en σ H6 m3 := E.step s36 d6
    have ha6 : H6 a = some (.lst ws) := s36 a _ na0 ha
    have E6' := E5.step s6 d6
    cases b with
    | false =>
      refine ⟨m3, ws, acc, E6, s.trans s36, ha6, hI.mono (s36.hide E.wzo), ?_⟩
      have k5 := Good.bd (show Good ((lcLL (lc2Step G T It1 G1 T1 El vs1 (wipeE en vs)) (ds.drop (i + 1)) >>= fun r => pure ([] ++ r)) m3) _ _ from k3)
      exact k5
    | true =>
      have k3 : Good ((It1 e1 >>= fun ds1 => lcL (lcStep G1 T1 El (wipeE e1 vs1)) ds1) m3) _ _ := k3
      refine ⟨a :: Z, H0, O, e1, m3, E6', k3.bd.mono (fun ds1 m4 k4 J1 H7 s7 d7 wk1 => ?_) fun _ _ k => k⟩
      have E7' := E6'.step s7 d7
      have s17 : SameW c.W H1 H7 := s.trans (s36.trans s7)
      have ha7 : H7 a = some (.lst ws) := (s36.trans s7) a _ na0 ha
      have hw1 := E6'.wzo
      refine ⟨fun j mm H' => mm = ds1.length - j ∧ j ≤ ds1.length ∧ ∃ m' ws acc, EnvOk X.K c.W c.ms c.dk (a :: Z) H0 U O e1 σ2 H' m' ∧ EnvOk X.K c.W c.ms c.dk (a :: Z) H0 U O en σ H' m' ∧ SameW c.W H1 H' ∧ Same (hide (ZO (a :: Z) O) H7) (hide (ZO (a :: Z) O) H') ∧ H' a = some (.lst ws) ∧ ItK X.K (hide (a :: ZO Z O) H') ke ws acc ∧
        Good (lcL (lcStep G1 T1 El (wipeE e1 vs1)) (ds1.drop j) m') (fun rs m'' => Good (lcLL (lc2Step G T It1 G1 T1 El vs1 (wipeE en vs)) (ds.drop (i + 1)) m'') (fun rs2 m3 => FIN (acc ++ rs ++ rs2) m3) (fun _ _ => False)) (fun _ _ => False),
        ⟨ds1.length, by simp, Nat.zero_le _, m4, ws, acc, E7', E6.step s7 d7, s17, Same.refl _, ha7, hI.mono ((s36.trans s7).hide E.wzo), ?_⟩, ?_⟩
      · rw [List.drop_zero]
        refine Good.mono k4 (fun rs m5 k5 => ?_) fun _ _ k => k
        have k6 := Good.bd (show Good ((lcLL (lc2Step G T It1 G1 T1 El vs1 (wipeE en vs)) (ds.drop (i + 1)) >>= fun r => pure (rs ++ r)) m5) _ _ from k5)
        refine k6.mono (fun rs2 m6 k7 => ?_) fun _ _ k => k
        rw [List.append_assoc]
        exact k7
      · rintro j mm H8 ⟨rfl, hj, m5, ws5, acc5, E8', E8, s18, s78, ha8, hI8, hg8⟩
        have hsm1 : Same (hide (ZO (a :: Z) O) H7) H8 := Same.trans s78 (hide_same _ _)
        by_cases hlt1 : j < ds1.length
        · refine .inr ⟨wk1.goes j H8 hlt1 hsm1, fun H' => ∃ m' ws acc, EnvOk X.K c.W c.ms c.dk (a :: Z) H0 U O e1 σ2 H' m' ∧ EnvOk X.K c.W c.ms c.dk (a :: Z) H0 U O en σ H' m' ∧ SameW c.W H1 H' ∧ Same (hide (ZO (a :: Z) O) H7) (hide (ZO (a :: Z) O) H') ∧ H' a = some (.lst ws) ∧ ItK X.K (hide (a :: ZO Z O) H') ke ws acc ∧
            Good (lcL (lcStep G1 T1 El (wipeE e1 vs1)) (ds1.drop (j + 1)) m') (fun rs m'' => Good (lcLL (lc2Step G T It1 G1 T1 El vs1 (wipeE en vs)) (ds.drop (i + 1)) m'') (fun rs2 m3 => FIN (acc ++ rs ++ rs2) m3) (fun _ _ => False)) (fun _ _ => False), fun H' hh => ⟨ds1.length - (j + 1), by omega, rfl, hlt1, hh⟩, fun x1 H9 y1 => ?_⟩
          obtain ⟨sy1, d1', hd1, hr1⟩ := wk1.yields j H8 x1 H9 hlt1 hsm1 y1
          have e' : ds1.drop j = d1' :: ds1.drop (j + 1) := by
            rw [List.drop_eq_getElem_cons hlt1]
            rw [List.getElem?_eq_getElem hlt1] at hd1
            cases hd1
            rfl
          rw [e'] at hg8
          have Eg1 := (E8'.grow sy1).wiped (fun i hi => hU i (hsub i hi)) (fun i hi => hms i (hsub i hi))
          refine ⟨a :: Z, H0, O, wipeE e1 vs1, m5, d1', Eg1, hr1 _ E8'.zt s78, ?_⟩
          have hg8 : Good (((lcStep G1 T1 El (wipeE e1 vs1) d1') >>= fun o => lcL (lcStep G1 T1 El (wipeE e1 vs1)) (ds1.drop (j + 1)) >>= fun r => pure (lcC o r)) m5) _ _ := hg8
          refine (show Good ((G1 d1' (wipeE e1 vs1) >>= fun e2 => T1 e2 >>= fun b => (if b = true then (El e2 >>= fun v => pure (some v)) else pure none : M (Option D))) m5) _ _ from hg8.bd).bdT.mono (fun e2 m6 k6 σ3 H10 s10 w10 E10 => ?_) fun _ _ _ => trivial
          refine ⟨(w10 vs1 his1).trans wipe_wipe, a :: Z, H0, O, e2, m6, E10, k6.bd.mono (fun b m7 k7 H11 s11 d11 => ?_) fun _ _ k => k⟩
          have s811 : SameW c.W H8 H11 := (SameW.of sy1).trans (s10.trans s11)
          have ha11 : H11 a = some (.lst ws5) := s811 a _ na0 ha8
          cases b with
          | false =>
            have k8 := Good.bd (show Good ((lcL (lcStep G1 T1 El (wipeE e1 vs1)) (ds1.drop (j + 1)) >>= fun r => pure (lcC none r)) m7) _ _ from k7)
            exact ⟨m7, ws5, acc5, E8'.step s811 d11, E8.step s811 d11, s18.trans s811, Same.trans s78 (s811.hide E8.wzo), ha11, hI8.mono (s811.hide E8.wzo), k8⟩
          | true =>
            refine ⟨a :: Z, H0, O, e2, m7, E10.step s11 d11, Good.mono (Good.bd k7) (fun v m8 k8 w12 H12 s12 d12 q12 => ?_) fun _ _ k => k⟩
            have s812 : SameW c.W H8 H12 := s811.trans s12
            have ha12 : H12 a = some (.lst ws5) := s812 a _ na0 ha8
            have k9 := Good.bd (show Good ((lcL (lcStep G1 T1 El (wipeE e1 vs1)) (ds1.drop (j + 1)) >>= fun r => pure (v :: r)) m8) _ _ from k8)
            have hlen : acc5.length < lineN := by
              obtain ⟨rs, m9, q9⟩ := Good.ex k9
              obtain ⟨rs2, m10, q10⟩ := Good.ex (show Good (lcLL (lc2Step G T It1 G1 T1 El vs1 (wipeE en vs)) (ds.drop (i + 1)) m9) (fun rs2 m3 => FIN (acc5 ++ (v :: rs) ++ rs2) m3) (fun _ _ => False) from q9)
              have := fin_len _ _ q10
              rw [List.length_append, List.length_append, List.length_cons] at this
              omega
            have hup : hide (ZO (a :: Z) O) (upd H12 a (.lst (ws5 ++ [w12]))) = hide (ZO (a :: Z) O) H12 := hide_updZ (List.mem_append_left _ List.mem_cons_self)
            refine ⟨ws5, ha12, by rw [hI8.len]; exact own_line hlen, m8, ws5 ++ [w12], acc5 ++ [v], (E8'.step s812 d12).turn n0, (E8.step s812 d12).turn n0, same_updW (s18.trans s812) na, ?_, upd_same, ?_, ?_⟩
            · rw [hup]
              exact Same.trans s78 (s812.hide E8.wzo)
            · rw [hide_updZ List.mem_cons_self]
              exact ItK.snoc hke (hI8.mono (s812.hide E8.wzo)) q12
            · refine Good.mono k9 (fun rs m9 q9 => ?_) fun _ _ k => k
              have q9 : Good (lcLL (lc2Step G T It1 G1 T1 El vs1 (wipeE en vs)) (ds.drop (i + 1)) m9) (fun rs2 m3 => FIN (acc5 ++ (v :: rs) ++ rs2) m3) (fun _ _ => False) := q9
              have e3 : acc5 ++ [v] ++ rs = acc5 ++ (v :: rs) := by rw [List.append_assoc]; rfl
              rw [e3]
              exact q9
        · have ej : j = ds1.length := by omega
          subst ej
          rw [List.drop_eq_nil_of_le (Nat.le_refl _)] at hg8
          refine .inl ⟨wk1.stops H8 hsm1, m5, ws5, acc5, E8, s18, ha8, hI8, ?_⟩
          have hg8 : Good (lcLL (lc2Step G T It1 G1 T1 El vs1 (wipeE en vs)) (ds.drop (i + 1)) m5) (fun rs2 m3 => FIN (acc5 ++ [] ++ rs2) m3) (fun _ _ => False) := hg8
          rw [List.append_nil] at hg8
          exact hg8
  · have ei : i = ds.length := by omega
    subst ei
    rw [List.drop_eq_nil_of_le (Nat.le_refl _)] at hg
    refine .inl ⟨wk.stops H3 hsm, ?_⟩
    have hg : FIN (acc ++ []) m' := hg
    rw [List.append_nil] at hg
    have hl := fin_len _ _ hg
    rw [← hF] at hg
    have hg : Good ((if acc.length ≤ lineN then pure (.list acc) else M.no : M D) m') _ _ := hg
    rw [if_pos hl] at hg
    exact hg a ws acc H3 rfl (s1.trans s) E.dr nH ha hI
variable {k k1 : Kd} {is is1 : List Nat} {elt tg it tg1 it1 : Expr} {ifs ifs1 : List Expr} {scope : Scope} {pos : Pos} {It It1 : SE → M (List D)} {G G1 : D → SE → M SE} {T T1 : SE → M Bool} {El : SE → M D}
theorem lc2F_good {vs vs1 : List Nat} {en : SE} {m : MS} {P : D → MS → Prop} {R : Exn → MS → Prop} (h : Good (lc2F It G T It1 G1 T1 El vs vs1 en m) P R) : Good (lc2F It G T It1 G1 T1 El vs vs1 en m) P R := h
theorem fo_lc2 (own : List (Str × Nat)) (vs1 : List Nat) (hc : X.calm = true) (hN : X.N.Nodup) (hi : FI X c U k tg it It)
    (hg : ∀ (s : Shared) (H : Hp) (C : Addr) (cl : List (Str × Addr)) (fp : List Addr), FG (X.blk s H scope (compEnvC scope cl C X.env) fp) c U k is tg G)
    (ht : ∀ (s : Shared) (H : Hp) (C : Addr) (cl : List (Str × Addr)) (fp : List Addr), FTs (X.blk s H scope (compEnvC scope cl C X.env) fp) c U ifs T)
    (hi1 : ∀ (s : Shared) (H : Hp) (C : Addr) (cl : List (Str × Addr)) (fp : List Addr), FI (X.blk s H scope (compEnvC scope cl C X.env) fp) c U k1 tg1 it1 It1)
    (hg1 : ∀ (s : Shared) (H : Hp) (C : Addr) (cl : List (Str × Addr)) (fp : List Addr), FG (X.blk s H scope (compEnvC scope cl C X.env) fp) c U k1 is1 tg1 G1)
    (ht1 : ∀ (s : Shared) (H : Hp) (C : Addr) (cl : List (Str × Addr)) (fp : List Addr), FTs (X.blk s H scope (compEnvC scope cl C X.env) fp) c U ifs1 T1)
    (he : ∀ (s : Shared) (H : Hp) (C : Addr) (cl : List (Str × Addr)) (fp : List Addr), FE (X.blk s H scope (compEnvC scope cl C X.env) fp) c U elt El)
    (ok : blkC X.N X.env.scope scope own = true := by rfl) (his : ∀ i ∈ is, i ∈ own.map (·.2) := by decide) (his1 : ∀ i ∈ is1, i ∈ vs1 := by decide) (hv : ∀ i ∈ vs1, i ∈ own.map (·.2) := by decide) (hU : ∀ i ∈ own.map (·.2), i ∉ U := by decide) (hms : ∀ i ∈ own.map (·.2), i ∉ c.ms := by (try dsimp only); decide)
    (hs : ∀ x, foldedSetIterable it X.env x = pure x := by intro _; rfl) (hs1 : ∀ env x, foldedSetIterable it1 env x = pure x := by intro _ _; rfl) : FO X c U .dat (.ListComp elt [⟨tg, it, ifs, 0⟩, ⟨tg1, it1, ifs1, 0⟩] scope pos) (lc2F It G T It1 G1 T1 El (own.map (·.2)) vs1) := by
  obtain ⟨wi, pi, ri⟩ := hi
  refine ⟨_, pe_lc2 (g := tG X c U k is G) (tt := tT X c U T) (wi1 := tI X c U k1 It1) (g1 := tG X c U k1 is1 G1) (tt1 := tT X c U T1) (te := tE X c U .dat El) hc hN pi (blkOk_by ok) hv hg ht (fun s H C cl fp => (hi1 s H C cl fp).pi) hg1 ht1 (fun s H C cl fp => (he s H C cl fp).pe) hs hs1, fun Z H0 O en σ H m Q hE hG => ?_⟩
  refine lc2_read (ke := .dat) rfl ri his his1 hv hU hms hE (hG.mono (fun d m' kk a ws xs H' e s d1 n1 h1 hI => ?_) fun _ _ k => k)
  subst e
  exact kk a _ H' s d1 n1 h1 (.lst xs ws hI) rfl
theorem fs_setLc2 (i : Nat) {y : Str} {py spos : Pos} (own : List (Str × Nat)) (vs1 : List Nat) (hc : X.calm = true) (hN : X.N.Nodup) (hi : FI X c U k tg it It)
    (hg : ∀ (s : Shared) (H : Hp) (C : Addr) (cl : List (Str × Addr)) (fp : List Addr), FG (X.blk s H scope (compEnvC scope cl C X.env) fp) c U k is tg G)
    (ht : ∀ (s : Shared) (H : Hp) (C : Addr) (cl : List (Str × Addr)) (fp : List Addr), FTs (X.blk s H scope (compEnvC scope cl C X.env) fp) c U ifs T)
    (hi1 : ∀ (s : Shared) (H : Hp) (C : Addr) (cl : List (Str × Addr)) (fp : List Addr), FI (X.blk s H scope (compEnvC scope cl C X.env) fp) c U k1 tg1 it1 It1)
    (hg1 : ∀ (s : Shared) (H : Hp) (C : Addr) (cl : List (Str × Addr)) (fp : List Addr), FG (X.blk s H scope (compEnvC scope cl C X.env) fp) c U k1 is1 tg1 G1)
    (ht1 : ∀ (s : Shared) (H : Hp) (C : Addr) (cl : List (Str × Addr)) (fp : List Addr), FTs (X.blk s H scope (compEnvC scope cl C X.env) fp) c U ifs1 T1)
    (he : ∀ (s : Shared) (H : Hp) (C : Addr) (cl : List (Str × Addr)) (fp : List Addr), FE (X.blk s H scope (compEnvC scope cl C X.env) fp) c U elt El)
    (hsw : swapsWith (.ListComp elt [⟨tg, it, ifs, 0⟩, ⟨tg1, it1, ifs1, 0⟩] scope pos) (some (.Name y py)) spos.line X.env = pure true)
    (hk : c.dk i = .dat := by rfl) (hUi : i ∉ U := by decide) (hmi : i ∉ c.ms := by (try dsimp only); decide) (hy : X.N[i]? = some y := by rfl) (hyl : X.env.scope.names.lookup y = some .local := by rfl)
    (ok : blkC X.N X.env.scope scope own = true := by rfl) (his : ∀ i ∈ is, i ∈ own.map (·.2) := by decide) (his1 : ∀ i ∈ is1, i ∈ vs1 := by decide) (hv : ∀ i ∈ vs1, i ∈ own.map (·.2) := by decide) (hU : ∀ i ∈ own.map (·.2), i ∉ U := by decide) (hms : ∀ i ∈ own.map (·.2), i ∉ c.ms := by (try dsimp only); decide)
    (hs : ∀ x, foldedSetIterable it X.env x = pure x := by intro _; rfl) (hs1 : ∀ env x, foldedSetIterable it1 env x = pure x := by intro _ _; rfl) : FS X c UL U (.Assign [.Name y py] (.ListComp elt [⟨tg, it, ifs, 0⟩, ⟨tg1, it1, ifs1, 0⟩] scope pos) spos) (sSetO i (lc2F It G T It1 G1 T1 El (own.map (·.2)) vs1)) (i :: U) := by
  obtain ⟨wi, pi, ri⟩ := hi
  refine ⟨_, ps_setLc2 (g := tG X c U k is G) (tt := tT X c U T) (wi1 := tI X c U k1 It1) (g1 := tG X c U k1 is1 G1) (tt1 := tT X c U T1) (te := tE X c U .dat El) hc hN hy hyl hsw pi (blkOk_by ok) hv hg ht (fun s H C cl fp => (hi1 s H C cl fp).pi) hg1 ht1 (fun s H C cl fp => (he s H C cl fp).pe) hs hs1, fun Z H0 O en σ H m Ds hE hG => ?_⟩
  refine lc2_read (ke := .dat) (R := fun x m' => ExK X c (ZO Z O) H x m') rfl ri his his1 hv hU hms hE (hG.bd.mono (fun d m' kk a ws xs H' e s d1 n1 h1 hI => ?_) fun _ _ k => k.out hE)
  subst e
  by_cases hl : i < en.length
  · have kk : Good ((if i < en.length then pure (.nx (en.set i (some (.list xs)))) else M.no : M Ctl) m') _ _ := kk
    rw [if_pos hl] at kk
    exact kk _ _ H' (hE.putO s d1 hUi hmi (by rw [← hE.len]; exact hl) n1 h1 (.lst xs ws hI) hk)
  · have kk : Good ((if i < en.length then pure (.nx (en.set i (some (.list xs)))) else M.no : M Ctl) m') _ _ := kk
    rw [if_neg hl] at kk
    exact kk.elim
/-! ### try, where nothing is raised -/
def sNox (S : SE → M Ctl) : SE → M Ctl := fun en => nox (S en)
theorem fs_try {body : List Stmt} {h0 : ExceptHandler} {hs : List ExceptHandler} {S : SE → M Ctl} (h : FSs X.nox c UL U body S Un) : FS X c UL U (.Try body (h0 :: hs) [] [] pos) (sNox S) Un := by
  obtain ⟨t, p, r⟩ := h
  refine ⟨t, ps_try_thru0 p, fun Z H0 O en σ H m Ds hE hG => r Z H0 O en σ H m Ds hE (Good.mono (Good.nox hG) (fun k m' q => ?_) fun _ _ q => q.elim)⟩
  cases k with
  | nx e => exact q
  | bk e => exact q
  | ct e => exact q
  | rt d => exact q
end
end VL
/-! the value layer: is True; the machine's dict -/
namespace VL
open PySem
open PySem.Spec
open L2
section
variable {X : Cx}
def isBD : D → D → Option D
  | .bool a, .bool b => some (.bool (decide (a = b)))
  | _, _ => none
def isNBD : D → D → Option D
  | .bool a, .bool b => some (.bool (!decide (a = b)))
  | _, _ => none
theorem isBD_some {a b d : D} (h : isBD a b = some d) : ∃ p q, a = .bool p ∧ b = .bool q ∧ d = .bool (decide (p = q)) := by
  unfold isBD at h
  split at h
  · cases h
    exact ⟨_, _, rfl, rfl, rfl⟩
  · cases h
theorem isNBD_some {a b d : D} (h : isNBD a b = some d) : ∃ p q, a = .bool p ∧ b = .bool q ∧ d = .bool (!decide (p = q)) := by
  unfold isNBD at h
  split at h
  · cases h
    exact ⟨_, _, rfl, rfl, rfl⟩
  · cases h
theorem ov_isB : OpV X (compareOp .Is) isBD := ⟨_, op_is_bl, fun Zs x y H a b d Q hz ha hb hg k => by
  obtain ⟨p, q, rfl, rfl, rfl⟩ := isBD_some hg
  obtain rfl := ha.bl
  obtain rfl := hb.bl
  exact ⟨p, q, rfl, rfl, k _ _ (Same.refl _) (.bl _)⟩⟩
theorem ov_isNB : OpV X (compareOp .IsNot) isNBD := ⟨_, op_isnot_bl, fun Zs x y H a b d Q hz ha hb hg k => by
  obtain ⟨p, q, rfl, rfl, rfl⟩ := isNBD_some hg
  obtain rfl := ha.bl
  obtain rfl := hb.bl
  exact ⟨p, q, rfl, rfl, k _ _ (Same.refl _) (.bl _)⟩⟩
end
/-! ### the machine's dict -/
def mKv (w : Wd) (n : Int) : List (Key × V) := [(.inr ("cells" : Str), .ref w.cA), (.inr ("great" : Str), .ref w.gA), (.inr ("spot" : Str), .int n)]
theorem k_cg : ¬ ((Sum.inr ("cells" : Str) : Key) = Sum.inr ("great" : Str)) := by decide +kernel
theorem k_cs : ¬ ((Sum.inr ("cells" : Str) : Key) = Sum.inr ("spot" : Str)) := by decide +kernel
theorem k_gs : ¬ ((Sum.inr ("great" : Str) : Key) = Sum.inr ("spot" : Str)) := by decide +kernel
theorem m_cells (w : Wd) (n : Int) : valV (mKv w n) (.inr ("cells" : Str)) = some (.ref w.cA) := valV_pos rfl
theorem m_great (w : Wd) (n : Int) : valV (mKv w n) (.inr ("great" : Str)) = some (.ref w.gA) := (valV_neg k_cg).trans (valV_pos rfl)
theorem m_spot (w : Wd) (n : Int) : valV (mKv w n) (.inr ("spot" : Str)) = some (.int n) := (valV_neg k_cs).trans ((valV_neg k_gs).trans (valV_pos rfl))
theorem m_put (w : Wd) (n k : Int) : putK (mKv w n) (.inr ("spot" : Str)) (.int k) = mKv w k := by
  have h : ((mKv w n).any fun kv => decide (kv.1 = .inr ("spot" : Str))) = true := by
    unfold mKv
    simp
  unfold putK
  rw [if_pos h]
  unfold mKv
  have n1 : ¬ ("cells" : Str) = "spot" := by decide +kernel
  have n2 : ¬ ("great" : Str) = "spot" := by decide +kernel
  simp [n1, n2]
theorem DrawOk.at {w : Wd} {H : Hp} {m : MS} (h : DrawOk (some w) H m) : H w.am = some (.dK (mKv w m.2.2)) ∧ Rd H w.cA (.lst (m.1.map V.int)) ∧ H w.gA = some (.lst (m.2.1.map V.int)) := h w rfl
theorem DrawOk.of {w : Wd} {H : Hp} {m : MS} (h1 : H w.am = some (.dK (mKv w m.2.2))) (h2 : Rd H w.cA (.lst (m.1.map V.int))) (h3 : H w.gA = some (.lst (m.2.1.map V.int))) : DrawOk (some w) H m := fun w' q => by
  cases q
  exact ⟨h1, h2, h3⟩
/-- the three stand apart -/
theorem DrawOk.apart {w : Wd} {H : Hp} {m : MS} (h : DrawOk (some w) H m) : w.am ≠ w.cA ∧ w.am ≠ w.gA := by
  obtain ⟨h1, h2, h3⟩ := h.at
  refine ⟨fun e => ?_, ne_of h1 h3 (fun q => nomatch q)⟩
  rw [e] at h1
  rcases h2 with h2 | ⟨x, h2⟩
  · rw [h1] at h2
    cases h2
  · rw [h1] at h2
    cases h2
/-! ### the law's mixing, as numbers -/
def mixI (c n : Int) : Int := ((c * (1 + 2 * n) * 48271) % 2147483647 + 7919 * n * n + 104729 * n) * 69621 % 2147483629 / 7
/-- what a draw gives -/
def drawBase (L : Int) (cells : List Int) (n : Int) : Option Int := (cells[(n % 64).toNat]?).map fun c => mixI (mixI (c + 31 * (n / 64)) n) (n + 7) % L
def drawM (L : Int) : M D := fun m =>
  if 0 < L ∧ L < 1073741824 ∧ 0 ≤ m.2.2 ∧ m.2.2 < 1000000000 ∧ m.1.length = 64 then
    match m.2.1[(m.2.2 % (m.2.1.length : Int)).toNat]? with
    | some g => if 0 < g then .ok (.int (g % L)) (m.1, m.2.1.set (m.2.2 % (m.2.1.length : Int)).toNat (g / L), m.2.2 + 1)
      else match drawBase L m.1 m.2.2 with
        | some v => .ok (.int v) (m.1, m.2.1, m.2.2 + 1)
        | none => .bad
    | none => if m.2.1 = [] then match drawBase L m.1 m.2.2 with
        | some v => .ok (.int v) (m.1, m.2.1, m.2.2 + 1)
        | none => .bad
      else .bad
  else .bad
def fnDraw : List D → M D
  | [.int L] => drawM L
  | _ => M.no
end VL
/-! the value layer: reading without hiding; the machine as data -/
namespace VL
open PySem
open PySem.Spec
open L2
/-- slots by their values -/
def RepL (K : PySem.W.Frag) (dk : Nat → Kd) (H : Hp) : Nat → SE → L2.St → Prop
  | _, [], [] => True
  | j, none :: e, _ :: σ => RepL K dk H (j + 1) e σ
  | j, some d :: e, some v :: σ => Res K H (dk j) d v ∧ RepL K dk H (j + 1) e σ
  | _, _, _ => False
theorem RepL.len {K : PySem.W.Frag} {dk : Nat → Kd} {H : Hp} : ∀ {j : Nat} {e : SE} {σ : L2.St}, RepL K dk H j e σ → e.length = σ.length
  | _, [], [], _ => rfl
  | j, none :: e, _ :: σ, h => congrArg Nat.succ (RepL.len (j := j + 1) h)
  | j, some d :: e, some v :: σ, h => congrArg Nat.succ (RepL.len (j := j + 1) h.2)
  | _, [], _ :: _, h => h.elim
  | _, some _ :: _, [], h => h.elim
  | _, none :: _, [], h => h.elim
  | _, some _ :: _, none :: _, h => h.elim
theorem RepL.get {K : PySem.W.Frag} {dk : Nat → Kd} {H : Hp} : ∀ {j : Nat} {e : SE} {σ : L2.St} {i : Nat} {d : D}, RepL K dk H j e σ → e[i]? = some (some d) → ∃ v, σ[i]? = some (some v) ∧ Res K H (dk (j + i)) d v
  | _, [], [], _, _, _, e => by simp at e
  | j, none :: e, _ :: σ, 0, d, h, q => by simp at q
  | j, none :: e, _ :: σ, i + 1, d, h, q => by
    obtain ⟨v, h1, h2⟩ := RepL.get (j := j + 1) (i := i) h (by simpa using q)
    exact ⟨v, by simpa using h1, by rw [show j + (i + 1) = j + 1 + i by omega]; exact h2⟩
  | j, some d0 :: e, some v0 :: σ, 0, d, h, q => by
    simp at q
    subst q
    exact ⟨v0, rfl, h.1⟩
  | j, some d0 :: e, some v0 :: σ, i + 1, d, h, q => by
    obtain ⟨v, h1, h2⟩ := RepL.get (j := j + 1) (i := i) h.2 (by simpa using q)
    exact ⟨v, by simpa using h1, by rw [show j + (i + 1) = j + 1 + i by omega]; exact h2⟩
  | _, [], _ :: _, _, _, h, _ => h.elim
  | _, some _ :: _, [], _, _, h, _ => h.elim
  | _, none :: _, [], _, _, h, _ => h.elim
  | _, some _ :: _, none :: _, _, _, h, _ => h.elim
theorem hide_nil (H : Hp) : hide [] H = H := by
  funext a
  exact hide_ne (by simp)
/-- the state as it is read, nothing hidden -/
theorem rdEnv {K : PySem.W.Frag} {dk : Nat → Kd} {H : Hp} {e : SE} {σ : L2.St} (m : MS) (h : RepL K dk H 0 e σ) : EnvOk K none [] dk [] H [] [] e σ H m := by
  refine ⟨h.len, fun i => Iff.rfl, List.nodup_nil, (fun w q => nomatch q), (fun z q => nomatch q), (fun w q => nomatch q), (fun w q => nomatch q), SameW.refl _ _, (fun w q => nomatch q), List.nodup_nil, (fun p hp => nomatch hp), (fun p hp => nomatch hp), fun i d h1 _ => ?_⟩
  obtain ⟨v, h2, h3⟩ := h.get h1
  rw [Nat.zero_add] at h3
  exact ⟨v, h2, by rw [show ZO [] ([] : List (Nat × Addr)) = [] from rfl, hide_nil]; exact h3⟩
/-- a reading used at such a state -/
theorem FR.use {X : Cx} {dk : Nat → Kd} {rd k : Kd} {E : XK} {e : Expr} {F : SE → M D} (h : FR X ⟨none, [], dk, rd, E⟩ [] k e F) : ∃ t : TE, PE X e t ∧ ∀ (en : SE) (σ : L2.St) (H : Hp) (d : D) (Q : VK), RepL X.K dk H 0 en σ → F en ms0 = .ok d ms0 → (∀ v H', Same H H' → Res X.K H' k d v → Q v H') → t σ H Q := by
  obtain ⟨t, p, r⟩ := h
  refine ⟨t, p, fun en σ H d Q hr hF k => r [] H [] en σ H ms0 Q (rdEnv ms0 hr) ?_⟩
  rw [hF]
  intro v H' s _ q
  rw [show ZO [] ([] : List (Nat × Addr)) = [] from rfl, hide_nil] at q
  exact k v H' (sameN s) q
theorem FT.use {X : Cx} {dk : Nat → Kd} {rd : Kd} {E : XK} {e : Expr} {F : SE → M Bool} (h : FT X ⟨none, [], dk, rd, E⟩ [] e F) : ∃ t : TT, PT X e t ∧ ∀ (en : SE) (σ : L2.St) (H : Hp) (b : Bool) (Q : Bool → Hp → Prop), RepL X.K dk H 0 en σ → F en ms0 = .ok b ms0 → (∀ H', Same H H' → Q b H') → t σ H Q := by
  obtain ⟨t, p, r⟩ := h
  refine ⟨t, p, fun en σ H b Q hr hF k => r [] H [] en σ H ms0 Q (rdEnv ms0 hr) ?_⟩
  rw [hF]
  exact fun H' s _ => k H' (sameN s)
/-- the machine as a dict by data -/
def mDt (m : MS) : D := .dict [(.str "cells", .list (m.1.map .int)), (.str "great", .list (m.2.1.map .int)), (.str "spot", .int m.2.2)]
theorem mDt_res {K : PySem.W.Frag} {w : Wd} {H : Hp} {m : MS} (h : DrawOk (some w) H m) : Res K H .dic (mDt m) (.ref w.am) := by
  obtain ⟨h1, h2, h3⟩ := h.at
  exact ⟨w.am, _, mKv w m.2.2, rfl, rfl, h1, .k [.inr "cells", .inr "great", .inr "spot"] [.ref w.cA, .ref w.gA, .int m.2.2] [.list (m.1.map .int), .list (m.2.1.map .int), .int m.2.2]
    (.cons (.lst h2 (DqAll.ofInts _)) (.cons (.lst (.inl h3) (DqAll.ofInts _)) (.cons (.int _) .nil))) rfl⟩
theorem s_cg : ¬ (("cells" : Str) = "great") := by decide +kernel
theorem s_cs : ¬ (("cells" : Str) = "spot") := by decide +kernel
theorem s_gs : ¬ (("great" : Str) = "spot") := by decide +kernel
theorem dg_cells (a b : D) (c : D) : dgK [(.str "cells", a), (.str "great", b), (.str "spot", c)] (.inr "cells") = some a := by
  simp [dgK, dg, asK]
theorem dg_great (a b : D) (c : D) : dgK [(.str "cells", a), (.str "great", b), (.str "spot", c)] (.inr "great") = some b := by
  simp [dgK, dg, asK, s_cg]
theorem dg_spot (a b : D) (c : D) : dgK [(.str "cells", a), (.str "great", b), (.str "spot", c)] (.inr "spot") = some c := by
  simp [dgK, dg, asK, s_cs, s_gs]
theorem m_ok {α : Type} (a : α) (m : MS) : (pure a : M α) m = .ok a m := rfl
theorem mulD_r {i j : Int} (h : -(2 ^ 64) < j ∧ j < 2 ^ 64) : mulD (.int i) (.int j) = some (.int (i * j)) := if_pos (.inr h)
theorem mulD_l {i j : Int} (h : -(2 ^ 64) < i ∧ i < 2 ^ 64) : mulD (.int i) (.int j) = some (.int (i * j)) := if_pos (.inl h)
theorem modD_p {i j : Int} (h : 0 < j) : modD (.int i) (.int j) = some (.int (i % j)) := if_pos h
theorem fdivD_p {i j : Int} (h : 0 < j ∧ j < 1073741824) : fdivD (.int i) (.int j) = some (.int (i / j)) := if_pos h
end VL
/-! the value layer: what the readings give, step by step -/
namespace VL
open PySem
open PySem.Spec
open L2
/-- x, run at m, gives a at m' -/
abbrev Ev {α : Type} (x : M α) (m : MS) (a : α) (m' : MS) : Prop := x m = .ok a m'
theorem ev_bd {α β : Type} {x : M α} {f : α → M β} {m m1 m2 : MS} {a : α} {b : β} (h : Ev x m a m1) (k : Ev (f a) m1 b m2) : Ev (x >>= f) m b m2 := by
  show M.bd x f m = _
  unfold M.bd
  rw [show x m = _ from h]
  exact k
theorem ev_p {α : Type} (a : α) (m : MS) : Ev (pure a) m a m := rfl
theorem ev_lft {α : Type} {o : Option α} {a : α} (m : MS) (h : o = some a) : Ev (lft o) m a m := by
  subst h
  rfl
theorem ev_nox {α : Type} {x : M α} {m m' : MS} {a : α} (h : Ev x m a m') : Ev (nox x) m a m' := by
  show (match x m with | .ok a m' => Out.ok a m' | _ => .bad) = _
  rw [show x m = _ from h]
theorem ev_still {α : Type} {x : M α} {m m' : MS} {a : α} (h : Ev x ms0 a m') : Ev (still x) m a m := by
  show (match x ms0 with | .ok a _ => Out.ok a m | .exc e _ => .exc e m | .bad => .bad) = _
  rw [show x ms0 = _ from h]
section
variable {en : SE} {m m1 m2 m3 : MS} {F G L : SE → M D} {T T' : SE → M Bool} {A B : SE → M (List D)} {a b d : D} {ds es : List D}
theorem v_var (i : Nat) {en : SE} {m : MS} {d : D} (h : en[i]? = some (some d)) : Ev (eVar i en) m d m := by
  unfold eVar
  rw [h]
  rfl
theorem v_c (d : D) : Ev (eC d en) m d m := rfl
theorem v_e1 {g : D → Option D} (h : Ev (F en) m a m1) (k : g a = some d) : Ev (e1 g F en) m d m1 := ev_bd h (ev_lft m1 k)
theorem v_e2 {g : D → D → Option D} (h : Ev (F en) m a m1) (h' : Ev (G en) m1 b m2) (k : g a b = some d) : Ev (e2 g F G en) m d m2 := ev_bd h (ev_bd h' (ev_lft m2 k))
theorem v_aN : Ev (aN en) m [] m := rfl
theorem v_aC (h : Ev (F en) m a m1) (h' : Ev (A en) m1 ds m2) : Ev (aC F A en) m (a :: ds) m2 := ev_bd h (ev_bd h' rfl)
theorem v_eL {g : List D → Option D} (h : Ev (A en) m ds m1) (k : g ds = some d) : Ev (eL g A en) m d m1 := ev_bd h (ev_lft m1 k)
theorem v_tV {g : D → Option Bool} {o : Bool} (h : Ev (F en) m a m1) (k : g a = some o) : Ev (tV g F en) m o m1 := ev_bd h (ev_lft m1 k)
theorem v_eB {o : Bool} (h : Ev (T en) m o m1) : Ev (eB T en) m (.bool o) m1 := ev_bd h rfl
theorem v_not {o : Bool} (h : Ev (T en) m o m1) : Ev (tNot1 T en) m (!o) m1 := ev_bd h rfl
theorem v_ifT (h : Ev (T en) m true m1) (k : Ev (F en) m1 d m2) : Ev (eIf T F G en) m d m2 := ev_bd h k
theorem v_ifF (h : Ev (T en) m false m1) (k : Ev (G en) m1 d m2) : Ev (eIf T F G en) m d m2 := ev_bd h k
theorem v_andT {o : Bool} (h : Ev (T en) m true m1) (k : Ev (T' en) m1 o m2) : Ev (tAnd2 T T' en) m o m2 := ev_bd h k
theorem v_andF (h : Ev (T en) m false m1) : Ev (tAnd2 T T' en) m false m1 := ev_bd h rfl
theorem v_orF {o : Bool} (h : Ev (T en) m false m1) (k : Ev (T' en) m1 o m2) : Ev (tOr2 T T' en) m o m2 := ev_bd h k
theorem v_orT (h : Ev (T en) m true m1) : Ev (tOr2 T T' en) m true m1 := ev_bd h rfl
theorem v_call {Fn : List D → M D} (h : Ev (A en) m ds m1) (k : Ev (Fn ds) ms0 d m2) : Ev (eCall Fn A en) m d m1 := ev_bd h (ev_still (ev_nox k))
theorem v_callM {Fn : List D → M D} (h : Ev (A en) m ds m1) (k : Ev (Fn ds) m1 d m2) : Ev (eCallM Fn A en) m d m2 := ev_bd h (ev_nox k)
theorem v_dgK {i : Nat} {kvs : List (D × D)} (hk : dicAt i en = some kvs) (h : Ev (F en) m a m1) (k : (asK a).bind (dgK kvs) = some d) : Ev (eDgK i F en) m d m1 := ev_bd (ev_lft m hk) (ev_bd h (ev_lft m1 k))
theorem v_dgT {i : Nat} {kvs : List (D × D)} (hk : dicAt i en = some kvs) (h : Ev (F en) m a m1) (k : (asT a).bind (dgT kvs) = some d) : Ev (eDgT i F en) m d m1 := ev_bd (ev_lft m hk) (ev_bd h (ev_lft m1 k))
theorem v_din {neg : Bool} {has : List (D × D) → D → Option Bool} {i : Nat} {kvs : List (D × D)} {o : Bool} (h : Ev (F en) m a m1) (hk : dicAt i en = some kvs) (k : has kvs a = some o) : Ev (eDin neg has i F en) m (if neg = true then !o else o) m1 := ev_bd h (ev_bd (ev_lft m1 hk) (ev_bd (ev_lft m1 k) rfl))
theorem v_dlen {i : Nat} {kvs : List (D × D)} (hk : dicAt i en = some kvs) : Ev (eDlen i en) m (.int kvs.length) m := ev_bd (ev_lft m hk) rfl
theorem v_c3T {g g' : D → D → Option D} {a b d : D} {o : Bool} (h : Ev (F en) m a m1) (h' : Ev (G en) m1 b m2) (k : g a b = some (.bool true)) (h'' : Ev (L en) m2 d m3) (k' : g' b d = some (.bool o)) : Ev (e3c g g' F G L en) m o m3 := by
  refine ev_bd h (ev_bd h' (ev_bd (ev_lft (a := true) m2 (by rw [k]; rfl)) ?_))
  exact ev_bd h'' (ev_lft m3 (by rw [k']; rfl))
theorem v_c3F {g g' : D → D → Option D} {a b : D} (h : Ev (F en) m a m1) (h' : Ev (G en) m1 b m2) (k : g a b = some (.bool false)) : Ev (e3c g g' F G L en) m false m2 :=
  ev_bd h (ev_bd h' (ev_bd (ev_lft (a := false) m2 (by rw [k]; rfl)) rfl))
/-! ### statements -/
variable {S S' : SE → M Ctl} {k k' : Ctl} {e e' : SE}
theorem v_sq (h : Ev (S en) m (.nx e) m1) (h' : Ev (S' e) m1 k m2) : Ev (sq S S' en) m k m2 := ev_bd h h'
theorem v_sqR {d : D} (h : Ev (S en) m (.rt d) m1) : Ev (sq S S' en) m (.rt d) m1 := ev_bd h rfl
theorem v_sqC (h : Ev (S en) m (.ct e) m1) : Ev (sq S S' en) m (.ct e) m1 := ev_bd h rfl
theorem v_sqB (h : Ev (S en) m (.bk e) m1) : Ev (sq S S' en) m (.bk e) m1 := ev_bd h rfl
theorem v_set (i : Nat) (h : Ev (F en) m d m1) : Ev (sSet i F en) m (.nx (en.set i (some d))) m1 := ev_bd h rfl
theorem v_setO (i : Nat) (h : Ev (F en) m d m1) (hl : i < en.length) : Ev (sSetO i F en) m (.nx (en.set i (some d))) m1 := by
  refine ev_bd h ?_
  show (if i < en.length then pure (.nx (en.set i (some d))) else M.no : M Ctl) m1 = _
  rw [if_pos hl]
  rfl
theorem v_ret (h : Ev (F en) m d m1) : Ev (sRet F en) m (.rt d) m1 := ev_bd h rfl
theorem v_drop (h : Ev (F en) m d m1) : Ev (sDrop F en) m (.nx en) m1 := ev_bd h rfl
theorem v_sIfT (h : Ev (T en) m true m1) (h' : Ev (S en) m1 k m2) : Ev (sIf T S S' en) m k m2 := ev_bd h h'
theorem v_sIfF (h : Ev (T en) m false m1) (h' : Ev (S' en) m1 k m2) : Ev (sIf T S S' en) m k m2 := ev_bd h h'
theorem v_app (i : Nat) {r : List D} (hl : lstAt i en = some ds) (h : Ev (F en) m d m1) {g : List D → D → Option (List D)} (k : g ds d = some r) : Ev (sMeth i g F en) m (.nx (en.set i (some (.list r)))) m1 := ev_bd (ev_lft m hl) (ev_bd h (ev_bd (ev_lft m1 k) rfl))
theorem v_setIx (i : Nat) {r : List D} (h : Ev (F en) m d m1) (hl : lstAt i en = some ds) (h' : Ev (G en) m1 a m2) (k : setIx ds a d = some r) : Ev (sSetIx i G F en) m (.nx (en.set i (some (.list r)))) m2 := ev_bd h (ev_bd (ev_lft m1 hl) (ev_bd h' (ev_bd (ev_lft m2 k) rfl)))
theorem v_dput (i : Nat) {put : List (D × D) → D → D → Option (List (D × D))} {kvs r : List (D × D)} (h : Ev (F en) m d m1) (hl : dicAt i en = some kvs) (h' : Ev (G en) m1 a m2) (k : put kvs a d = some r) : Ev (sDput put i G F en) m (.nx (en.set i (some (.dict r)))) m2 := ev_bd h (ev_bd (ev_lft m1 hl) (ev_bd h' (ev_bd (ev_lft m2 k) rfl)))
theorem v_asg {Gt : D → SE → M SE} (h : Ev (F en) m d m1) (h' : Ev (Gt d en) m1 e m2) : Ev (sAsg Gt F en) m (.nx e) m2 := ev_bd h (ev_bd h' rfl)
theorem v_par (i j : Nat) (h : Ev (A en) m [a, b] m1) : Ev (sPar i j A en) m (.nx ((en.set i (some a)).set j (some b))) m1 := ev_bd h rfl
theorem v_parO (i j : Nat) (h : Ev (F en) m a m1) (h' : Ev (G en) m1 b m2) (hl : i < en.length ∧ j < en.length) : Ev (sParO i j F G en) m (.nx ((en.set i (some a)).set j (some b))) m2 := by
  refine ev_bd h (ev_bd h' ?_)
  show (if i < en.length ∧ j < en.length then pure (.nx ((en.set i (some a)).set j (some b))) else M.no : M Ctl) m2 = _
  rw [if_pos hl]
  rfl
theorem v_aug (i : Nat) {g : D → D → Option D} (h : en[i]? = some (some a)) (h' : Ev (F en) m b m1) (k : g a b = some d) : Ev (sAug i g F en) m (.nx (en.set i (some d))) m1 := ev_bd (v_var i h) (ev_bd h' (ev_bd (ev_lft m1 k) rfl))
theorem v_iA {g : List D → Option (List D)} (h : Ev (A en) m ds m1) (k : g ds = some es) : Ev (iA g A en) m es m1 := ev_bd h (ev_lft m1 k)
theorem v_iL {g : D → Option (List D)} (h : Ev (F en) m d m1) (k : g d = some es) : Ev (iL g F en) m es m1 := ev_bd h (ev_lft m1 k)
theorem v_for {It : SE → M (List D)} {Gt : D → SE → M SE} {B : SE → M Ctl} (h : Ev (It en) m ds m1) (h' : Ev (forL Gt B ds en) m1 k m2) : Ev (sFor It Gt B en) m k m2 := ev_bd h h'
theorem v_runR (h : Ev (S en) m (.rt d) m1) : Ev (runB S en) m d m1 := ev_bd h rfl
theorem v_runN (h : Ev (S en) m (.nx e) m1) : Ev (runB S en) m .none m1 := ev_bd h rfl
/-- a loop with an invariant: I i e m, the state ahead of the i-th turn -/
theorem v_loop {Gt : D → SE → M SE} {B : SE → M Ctl} (I : Nat → SE → MS → Prop) : ∀ (ds : List D) (i : Nat) (en : SE) (m : MS), I i en m →
    (∀ j d en m, ds[j]? = some d → I (i + j) en m → ∃ e1 m1 e2 m2, Ev (Gt d en) m e1 m1 ∧ (Ev (B e1) m1 (.nx e2) m2 ∨ Ev (B e1) m1 (.ct e2) m2) ∧ I (i + j + 1) e2 m2) → ∃ e' m', Ev (forL Gt B ds en) m (.nx e') m' ∧ I (i + ds.length) e' m'
  | [], i, en, m, h, _ => ⟨en, m, rfl, h⟩
  | d :: ds, i, en, m, h, step => by
    obtain ⟨e1, m1, e2, m2, h1, h2, h3⟩ := step 0 d en m rfl h
    obtain ⟨e', m', h4, h5⟩ := v_loop I ds (i + 1) e2 m2 h3 fun j d en m hj hI => by
      have := step (j + 1) d en m (by simpa using hj) (by rw [show i + (j + 1) = i + 1 + j by omega]; exact hI)
      rwa [show i + (j + 1) + 1 = i + 1 + j + 1 by omega] at this
    refine ⟨e', m', ?_, by rw [List.length_cons, show i + (ds.length + 1) = i + 1 + ds.length by omega]; exact h5⟩
    rcases h2 with h2 | h2
    · exact ev_bd h1 (ev_bd h2 h4)
    · exact ev_bd h1 (ev_bd h2 h4)
/-- a comprehension whose turns give each one thing, or none -/
theorem v_lcL {f : D → M (Option D)} : ∀ {ds : List D} {m : MS} (r : List (Option D)), r.length = ds.length → (∀ (j : Nat) (d : D) (o : Option D), ds[j]? = some d → r[j]? = some o → Ev (f d) m o m) → Ev (lcL f ds) m (r.filterMap id) m
  | [], m, [], _, _ => rfl
  | d :: ds, m, o :: r, hl, h => by
    refine ev_bd (h 0 d o rfl rfl) (ev_bd (v_lcL (f := f) (ds := ds) (m := m) r (by simpa using hl) fun j d o a b => h (j + 1) d o (by simpa using a) (by simpa using b)) ?_)
    cases o <;> rfl
  | [], _, _ :: _, hl, _ => by cases hl
  | _ :: _, _, [], hl, _ => by cases hl
theorem v_lc {It : SE → M (List D)} {Gt : D → SE → M SE} {vs : List Nat} {xs : List D} (h : Ev (It en) m ds m1) (k : Ev (lcL (lcStep Gt T F (wipeE en vs)) ds) m1 xs m2) (hl : xs.length ≤ lineN) : Ev (lcF It Gt T F vs en) m (.list xs) m2 := by
  refine ev_nox (ev_bd h (ev_bd k ?_))
  show (if xs.length ≤ lineN then pure (.list xs) else M.no : M D) m2 = _
  rw [if_pos hl]
  rfl
end
end VL
namespace VL
open PySem
open PySem.Spec
open L2
theorem tE_use {X : Cx} {dk : Nat → Kd} {rd k : Kd} {E : XK} {F : SE → M D} {en : SE} {σ : L2.St} {H : Hp} {d : D} {Q : VK} (hr : RepL X.K dk H 0 en σ) (hF : Ev (F en) ms0 d ms0) (kk : ∀ v H', Same H H' → Res X.K H' k d v → Q v H') : tE X ⟨none, [], dk, rd, E⟩ [] k F σ H Q := by
  refine ⟨[], H, [], en, ms0, rdEnv ms0 hr, ?_⟩
  rw [show F en ms0 = _ from hF]
  intro v H' s _ q
  rw [show ZO [] ([] : List (Nat × Addr)) = [] from rfl, hide_nil] at q
  exact kk v H' (sameN s) q
theorem tT_use {X : Cx} {dk : Nat → Kd} {rd : Kd} {E : XK} {F : SE → M Bool} {en : SE} {σ : L2.St} {H : Hp} {b : Bool} {Q : Bool → Hp → Prop} (hr : RepL X.K dk H 0 en σ) (hF : Ev (F en) ms0 b ms0) (kk : ∀ H', Same H H' → Q b H') : tT X ⟨none, [], dk, rd, E⟩ [] F σ H Q := by
  refine ⟨[], H, [], en, ms0, rdEnv ms0 hr, ?_⟩
  rw [show F en ms0 = _ from hF]
  exact fun H' s _ => kk H' (sameN s)
end VL
namespace VL
open PySem
open PySem.Spec
open L2
/-- what a draw that ends well is -/
theorem draw_inv {L n : Int} {cells great : List Int} {P : D → MS → Prop} {R : Exn → MS → Prop} (h : Good (drawM L (cells, great, n)) P R) : (0 < L ∧ L < 1073741824 ∧ 0 ≤ n ∧ n < 1000000000 ∧ cells.length = 64) ∧
    ((∃ g, great[(n % (great.length : Int)).toNat]? = some g ∧ 0 < g ∧ P (.int (g % L)) (cells, great.set (n % (great.length : Int)).toNat (g / L), n + 1)) ∨
     (((∃ g, great[(n % (great.length : Int)).toNat]? = some g ∧ ¬ 0 < g) ∨ great = []) ∧ ∃ r, drawBase L cells n = some r ∧ P (.int r) (cells, great, n + 1))) := by
  unfold drawM at h
  by_cases hcd : 0 < L ∧ L < 1073741824 ∧ 0 ≤ n ∧ n < 1000000000 ∧ cells.length = 64
  · refine ⟨hcd, ?_⟩
    rw [if_pos hcd] at h
    cases q : great[(n % (great.length : Int)).toNat]? with
    | some g =>
      have h : Good (if 0 < g then Out.ok (PyData.int (g % L)) (cells, great.set (n % (great.length : Int)).toNat (g / L), n + 1) else match drawBase L cells n with
        | some v => .ok (.int v) (cells, great, n + 1)
        | none => .bad) P R := by
        simp only [q] at h
        exact h
      by_cases hg : 0 < g
      · rw [if_pos hg] at h
        exact .inl ⟨g, rfl, hg, h⟩
      · rw [if_neg hg] at h
        cases r : drawBase L cells n with
        | some v =>
          rw [r] at h
          exact .inr ⟨.inl ⟨g, rfl, hg⟩, v, rfl, h⟩
        | none =>
          rw [r] at h
          exact h.elim
    | none =>
      have h : Good (if great = [] then match drawBase L cells n with
        | some v => Out.ok (PyData.int v) (cells, great, n + 1)
        | none => .bad else .bad) P R := by
        simp only [q] at h
        exact h
      by_cases hg : great = []
      · rw [if_pos hg] at h
        cases r : drawBase L cells n with
        | some v =>
          rw [r] at h
          exact .inr ⟨.inr hg, v, rfl, h⟩
        | none =>
          rw [r] at h
          exact h.elim
      · rw [if_neg hg] at h
        exact h.elim
  · rw [if_neg hcd] at h
    exact h.elim
theorem ne_nil {ns : List Int} : neD (.list (ns.map .int)) (.list []) = some (.bool (!ns.isEmpty)) := by
  have h : (SeqAt.shaped (.list (ns.map PyData.int)) && SeqAt.shaped (.list [])) = true := by
    have h1 := PySem.W.shaped_ints []
    rw [PySem.W.shaped_ints ns, show SeqAt.shaped (.list []) = true from h1]
    rfl
  unfold neD
  rw [if_pos h]
  cases ns <;> rfl
theorem at_int {ns : List Int} {i : Int} {c : Int} (h0 : 0 ≤ i) (h : ns[i.toNat]? = some c) : atI (ns.map PyData.int) i = some (.int c) := by
  have e : i = ((i.toNat : Nat) : Int) := by omega
  rw [e]
  exact atI_nat (by rw [List.getElem?_map, h]; rfl)
end VL
namespace VL
open L2
theorem ixN_at {n j : Nat} (hj : j < n) : ixN n (j : Int) = some j := by
  unfold ixN
  rw [if_pos (by omega), if_pos (by omega), Int.toNat_natCast]
end VL
namespace VL
open PySem
open PySem.Spec
open L2
theorem v_lcO {f : D → M (Option D)} (o : D → Option D) {m : MS} : ∀ {ds : List D}, (∀ d, d ∈ ds → Ev (f d) m (o d) m) → Ev (lcL f ds) m (ds.filterMap o) m
  | [], _ => rfl
  | d :: ds, h => by
    refine ev_bd (h d List.mem_cons_self) (ev_bd (v_lcO o (ds := ds) fun x hx => h x (List.mem_cons_of_mem _ hx)) ?_)
    rw [List.filterMap_cons]
    cases o d <;> rfl
theorem v_lcM {f : D → M (Option D)} (g : D → D) {m : MS} {ds : List D} (h : ∀ d, d ∈ ds → Ev (f d) m (some (g d)) m) : Ev (lcL f ds) m (ds.map g) m := by
  have := v_lcO (fun d => some (g d)) h
  rwa [List.filterMap_eq_map'] at this
theorem v_stepT {Gt : D → SE → M SE} {T : SE → M Bool} {El : SE → M D} {en e1 : SE} {d v : D} {m m1 m2 m3 : MS} (h1 : Ev (Gt d en) m e1 m1) (h2 : Ev (T e1) m1 true m2) (h3 : Ev (El e1) m2 v m3) : Ev (lcStep Gt T El en d) m (some v) m3 := ev_bd h1 (ev_bd h2 (ev_bd h3 rfl))
theorem v_stepF {Gt : D → SE → M SE} {T : SE → M Bool} {El : SE → M D} {en e1 : SE} {d : D} {m m1 m2 : MS} (h1 : Ev (Gt d en) m e1 m1) (h2 : Ev (T e1) m1 false m2) : Ev (lcStep Gt T El en d) m none m2 := ev_bd h1 (ev_bd h2 rfl)
theorem v_gNm (i : Nat) (d : D) (en : SE) (m : MS) : Ev (gNm i d en) m (en.set i (some d)) m := rfl
theorem v_gTp2 (i j : Nat) (a b : D) (en : SE) (m : MS) : Ev (gTp 2 (gC (gNm i) (gC (gNm j) gN0)) (.tuple [a, b]) en) m ((en.set i (some a)).set j (some b)) m := rfl
theorem v_tYs (en : SE) (m : MS) : Ev (tYs en) m true m := rfl
theorem mem_rngI {lo : Int} {n : Nat} {d : D} (h : d ∈ rngI lo n) : ∃ i : Nat, i < n ∧ d = .int (lo + i) := by
  unfold rngI at h
  obtain ⟨i, h1, h2⟩ := List.mem_map.mp h
  exact ⟨i, List.mem_range.mp h1, h2.symm⟩
theorem at_nat {ns : List Int} {j : Nat} (h : j < ns.length) : atI (ns.map PyData.int) (j : Int) = some (.int ns[j]) := atI_nat (by rw [List.getElem?_map, List.getElem?_eq_getElem h]; rfl)
theorem setIx_int {ns : List Int} {k v : Int} (h0 : 0 ≤ k) (h : k < ns.length) : setIx (ns.map PyData.int) (.int k) (.int v) = some ((ns.set k.toNat v).map .int) := by
  have e : k = ((k.toNat : Nat) : Int) := by omega
  show (ixN (ns.map PyData.int).length k).map _ = _
  rw [List.length_map, e, ixN_at (by omega), List.map_set, Int.toNat_natCast]
  rfl
end VL
namespace VL
open PySem
open L2
theorem enumD_inv {xs : List D} {j : Nat} {d : D} (h : (enumD xs)[j]? = some d) : ∃ a, xs[j]? = some a ∧ d = .tuple [.int (j : Nat), a] := by
  have hj : j < xs.length := by
    rw [← enumD_len]
    exact (List.getElem?_eq_some_iff.mp h).1
  refine ⟨xs[j], List.getElem?_eq_getElem hj, ?_⟩
  rw [enumD_get (List.getElem?_eq_getElem hj)] at h
  exact (Option.some.inj h).symm
theorem map_inv {α : Type} {f : α → D} {l : List α} {j : Nat} {d : D} (h : (l.map f)[j]? = some d) : ∃ a, l[j]? = some a ∧ d = f a := by
  rw [List.getElem?_map] at h
  obtain ⟨a, h1, h2⟩ := Option.map_eq_some_iff.mp h
  exact ⟨a, h1, h2.symm⟩
theorem rngI_inv {lo : Int} {n j : Nat} {d : D} (h : (rngI lo n)[j]? = some d) : j < n ∧ d = .int (lo + j) := by
  unfold rngI at h
  obtain ⟨a, h1, h2⟩ := map_inv h
  have hj : j < n := by
    have := (List.getElem?_eq_some_iff.mp h1).1
    rwa [List.length_range] at this
  rw [List.getElem?_range hj] at h1
  cases h1
  exact ⟨hj, h2⟩
end VL
namespace VL
open PySem
open PySem.Spec
open L2
def onI (f : Int → Int) : D → D
  | .int i => .int (f i)
  | d => d
theorem map_onI (f : Int → Int) (ns : List Int) : (ns.map PyData.int).map (onI f) = (ns.map f).map .int := by
  rw [List.map_map, List.map_map]
  rfl
def tEO (X : Cx) (c : Ct) (U : List Nat) (k : Kd) (F : SE → M D) : TE := fun σ H Q => ∃ Z H0 O en m, EnvOk X.K c.W c.ms c.dk Z H0 U O en σ H m ∧
    Good (F en m) (fun d m' => ∀ a o H', SameW c.W H H' → DrawOk c.W H' m' → H a = none → H' a = some o → OwnR X.K (hide (a :: ZO Z O) H') d o → kO o = k → Q (.ref a) H') (fun _ _ => False)
theorem FO.pe {X : Cx} {c : Ct} {U : List Nat} {k : Kd} {e : Expr} {F : SE → M D} (h : FO X c U k e F) : PE X e (tEO X c U k F) := by
  obtain ⟨t, p, r⟩ := h
  refine ⟨fun pins s σ H Q I q => p.run pins s σ H Q I ?_⟩
  obtain ⟨Z, H0, O, en, m, hE, hG⟩ := q
  exact r Z H0 O en σ H m Q hE (hG.mono (fun _ _ k => k) fun _ _ k => k.elim)
theorem tEO_use {X : Cx} {dk : Nat → Kd} {rd k : Kd} {E : XK} {F : SE → M D} {en : SE} {σ : L2.St} {H : Hp} {d : D} {Q : VK} (hr : RepL X.K dk H 0 en σ) (hF : Ev (F en) ms0 d ms0) (kk : ∀ a o H', Same H H' → H a = none → H' a = some o → OwnR X.K (hide [a] H') d o → Q (.ref a) H') : tEO X ⟨none, [], dk, rd, E⟩ [] k F σ H Q := by
  refine ⟨[], H, [], en, ms0, rdEnv ms0 hr, ?_⟩
  rw [show F en ms0 = _ from hF]
  intro a o H' s _ n h r _
  exact kk a o H' (sameN s) n h r
end VL
/-! the value layer: [xs.pop(e) for ..], xs owned -/
namespace VL
open PySem
open PySem.Spec
open L2

section
variable {X : Cx} {c : Ct} {U : List Nat}
def popD (xs : List D) (d : D) : Option (D × List D) := match d with
  | .int k => if -(2 ^ 63) ≤ k ∧ k < 2 ^ 63 then (match seqIndex? k xs.length with
    | some j => (match xs[j]? with
      | some y => some (y, xs.eraseIdx j)
      | none => none)
    | none => none) else none
  | _ => none
theorem popD_some {xs : List D} {d y : D} {r : List D} (h : popD xs d = some (y, r)) : ∃ k j, d = .int k ∧ -(2 ^ 63) ≤ k ∧ k < 2 ^ 63 ∧ seqIndex? k xs.length = some j ∧ xs[j]? = some y ∧ r = xs.eraseIdx j := by
  unfold popD at h
  cases d with
  | int k =>
    dsimp only at h
    by_cases hk : -(2 ^ 63) ≤ k ∧ k < 2 ^ 63
    · rw [if_pos hk] at h
      cases q : seqIndex? k xs.length with
      | none => rw [q] at h; cases h
      | some j =>
        rw [q] at h
        dsimp only at h
        cases q2 : xs[j]? with
        | none => rw [q2] at h; cases h
        | some z =>
          rw [q2] at h
          cases h
          exact ⟨k, j, rfl, hk.1, hk.2, q, q2, rfl⟩
    · rw [if_neg hk] at h
      cases h
  | _ => cases h
theorem DqAll.erase {K : PySem.W.Frag} {H : Hp} {ds : List D} {vs : List V} (h : DqAll K H vs ds) (j : Nat) : DqAll K H (vs.eraseIdx j) (ds.eraseIdx j) := by
  rw [List.eraseIdx_eq_take_drop_succ, List.eraseIdx_eq_take_drop_succ]
  exact DqAll.append (DqAll.take j h) (DqAll.drop (j + 1) h)
/-- xs.pop(e), as the heap sees it -/
def tPop (X : Cx) (c : Ct) (U : List Nat) (i : Nat) (F : SE → M D) : TE := fun σ H Q => ∃ Z H0 O en m aL vs, EnvOk X.K c.W c.ms c.dk Z H0 U O en σ H m ∧ σ[i]? = some (some (.ref aL)) ∧ H aL = some (.lst vs) ∧ (∀ w, c.W = some w → aL ≠ w.am ∧ aL ≠ w.gA) ∧
  Good (F en m) (fun d m' => ∀ H', SameW c.W H H' → DrawOk c.W H' m' → ∃ k j y, d = .int k ∧ -(2 ^ 63) ≤ k ∧ k < 2 ^ 63 ∧ seqIndex? k vs.length = some j ∧ vs[j]? = some y ∧ Q y (upd H' aL (.lst (vs.eraseIdx j)))) (fun _ _ => False)
def FPop (X : Cx) (c : Ct) (U : List Nat) (i : Nat) (e : Expr) (F : SE → M D) : Prop := PE X e (tPop X c U i F)
theorem pe_pop (i : Nat) {x : Str} {e : Expr} {F : SE → M D} {px apos cpos : Pos} (h : FE X c U e F) (hN : X.N[i]? = some x := by rfl) (hv : Vis X.env.scope x := by first | exact Or.inl rfl | exact Or.inr (Or.inl rfl) | exact Or.inr (Or.inr rfl)) (hd : (x == ("__debug__" : Str)) = false := by decide) (hcd : (x == ("__classdict__" : Str)) = false := by decide)
    (hbase : attributeBase (.Name x px) "pop" X.env (eval (.Name x px) X.env) = eval (.Name x px) X.env := by rfl)
    (hfew : ((backTo cpos (starEach [e] X.env)).all (fun x => !x.1) && (backToKw cpos (keywordEach [] X.env)).all (fun x => x.1.isSome)
      && decide (([e] : List Expr).length + ([] : List Keyword).length + (if ([] : List Keyword).isEmpty then 0 else 1) < 30)) = true := by rfl)
    (hline : (apos.endLine == cpos.line) = true := by rfl) (hs : starEach [e] X.env = (false, eval e X.env) :: starEach [] X.env := by rfl) (hplain : (backTo cpos (starEach [] X.env)).any (·.1) = false := by rfl) :
    FPop X c U i (.Call (.Attribute (.Name x px) "pop" apos) [e] [] cpos) F := by
  obtain ⟨t, p, r⟩ := h
  refine ⟨fun pins s σ H Q I q => (pe_bm PySem.F.plainAttrs_list PySem.F.slot_list_pop PySem.F.type_list_pop mt_popAt (pe_var hN hv hd hcd) (pa_cons p pa_nil hs) hbase hfew hline hs hplain).run pins s σ H Q I ?_⟩
  obtain ⟨Z, H0, O, en, m, aL, vs, hE, hi, hL, nw, hG⟩ := q
  refine ⟨_, hi, .inl ⟨rfl, vs, .inl (.inl hL)⟩, r Z H0 O en σ H m _ hE (hG.mono (fun d m1 k1 v H1 s1 d1 q1 => ?_) fun _ _ k => k.elim)⟩
  obtain ⟨k, j, y, rfl, h1, h2, h3, h4, h5⟩ := k1 H1 s1 d1
  have q1 : Dq X.K _ v (.int k) := q1
  cases q1
  exact ⟨aL, vs, k, j, y, rfl, rfl, s1 _ _ nw hL, h1, h2, h3, h4, h5⟩
/-- the turns -/
def lcPL (G : D → SE → M SE) (i : Nat) (F : SE → M D) (vs : List Nat) : SE → List D → M (List D)
  | _, [] => pure []
  | en, d :: ds => do
    let e1 ← G d (wipeE en vs)
    let v ← F e1
    let xs ← lft (lstAt i en)
    let q ← lft (popD xs v)
    let r ← lcPL G i F vs (en.set i (some (.list q.2))) ds
    pure (q.1 :: r)
def lcPF (It : SE → M (List D)) (G : D → SE → M SE) (i : Nat) (F : SE → M D) (vs : List Nat) : SE → M D := fun en => nox do
  let ds ← It en
  let rs ← lcPL G i F vs en ds
  if rs.length ≤ lineN then pure (.list rs) else M.no
theorem lcP_read {k : Kd} {is : List Nat} {It : SE → M (List D)} {G : D → SE → M SE} {i₀ : Nat} {El : SE → M D} {vs : List Nat} {wi : TI}
    (ri : ∀ Z H0 O en σ H m R, EnvOk X.K c.W c.ms c.dk Z H0 U O en σ H m → Good (It en m) (fun ds m' => ∀ J H1, SameW c.W H H1 → DrawOk c.W H1 m' → Walk J ds.length (fun H' => Same (hide (ZO Z O) H1) H') (YD X.K (ZO Z O) H1 k ds) → R J H1) (fun x m' => ExK X c (ZO Z O) H x m') → wi σ H R)
    (his : ∀ i ∈ is, i ∈ vs) (hi0 : i₀ ∉ vs) (hiU : i₀ ∈ U) (hU : ∀ i ∈ vs, i ∉ U) (hms : ∀ i ∈ vs, i ∉ c.ms) {Z : List Addr} {H0 : Hp} {O : List (Nat × Addr)} {en : SE} {σ : L2.St} {H : Hp} {m : MS} {Q : VK} {R : Exn → MS → Prop} (hE : EnvOk X.K c.W c.ms c.dk Z H0 U O en σ H m)
    (hG : Good (lcPF It G i₀ El vs en m) (fun d m' => ∀ a ws xs H', d = .list xs → SameW c.W (hide (O.map (·.2)) H) H' → DrawOk c.W H' m' → H a = none → H' a = some (.lst ws) → DqAll X.K (hide (a :: ZO Z O) H') ws xs → Q (.ref a) H') R) :
    tLc wi (tG X c U k is G) (tT X c U tYs) (tPop X c U i₀ El) vs σ H Q := by
  refine ri Z H0 O en σ H m _ hE (hG.nox.bd.mono (fun ds m1 k1 J H1 s1 d1 wk a na => ?_) fun _ _ k => k.elim)
  have nH : H a = none := none_step s1 d1 na
  have n0 : H0 a = none := hE.none0 nH
  have hw := hE.wzo
  have nw := (hE.step s1 d1).nw0 n0
  have su : SameW c.W H1 (upd H1 a (.lst [])) := .of (same_new na _)
  have hsame0 : SameW c.W (hide (O.map (·.2)) H) H1 := fun b o n q => s1 b o n (hide_some q).2
  have E0 : EnvOk X.K c.W c.ms c.dk (a :: Z) H0 U O en σ (upd H1 a (.lst [])) m1 := hE.temp (s1.trans su) (d1.same (same_new na _)) nH (by rw [upd_same]; exact fun x => nomatch x)
  have k1 : Good ((lcPL G i₀ El vs en ds >>= fun rs => (if rs.length ≤ lineN then pure (.list rs) else M.no : M D)) m1) _ _ := k1
  refine lc_it wk (fun i H' => ∃ m' ws acc en', EnvOk X.K c.W c.ms c.dk (a :: Z) H0 U O en' σ H' m' ∧ Same (hide (ZO Z O) H1) (hide (a :: ZO Z O) H') ∧ SameW c.W (hide (O.map (·.2)) H) H' ∧ H' a = some (.lst ws) ∧ DqAll X.K (hide (a :: ZO Z O) H') ws acc ∧
    Good (lcPL G i₀ El vs en' (ds.drop i) m') (fun rs m'' => Good ((if (acc ++ rs).length ≤ lineN then pure (.list (acc ++ rs)) else M.no : M D) m'') (fun d m' => ∀ a ws xs H', d = .list xs → SameW c.W (hide (O.map (·.2)) H) H' → DrawOk c.W H' m' → H a = none → H' a = some (.lst ws) → DqAll X.K (hide (a :: ZO Z O) H') ws xs → Q (.ref a) H') (fun _ _ => False)) (fun _ _ => False))
    ⟨m1, [], [], en, E0, hide_temp su hw na, hsame0.trans su, upd_same, .nil, by rw [List.drop_zero]; exact k1.bd⟩ (fun i H' _ ⟨m', ws, acc, en', E, s, _⟩ => s.trans (hide_same _ _)) (fun i x H3 H4 hi ⟨m', ws, acc, en', E, s, sw, ha, hI, hg⟩ y => ?_) (fun H' ⟨m', ws, acc, en', E, s, sw, ha, hI, hg⟩ => ?_)
  · obtain ⟨sy, d, hd, hr⟩ := y
    have e : ds.drop i = d :: ds.drop (i + 1) := by
      rw [List.drop_eq_getElem_cons hi]
      rw [List.getElem?_eq_getElem hi] at hd
      cases hd
      rfl
    rw [e] at hg
    have E4 := E.grow sy
    have Eg := E4.wiped hU hms
    refine ⟨a :: Z, H0, O, wipeE en' vs, m', d, Eg, hr _ E.zt (fun b o q => s b o q), ?_⟩
    have hg : Good ((G d (wipeE en' vs) >>= fun e1 => El e1 >>= fun v => lft (lstAt i₀ en') >>= fun xs => lft (popD xs v) >>= fun q => lcPL G i₀ El vs (en'.set i₀ (some (.list q.2))) (ds.drop (i + 1)) >>= fun r => pure (q.1 :: r)) m') _ _ := hg
    refine hg.bd.mono (fun e1 m2 k2 σ2 H5 s5 w5 E5 => ?_) fun _ _ _ => trivial
    have hw2 : wipe σ2 vs = wipe σ vs := (w5 vs his).trans wipe_wipe
    refine ⟨hw2, a :: Z, H0, O, e1, m2, E5, ?_⟩
    show ∀ H', SameW c.W H5 H' → DrawOk c.W H' m2 → _
    intro H6 s6 d6
    have E6 := E5.step s6 d6
    have s36 : SameW c.W H3 H6 := (SameW.of sy).trans (s5.trans s6)
    have E36 := E.step s36 d6
    have k2x := k2.bd
    obtain ⟨xs, hxs⟩ : ∃ xs, lstAt i₀ en' = some xs := by
      obtain ⟨v, m8, q8⟩ := Good.ex k2x
      obtain ⟨xs, h, _⟩ := q8.bd.lft
      exact ⟨xs, h⟩
    obtain ⟨aL, vsL, p1, p2, p3, p4, p5⟩ := E36.ownL hiU hxs
    have hσ : σ2[i₀]? = some (some (.ref aL)) := by
      rw [← wipeS_out (σ := σ2) hi0, hw2, wipeS_out hi0]
      exact p2
    have nwL := E36.onw p1
    rw [if_pos rfl]
    refine ⟨a :: Z, H0, O, e1, m2, aL, vsL, E6, hσ, p3, nwL, k2x.mono (fun v m3 k3 H7 s7 d7 => ?_) fun _ _ k => k⟩
    obtain ⟨xs', hx', k4⟩ := k3.bd.lft
    rw [hxs] at hx'
    cases hx'
    obtain ⟨⟨y, rs⟩, hp, k5⟩ := k4.bd.lft
    obtain ⟨k, j, rfl, b1, b2, b3, b4, rfl⟩ := popD_some hp
    obtain ⟨yv, hy1, hy2⟩ := DqAll.get p4 b4
    have s37 := s36.trans s7
    have E7 := E36.step s7 d7
    have p4' := DqAll.mono (s7.hide E36.wzo) p4
    have E8 := E7.writeL p1 p5 (DqAll.erase p4' j)
    have nwa : ∀ w, c.W = some w → a ≠ w.am ∧ a ≠ w.gA := fun w q => ⟨(nw w q).1, (nw w q).2.2⟩
    have naL : a ≠ aL := fun t => E.nz _ p1 (by rw [t]; exact List.mem_cons_self)
    have haLO : aL ∈ O.map (·.2) := List.mem_map.mpr ⟨_, p1, rfl⟩
    have haLZ : aL ∈ a :: ZO Z O := List.mem_cons_of_mem _ (List.mem_append_right _ haLO)
    have ha7 : H7 a = some (.lst ws) := s37 a _ nwa ha
    have hlen : acc.length < lineN := by
      obtain ⟨rs, m8, q8⟩ := Good.ex k5.bd
      have q8 : Good ((if (acc ++ y :: rs).length ≤ lineN then pure (.list (acc ++ y :: rs)) else M.no : M D) m8) _ _ := q8
      by_cases hz : (acc ++ y :: rs).length ≤ lineN
      · rw [List.length_append, List.length_cons] at hz
        omega
      · rw [if_neg hz] at q8
        exact q8.elim
    refine ⟨k, j, yv, rfl, b1, b2, by rw [DqAll.length p4]; exact b3, hy1, ws, by rw [upd_ne naL]; exact ha7, by rw [DqAll.length hI]; exact own_line hlen, m3, ws ++ [yv], acc ++ [y], en'.set i₀ (some (.list (xs.eraseIdx j))), E8.turn n0, ?_, ?_, upd_same, ?_, ?_⟩
    · rw [hide_updZ List.mem_cons_self, hide_updZ haLZ]
      exact s.trans (s37.hide E.wzo)
    · refine same_updW ?_ (show hide (O.map (·.2)) H a = none from ?_)
      · refine same_updW (sw.trans s37) ?_
        exact hide_in haLO
      · cases q : hide (O.map (·.2)) H a with
        | none => rfl
        | some u =>
          rw [(hide_some q).2] at nH
          cases nH
    · rw [hide_updZ List.mem_cons_self, hide_updZ haLZ]
      exact DqAll.append (DqAll.mono (s37.hide E.wzo) hI) (DqAll.one (hy2.mono (s7.hide E36.wzo)))
    · refine Good.mono k5.bd (fun rs m8 q8 => ?_) fun _ _ k => k
      rw [List.append_assoc]
      exact q8
  · rw [List.drop_eq_nil_of_le (Nat.le_refl _)] at hg
    have hg : Good ((if (acc ++ []).length ≤ lineN then pure (.list (acc ++ [])) else M.no : M D) m') _ _ := hg
    rw [List.append_nil] at hg
    by_cases hz : acc.length ≤ lineN
    · rw [if_pos hz] at hg
      exact hg a ws acc H' rfl sw E.dr nH ha hI
    · rw [if_neg hz] at hg
      exact hg.elim
/-- return [xs.pop(e) for ..] -/
theorem fs_retPop {Un UL : List Nat} (i₀ : Nat) {k : Kd} {is : List Nat} {elt tg it : Expr} {scope : Scope} {own : List (Str × Nat)} {pos rpos : Pos} {It : SE → M (List D)} {G : D → SE → M SE} {El : SE → M D} (hc : X.calm = true) (hN : X.N.Nodup) (hi : FI X c U k tg it It)
    (hg : ∀ (s : Shared) (H : Hp) (C : Addr) (cl : List (Str × Addr)) (fp : List Addr), FG (X.blk s H scope (compEnvC scope cl C X.env) fp) c U k is tg G)
    (he : ∀ (s : Shared) (H : Hp) (C : Addr) (cl : List (Str × Addr)) (fp : List Addr), FPop (X.blk s H scope (compEnvC scope cl C X.env) fp) c U i₀ elt El)
    (ok : blkC X.N X.env.scope scope own = true := by rfl) (hrd : c.rd = .dat := by rfl) (his : ∀ i ∈ is, i ∈ own.map (·.2) := by decide) (hi0 : i₀ ∉ own.map (·.2) := by decide) (hiU : i₀ ∈ U := by decide) (hU : ∀ i ∈ own.map (·.2), i ∉ U := by decide) (hms : ∀ i ∈ own.map (·.2), i ∉ c.ms := by (try dsimp only); decide)
    (hs : ∀ x, foldedSetIterable it X.env x = pure x := by intro _; rfl) : FS X c UL U (.Return (some (.ListComp elt [⟨tg, it, [], 0⟩] scope pos)) rpos) (sRet (lcPF It G i₀ El (own.map (·.2)))) Un := by
  obtain ⟨wi, pi, ri⟩ := hi
  refine ⟨_, ps_ret (pe_lc (g := tG X c U k is G) (tt := tT X c U tYs) (te := tPop X c U i₀ El) hc hN pi (blkOk_by ok) hg (fun _ _ _ _ _ => fts_nil) he hs), fun Z H0 O en σ H m Ds hE hG => ?_⟩
  refine lcP_read ri his hi0 hiU hU hms hE (hG.bd.mono (fun d m1 k1 a ws xs H1 e s1 d1 n1 h1 hI => ?_) fun _ _ k => k)
  subst e
  have na : a ∉ Z := fun z => hE.zt0 a z n1
  refine k1 (.ref a) H1 (hE.down_same.trans s1) d1 ?_
  rw [hrd]
  exact Dq.lst (Rd.of (by rw [hide_ne na]; exact h1)) (DqAll.mono (hide_sub fun b hb => List.mem_cons_of_mem _ (List.mem_append_left _ hb)) hI)
end
end VL
/-! the value layer: the call of law, behind the top -/
namespace VL
open PySem PySem.Spec PyProof.Rows L2
/-- what law(script) promises -/
def spLaw (K : PySem.W.Frag) (n : Nat) : Sp := fun vs H Q E => ∃ (a : Addr) (ns : List Int), vs = [.ref a] ∧ Rd H a (.lst (ns.map .int)) ∧ ns.length ≤ n ∧ ∀ H', Q (.bl true) H'
/-- no list is the module's own -/
def noLists (K : PySem.W.Frag) : Bool := K.all fun p => match p.2.data with
  | .seq _ _ => !(p.2.cls == .type "list")
  | _ => true
theorem lookup_mem {K : PySem.W.Frag} {a : Addr} {o : Obj} (h : K.lookup a = some o) : ∃ p ∈ K, p.2 = o := by
  induction K with
  | nil => cases h
  | cons p r ih =>
    rw [List.lookup_cons] at h
    split at h
    · cases h
      exact ⟨p, List.mem_cons_self, rfl⟩
    · obtain ⟨q, h1, h2⟩ := ih h
      exact ⟨q, List.mem_cons_of_mem _ h1, h2⟩
theorem no_list {K : PySem.W.Frag} {h : Heap} {a : Addr} {xs : Array Value} {n : Nat} (nl : noLists K = true) (X : K.In h) (ha : h.get? a = some { cls := .type "list", data := .seq xs n }) : K.lookup a = none := by
  cases q : K.lookup a with
  | none => rfl
  | some o =>
    have e := (X a o q).symm.trans ha
    cases e
    obtain ⟨p, h1, h2⟩ := lookup_mem q
    have := List.all_eq_true.mp nl p h1
    rw [h2] at this
    have this : (!(Value.type "list" == Value.type "list")) = true := this
    rw [beq_self_eq_true] at this
    cases this
/-- the script as the only tracked thing -/
def hpOf (a : Addr) (vs : List Value) (ns : List Int) : Hp := fun b => if b = a then some (.frz { cls := .type "list", data := .seq vs.toArray } (.lst (ns.map V.int))) else none
theorem hpOf_at {a : Addr} {vs : List Value} {ns : List Int} : hpOf a vs ns a = some (.frz { cls := .type "list", data := .seq vs.toArray } (.lst (ns.map V.int))) := if_pos rfl
theorem hpOf_ne {a b : Addr} {vs : List Value} {ns : List Int} (h : b ≠ a) : hpOf a vs ns b = none := if_neg h
section
variable {P : Program} {w : World} {K : PySem.W.Frag} {mg mb : Str → Option Value} {k n : Nat} {fa a : Addr} {fd : FuncData} {x : Str} {s : Shared} {vs : List Value} {ns : List Int}
theorem hok_of (ha : s.heap.get? a = some { cls := .type "list", data := .seq vs.toArray }) (hi : IntsAre vs ns) (hl : ns.length ≤ sizeLine) : HOk P w (hpOf a vs ns) s.heap := fun b u e => by
  by_cases q : b = a
  · subst q
    rw [hpOf_at] at e
    cases e
    exact ⟨ha, by rw [List.length_map]; exact hl, vs, _, vals_ints hi, ha⟩
  · rw [hpOf_ne q] at e
    cases e
theorem under_ns {b : Addr} {m : Str → Option Value} (ha : s.heap.get? a = some { cls := .type "list", data := .seq vs.toArray }) (h : s.heap.Ns b m) : (hidT s.heap (hpOf a vs ns)).Ns b m := by
  obtain ⟨o, es, ep, e, d, r⟩ := h
  refine ⟨o, es, ep, hidT_get e (hpOf_ne fun q => ?_), d, r⟩
  rw [q, ha] at e
  cases e
  have d : Data.seq vs.toArray _ = Data.dict es ep := d
  cases d
theorem call_law (X : K.In s.heap) (hns : s.heap.Ns mainGlobals mg) (hb : s.heap.Ns builtinsNs mb) (hbb : ∀ y : Str, y ≠ "__name__" → mb y = bootBuiltins y) (hlim : s.heap.NoLimit) (hg : s.gens = #[])
    (ha : s.heap.get? a = some { cls := .type "list", data := .seq vs.toArray }) (hi : IntsAre vs ns) (hln : ns.length ≤ n) (hn : n ≤ sizeLine) (hr : Room k callerA) (nl : noLists K = true)
    (F : ∀ base : Heap, K.In base → base.Ns mainGlobals mg → FnV P w K mg base CX0 k fa fd [x] (spLaw K n)) (hbd : ∀ (t : Shared) (u : Value), BindsTo t fd ⟨[u], []⟩ [(x, u)]) :
    codeAny (model P w) callerA (.call (.ref fa) ⟨[.ref a], []⟩) (fun r s' => r = .ok (.ret (.bool true)) ∧ OldK s.heap s'.heap ∧ s'.os = s.os ∧ AllBare s'.gens) s := by
  have hok := hok_of (P := P) (w := w) ha hi (Nat.le_trans hln hn)
  have ka := no_list nl X ha
  have kb : K.In (hidT s.heap (hpOf a vs ns)) := fun b o e => hidT_get (X b o e) (hpOf_ne fun q => by
    rw [q, ka] at e
    cases e)
  obtain ⟨mc, c1, c2⟩ := hlim
  have e0 : Env0 P w K mg (hidT s.heap (hpOf a vs ns)) callerA [] s (hpOf a vs ns) :=
    ⟨rfl, ⟨kb, under_ns ha hns, ⟨mb, under_ns ha hb, hbb⟩, ⟨mc, under_ns ha c1, c2⟩⟩, fun b o e => of_hidT e, Nat.le_of_eq (hidT_size _ _), trivial, (fun b q => nomatch q), hok, .of_eq hg⟩
  have run := (F _ kb (under_ns ha hns)).runs callerA [] s (hpOf a vs ns) ⟨[.ref a], []⟩ [.ref a] [.ref a] (fun v _ => v = .bl true) (fun _ _ _ => False) rfl hr e0 (hbd s (.ref a)) (.cons rfl .nil) ⟨a, ns, rfl, .inr ⟨_, hpOf_at⟩, hln, fun _ => rfl⟩
  refine codeAny_mono run fun r s' got => ?_
  match r, got with
  | .error e, got => exact got.elim
  | .ok (.ret u), ⟨v, H', h1, h2, h3, h4, h5, h6⟩ =>
    have h6 : v = .bl true := h6
    subst h6
    obtain rfl : u = Value.bool true := h5
    refine ⟨rfl, OldK.of_keep fun b o e => ?_, h1, h2⟩
    by_cases q : b = a
    · subst q
      rw [ha] at e
      cases e
      exact (h4 b _ (h3.frzs b _ _ hpOf_at)).1
    · exact h3.keep b o e (hpOf_ne q) (fun z => nomatch z) (fun z => nomatch z)
end
/-- the goal that k_head leaves -/
theorem law_walk {l : PySem.W.OpenLaw} {n k : Nat} {q : Program} {loose : List Str} {XP : (Str → Option Value) → Heap → Prop} {YP : World → Heap → Prop} {d : DefRec} {K : Params → PySem.W.Frag} {x : Str}
    (hn : l.most = some n) (hn2 : n ≤ sizeLine) (hdf : d.params.defaults = []) (hr : Room k callerA) (hY : ∀ (w : World) (h : Heap), YP w h → (K w.params).In h) (nl : ∀ w : World, noLists (K w.params) = true)
    (F : ∀ (w : World) (mg : Str → Option Value) (fa : Addr) (h : Heap), (K w.params).In h → h.Ns mainGlobals mg → mg d.name = some (.ref fa) →
      ∃ fd : FuncData, (∀ (t : Shared) (u : Value), BindsTo t fd ⟨[u], []⟩ [(x, u)]) ∧ ∀ base : Heap, (K w.params).In base → base.Ns mainGlobals mg → FnV l.prog w (K w.params) mg base CX0 k fa fd [x] (spLaw (K w.params) n)) :
    PySem.W.WalkO q loose XP YP l.row.toRowW d [] (fun f vs => PySem.call f vs) := by
  refine Att.attach_call hn hdf fun w s₀ s₁ mg mb fa o pm cd doc a vs ns G Y ho hd hcd hmg ha hi hlen hg => ?_
  obtain ⟨fd, hb, hF⟩ := F w mg fa _ (hY w _ Y) G.T.g hmg
  exact call_law (hY w _ Y) G.T.g G.T.b G.T.builtins G.T.nolimit hg ha hi hlen hn2 hr (nl w) hF hb
end VL
/-! the value layer: numbering labels by first meeting -/
namespace VL
open PySem
open PySem.Spec
open L2
section
variable {κ : Type} [DecidableEq κ]
def numStep (ks : List κ) (k : κ) : List κ := if k ∈ ks then ks else ks ++ [k]
def numGo : List κ → List κ → List Nat
  | _, [] => []
  | ks, x :: xs => (numStep ks x).idxOf x :: numGo (numStep ks x) xs
def num (xs : List κ) : List Nat := numGo [] xs
theorem numStep_mem {ks : List κ} {k : κ} : k ∈ numStep ks k := by
  unfold numStep
  by_cases h : k ∈ ks
  · rw [if_pos h]; exact h
  · rw [if_neg h]; exact List.mem_append_right _ List.mem_cons_self
theorem numStep_sub {ks : List κ} {k x : κ} (h : x ∈ ks) : x ∈ numStep ks k := by
  unfold numStep
  by_cases q : k ∈ ks
  · rw [if_pos q]; exact h
  · rw [if_neg q]; exact List.mem_append_left _ h
theorem idxOf_app {ks ls : List κ} {x : κ} (h : x ∈ ks) : (ks ++ ls).idxOf x = ks.idxOf x := by
  rw [List.idxOf_append, if_pos h]
theorem numStep_idx {ks : List κ} {k x : κ} (h : x ∈ ks) : (numStep ks k).idxOf x = ks.idxOf x := by
  unfold numStep
  by_cases q : k ∈ ks
  · rw [if_pos q]
  · rw [if_neg q]; exact idxOf_app h
theorem numStep_new {ks : List κ} {k : κ} (h : k ∉ ks) : (numStep ks k).idxOf k = ks.length := by
  unfold numStep
  rw [if_neg h, List.idxOf_append, if_neg h]
  simp
theorem numStep_len {ks : List κ} {k : κ} : (numStep ks k).length ≤ ks.length + 1 := by
  unfold numStep
  by_cases q : k ∈ ks
  · rw [if_pos q]; omega
  · rw [if_neg q]; simp
theorem numGo_len : ∀ (xs ks : List κ), (numGo ks xs).length = xs.length
  | [], _ => rfl
  | x :: xs, ks => by
    show (numGo _ xs).length + 1 = _
    rw [numGo_len xs]
    rfl
theorem num_len (xs : List κ) : (num xs).length = xs.length := numGo_len xs []
/-- all the seen, at the end -/
def numAll (ks xs : List κ) : List κ := xs.foldl numStep ks
theorem numAll_sub : ∀ {xs ks : List κ} {x : κ}, x ∈ ks → x ∈ numAll ks xs
  | [], _, _, h => h
  | y :: ys, _, _, h => numAll_sub (xs := ys) (numStep_sub h)
theorem numAll_idx : ∀ {xs ks : List κ} {x : κ}, x ∈ ks → (numAll ks xs).idxOf x = ks.idxOf x
  | [], _, _, h => rfl
  | y :: ys, ks, x, h => by
    show (numAll (numStep ks y) ys).idxOf x = _
    rw [numAll_idx (xs := ys) (numStep_sub h), numStep_idx h]
theorem numAll_mem : ∀ {xs ks : List κ} {x : κ}, x ∈ xs → x ∈ numAll ks xs
  | y :: ys, ks, x, h => by
    show x ∈ numAll (numStep ks y) ys
    rcases List.mem_cons.mp h with rfl | h
    · exact numAll_sub numStep_mem
    · exact numAll_mem h
/-- the numbers are places among all the seen -/
theorem numGo_eq : ∀ (xs ks : List κ), numGo ks xs = xs.map fun x => (numAll ks xs).idxOf x
  | [], _ => rfl
  | x :: xs, ks => by
    show (numStep ks x).idxOf x :: numGo (numStep ks x) xs = ((numAll (numStep ks x) xs).idxOf x) :: xs.map fun y => (numAll (numStep ks x) xs).idxOf y
    rw [numGo_eq xs, numAll_idx numStep_mem]
theorem num_get {xs : List κ} {i : Nat} (h : i < xs.length) : (num xs)[i]? = some ((numAll [] xs).idxOf xs[i]) := by
  unfold num
  rw [numGo_eq, List.getElem?_map, List.getElem?_eq_getElem h]
  rfl
theorem idxOf_inj {ks : List κ} {x y : κ} (hx : x ∈ ks) (h : ks.idxOf x = ks.idxOf y) : x = y := by
  have h1 := List.idxOf_lt_length_of_mem hx
  have h2 : ks.idxOf y < ks.length := by rw [← h]; exact h1
  have e1 : ks[ks.idxOf x]'h1 = x := List.getElem_idxOf h1
  have e2 : ks[ks.idxOf y]'h2 = y := List.getElem_idxOf h2
  rw [← e1, ← e2]
  simp only [h]
/-- same numbers, same labels -/
theorem num_ker {xs : List κ} {i j : Nat} (hi : i < xs.length) (hj : j < xs.length) : (num xs)[i]? = (num xs)[j]? ↔ xs[i] = xs[j] := by
  rw [num_get hi, num_get hj]
  constructor
  · intro h
    exact idxOf_inj (numAll_mem (List.getElem_mem hi)) (Option.some.inj h)
  · intro h
    rw [h]
end
/-- the numbering sees nothing but which labels are the same -/
theorem numGo_congr {κ μ : Type} [DecidableEq κ] [DecidableEq μ] : ∀ (xs : List κ) (ys : List μ) (ks : List κ) (ls : List μ), xs.length = ys.length → ks.length = ls.length →
    (∀ (i j : Nat) (x y : κ) (u v : μ), (ks ++ xs)[i]? = some x → (ks ++ xs)[j]? = some y → (ls ++ ys)[i]? = some u → (ls ++ ys)[j]? = some v → (x = y ↔ u = v)) → ks.Nodup → ls.Nodup → numGo ks xs = numGo ls ys
  | [], [], _, _, _, _, _, _, _ => rfl
  | [], _ :: _, _, _, h, _, _, _, _ => by cases h
  | _ :: _, [], _, _, h, _, _, _, _ => by cases h
  | x :: xs, y :: ys, ks, ls, hl, hk, H, n1, n2 => by
    have hx : (ks ++ x :: xs)[ks.length]? = some x := by simp
    have hy : (ls ++ y :: ys)[ks.length]? = some y := by rw [hk]; simp
    have hmem : x ∈ ks ↔ y ∈ ls := by
      constructor
      · intro h
        obtain ⟨i, hi, e⟩ := List.getElem_of_mem h
        have a1 : (ks ++ x :: xs)[i]? = some ks[i] := by rw [List.getElem?_append_left hi, List.getElem?_eq_getElem hi]
        have a2 : (ls ++ y :: ys)[i]? = some ls[i] := by rw [List.getElem?_append_left (by omega), List.getElem?_eq_getElem (by omega)]
        have := (H i ks.length _ _ _ _ a1 hx a2 hy).mp e
        rw [← this]
        exact List.getElem_mem _
      · intro h
        obtain ⟨i, hi, e⟩ := List.getElem_of_mem h
        have a1 : (ks ++ x :: xs)[i]? = some ks[i] := by rw [List.getElem?_append_left (by omega), List.getElem?_eq_getElem (by omega)]
        have a2 : (ls ++ y :: ys)[i]? = some ls[i] := by rw [List.getElem?_append_left hi, List.getElem?_eq_getElem hi]
        have := (H i ks.length _ _ _ _ a1 hx a2 hy).mpr e
        rw [← this]
        exact List.getElem_mem _
    show (numStep ks x).idxOf x :: numGo (numStep ks x) xs = (numStep ls y).idxOf y :: numGo (numStep ls y) ys
    by_cases h : x ∈ ks
    · have h' := hmem.mp h
      have e1 : numStep ks x = ks := if_pos h
      have e2 : numStep ls y = ls := if_pos h'
      have i1 := List.idxOf_lt_length_of_mem h
      have ex : ks[ks.idxOf x] = x := List.getElem_idxOf i1
      have a1 : (ks ++ x :: xs)[ks.idxOf x]? = some x := by rw [List.getElem?_append_left i1, List.getElem?_eq_getElem i1, ex]
      have a2 : (ls ++ y :: ys)[ks.idxOf x]? = some (ls[ks.idxOf x]'(by omega)) := by rw [List.getElem?_append_left (by omega), List.getElem?_eq_getElem (by omega)]
      have e3 : ls[ks.idxOf x]'(by omega) = y := (H _ ks.length _ _ _ _ a1 hx a2 hy).mp rfl
      have e4 : ls.idxOf y = ks.idxOf x := by
        have i2 := List.idxOf_lt_length_of_mem h'
        have e5 : ls[ls.idxOf y] = y := List.getElem_idxOf i2
        exact (List.getElem?_inj i2 n2).mp (by rw [List.getElem?_eq_getElem i2, List.getElem?_eq_getElem (show ks.idxOf x < ls.length by omega), e5, e3])
      rw [e1, e2, e4]
      refine congrArg _ (numGo_congr xs ys ks ls (by simpa using hl) hk (fun i j a b c d p1 p2 p3 p4 => ?_) n1 n2)
      have up : ∀ {α : Type} (qs : List α) (q : α) (rs : List α) (i : Nat) (a : α), (qs ++ rs)[i]? = some a → (qs ++ q :: rs)[if i < qs.length then i else i + 1]? = some a := fun qs q rs i a e => by
        by_cases t : i < qs.length
        · rw [if_pos t, List.getElem?_append_left t]
          rwa [List.getElem?_append_left t] at e
        · rw [if_neg t, List.getElem?_append_right (by omega), show i + 1 - qs.length = (i - qs.length) + 1 by omega, List.getElem?_cons_succ]
          rwa [List.getElem?_append_right (by omega)] at e
      have q1 := up ks x xs i a p1
      have q2 := up ks x xs j b p2
      have q3 := up ls y ys i c p3
      have q4 := up ls y ys j d p4
      rw [← hk] at q3 q4
      exact H _ _ _ _ _ _ q1 q2 q3 q4
    · have h' : y ∉ ls := fun t => h (hmem.mpr t)
      have e1 : numStep ks x = ks ++ [x] := if_neg h
      have e2 : numStep ls y = ls ++ [y] := if_neg h'
      rw [numStep_new h, numStep_new h', hk, e1, e2]
      refine congrArg _ (numGo_congr xs ys (ks ++ [x]) (ls ++ [y]) (by simpa using hl) (by simp [hk]) (fun i j a b c d p1 p2 p3 p4 => ?_) ?_ ?_)
      · rw [List.append_assoc] at p1 p2 p3 p4
        exact H i j a b c d p1 p2 p3 p4
      · rw [List.nodup_append]
        exact ⟨n1, List.nodup_cons.mpr ⟨(fun t => nomatch t), List.nodup_nil⟩, fun a ha b hb e => h (by rw [← List.mem_singleton.mp hb, ← e]; exact ha)⟩
      · rw [List.nodup_append]
        exact ⟨n2, List.nodup_cons.mpr ⟨(fun t => nomatch t), List.nodup_nil⟩, fun a ha b hb e => h' (by rw [← List.mem_singleton.mp hb, ← e]; exact ha)⟩
theorem num_congr {κ μ : Type} [DecidableEq κ] [DecidableEq μ] {xs : List κ} {ys : List μ} (hl : xs.length = ys.length) (H : ∀ (i j : Nat) (x y : κ) (u v : μ), xs[i]? = some x → xs[j]? = some y → ys[i]? = some u → ys[j]? = some v → (x = y ↔ u = v)) : num xs = num ys :=
  numGo_congr xs ys [] [] hl rfl (fun i j x y u v a b c d => H i j x y u v a b c d) List.nodup_nil List.nodup_nil
end VL
/-! the value layer: numbering by a dict of the seen -/
namespace VL
open PySem
open PySem.Spec
open L2
section
variable {κ : Type} [DecidableEq κ] {kd : κ → D} {as : D → Option κ}
/-- the dict of the seen, from a number on -/
def seenFrom (kd : κ → D) : Nat → List κ → List (D × D)
  | _, [] => []
  | n, k :: ks => (kd k, .int (n : Nat)) :: seenFrom kd (n + 1) ks
def seenKV (kd : κ → D) (ks : List κ) : List (D × D) := seenFrom kd 0 ks
theorem seenFrom_len : ∀ (ks : List κ) (n : Nat), (seenFrom kd n ks).length = ks.length
  | [], _ => rfl
  | k :: ks, n => by
    show (seenFrom kd (n + 1) ks).length + 1 = _
    rw [seenFrom_len ks]
    rfl
theorem seenFrom_snoc : ∀ (ks : List κ) (n : Nat) (k : κ), seenFrom kd n (ks ++ [k]) = seenFrom kd n ks ++ [(kd k, .int ((n + ks.length : Nat) : Int))]
  | [], n, k => rfl
  | x :: ks, n, k => by
    show _ :: seenFrom kd (n + 1) (ks ++ [k]) = _
    rw [seenFrom_snoc ks, show n + 1 + ks.length = n + (x :: ks).length by rw [List.length_cons]; omega]
    rfl
theorem dg_seen (has : ∀ k, as (kd k) = some k) : ∀ (ks : List κ) (n : Nat) (k : κ), dg as (seenFrom kd n ks) k = if k ∈ ks then some (.int ((n + ks.idxOf k : Nat) : Int)) else none
  | [], n, k => rfl
  | x :: ks, n, k => by
    have ih := dg_seen has ks (n + 1) k
    unfold dg at ih ⊢
    show ((((kd x, PyData.int (n : Nat)) :: seenFrom kd (n + 1) ks).find? fun kv => decide (as kv.1 = some k)).map (·.2)) = _
    rw [List.find?_cons, has]
    by_cases q : x = k
    · subst q
      rw [decide_eq_true rfl, if_pos List.mem_cons_self, List.idxOf_cons_self]
      rfl
    · rw [decide_eq_false (fun t => q (Option.some.inj t))]
      show Option.map _ ((seenFrom kd (n + 1) ks).find? _) = _
      rw [ih]
      by_cases h : k ∈ ks
      · rw [if_pos h, if_pos (List.mem_cons_of_mem _ h), List.idxOf_cons, show (x == k) = false from beq_false_of_ne q, cond_false, show n + 1 + ks.idxOf k = n + (ks.idxOf k + 1) by omega]
      · rw [if_neg h, if_neg (fun t => (List.mem_cons.mp t).elim (fun e => q e.symm) h)]
theorem any_seen (has : ∀ k, as (kd k) = some k) : ∀ (ks : List κ) (n : Nat) (k : κ), ((seenFrom kd n ks).any fun kv => decide (as kv.1 = some k)) = decide (k ∈ ks)
  | [], n, k => rfl
  | x :: ks, n, k => by
    show (decide (as (kd x) = some k) || (seenFrom kd (n + 1) ks).any fun kv => decide (as kv.1 = some k)) = _
    rw [any_seen has ks, has]
    by_cases q : x = k
    · rw [decide_eq_true (by rw [q]), Bool.true_or, decide_eq_true (by rw [q]; exact List.mem_cons_self)]
    · rw [decide_eq_false (fun t => q (Option.some.inj t)), Bool.false_or]
      by_cases h : k ∈ ks
      · rw [decide_eq_true h, decide_eq_true (List.mem_cons_of_mem _ h)]
      · rw [decide_eq_false h, decide_eq_false (fun t => (List.mem_cons.mp t).elim (fun e => q e.symm) h)]
theorem dp_seen (has : ∀ k, as (kd k) = some k) {ks : List κ} {k : κ} (h : k ∉ ks) : dp kd as (seenKV kd ks) k (.int (ks.length : Nat)) = seenKV kd (ks ++ [k]) := by
  unfold dp seenKV
  rw [any_seen has, decide_eq_false h, if_neg (by decide), seenFrom_snoc, Nat.zero_add]
end
/-- the numbering loop: E, the slots by the seen, the found and the label -/
theorem num_loop {κ : Type} [DecidableEq κ] {kd : κ → D} {Gt : D → SE → M SE} {B : SE → M Ctl} (E : List κ → List Nat → Option D → SE) {m : MS}
    (step : ∀ (ks : List κ) (found : List Nat) (x : Option D) (k : κ), ks.length < 1000 → found.length < 1000 → ∃ e1 x', Ev (Gt (kd k) (E ks found x)) m e1 m ∧ Ev (B e1) m (.nx (E (numStep ks k) (found ++ [(numStep ks k).idxOf k]) x')) m) :
    ∀ (xs ks : List κ) (found : List Nat) (x : Option D), ks.length + xs.length ≤ 1000 → found.length + xs.length ≤ 1000 → ∃ ks' x', Ev (forL Gt B (xs.map kd) (E ks found x)) m (.nx (E ks' (found ++ numGo ks xs) x')) m
  | [], ks, found, x, _, _ => ⟨ks, x, by
    show Ev _ _ (Ctl.nx (E ks (found ++ []) x)) _
    rw [List.append_nil]
    rfl⟩
  | y :: xs, ks, found, x, h1, h2 => by
    rw [List.length_cons] at h1 h2
    obtain ⟨e1, x1, q1, q2⟩ := step ks found x y (by omega) (by omega)
    have hl := numStep_len (ks := ks) (k := y)
    obtain ⟨ks', x', q3⟩ := num_loop E step xs (numStep ks y) (found ++ [(numStep ks y).idxOf y]) x1 (by omega) (by rw [List.length_append, List.length_singleton]; omega)
    refine ⟨ks', x', ?_⟩
    show Ev _ _ (Ctl.nx (E ks' (found ++ ((numStep ks y).idxOf y :: numGo (numStep ks y) xs)) x')) _
    rw [show found ++ ((numStep ks y).idxOf y :: numGo (numStep ks y) xs) = found ++ [(numStep ks y).idxOf y] ++ numGo (numStep ks y) xs by simp]
    exact ev_bd q1 (ev_bd q2 q3)
/-- numbers as data -/
def natD (ns : List Nat) : List D := ns.map fun n => .int (n : Nat)
theorem natD_snoc (ns : List Nat) (n : Nat) : natD (ns ++ [n]) = natD ns ++ [.int (n : Nat)] := by simp [natD]
theorem natD_len (ns : List Nat) : (natD ns).length = ns.length := by simp [natD]
theorem natD_ints (ns : List Nat) : natD ns = (ns.map fun (n : Nat) => (n : Int)).map .int := by simp [natD]
/-- the body, a key met -/
theorem num_stepG {κ : Type} [DecidableEq κ] {kd : κ → D} {as : D → Option κ} (has : ∀ k, as (kd k) = some k) {hs : List (D × D) → D → Option Bool} {pt : List (D × D) → D → D → Option (List (D × D))} {gt : SE → M D} {iD iF iL : Nat}
    (hhs : ∀ kvs d, hs kvs d = (as d).map fun k => (dg as kvs k).isSome) (hpt : ∀ kvs k d, pt kvs k d = if kvs.length < lineN then (as k).map fun k => dp kd as kvs k d else none)
    (hgt : ∀ en m kvs k d, dicAt iD en = some kvs → en[iL]? = some (some (kd k)) → dg as kvs k = some d → Ev (gt en) m d m)
    {ks : List κ} {found : List Nat} {k : κ} {en : SE} {m : MS} (h1 : en[iD]? = some (some (.dict (seenKV kd ks)))) (h2 : en[iF]? = some (some (.list (natD found)))) (h3 : en[iL]? = some (some (kd k))) (d1 : iD ≠ iF) (d2 : iD ≠ iL) (hk : ks.length < 1000) (hf : found.length < 1000) :
    Ev (sq (sIf (eDin true hs iD (eVar iL)) (sDput pt iD (eVar iL) (eDlen iD)) sNx) (sMeth iF appD gt) en) m (.nx ((en.set iD (some (.dict (seenKV kd (numStep ks k))))).set iF (some (.list (natD (found ++ [(numStep ks k).idxOf k])))))) m := by
  have hl : iD < en.length := (List.getElem?_eq_some_iff.mp h1).1
  have dd : dicAt iD en = some (seenKV kd ks) := by unfold dicAt; rw [h1]
  have hhas : hs (seenKV kd ks) (kd k) = some (decide (k ∈ ks)) := by
    rw [hhs, has]
    show some ((dg as (seenFrom kd 0 ks) k).isSome) = _
    rw [dg_seen has]
    by_cases q : k ∈ ks
    · rw [if_pos q, decide_eq_true q]; rfl
    · rw [if_neg q, decide_eq_false q]; rfl
  have hset : (en.set iD (some (.dict (seenKV kd (numStep ks k)))))[iD]? = some (some (.dict (seenKV kd (numStep ks k)))) := List.getElem?_set_self hl
  have tail : Ev (sMeth iF appD gt (en.set iD (some (.dict (seenKV kd (numStep ks k)))))) m (.nx ((en.set iD (some (.dict (seenKV kd (numStep ks k))))).set iF (some (.list (natD (found ++ [(numStep ks k).idxOf k])))))) m := by
    refine v_app iF (ds := natD found) (d := .int ((numStep ks k).idxOf k : Nat)) ?_ (hgt _ _ (seenKV kd (numStep ks k)) k _ ?_ ?_ ?_) ?_
    · unfold lstAt
      rw [List.getElem?_set_ne d1, h2]
    · unfold dicAt
      rw [hset]
    · rw [List.getElem?_set_ne d2, h3]
    · show dg as (seenFrom kd 0 (numStep ks k)) k = _
      rw [dg_seen has, if_pos numStep_mem, Nat.zero_add]
    · unfold appD
      rw [if_pos (by rw [natD_len]; show found.length < 16000000; omega), natD_snoc]
  have hdin := v_din (neg := true) (has := hs) (o := decide (k ∈ ks)) (v_var (m := m) iL h3) dd hhas
  by_cases q : k ∈ ks
  · have e : numStep ks k = ks := if_pos q
    have e2 : en.set iD (some (.dict (seenKV kd (numStep ks k)))) = en := by
      rw [e]
      obtain ⟨hl, he⟩ := List.getElem?_eq_some_iff.mp h1
      rw [← he, List.set_getElem_self]
    rw [e2] at tail ⊢
    rw [decide_eq_true q] at hdin
    exact v_sq (v_sIfF hdin rfl) tail
  · have e : numStep ks k = ks ++ [k] := if_neg q
    rw [decide_eq_false q] at hdin
    refine v_sq (v_sIfT hdin (v_dput iD (kvs := seenKV kd ks) (r := seenKV kd (numStep ks k)) (v_dlen dd) dd (v_var iL h3) ?_)) tail
    have hsl : (seenKV kd ks).length = ks.length := seenFrom_len _ _
    rw [hpt, if_pos (by rw [hsl]; show ks.length < 16000000; omega), has, e, hsl]
    show some (dp kd as (seenKV kd ks) k (.int (ks.length : Nat))) = _
    rw [dp_seen has q]
theorem dgK_ev {iD iL : Nat} : ∀ (en : SE) (m : MS) (kvs : List (D × D)) (k : Key) (d : D), dicAt iD en = some kvs → en[iL]? = some (some (keyD k)) → dg asK kvs k = some d → Ev (eDgK iD (eVar iL) en) m d m := fun en m kvs k d h1 h2 h3 =>
  v_dgK h1 (v_var iL h2) (by rw [asK_keyD]; exact h3)
theorem dgT_ev {iD iL : Nat} : ∀ (en : SE) (m : MS) (kvs : List (D × D)) (k : List Key) (d : D), dicAt iD en = some kvs → en[iL]? = some (some (keyT k)) → dg asT kvs k = some d → Ev (eDgT iD (eVar iL) en) m d m := fun en m kvs k d h1 h2 h3 =>
  v_dgT h1 (v_var iL h2) (by rw [asT_keyT]; exact h3)
end VL
/-! the value layer: data of ints, shallow -/
namespace VL
open PySem
open PySem.Spec
open L2
def plD : Nat → D → Bool
  | _, .int i => decide (i.natAbs < 1000000000000)
  | _, .bool _ => true
  | _, .none => true
  | n + 1, .list xs => xs.all (plD n)
  | n + 1, .tuple xs => xs.all (plD n)
  | _, _ => false
theorem all_of {p q : D → Prop} {A : List D → Prop} (h0 : A []) (h1 : ∀ x xs, q x → A xs → A (x :: xs)) : ∀ xs : List D, (∀ x ∈ xs, q x) → A xs
  | [], _ => h0
  | x :: xs, h => h1 x xs (h x List.mem_cons_self) (all_of (p := p) h0 h1 xs fun y hy => h y (List.mem_cons_of_mem _ hy))
theorem plD_can : ∀ (n : Nat) (d : D), plD n d = true → d.canLay0 = true := by
  intro n
  induction n with
  | zero =>
    intro d h
    cases d <;> first | (simp [PyData.canLay0]; done) | cases h
  | succ n ih =>
    intro d h
    have key : ∀ xs : List D, xs.all (plD n) = true → PyData.canLayAll0 xs = true := by
      intro xs
      induction xs with
      | nil => intro _; simp [PyData.canLayAll0]
      | cons x xs ih2 =>
        intro h
        obtain ⟨h1, h2⟩ := Bool.and_eq_true_iff.mp h
        simp [PyData.canLayAll0, ih _ h1, ih2 h2]
    cases d with
    | list xs => simp only [PyData.canLay0]; exact key xs h
    | tuple xs => simp only [PyData.canLay0]; exact key xs h
    | _ => first | (simp [PyData.canLay0]; done) | cases h
theorem plD_depth : ∀ (n : Nat) (d : D), plD n d = true → d.depth ≤ n + 1 := by
  intro n
  induction n with
  | zero =>
    intro d h
    cases d <;> first | (simp [PyData.depth]; done) | cases h
  | succ n ih =>
    intro d h
    have key : ∀ xs : List D, xs.all (plD n) = true → PyData.depthAll xs ≤ n + 1 := by
      intro xs
      induction xs with
      | nil => intro _; simp [PyData.depthAll]
      | cons x xs ih2 =>
        intro h
        obtain ⟨h1, h2⟩ := Bool.and_eq_true_iff.mp h
        have a1 := ih _ h1
        have a2 := ih2 h2
        simp only [PyData.depthAll]
        omega
    cases d with
    | list xs =>
      have := key xs h
      simp only [PyData.depth]
      omega
    | tuple xs =>
      have := key xs h
      simp only [PyData.depth]
      omega
    | _ => first | (simp [PyData.depth]; done) | cases h
theorem plD_shaped {n : Nat} {d : D} (hn : n < 60) (h : plD n d = true) : SeqAt.shaped d = true := by
  unfold SeqAt.shaped
  rw [plD_can n d h, Bool.true_and]
  have := plD_depth n d h
  exact decide_eq_true (by omega)
theorem log2_small {n : Nat} (h : n < 1000000000000) : n.log2 < 1920 := by
  by_cases q : n = 0
  · subst q
    decide
  · have : n.log2 < 64 := (Nat.log2_lt q).mpr (Nat.lt_trans h (by decide))
    omega
theorem plD_show : ∀ (n : Nat) (d : D), plD n d = true → d.showable = true := by
  intro n
  induction n with
  | zero =>
    intro d h
    cases d <;> first | (simp [PyData.showable]; done) | (simp only [PyData.showable]; exact decide_eq_true (log2_small (of_decide_eq_true h))) | cases h
  | succ n ih =>
    intro d h
    have key : ∀ xs : List D, xs.all (plD n) = true → PyData.showableAll xs = true := by
      intro xs
      induction xs with
      | nil => intro _; simp [PyData.showableAll]
      | cons x xs ih2 =>
        intro h
        obtain ⟨h1, h2⟩ := Bool.and_eq_true_iff.mp h
        simp [PyData.showableAll, ih _ h1, ih2 h2]
    cases d with
    | list xs => simp only [PyData.showable]; exact key xs h
    | tuple xs => simp only [PyData.showable]; exact key xs h
    | int i => simp only [PyData.showable]; exact decide_eq_true (log2_small (of_decide_eq_true h))
    | _ => first | (simp [PyData.showable]; done) | cases h
theorem plD_leaves : ∀ (n : Nat) (d : D), plD n d = true → d.leavesShort 13 = true := by
  have hint : ∀ i : Int, i.natAbs < 1000000000000 → (PyData.int i).leavesShort 13 = true := fun i h => by
    simp only [PyData.leavesShort]
    exact decide_eq_true (PyData.shown_int_le2 (by omega) (by omega))
  intro n
  induction n with
  | zero =>
    intro d h
    cases d with
    | int i => exact hint i (of_decide_eq_true h)
    | _ => first | (simp [PyData.leavesShort]; done) | cases h
  | succ n ih =>
    intro d h
    have key : ∀ xs : List D, xs.all (plD n) = true → PyData.leavesShortAll 13 xs = true := by
      intro xs
      induction xs with
      | nil => intro _; simp [PyData.leavesShortAll]
      | cons x xs ih2 =>
        intro h
        obtain ⟨h1, h2⟩ := Bool.and_eq_true_iff.mp h
        simp [PyData.leavesShortAll, ih _ h1, ih2 h2]
    cases d with
    | list xs => simp only [PyData.leavesShort]; exact key xs h
    | tuple xs => simp only [PyData.leavesShort]; exact key xs h
    | int i => exact hint i (of_decide_eq_true h)
    | _ => first | (simp [PyData.leavesShort]; done) | cases h
/-- repr of shallow data of no great bulk -/
theorem reprD_plain {n : Nat} {d : D} (hn : n < 60) (h : plD n d = true) (hb : d.bulk ≤ 1000000) : reprD d = some (.str d.shown) := by
  have hl := PyData.shown_le_bulk 13 (by decide) d (plD_leaves n d h)
  unfold reprD
  rw [plD_show n d h, plD_shaped hn h, decide_eq_true (show d.shown.length ≤ lineN by show _ ≤ 16000000; omega)]
  rfl
/-! the shown text is text -/
def okS (x : Str) : Prop := ∀ c ∈ x.cps.toList, c < 0x110000
theorem okS_of (s : String) : okS (Str.ofString s) := by
  intro c hc
  rw [Str.ofString_eq_toList] at hc
  obtain ⟨x, _, rfl⟩ := List.mem_map.mp (show c ∈ s.toList.map Char.toNat from hc)
  have h : UInt32.isValidChar x.val := x.valid
  have h : x.val.toNat < 0xd800 ∨ (0xdfff < x.val.toNat ∧ x.val.toNat < 0x110000) := h
  show x.val.toNat < _
  omega
theorem okS_app {x y : Str} (hx : okS x) (hy : okS y) : okS (x ++ y) := by
  intro c hc
  have hc : c ∈ (x.cps ++ y.cps).toList := hc
  rw [Array.toList_append] at hc
  rcases List.mem_append.mp hc with h | h
  · exact hx c h
  · exact hy c h
theorem okS_from : ∀ (ts : List Str) (k : Nat) (acc : Str), okS acc → (∀ t ∈ ts, okS t) → okS (textFrom k acc ts)
  | [], _, _, h, _ => h
  | t :: ts, k, acc, h, ht => okS_from ts (k + 1) _ (okS_app (okS_app h (okS_of _)) (ht t List.mem_cons_self)) fun u hu => ht u (List.mem_cons_of_mem _ hu)
theorem okS_list {ts : List Str} (h : ∀ t ∈ ts, okS t) : okS (listText ts) := okS_app (okS_from ts 0 _ (okS_of _) h) (okS_of _)
theorem okS_join : ∀ (ts : List Str), (∀ t ∈ ts, okS t) → okS (Str.join ", " ts)
  | [], _ => fun c hc => nomatch hc
  | [x], h => h x List.mem_cons_self
  | x :: y :: r, h => okS_app (okS_app (h x List.mem_cons_self) (okS_of _)) (okS_join (y :: r) fun u hu => h u (List.mem_cons_of_mem _ hu))
theorem okS_tup {ts : List Str} (h : ∀ t ∈ ts, okS t) : okS (tupleText ts) := okS_app (okS_app (okS_of _) (okS_join ts h)) (okS_of _)
theorem plD_ok : ∀ (n : Nat) (d : D), plD n d = true → okS d.shown := by
  intro n
  induction n with
  | zero =>
    intro d h
    cases d with
    | list xs => cases h
    | tuple xs => cases h
    | str x => cases h
    | dict x => cases h
    | bool b => cases b <;> (simp only [PyData.shown]; exact okS_of _)
    | _ => simp only [PyData.shown]; exact okS_of _
  | succ n ih =>
    intro d h
    have key : ∀ xs : List D, xs.all (plD n) = true → ∀ t ∈ PyData.shownAll xs, okS t := by
      intro xs
      induction xs with
      | nil => intro _ t ht; simp [PyData.shownAll] at ht
      | cons x xs ih2 =>
        intro h t ht
        obtain ⟨h1, h2⟩ := Bool.and_eq_true_iff.mp h
        simp only [PyData.shownAll] at ht
        rcases List.mem_cons.mp ht with rfl | ht
        · exact ih _ h1
        · exact ih2 h2 t ht
    cases d with
    | list xs => simp only [PyData.shown]; exact okS_list (key xs h)
    | tuple xs => simp only [PyData.shown]; exact okS_tup (key xs h)
    | str x => cases h
    | dict x => cases h
    | bool b => cases b <;> (simp only [PyData.shown]; exact okS_of _)
    | _ => simp only [PyData.shown]; exact okS_of _
theorem eqD_str {x : Str} (hx : okS x) : eqD (.str x) (.str x) = some (.bool true) := by
  have ho : PyData.strOk x = true := by
    unfold PyData.strOk
    rw [Array.all_eq_true_iff_forall_mem]
    exact fun c hc => decide_eq_true (hx c (Array.mem_toList_iff.mpr hc))
  have hs : SeqAt.shaped (.str x) = true := by
    unfold SeqAt.shaped
    simp [PyData.canLay0, PyData.depth, ho]
  unfold eqD
  rw [hs, SeqAt.eqv_refl _ (SeqAt.canLay_of_shaped hs)]
  rfl
theorem bulkAll_le {B : Nat} : ∀ xs : List D, (∀ x ∈ xs, x.bulk ≤ B) → PyData.bulkAll xs ≤ (B + 1) * xs.length
  | [], _ => by simp [PyData.bulkAll]
  | x :: xs, h => by
    have h1 := h x List.mem_cons_self
    have h2 := bulkAll_le xs fun y hy => h y (List.mem_cons_of_mem _ hy)
    simp only [PyData.bulkAll, List.length_cons, Nat.mul_add, Nat.mul_one]
    omega
end VL
/-! the value layer: a loop that may return -/
namespace VL
open PySem
open L2
theorem v_search {Gt : D → SE → M SE} {B : SE → M Ctl} {m : MS} {r : D} (I : Nat → SE → Prop) (bad : Nat → Bool) : ∀ (ds : List D) (i : Nat) (en : SE), I i en →
    (∀ j d en, ds[j]? = some d → I (i + j) en → ∃ e1, Ev (Gt d en) m e1 m ∧ ((bad (i + j) = false ∧ ∃ e2, Ev (B e1) m (.nx e2) m ∧ I (i + j + 1) e2) ∨ (bad (i + j) = true ∧ Ev (B e1) m (.rt r) m))) →
    ((∃ j, j < ds.length ∧ bad (i + j) = true) ∧ Ev (forL Gt B ds en) m (.rt r) m) ∨ ((∀ j, j < ds.length → bad (i + j) = false) ∧ ∃ e', Ev (forL Gt B ds en) m (.nx e') m ∧ I (i + ds.length) e')
  | [], i, en, h, _ => .inr ⟨fun j hj => absurd hj (Nat.not_lt_zero _), en, rfl, h⟩
  | d :: ds, i, en, h, step => by
    obtain ⟨e1, h1, h2⟩ := step 0 d en rfl h
    rcases h2 with ⟨hb, e2, h2, h3⟩ | ⟨hb, h2⟩
    · have ih := v_search I bad ds (i + 1) e2 h3 fun j d en hj hI => by
        have := step (j + 1) d en (by simpa using hj) (by rw [show i + (j + 1) = i + 1 + j by omega]; exact hI)
        rwa [show i + (j + 1) = i + 1 + j by omega] at this
      rcases ih with ⟨⟨j, q1, q2⟩, q3⟩ | ⟨q1, e', q2, q3⟩
      · exact .inl ⟨⟨j + 1, by rw [List.length_cons]; omega, by rw [show i + (j + 1) = i + 1 + j by omega]; exact q2⟩, ev_bd h1 (ev_bd h2 q3)⟩
      · refine .inr ⟨fun j hj => ?_, e', ev_bd h1 (ev_bd h2 q2), by rw [List.length_cons, show i + (ds.length + 1) = i + 1 + ds.length by omega]; exact q3⟩
        cases j with
        | zero => exact hb
        | succ j =>
          rw [show i + (j + 1) = i + 1 + j by omega]
          exact q1 j (by rw [List.length_cons] at hj; omega)
    · exact .inl ⟨⟨0, by rw [List.length_cons]; omega, hb⟩, ev_bd h1 (ev_bd h2 rfl)⟩
end VL
/-! the value layer: stepping by one word -/
namespace VL
open PySem
open PySem.Spec
open L2
theorem shapedI (i : Int) : SeqAt.shaped (.int i) = true := by
  unfold SeqAt.shaped
  simp [PyData.canLay0, PyData.depth]
theorem eqD_I (a b : Int) : eqD (.int a) (.int b) = some (.bool (decide (a = b))) := by
  unfold eqD
  rw [shapedI, shapedI]
  show some (PyData.bool (a == b)) = _
  by_cases h : a = b
  · rw [decide_eq_true h, show (a == b) = true from beq_iff_eq.mpr h]
  · rw [decide_eq_false h, show (a == b) = false from beq_eq_false_iff_ne.mpr h]
theorem neD_I (a b : Int) : neD (.int a) (.int b) = some (.bool (!decide (a = b))) := by
  unfold neD
  rw [shapedI, shapedI]
  show some (PyData.bool (!(a == b))) = _
  by_cases h : a = b
  · rw [decide_eq_true h, show (a == b) = true from beq_iff_eq.mpr h]
  · rw [decide_eq_false h, show (a == b) = false from beq_eq_false_iff_ne.mpr h]
section
variable {a b : Int}
theorem eqT (h : a = b) : eqD (.int a) (.int b) = some (.bool true) := by rw [eqD_I, decide_eq_true h]
theorem eqF (h : a ≠ b) : eqD (.int a) (.int b) = some (.bool false) := by rw [eqD_I, decide_eq_false h]
theorem neT (h : a ≠ b) : neD (.int a) (.int b) = some (.bool true) := by rw [neD_I, decide_eq_false h]; rfl
theorem neF (h : a = b) : neD (.int a) (.int b) = some (.bool false) := by rw [neD_I, decide_eq_true h]; rfl
theorem ltT (h : a < b) : ltD (.int a) (.int b) = some (.bool true) := by
  show some (PyData.bool (decide (a < b))) = _
  rw [decide_eq_true h]
theorem ltF (h : ¬ a < b) : ltD (.int a) (.int b) = some (.bool false) := by
  show some (PyData.bool (decide (a < b))) = _
  rw [decide_eq_false h]
theorem leT (h : a ≤ b) : leD (.int a) (.int b) = some (.bool true) := by
  show some (PyData.bool (decide (a ≤ b))) = _
  rw [decide_eq_true h]
theorem leF (h : ¬ a ≤ b) : leD (.int a) (.int b) = some (.bool false) := by
  show some (PyData.bool (decide (a ≤ b))) = _
  rw [decide_eq_false h]
theorem gtT (h : b < a) : gtD (.int a) (.int b) = some (.bool true) := by
  show some (PyData.bool (decide (b < a))) = _
  rw [decide_eq_true h]
theorem gtF (h : ¬ b < a) : gtD (.int a) (.int b) = some (.bool false) := by
  show some (PyData.bool (decide (b < a))) = _
  rw [decide_eq_false h]
theorem geT (h : b ≤ a) : geD (.int a) (.int b) = some (.bool true) := by
  show some (PyData.bool (decide (b ≤ a))) = _
  rw [decide_eq_true h]
theorem geF (h : ¬ b ≤ a) : geD (.int a) (.int b) = some (.bool false) := by
  show some (PyData.bool (decide (b ≤ a))) = _
  rw [decide_eq_false h]
end
theorem v_nx {en : SE} {m : MS} : Ev (sNx en) m (.nx en) m := rfl
theorem v_sct {en : SE} {m : MS} : Ev (sCt en) m (.ct en) m := rfl
theorem v_sbk {en : SE} {m : MS} : Ev (sBk en) m (.bk en) m := rfl
theorem v_nox {S : SE → M Ctl} {en : SE} {m m' : MS} {k : Ctl} (h : Ev (S en) m k m') : Ev (sNox S en) m k m' := ev_nox h
theorem rng1_n {n : Nat} (h : n ≤ 100000) : rng1 [.int (n : Nat)] = some (rngI 0 n) := by
  unfold rng1
  simp only [Int.toNat_natCast]
  rw [if_pos ⟨by omega, by omega⟩]
theorem lrng_n {n : Nat} (h : n ≤ 100000) : lrngD (.int (n : Nat)) = some (.list (rngI 0 n)) := by
  unfold lrngD
  simp only [Int.toNat_natCast]
  rw [if_pos ⟨by omega, by omega, by omega⟩]
theorem rngI_len {lo : Int} {n : Nat} : (rngI lo n).length = n := by
  unfold rngI
  rw [List.length_map, List.length_range]
theorem w_c {d d' : D} {en : SE} {m : MS} (h : d = d') : Ev (eC d en) m d' m := by subst h; rfl
theorem w_nx {en en' : SE} {m : MS} (h : en = en') : Ev (sNx en) m (.nx en') m := by subst h; rfl
theorem w_ct {en en' : SE} {m : MS} (h : en = en') : Ev (sCt en) m (.ct en') m := by subst h; rfl
theorem w_bk {en en' : SE} {m : MS} (h : en = en') : Ev (sBk en) m (.bk en') m := by subst h; rfl
section
variable {en e' : SE} {m m1 m2 : MS} {F G : SE → M D} {A : SE → M (List D)} {a b d : D} {ds : List D}
theorem w_notF {T : SE → M Bool} (h : Ev (T en) m true m1) : Ev (tNot1 T en) m false m1 := v_not h
theorem w_notT {T : SE → M Bool} (h : Ev (T en) m false m1) : Ev (tNot1 T en) m true m1 := v_not h
theorem w_drop (h : Ev (F en) m d m1) (he : en = e') : Ev (sDrop F en) m (.nx e') m1 := by subst he; exact v_drop h
theorem w_set (i : Nat) (h : Ev (F en) m d m1) (he : en.set i (some d) = e') : Ev (sSet i F en) m (.nx e') m1 := by subst he; exact v_set i h
theorem w_setO (i : Nat) (h : Ev (F en) m d m1) (he : en.set i (some d) = e') (hl : i < en.length) : Ev (sSetO i F en) m (.nx e') m1 := by subst he; exact v_setO i h hl
theorem w_par (i j : Nat) (h : Ev (A en) m [a, b] m1) (he : (en.set i (some a)).set j (some b) = e') : Ev (sPar i j A en) m (.nx e') m1 := by subst he; exact v_par i j h
theorem w_parO (i j : Nat) (h : Ev (F en) m a m1) (h' : Ev (G en) m1 b m2) (he : (en.set i (some a)).set j (some b) = e') (hl : i < en.length ∧ j < en.length) : Ev (sParO i j F G en) m (.nx e') m2 := by subst he; exact v_parO i j h h' hl
theorem w_app (i : Nat) {r : List D} {g : List D → D → Option (List D)} (hl : lstAt i en = some ds) (h : Ev (F en) m d m1) (k : g ds d = some r) (he : en.set i (some (.list r)) = e') : Ev (sMeth i g F en) m (.nx e') m1 := by subst he; exact v_app i hl h k
theorem w_setIx (i : Nat) {r : List D} (h : Ev (F en) m d m1) (hl : lstAt i en = some ds) (h' : Ev (G en) m1 a m2) (k : setIx ds a d = some r) (he : en.set i (some (.list r)) = e') : Ev (sSetIx i G F en) m (.nx e') m2 := by subst he; exact v_setIx i h hl h' k
theorem w_aug (i : Nat) {g : D → D → Option D} (h : en[i]? = some (some a)) (h' : Ev (F en) m b m1) (k : g a b = some d) (he : en.set i (some d) = e') : Ev (sAug i g F en) m (.nx e') m1 := by subst he; exact v_aug i h h' k
theorem w_gNm (i : Nat) (h : en.set i (some d) = e') : Ev (gNm i d en) m e' m := by subst h; rfl
theorem w_gTp2 (i j : Nat) (h : (en.set i (some a)).set j (some b) = e') : Ev (gTp 2 (gC (gNm i) (gC (gNm j) gN0)) (.tuple [a, b]) en) m e' m := by subst h; rfl
end
end VL

open PySem PySem.Spec L2 VL
local macro_rules | `(tactic| decreasing_trivial_pre_omega) => `(tactic| first
  | with_reducible assumption
  | ((with_reducible apply eqT); first | assumption | omega) | ((with_reducible apply eqF); first | assumption | omega)
  | ((with_reducible apply neT); first | assumption | omega) | ((with_reducible apply neF); first | assumption | omega)
  | ((with_reducible apply ltT); first | assumption | omega) | ((with_reducible apply ltF); first | assumption | omega)
  | ((with_reducible apply leT); first | assumption | omega) | ((with_reducible apply leF); first | assumption | omega)
  | ((with_reducible apply gtT); first | assumption | omega) | ((with_reducible apply gtF); first | assumption | omega)
  | ((with_reducible apply geT); first | assumption | omega) | ((with_reducible apply geF); first | assumption | omega)
  | rfl
  | assumption)
local macro_rules | `(tactic| and_intros) => `(tactic| first
  | with_reducible exact v_aN
  | ((with_reducible apply w_c); rfl)
  | with_reducible exact v_tYs _ _
  | ((with_reducible apply w_nx); rfl)
  | ((with_reducible apply w_ct); rfl)
  | ((with_reducible apply w_bk); rfl)
  | ((with_reducible apply w_gNm _); rfl)
  | ((with_reducible apply v_var _); first | rfl | assumption)
  | ((with_reducible apply v_aC) <;> and_intros)
  | ((with_reducible apply v_e1) <;> and_intros)
  | ((with_reducible apply v_e2) <;> and_intros)
  | ((with_reducible apply v_eL) <;> and_intros)
  | ((with_reducible apply v_tV) <;> and_intros)
  | ((with_reducible apply v_eB) <;> and_intros)
  | ((with_reducible apply w_notF); focus (and_intros; done))
  | ((with_reducible apply w_notT); focus (and_intros; done))
  | ((with_reducible apply v_not) <;> and_intros)
  | ((with_reducible apply v_call) <;> and_intros)
  | ((with_reducible apply v_callM) <;> and_intros)
  | ((with_reducible apply v_ifT); (focus (and_intros; done)); and_intros)
  | ((with_reducible apply v_ifF); (focus (and_intros; done)); and_intros)
  | ((with_reducible apply v_andF); focus (and_intros; done))
  | ((with_reducible apply v_andT); (focus (and_intros; done)); and_intros)
  | ((with_reducible apply v_orT); focus (and_intros; done))
  | ((with_reducible apply v_orF); (focus (and_intros; done)); and_intros)
  | ((with_reducible apply v_c3F) <;> (focus (and_intros; done)))
  | ((with_reducible apply v_c3T) <;> and_intros)
  | ((with_reducible apply v_iA) <;> and_intros)
  | ((with_reducible apply v_iL) <;> and_intros)
  | ((with_reducible apply v_lc) <;> and_intros)
  | ((with_reducible apply v_sq); (focus (and_intros; done)); and_intros)
  | ((with_reducible apply v_sqR); focus (and_intros; done))
  | ((with_reducible apply v_sq) <;> and_intros)
  | ((with_reducible apply w_set _) <;> and_intros)
  | ((with_reducible apply w_setO _) <;> and_intros)
  | ((with_reducible apply v_ret) <;> and_intros)
  | ((with_reducible apply w_drop) <;> and_intros)
  | ((with_reducible apply w_par _ _) <;> and_intros)
  | ((with_reducible apply w_parO _ _) <;> and_intros)
  | ((with_reducible apply v_asg) <;> and_intros)
  | ((with_reducible apply w_aug _) <;> and_intros)
  | ((with_reducible apply v_for) <;> and_intros)
  | ((with_reducible apply v_sIfT); (focus (and_intros; done)); and_intros)
  | ((with_reducible apply v_sIfF); (focus (and_intros; done)); and_intros)
  | ((with_reducible apply w_app _) <;> and_intros)
  | ((with_reducible apply v_nox) <;> and_intros)
  | ((with_reducible apply v_runR) <;> and_intros)
  | exact Nat.le_of_ble_eq_true rfl
  | exact ⟨Nat.le_of_ble_eq_true rfl, Nat.le_of_ble_eq_true rfl⟩
  | (show (_ : Option _) = _; decreasing_trivial_pre_omega)
  | (show (_ : List _) = _; rfl)
  | ((with_reducible apply w_gTp2 _ _); rfl)
  | ((with_reducible apply w_setIx _) <;> and_intros)
  | (show Ev _ _ _ _; with_reducible assumption)
  | (show _ ≤ lineN; assumption)
  | (show Ev (lcL _ _) _ _ _; assumption)
  | (show Ev (forL _ _ _ _) _ _ _; assumption)
  | skip)
namespace K01
open PySem L2 VL
def top (i : Nat) : Stmt := PySem.Challenge.pw_fittingdoors_k01_whole_partings_beside_o.main.body.getD i (.Pass ⟨0, 0, 0, 0⟩)

abbrev fn__law_draw : List D → M D := fnDraw
theorem nonx_ret {F : SE → M D} : ∀ en e m1 m2, sRet F en m1 ≠ .ok (.nx e) m2 := fun en e m1 m2 h => by
  unfold sRet at h
  change M.bd (F en) (fun d => (pure (Ctl.rt d) : M Ctl)) m1 = Out.ok (Ctl.nx e) m2 at h
  unfold M.bd at h
  cases q : F en m1 with
  | ok d m3 => rw [q] at h; cases h
  | exc x y => rw [q] at h; cases h
  | bad => rw [q] at h; cases h
theorem nonx_sq {S S' : SE → M Ctl} (h' : ∀ en e m1 m2, S' en m1 ≠ .ok (.nx e) m2) : ∀ en e m1 m2, sq S S' en m1 ≠ .ok (.nx e) m2 := fun en e m1 m2 h => by
  unfold sq at h
  change M.bd (S en) _ m1 = Out.ok (Ctl.nx e) m2 at h
  unfold M.bd at h
  cases q : S en m1 with
  | exc x y => rw [q] at h; cases h
  | bad => rw [q] at h; cases h
  | ok k m3 =>
    rw [q] at h
    cases k with
    | nx e' => exact h' e' e m3 m2 h
    | rt d => cases h
    | bk e' => cases h
    | ct e' => cases h
structure Tx (mg : Str → Option Value) : Prop where
  b_all : mg "all" = none
  b_bool : mg "bool" = none
  b_enumerate : mg "enumerate" = none
  b_int : mg "int" = none
  b_isinstance : mg "isinstance" = none
  b_len : mg "len" = none
  b_list : mg "list" = none
  b_max : mg "max" = none
  b_range : mg "range" = none
  b_repr : mg "repr" = none
  b_tuple : mg "tuple" = none
  b_zip : mg "zip" = none
  g_MOST_DOORS : ∃ t, mg "MOST_DOORS" = some (.int 60 t)
  g_MOST_LISTED : ∃ t, mg "MOST_LISTED" = some (.int 8 t)
abbrev s_is_whole : Stmt := top 7
def N_is_whole : List Str := ["value"]
theorem nd_is_whole : N_is_whole.Nodup := by decide +kernel
theorem sc_is_whole : FnScope N_is_whole ["value"] (defScope s_is_whole) := ⟨rfl, rfl, rfl, nd_is_whole, rfl, by decide +kernel, by decide +kernel⟩
def dk_is_whole : Nat → Kd
  | _ => .dat
def S_is_whole : SE → M Ctl := (sRet (eAnd (e1 (isT "int") (eVar 0)) (e1 notD (e1 (isT "bool") (eVar 0)))))
def fn_is_whole : List D → M D := fun ds => runB S_is_whole (env0 1 ds)
theorem b_is_whole {P : Program} {w : World} {K : PySem.W.Frag} {mg : Str → Option Value} {base : Heap} {f : Addr}  (T : Tx mg)  (cdv : Value) (A : Around) (outer : List Env) (s : Shared) (H : Hp) (E : XK)
    (hgd : (A.deeper (PyProof.Rows.envOfC "is_whole" (defScope s_is_whole) s.heap.objs.size f cdv)).guards = some []) (hr : Room 0 (A.deeper (PyProof.Rows.envOfC "is_whole" (defScope s_is_whole) s.heap.objs.size f cdv))) :
    FSs (cxOf CX0 P w K mg base N_is_whole "is_whole" (defScope s_is_whole) f cdv A outer s H E).nox ⟨none, [], dk_is_whole, .dat, E0⟩ [] [] (defBody s_is_whole) S_is_whole [] := by
  have nd := nd_is_whole
  have hc : (cxOf CX0 P w K mg base N_is_whole "is_whole" (defScope s_is_whole) f cdv A outer s H E).nox.calm = true := rfl
  have hu : HU (cxOf CX0 P w K mg base N_is_whole "is_whole" (defScope s_is_whole) f cdv A outer s H E).nox := .of hr
  have hu1 := hu_1 hu
  have hu64 := hu_64 hu
  have hu65 := hu_65 hu
  exact (fss_one (fs_ret (fe_and (fe_isi (T := "int") T.b_isinstance T.b_int (fr_var .dat 0)) (fe_one (fe_not (fe_isi (T := "bool") T.b_isinstance T.b_bool (fr_var .dat 0)))))))
theorem ok_is_whole {P : Program} {w : World} {K : PySem.W.Frag} {mg : Str → Option Value} {base : Heap} {f : Addr} {fd : FuncData}  (T : Tx mg) (F : Fun K "is_whole" "is_whole" s_is_whole f fd)  :
    FnV P w K mg base CX0 1 f fd ["value"] (spP K [.dat] .dat fn_is_whole) :=
  fn_P F sc_is_whole rfl (fun i kk h => match i, h with | 0, h => by cases h; rfl | n + 1, h => by cases h) (fun cdv A outer s H E hgd hr => b_is_whole T  cdv A outer s H E hgd hr) (.inl rfl)
abbrev s_is_within : Stmt := top 8
def N_is_within : List Str := ["value", "low", "high"]
theorem nd_is_within : N_is_within.Nodup := by decide +kernel
theorem sc_is_within : FnScope N_is_within ["value", "low", "high"] (defScope s_is_within) := ⟨rfl, rfl, rfl, nd_is_within, rfl, by decide +kernel, by decide +kernel⟩
def dk_is_within : Nat → Kd
  | _ => .dat
def S_is_within : SE → M Ctl := (sRet (eAnd (eCall fn_is_whole (aC (eVar 0) aN)) (eB (e3c leD leD (eVar 1) (eVar 0) (eVar 2)))))
def fn_is_within : List D → M D := fun ds => runB S_is_within (env0 3 ds)
theorem b_is_within {P : Program} {w : World} {K : PySem.W.Frag} {mg : Str → Option Value} {base : Heap} {f : Addr} {f_is_whole : Addr} {d_is_whole : FuncData} {p_is_whole : List Str} (T : Tx mg) (C_is_whole : Fc P w K mg base "is_whole" 1 f_is_whole d_is_whole p_is_whole [.dat] .dat fn_is_whole) (cdv : Value) (A : Around) (outer : List Env) (s : Shared) (H : Hp) (E : XK)
    (hgd : (A.deeper (PyProof.Rows.envOfC "is_within" (defScope s_is_within) s.heap.objs.size f cdv)).guards = some []) (hr : Room 1 (A.deeper (PyProof.Rows.envOfC "is_within" (defScope s_is_within) s.heap.objs.size f cdv))) :
    FSs (cxOf CX0 P w K mg base N_is_within "is_within" (defScope s_is_within) f cdv A outer s H E).nox ⟨none, [], dk_is_within, .dat, E0⟩ [] [] (defBody s_is_within) S_is_within [] := by
  have nd := nd_is_within
  have hc : (cxOf CX0 P w K mg base N_is_within "is_within" (defScope s_is_within) f cdv A outer s H E).nox.calm = true := rfl
  have hu : HU (cxOf CX0 P w K mg base N_is_within "is_within" (defScope s_is_within) f cdv A outer s H E).nox := .of hr
  have hu1 := hu_1 hu
  have hu64 := hu_64 hu
  have hu65 := hu_65 hu
  exact (fss_one (fs_ret (fe_and (fr_f C_is_whole hgd (hr.mono (by decide)) (fa_cons (fr_var .dat 0) fa_nil)) (fe_one (fe_chain ov_le ov_le (fb (fr_var .dat 1)) (fb (fr_var .dat 0)) (fb (fr_var .dat 2)))))))
theorem ok_is_within {P : Program} {w : World} {K : PySem.W.Frag} {mg : Str → Option Value} {base : Heap} {f : Addr} {fd : FuncData} {f_is_whole : Addr} {d_is_whole : FuncData} {p_is_whole : List Str} (T : Tx mg) (F : Fun K "is_within" "is_within" s_is_within f fd) (C_is_whole : Fc P w K mg base "is_whole" 1 f_is_whole d_is_whole p_is_whole [.dat] .dat fn_is_whole) :
    FnV P w K mg base CX0 2 f fd ["value", "low", "high"] (spP K [.dat, .dat, .dat] .dat fn_is_within) :=
  fn_P F sc_is_within rfl (fun i kk h => match i, h with | 0, h => by cases h; rfl | 1, h => by cases h; rfl | 2, h => by cases h; rfl | n + 3, h => by cases h) (fun cdv A outer s H E hgd hr => b_is_within T C_is_whole cdv A outer s H E hgd hr) (.inl rfl)
abbrev s_need_number : Stmt := top 9
def N_need_number : List Str := ["value", "low", "high"]
theorem nd_need_number : N_need_number.Nodup := by decide +kernel
theorem sc_need_number : FnScope N_need_number ["value", "low", "high"] (defScope s_need_number) := ⟨rfl, rfl, rfl, nd_need_number, rfl, by decide +kernel, by decide +kernel⟩
def dk_need_number : Nat → Kd
  | _ => .dat
def S_need_number : SE → M Ctl := (sq (sIf (tNot1 (tV asB (eCall fn_is_within (aC (eVar 0) (aC (eVar 1) (aC (eVar 2) aN)))))) sNo sNx) (sRet (eVar 0)))
def fn_need_number : List D → M D := fun ds => runB S_need_number (env0 3 ds)
theorem b_need_number {P : Program} {w : World} {K : PySem.W.Frag} {mg : Str → Option Value} {base : Heap} {f : Addr} {f_is_within : Addr} {d_is_within : FuncData} {p_is_within : List Str} (T : Tx mg) (C_is_within : Fc P w K mg base "is_within" 2 f_is_within d_is_within p_is_within [.dat, .dat, .dat] .dat fn_is_within) (cdv : Value) (A : Around) (outer : List Env) (s : Shared) (H : Hp) (E : XK)
    (hgd : (A.deeper (PyProof.Rows.envOfC "need_number" (defScope s_need_number) s.heap.objs.size f cdv)).guards = some []) (hr : Room 2 (A.deeper (PyProof.Rows.envOfC "need_number" (defScope s_need_number) s.heap.objs.size f cdv))) :
    FSs (cxOf CX0 P w K mg base N_need_number "need_number" (defScope s_need_number) f cdv A outer s H E).nox ⟨none, [], dk_need_number, .dat, E0⟩ [] [] (defBody s_need_number) S_need_number [] := by
  have nd := nd_need_number
  have hc : (cxOf CX0 P w K mg base N_need_number "need_number" (defScope s_need_number) f cdv A outer s H E).nox.calm = true := rfl
  have hu : HU (cxOf CX0 P w K mg base N_need_number "need_number" (defScope s_need_number) f cdv A outer s H E).nox := .of hr
  have hu1 := hu_1 hu
  have hu64 := hu_64 hu
  have hu65 := hu_65 hu
  exact (fss_cons (fs_if (Un := []) (ft_not (ft_val (fr_f C_is_within hgd (hr.mono (by decide)) (fa_cons (fr_var .dat 0) (fa_cons (fr_var .dat 1) (fa_cons (fr_var .dat 2) fa_nil)))))) (fss_one fs_no) fss_nil) (fss_one (fs_ret (fr_var .dat 0))))
theorem ok_need_number {P : Program} {w : World} {K : PySem.W.Frag} {mg : Str → Option Value} {base : Heap} {f : Addr} {fd : FuncData} {f_is_within : Addr} {d_is_within : FuncData} {p_is_within : List Str} (T : Tx mg) (F : Fun K "need_number" "need_number" s_need_number f fd) (C_is_within : Fc P w K mg base "is_within" 2 f_is_within d_is_within p_is_within [.dat, .dat, .dat] .dat fn_is_within) :
    FnV P w K mg base CX0 3 f fd ["value", "low", "high"] (spP K [.dat, .dat, .dat] .dat fn_need_number) :=
  fn_P F sc_need_number rfl (fun i kk h => match i, h with | 0, h => by cases h; rfl | 1, h => by cases h; rfl | 2, h => by cases h; rfl | n + 3, h => by cases h) (fun cdv A outer s H E hgd hr => b_need_number T C_is_within cdv A outer s H E hgd hr) (.inl rfl)
abbrev s_need_parting : Stmt := top 14
def N_need_parting : List Str := ["parting", "many", "place", "block"]
theorem nd_need_parting : N_need_parting.Nodup := by decide +kernel
theorem sc_need_parting : FnScope N_need_parting ["parting"] (defScope s_need_parting) := ⟨rfl, rfl, rfl, nd_need_parting, rfl, by decide +kernel, by decide +kernel⟩
def dk_need_parting : Nat → Kd
  | _ => .dat
def S_need_parting : SE → M Ctl := (sq (sIf (tOr2 (tNot1 (tV truD (e1 (isT "tuple") (eVar 0)))) (tNot1 (e3c leD leD (eC (.int 1)) (eL (one1 lenD) (aC (eVar 0) aN)) (eC (.int 60))))) sNo sNx) (sq (sSet 1 (eC (.int 0))) (sq (sFor (iA (enB false) (aC (eVar 0) aN)) (gTp 2 (gC (gNm 2) (gC (gNm 3) gN0))) (sq (sIf (tNot1 (tV asB (eCall fn_is_within (aC (eVar 3) (aC (eC (.int 0)) (aC (eVar 1) aN)))))) sNo sNx) (sSet 1 (eL (two2 max2D) (aC (eVar 1) (aC (e2 addD (eVar 3) (eC (.int 1))) aN)))))) (sRet (eVar 0)))))
def fn_need_parting : List D → M D := fun ds => runB S_need_parting (env0 4 ds)
theorem b_need_parting {P : Program} {w : World} {K : PySem.W.Frag} {mg : Str → Option Value} {base : Heap} {f : Addr} {f_is_within : Addr} {d_is_within : FuncData} {p_is_within : List Str} (T : Tx mg) (C_is_within : Fc P w K mg base "is_within" 2 f_is_within d_is_within p_is_within [.dat, .dat, .dat] .dat fn_is_within) (cdv : Value) (A : Around) (outer : List Env) (s : Shared) (H : Hp) (E : XK)
    (hgd : (A.deeper (PyProof.Rows.envOfC "need_parting" (defScope s_need_parting) s.heap.objs.size f cdv)).guards = some []) (hr : Room 2 (A.deeper (PyProof.Rows.envOfC "need_parting" (defScope s_need_parting) s.heap.objs.size f cdv))) :
    FSs (cxOf CX0 P w K mg base N_need_parting "need_parting" (defScope s_need_parting) f cdv A outer s H E).nox ⟨none, [], dk_need_parting, .dat, E0⟩ [] [] (defBody s_need_parting) S_need_parting [] := by
  have nd := nd_need_parting
  have hc : (cxOf CX0 P w K mg base N_need_parting "need_parting" (defScope s_need_parting) f cdv A outer s H E).nox.calm = true := rfl
  have hu : HU (cxOf CX0 P w K mg base N_need_parting "need_parting" (defScope s_need_parting) f cdv A outer s H E).nox := .of hr
  have hu1 := hu_1 hu
  have hu64 := hu_64 hu
  have hu65 := hu_65 hu
  exact (fss_cons (fs_if (Un := []) (ft_w (fw_or (ft_not (ft_truth (fb (fe_isi (T := "tuple") T.b_isinstance T.b_tuple (fr_var .dat 0))))) (fw_or1 (ft_not (ft_chain ov_le ov_le (fb fe_int) (fb (fe_callB cv_len T.b_len (fab_cons (fb (fr_var .dat 0)) fab_nil))) (fb (fe_gI T.g_MOST_DOORS))))))) (fss_one fs_no) fss_nil) (fss_cons (fs_set 1 fe_int nd) (fss_cons (fs_for PassesOwn.never hc (fi_enum false T.b_enumerate (fa_cons (fr_var .dat 0) fa_nil)) (fg_tup (n := 2) hc (fg_cons (fg_nm 2 nd) (fg_cons (fg_nm 3 nd) fg_nil))) (fss_cons (fs_if (Un := []) (ft_not (ft_val (fr_f C_is_within hgd (hr.mono (by decide)) (fa_cons (fr_var .dat 3) (fa_cons fe_int (fa_cons (fr_var .dat 1) fa_nil)))))) (fss_one fs_no) fss_nil) (fss_one (fs_set 1 (fe_callB cv_max2 T.b_max (fab_cons (fb (fr_var .dat 1)) (fab_cons (fb (fe_binS ov_add (fr_var .dat 3) fe_int)) fab_nil))) nd)))) (fss_one (fs_ret (fr_var .dat 0))))))
theorem ok_need_parting {P : Program} {w : World} {K : PySem.W.Frag} {mg : Str → Option Value} {base : Heap} {f : Addr} {fd : FuncData} {f_is_within : Addr} {d_is_within : FuncData} {p_is_within : List Str} (T : Tx mg) (F : Fun K "need_parting" "need_parting" s_need_parting f fd) (C_is_within : Fc P w K mg base "is_within" 2 f_is_within d_is_within p_is_within [.dat, .dat, .dat] .dat fn_is_within) :
    FnV P w K mg base CX0 3 f fd ["parting"] (spP K [.dat] .dat fn_need_parting) :=
  fn_P F sc_need_parting rfl (fun i kk h => match i, h with | 0, h => by cases h; rfl | n + 1, h => by cases h) (fun cdv A outer s H E hgd hr => b_need_parting T C_is_within cdv A outer s H E hgd hr) (.inl rfl)
abbrev s_is_parting : Stmt := top 15
def N_is_parting : List Str := ["value"]
theorem nd_is_parting : N_is_parting.Nodup := by decide +kernel
theorem sc_is_parting : FnScope N_is_parting ["value"] (defScope s_is_parting) := ⟨rfl, rfl, rfl, nd_is_parting, rfl, by decide +kernel, by decide +kernel⟩
def dk_is_parting : Nat → Kd
  | _ => .dat
def S_is_parting : SE → M Ctl := (sq (sNox (sDrop (eCall fn_need_parting (aC (eVar 0) aN)))) (sRet (eC (.bool true))))
def fn_is_parting : List D → M D := fun ds => runB S_is_parting (env0 1 ds)
theorem b_is_parting {P : Program} {w : World} {K : PySem.W.Frag} {mg : Str → Option Value} {base : Heap} {f : Addr} {f_need_parting : Addr} {d_need_parting : FuncData} {p_need_parting : List Str} (T : Tx mg) (C_need_parting : Fc P w K mg base "need_parting" 3 f_need_parting d_need_parting p_need_parting [.dat] .dat fn_need_parting) (cdv : Value) (A : Around) (outer : List Env) (s : Shared) (H : Hp) (E : XK)
    (hgd : (A.deeper (PyProof.Rows.envOfC "is_parting" (defScope s_is_parting) s.heap.objs.size f cdv)).guards = some []) (hr : Room 3 (A.deeper (PyProof.Rows.envOfC "is_parting" (defScope s_is_parting) s.heap.objs.size f cdv))) :
    FSs (cxOf CX0 P w K mg base N_is_parting "is_parting" (defScope s_is_parting) f cdv A outer s H E).nox ⟨none, [], dk_is_parting, .dat, E0⟩ [] [] (defBody s_is_parting) S_is_parting [] := by
  have nd := nd_is_parting
  have hc : (cxOf CX0 P w K mg base N_is_parting "is_parting" (defScope s_is_parting) f cdv A outer s H E).nox.calm = true := rfl
  have hu : HU (cxOf CX0 P w K mg base N_is_parting "is_parting" (defScope s_is_parting) f cdv A outer s H E).nox := .of hr
  have hu1 := hu_1 hu
  have hu64 := hu_64 hu
  have hu65 := hu_65 hu
  exact (fss_cons (fs_try (fss_one (fs_expr (fb (fr_f C_need_parting hgd (hr.mono (by decide)) (fa_cons (fr_var .dat 0) fa_nil)))))) (fss_one (fs_ret fe_bl)))
theorem ok_is_parting {P : Program} {w : World} {K : PySem.W.Frag} {mg : Str → Option Value} {base : Heap} {f : Addr} {fd : FuncData} {f_need_parting : Addr} {d_need_parting : FuncData} {p_need_parting : List Str} (T : Tx mg) (F : Fun K "is_parting" "is_parting" s_is_parting f fd) (C_need_parting : Fc P w K mg base "need_parting" 3 f_need_parting d_need_parting p_need_parting [.dat] .dat fn_need_parting) :
    FnV P w K mg base CX0 4 f fd ["value"] (spP K [.dat] .dat fn_is_parting) :=
  fn_P F sc_is_parting rfl (fun i kk h => match i, h with | 0, h => by cases h; rfl | n + 1, h => by cases h) (fun cdv A outer s H E hgd hr => b_is_parting T C_need_parting cdv A outer s H E hgd hr) (.inl rfl)
abbrev s_need_fit : Stmt := top 16
def N_need_fit : List Str := ["parting", "other"]
theorem nd_need_fit : N_need_fit.Nodup := by decide +kernel
theorem sc_need_fit : FnScope N_need_fit ["parting", "other"] (defScope s_need_fit) := ⟨rfl, rfl, rfl, nd_need_fit, rfl, by decide +kernel, by decide +kernel⟩
def dk_need_fit : Nat → Kd
  | _ => .dat
def S_need_fit : SE → M Ctl := (sq (sDrop (eCall fn_need_parting (aC (eVar 1) aN))) (sq (sIf (tV asB (e2 neD (eL (one1 lenD) (aC (eVar 1) aN)) (eL (one1 lenD) (aC (eVar 0) aN)))) sNo sNx) (sRet (eVar 1))))
def fn_need_fit : List D → M D := fun ds => runB S_need_fit (env0 2 ds)
theorem b_need_fit {P : Program} {w : World} {K : PySem.W.Frag} {mg : Str → Option Value} {base : Heap} {f : Addr} {f_need_parting : Addr} {d_need_parting : FuncData} {p_need_parting : List Str} (T : Tx mg) (C_need_parting : Fc P w K mg base "need_parting" 3 f_need_parting d_need_parting p_need_parting [.dat] .dat fn_need_parting) (cdv : Value) (A : Around) (outer : List Env) (s : Shared) (H : Hp) (E : XK)
    (hgd : (A.deeper (PyProof.Rows.envOfC "need_fit" (defScope s_need_fit) s.heap.objs.size f cdv)).guards = some []) (hr : Room 3 (A.deeper (PyProof.Rows.envOfC "need_fit" (defScope s_need_fit) s.heap.objs.size f cdv))) :
    FSs (cxOf CX0 P w K mg base N_need_fit "need_fit" (defScope s_need_fit) f cdv A outer s H E).nox ⟨none, [], dk_need_fit, .dat, E0⟩ [] [] (defBody s_need_fit) S_need_fit [] := by
  have nd := nd_need_fit
  have hc : (cxOf CX0 P w K mg base N_need_fit "need_fit" (defScope s_need_fit) f cdv A outer s H E).nox.calm = true := rfl
  have hu : HU (cxOf CX0 P w K mg base N_need_fit "need_fit" (defScope s_need_fit) f cdv A outer s H E).nox := .of hr
  have hu1 := hu_1 hu
  have hu64 := hu_64 hu
  have hu65 := hu_65 hu
  exact (fss_cons (fs_expr (fb (fr_f C_need_parting hgd (hr.mono (by decide)) (fa_cons (fr_var .dat 1) fa_nil)))) (fss_cons (fs_if (Un := []) (ft_cmp (ov_ne hu64) (fb (fe_callB cv_len T.b_len (fab_cons (fb (fr_var .dat 1)) fab_nil))) (fb (fe_callB cv_len T.b_len (fab_cons (fb (fr_var .dat 0)) fab_nil)))) (fss_one fs_no) fss_nil) (fss_one (fs_ret (fr_var .dat 1)))))
theorem ok_need_fit {P : Program} {w : World} {K : PySem.W.Frag} {mg : Str → Option Value} {base : Heap} {f : Addr} {fd : FuncData} {f_need_parting : Addr} {d_need_parting : FuncData} {p_need_parting : List Str} (T : Tx mg) (F : Fun K "need_fit" "need_fit" s_need_fit f fd) (C_need_parting : Fc P w K mg base "need_parting" 3 f_need_parting d_need_parting p_need_parting [.dat] .dat fn_need_parting) :
    FnV P w K mg base CX0 4 f fd ["parting", "other"] (spP K [.dat, .dat] .dat fn_need_fit) :=
  fn_P F sc_need_fit rfl (fun i kk h => match i, h with | 0, h => by cases h; rfl | 1, h => by cases h; rfl | n + 2, h => by cases h) (fun cdv A outer s H E hgd hr => b_need_fit T C_need_parting cdv A outer s H E hgd hr) (.inl rfl)
abbrev s_renumbered : Stmt := top 17
def N_renumbered : List Str := ["labels", "numbers", "found", "label"]
theorem nd_renumbered : N_renumbered.Nodup := by decide +kernel
theorem sc_renumbered : FnScope N_renumbered ["labels"] (defScope s_renumbered) := ⟨rfl, rfl, rfl, nd_renumbered, rfl, by decide +kernel, by decide +kernel⟩
def dk_renumbered : Nat → Kd
  | 1 => .dic
  | _ => .dat
def S_renumbered : SE → M Ctl := (sq (sSetO 1 (eC (.dict []))) (sq (sSetO 2 (eL mkL aN)) (sq (sFor (iL seqL (eVar 0)) (gNm 3) (sq (sIf (eDin true hasK 1 (eVar 3)) (sDput putKq 1 (eVar 3) (eDlen 1)) sNx) (sMeth 2 appD (eDgK 1 (eVar 3))))) (sRet (eL (one1 tupD) (aC (eVar 2) aN))))))
def fn_renumbered : List D → M D := fun ds => runB S_renumbered (env0 4 ds)
theorem b_renumbered {P : Program} {w : World} {K : PySem.W.Frag} {mg : Str → Option Value} {base : Heap} {f : Addr}  (T : Tx mg)  (cdv : Value) (A : Around) (outer : List Env) (s : Shared) (H : Hp) (E : XK)
    (hgd : (A.deeper (PyProof.Rows.envOfC "renumbered" (defScope s_renumbered) s.heap.objs.size f cdv)).guards = some []) (hr : Room 0 (A.deeper (PyProof.Rows.envOfC "renumbered" (defScope s_renumbered) s.heap.objs.size f cdv))) :
    FSs (cxOf CX0 P w K mg base N_renumbered "renumbered" (defScope s_renumbered) f cdv A outer s H E).nox ⟨none, [], dk_renumbered, .dat, E0⟩ [] [] (defBody s_renumbered) S_renumbered [1, 2] := by
  have nd := nd_renumbered
  have hc : (cxOf CX0 P w K mg base N_renumbered "renumbered" (defScope s_renumbered) f cdv A outer s H E).nox.calm = true := rfl
  have hu : HU (cxOf CX0 P w K mg base N_renumbered "renumbered" (defScope s_renumbered) f cdv A outer s H E).nox := .of hr
  have hu1 := hu_1 hu
  have hu64 := hu_64 hu
  have hu65 := hu_65 hu
  exact (fss_cons (fs_setO 1 fo_dicK nd) (fss_cons (fs_wk (Un := [1, 2]) (fs_setO 2 (fo_lst (n := 0) fa_nil) nd)) (fss_cons (fs_for PassesOwn.never hc (fi_l (fr_var .dat 0)) (fg_nm 3 nd) (fss_cons (fs_if (Un := [1, 2]) (ft_dninK 1 hu1 (fr_var .dat 3)) (fss_one (fs_dputK 1 hu1 (fr_var .dat 3) (fe_lenK 1 T.b_len))) fss_nil) (fss_one (fs_append 2 (fe_dgK 1 hu1 (fr_var .dat 3)))))) (fss_one (fs_ret (fe_callTy cv_tuple T.b_tuple (fab_cons (fb_own 2) fab_nil)))))))
theorem ok_renumbered {P : Program} {w : World} {K : PySem.W.Frag} {mg : Str → Option Value} {base : Heap} {f : Addr} {fd : FuncData}  (T : Tx mg) (F : Fun K "renumbered" "renumbered" s_renumbered f fd)  :
    FnV P w K mg base CX0 1 f fd ["labels"] (spP K [.dat] .dat fn_renumbered) :=
  fn_P F sc_renumbered rfl (fun i kk h => match i, h with | 0, h => by cases h; rfl | n + 1, h => by cases h) (fun cdv A outer s H E hgd hr => b_renumbered T  cdv A outer s H E hgd hr) (.inl rfl)
def dk_renumberedT : Nat → Kd
  | 0 => .pl
  | 1 => .dit
  | 3 => .pl
  | _ => .dat
def S_renumberedT : SE → M Ctl := (sq (sSetO 1 (eC (.dict []))) (sq (sSetO 2 (eL mkL aN)) (sq (sFor (iL seqL (eVar 0)) (gNm 3) (sq (sIf (eDin true hasT 1 (eVar 3)) (sDput putTq 1 (eVar 3) (eDlen 1)) sNx) (sMeth 2 appD (eDgT 1 (eVar 3))))) (sRet (eL (one1 tupD) (aC (eVar 2) aN))))))
def fn_renumberedT : List D → M D := fun ds => runB S_renumberedT (env0 4 ds)
theorem b_renumberedT {P : Program} {w : World} {K : PySem.W.Frag} {mg : Str → Option Value} {base : Heap} {f : Addr}  (T : Tx mg)  (cdv : Value) (A : Around) (outer : List Env) (s : Shared) (H : Hp) (E : XK)
    (hgd : (A.deeper (PyProof.Rows.envOfC "renumbered" (defScope s_renumbered) s.heap.objs.size f cdv)).guards = some []) (hr : Room 0 (A.deeper (PyProof.Rows.envOfC "renumbered" (defScope s_renumbered) s.heap.objs.size f cdv))) :
    FSs (cxOf CX0 P w K mg base N_renumbered "renumbered" (defScope s_renumbered) f cdv A outer s H E).nox ⟨none, [], dk_renumberedT, .dat, E0⟩ [] [] (defBody s_renumbered) S_renumberedT [1, 2] := by
  have nd := nd_renumbered
  have hc : (cxOf CX0 P w K mg base N_renumbered "renumbered" (defScope s_renumbered) f cdv A outer s H E).nox.calm = true := rfl
  have hu : HU (cxOf CX0 P w K mg base N_renumbered "renumbered" (defScope s_renumbered) f cdv A outer s H E).nox := .of hr
  have hu1 := hu_1 hu
  have hu64 := hu_64 hu
  have hu65 := hu_65 hu
  exact (fss_cons (fs_setO 1 fo_dicT nd) (fss_cons (fs_wk (Un := [1, 2]) (fs_setO 2 (fo_lst (n := 0) fa_nil) nd)) (fss_cons (fs_for PassesOwn.never hc (fi_l (fr_var .pl 0)) (fg_nm 3 nd) (fss_cons (fs_if (Un := [1, 2]) (ft_dninT 1 hu1 (fr_var .pl 3)) (fss_one (fs_dputT 1 hu1 (fr_var .pl 3) (fe_lenT 1 T.b_len))) fss_nil) (fss_one (fs_append 2 (fe_dgT 1 hu1 (fr_var .pl 3)))))) (fss_one (fs_ret (fe_callTy cv_tuple T.b_tuple (fab_cons (fb_own 2) fab_nil)))))))
theorem ok_renumberedT {P : Program} {w : World} {K : PySem.W.Frag} {mg : Str → Option Value} {base : Heap} {f : Addr} {fd : FuncData}  (T : Tx mg) (F : Fun K "renumbered" "renumbered" s_renumbered f fd)  :
    FnV P w K mg base CX0 1 f fd ["labels"] (spP K [.pl] .dat fn_renumberedT) :=
  fn_P F sc_renumbered rfl (fun i kk h => match i, h with | 0, h => by cases h; rfl | n + 1, h => by cases h) (fun cdv A outer s H E hgd hr => b_renumberedT T  cdv A outer s H E hgd hr) (.inl rfl)
def dk_renumberedS : Nat → Kd
  | 1 => .dic
  | _ => .dat
def S_renumberedS : SE → M Ctl := (sq (sSetO 1 (eC (.dict []))) (sq (sSetO 2 (eL mkL aN)) (sq (sFor (iL seqT (eVar 0)) (gNm 3) (sq (sIf (eDin true hasK 1 (eVar 3)) (sDput putKq 1 (eVar 3) (eDlen 1)) sNx) (sMeth 2 appD (eDgK 1 (eVar 3))))) (sRet (eL (one1 tupD) (aC (eVar 2) aN))))))
def fn_renumberedS : List D → M D := fun ds => runB S_renumberedS (env0 4 ds)
theorem b_renumberedS {P : Program} {w : World} {K : PySem.W.Frag} {mg : Str → Option Value} {base : Heap} {f : Addr}  (T : Tx mg)  (cdv : Value) (A : Around) (outer : List Env) (s : Shared) (H : Hp) (E : XK)
    (hgd : (A.deeper (PyProof.Rows.envOfC "renumbered" (defScope s_renumbered) s.heap.objs.size f cdv)).guards = some []) (hr : Room 0 (A.deeper (PyProof.Rows.envOfC "renumbered" (defScope s_renumbered) s.heap.objs.size f cdv))) :
    FSs (cxOf CX0 P w K mg base N_renumbered "renumbered" (defScope s_renumbered) f cdv A outer s H E).nox ⟨none, [], dk_renumberedS, .dat, E0⟩ [] [] (defBody s_renumbered) S_renumberedS [1, 2] := by
  have nd := nd_renumbered
  have hc : (cxOf CX0 P w K mg base N_renumbered "renumbered" (defScope s_renumbered) f cdv A outer s H E).nox.calm = true := rfl
  have hu : HU (cxOf CX0 P w K mg base N_renumbered "renumbered" (defScope s_renumbered) f cdv A outer s H E).nox := .of hr
  have hu1 := hu_1 hu
  have hu64 := hu_64 hu
  have hu65 := hu_65 hu
  exact (fss_cons (fs_setO 1 fo_dicK nd) (fss_cons (fs_wk (Un := [1, 2]) (fs_setO 2 (fo_lst (n := 0) fa_nil) nd)) (fss_cons (fs_for PassesOwn.never hc (fi_t (fr_var .dat 0)) (fg_nm 3 nd) (fss_cons (fs_if (Un := [1, 2]) (ft_dninK 1 hu1 (fr_var .dat 3)) (fss_one (fs_dputK 1 hu1 (fr_var .dat 3) (fe_lenK 1 T.b_len))) fss_nil) (fss_one (fs_append 2 (fe_dgK 1 hu1 (fr_var .dat 3)))))) (fss_one (fs_ret (fe_callTy cv_tuple T.b_tuple (fab_cons (fb_own 2) fab_nil)))))))
theorem ok_renumberedS {P : Program} {w : World} {K : PySem.W.Frag} {mg : Str → Option Value} {base : Heap} {f : Addr} {fd : FuncData}  (T : Tx mg) (F : Fun K "renumbered" "renumbered" s_renumbered f fd)  :
    FnV P w K mg base CX0 1 f fd ["labels"] (spP K [.dat] .dat fn_renumberedS) :=
  fn_P F sc_renumbered rfl (fun i kk h => match i, h with | 0, h => by cases h; rfl | n + 1, h => by cases h) (fun cdv A outer s H E hgd hr => b_renumberedS T  cdv A outer s H E hgd hr) (.inl rfl)
abbrev s_parting_of : Stmt := top 18
def N_parting_of : List Str := ["blocks", "place", "block"]
theorem nd_parting_of : N_parting_of.Nodup := by decide +kernel
theorem sc_parting_of : FnScope N_parting_of ["blocks"] (defScope s_parting_of) := ⟨rfl, rfl, rfl, nd_parting_of, rfl, by decide +kernel, by decide +kernel⟩
def dk_parting_of : Nat → Kd
  | _ => .dat
def S_parting_of : SE → M Ctl := (sq (sIf (tOr2 (tNot1 (tV truD (e1 (isT "tuple") (eVar 0)))) (tNot1 (e3c leD leD (eC (.int 1)) (eL (one1 lenD) (aC (eVar 0) aN)) (eC (.int 60))))) sNo sNx) (sq (sFor (iA (enB false) (aC (eVar 0) aN)) (gTp 2 (gC (gNm 1) (gC (gNm 2) gN0))) (sIf (tNot1 (tV asB (eCall fn_is_whole (aC (eVar 2) aN)))) sNo sNx)) (sRet (eCall fn_renumberedS (aC (eVar 0) aN)))))
def fn_parting_of : List D → M D := fun ds => runB S_parting_of (env0 3 ds)
theorem b_parting_of {P : Program} {w : World} {K : PySem.W.Frag} {mg : Str → Option Value} {base : Heap} {f : Addr} {f_is_whole : Addr} {d_is_whole : FuncData} {p_is_whole : List Str} {f_renumberedS : Addr} {d_renumberedS : FuncData} {p_renumberedS : List Str} (T : Tx mg) (C_is_whole : Fc P w K mg base "is_whole" 1 f_is_whole d_is_whole p_is_whole [.dat] .dat fn_is_whole) (C_renumberedS : Fc P w K mg base "renumbered" 1 f_renumberedS d_renumberedS p_renumberedS [.dat] .dat fn_renumberedS) (cdv : Value) (A : Around) (outer : List Env) (s : Shared) (H : Hp) (E : XK)
    (hgd : (A.deeper (PyProof.Rows.envOfC "parting_of" (defScope s_parting_of) s.heap.objs.size f cdv)).guards = some []) (hr : Room 1 (A.deeper (PyProof.Rows.envOfC "parting_of" (defScope s_parting_of) s.heap.objs.size f cdv))) :
    FSs (cxOf CX0 P w K mg base N_parting_of "parting_of" (defScope s_parting_of) f cdv A outer s H E).nox ⟨none, [], dk_parting_of, .dat, E0⟩ [] [] (defBody s_parting_of) S_parting_of [] := by
  have nd := nd_parting_of
  have hc : (cxOf CX0 P w K mg base N_parting_of "parting_of" (defScope s_parting_of) f cdv A outer s H E).nox.calm = true := rfl
  have hu : HU (cxOf CX0 P w K mg base N_parting_of "parting_of" (defScope s_parting_of) f cdv A outer s H E).nox := .of hr
  have hu1 := hu_1 hu
  have hu64 := hu_64 hu
  have hu65 := hu_65 hu
  exact (fss_cons (fs_if (Un := []) (ft_w (fw_or (ft_not (ft_truth (fb (fe_isi (T := "tuple") T.b_isinstance T.b_tuple (fr_var .dat 0))))) (fw_or1 (ft_not (ft_chain ov_le ov_le (fb fe_int) (fb (fe_callB cv_len T.b_len (fab_cons (fb (fr_var .dat 0)) fab_nil))) (fb (fe_gI T.g_MOST_DOORS))))))) (fss_one fs_no) fss_nil) (fss_cons (fs_for PassesOwn.never hc (fi_enum false T.b_enumerate (fa_cons (fr_var .dat 0) fa_nil)) (fg_tup (n := 2) hc (fg_cons (fg_nm 1 nd) (fg_cons (fg_nm 2 nd) fg_nil))) (fss_one (fs_if (Un := []) (ft_not (ft_val (fr_f C_is_whole hgd (hr.mono (by decide)) (fa_cons (fr_var .dat 2) fa_nil)))) (fss_one fs_no) fss_nil))) (fss_one (fs_ret (fr_f C_renumberedS hgd (hr.mono (by decide)) (fa_cons (fr_var .dat 0) fa_nil))))))
theorem ok_parting_of {P : Program} {w : World} {K : PySem.W.Frag} {mg : Str → Option Value} {base : Heap} {f : Addr} {fd : FuncData} {f_is_whole : Addr} {d_is_whole : FuncData} {p_is_whole : List Str} {f_renumberedS : Addr} {d_renumberedS : FuncData} {p_renumberedS : List Str} (T : Tx mg) (F : Fun K "parting_of" "parting_of" s_parting_of f fd) (C_is_whole : Fc P w K mg base "is_whole" 1 f_is_whole d_is_whole p_is_whole [.dat] .dat fn_is_whole) (C_renumberedS : Fc P w K mg base "renumbered" 1 f_renumberedS d_renumberedS p_renumberedS [.dat] .dat fn_renumberedS) :
    FnV P w K mg base CX0 2 f fd ["blocks"] (spP K [.dat] .dat fn_parting_of) :=
  fn_P F sc_parting_of rfl (fun i kk h => match i, h with | 0, h => by cases h; rfl | n + 1, h => by cases h) (fun cdv A outer s H E hgd hr => b_parting_of T C_is_whole C_renumberedS cdv A outer s H E hgd hr) (.inl rfl)
abbrev s_size_of : Stmt := top 19
def N_size_of : List Str := ["parting"]
theorem nd_size_of : N_size_of.Nodup := by decide +kernel
theorem sc_size_of : FnScope N_size_of ["parting"] (defScope s_size_of) := ⟨rfl, rfl, rfl, nd_size_of, rfl, by decide +kernel, by decide +kernel⟩
def dk_size_of : Nat → Kd
  | _ => .dat
def S_size_of : SE → M Ctl := (sRet (e2 addD (eL (one1 maxV) (aC (eCall fn_need_parting (aC (eVar 0) aN)) aN)) (eC (.int 1))))
def fn_size_of : List D → M D := fun ds => runB S_size_of (env0 1 ds)
theorem b_size_of {P : Program} {w : World} {K : PySem.W.Frag} {mg : Str → Option Value} {base : Heap} {f : Addr} {f_need_parting : Addr} {d_need_parting : FuncData} {p_need_parting : List Str} (T : Tx mg) (C_need_parting : Fc P w K mg base "need_parting" 3 f_need_parting d_need_parting p_need_parting [.dat] .dat fn_need_parting) (cdv : Value) (A : Around) (outer : List Env) (s : Shared) (H : Hp) (E : XK)
    (hgd : (A.deeper (PyProof.Rows.envOfC "size_of" (defScope s_size_of) s.heap.objs.size f cdv)).guards = some []) (hr : Room 3 (A.deeper (PyProof.Rows.envOfC "size_of" (defScope s_size_of) s.heap.objs.size f cdv))) :
    FSs (cxOf CX0 P w K mg base N_size_of "size_of" (defScope s_size_of) f cdv A outer s H E).nox ⟨none, [], dk_size_of, .dat, E0⟩ [] [] (defBody s_size_of) S_size_of [] := by
  have nd := nd_size_of
  have hc : (cxOf CX0 P w K mg base N_size_of "size_of" (defScope s_size_of) f cdv A outer s H E).nox.calm = true := rfl
  have hu : HU (cxOf CX0 P w K mg base N_size_of "size_of" (defScope s_size_of) f cdv A outer s H E).nox := .of hr
  have hu1 := hu_1 hu
  have hu64 := hu_64 hu
  have hu65 := hu_65 hu
  exact (fss_one (fs_ret (fe_binS ov_add (fe_callB (cv_max1 hu) T.b_max (fab_cons (fb (fr_f C_need_parting hgd (hr.mono (by decide)) (fa_cons (fr_var .dat 0) fa_nil))) fab_nil)) fe_int)))
theorem ok_size_of {P : Program} {w : World} {K : PySem.W.Frag} {mg : Str → Option Value} {base : Heap} {f : Addr} {fd : FuncData} {f_need_parting : Addr} {d_need_parting : FuncData} {p_need_parting : List Str} (T : Tx mg) (F : Fun K "size_of" "size_of" s_size_of f fd) (C_need_parting : Fc P w K mg base "need_parting" 3 f_need_parting d_need_parting p_need_parting [.dat] .dat fn_need_parting) :
    FnV P w K mg base CX0 4 f fd ["parting"] (spP K [.dat] .dat fn_size_of) :=
  fn_P F sc_size_of rfl (fun i kk h => match i, h with | 0, h => by cases h; rfl | n + 1, h => by cases h) (fun cdv A outer s H E hgd hr => b_size_of T C_need_parting cdv A outer s H E hgd hr) (.inl rfl)
abbrev s_all_of : Stmt := top 21
def N_all_of : List Str := ["number", "rows", "door", "row", "block"]
theorem nd_all_of : N_all_of.Nodup := by decide +kernel
theorem sc_all_of : FnScope N_all_of ["number"] (defScope s_all_of) := ⟨rfl, rfl, rfl, nd_all_of, rfl, by decide +kernel, by decide +kernel⟩
def dk_all_of : Nat → Kd
  | _ => .dat
def S_all_of : SE → M Ctl := (sq (sSet 1 (eL mkL (aC (eL mkT (aC (eC (.int 0)) aN)) aN))) (sq (sFor (iA rng2 (aC (eC (.int 1)) (aC (eVar 0) aN))) (gNm 2) (sSetO 1 (lc2F (iL seqL (eVar 1)) (gNm 3) tYs (iA rng1 (aC (e2 addD (eL (one1 maxV) (aC (eVar 3) aN)) (eC (.int 2))) aN)) (gNm 4) tYs (e2 addD (eVar 3) (eL mkT (aC (eVar 4) aN))) [3, 4] [4]))) (sRet (eVar 1))))
def fn_all_of : List D → M D := fun ds => runB S_all_of (env0 5 ds)
theorem b_all_of {P : Program} {w : World} {K : PySem.W.Frag} {mg : Str → Option Value} {base : Heap} {f : Addr}  (T : Tx mg)  (cdv : Value) (A : Around) (outer : List Env) (s : Shared) (H : Hp) (E : XK)
    (hgd : (A.deeper (PyProof.Rows.envOfC "all_of" (defScope s_all_of) s.heap.objs.size f cdv)).guards = some []) (hr : Room 0 (A.deeper (PyProof.Rows.envOfC "all_of" (defScope s_all_of) s.heap.objs.size f cdv))) :
    FSs (cxOf CX0 P w K mg base N_all_of "all_of" (defScope s_all_of) f cdv A outer s H E).nox ⟨none, [], dk_all_of, .dat, E0⟩ [] [] (defBody s_all_of) S_all_of [] := by
  have nd := nd_all_of
  have hc : (cxOf CX0 P w K mg base N_all_of "all_of" (defScope s_all_of) f cdv A outer s H E).nox.calm = true := rfl
  have hu : HU (cxOf CX0 P w K mg base N_all_of "all_of" (defScope s_all_of) f cdv A outer s H E).nox := .of hr
  have hu1 := hu_1 hu
  have hu64 := hu_64 hu
  have hu65 := hu_65 hu
  exact (fss_cons (fs_set 1 (fe_of (fo_lst (n := 1) (fa_cons (fe_tup (n := 1) (fa_cons fe_int fa_nil)) fa_nil))) nd) (fss_cons (fs_for PassesOwn.never hc (fi_rng2 T.b_range (fa_cons fe_int (fa_cons (fr_var .dat 0) fa_nil))) (fg_nm 2 nd) (fss_one (fs_wk (Un := []) (fs_setLc2 1 [("row", 3), ("block", 4)] [4] hc nd (fi_l (fr_var .dat 1)) (fun _ _ _ _ _ => (fg_nm 3 nd)) (fun _ _ _ _ _ => fts_nil) (fun _ _ _ _ _ => (fi_rng1 T.b_range (fa_cons (fe_binS ov_add (fe_callB (cv_max1 hu) T.b_max (fab_cons (fb (fr_var .dat 3)) fab_nil)) fe_int) fa_nil))) (fun _ _ _ _ _ => (fg_nm 4 nd)) (fun _ _ _ _ _ => fts_nil) (fun _ _ _ _ _ => (fe_binS ov_add (fr_var .dat 3) (fe_tup (n := 1) (fa_cons (fr_var .dat 4) fa_nil)))) (sw_true rfl rfl rfl rfl))))) (fss_one (fs_ret (fr_var .dat 1)))))
theorem ok_all_of {P : Program} {w : World} {K : PySem.W.Frag} {mg : Str → Option Value} {base : Heap} {f : Addr} {fd : FuncData}  (T : Tx mg) (F : Fun K "all_of" "all_of" s_all_of f fd)  :
    FnV P w K mg base CX0 1 f fd ["number"] (spP K [.dat] .dat fn_all_of) :=
  fn_P F sc_all_of rfl (fun i kk h => match i, h with | 0, h => by cases h; rfl | n + 1, h => by cases h) (fun cdv A outer s H E hgd hr => b_all_of T  cdv A outer s H E hgd hr) (.inl rfl)
abbrev s_all_partings : Stmt := top 22
def N_all_partings : List Str := ["number"]
theorem nd_all_partings : N_all_partings.Nodup := by decide +kernel
theorem sc_all_partings : FnScope N_all_partings ["number"] (defScope s_all_partings) := ⟨rfl, rfl, rfl, nd_all_partings, rfl, by decide +kernel, by decide +kernel⟩
def dk_all_partings : Nat → Kd
  | _ => .dat
def S_all_partings : SE → M Ctl := (sq (sDrop (eCall fn_need_number (aC (eVar 0) (aC (eC (.int 1)) (aC (eC (.int 60)) aN))))) (sq (sIf (tV asB (e2 gtD (eVar 0) (eC (.int 8)))) sNo sNx) (sRet (eL (one1 tupD) (aC (eCall fn_all_of (aC (eVar 0) aN)) aN)))))
def fn_all_partings : List D → M D := fun ds => runB S_all_partings (env0 1 ds)
theorem b_all_partings {P : Program} {w : World} {K : PySem.W.Frag} {mg : Str → Option Value} {base : Heap} {f : Addr} {f_need_number : Addr} {d_need_number : FuncData} {p_need_number : List Str} {f_all_of : Addr} {d_all_of : FuncData} {p_all_of : List Str} (T : Tx mg) (C_need_number : Fc P w K mg base "need_number" 3 f_need_number d_need_number p_need_number [.dat, .dat, .dat] .dat fn_need_number) (C_all_of : Fc P w K mg base "all_of" 1 f_all_of d_all_of p_all_of [.dat] .dat fn_all_of) (cdv : Value) (A : Around) (outer : List Env) (s : Shared) (H : Hp) (E : XK)
    (hgd : (A.deeper (PyProof.Rows.envOfC "all_partings" (defScope s_all_partings) s.heap.objs.size f cdv)).guards = some []) (hr : Room 3 (A.deeper (PyProof.Rows.envOfC "all_partings" (defScope s_all_partings) s.heap.objs.size f cdv))) :
    FSs (cxOf CX0 P w K mg base N_all_partings "all_partings" (defScope s_all_partings) f cdv A outer s H E).nox ⟨none, [], dk_all_partings, .dat, E0⟩ [] [] (defBody s_all_partings) S_all_partings [] := by
  have nd := nd_all_partings
  have hc : (cxOf CX0 P w K mg base N_all_partings "all_partings" (defScope s_all_partings) f cdv A outer s H E).nox.calm = true := rfl
  have hu : HU (cxOf CX0 P w K mg base N_all_partings "all_partings" (defScope s_all_partings) f cdv A outer s H E).nox := .of hr
  have hu1 := hu_1 hu
  have hu64 := hu_64 hu
  have hu65 := hu_65 hu
  exact (fss_cons (fs_expr (fb (fr_f C_need_number hgd (hr.mono (by decide)) (fa_cons (fr_var .dat 0) (fa_cons fe_int (fa_cons (fe_gI T.g_MOST_DOORS) fa_nil)))))) (fss_cons (fs_if (Un := []) (ft_cmp ov_gt (fb (fr_var .dat 0)) (fb (fe_gI T.g_MOST_LISTED))) (fss_one fs_no) fss_nil) (fss_one (fs_ret (fe_callTy cv_tuple T.b_tuple (fab_cons (fb (fr_f C_all_of hgd (hr.mono (by decide)) (fa_cons (fr_var .dat 0) fa_nil))) fab_nil))))))
theorem ok_all_partings {P : Program} {w : World} {K : PySem.W.Frag} {mg : Str → Option Value} {base : Heap} {f : Addr} {fd : FuncData} {f_need_number : Addr} {d_need_number : FuncData} {p_need_number : List Str} {f_all_of : Addr} {d_all_of : FuncData} {p_all_of : List Str} (T : Tx mg) (F : Fun K "all_partings" "all_partings" s_all_partings f fd) (C_need_number : Fc P w K mg base "need_number" 3 f_need_number d_need_number p_need_number [.dat, .dat, .dat] .dat fn_need_number) (C_all_of : Fc P w K mg base "all_of" 1 f_all_of d_all_of p_all_of [.dat] .dat fn_all_of) :
    FnV P w K mg base CX0 4 f fd ["number"] (spP K [.dat] .dat fn_all_partings) :=
  fn_P F sc_all_partings rfl (fun i kk h => match i, h with | 0, h => by cases h; rfl | n + 1, h => by cases h) (fun cdv A outer s H E hgd hr => b_all_partings T C_need_number C_all_of cdv A outer s H E hgd hr) (.inl rfl)
abbrev s_is_finer : Stmt := top 24
def N_is_finer : List Str := ["parting", "other", "door", "block"]
theorem nd_is_finer : N_is_finer.Nodup := by decide +kernel
theorem sc_is_finer : FnScope N_is_finer ["parting", "other"] (defScope s_is_finer) := ⟨rfl, rfl, rfl, nd_is_finer, rfl, by decide +kernel, by decide +kernel⟩
def dk_is_finer : Nat → Kd
  | 0 => .nd
  | _ => .dat
def S_is_finer : SE → M Ctl := (sq (sDrop (eCall fn_need_parting (aC (eVar 0) aN))) (sq (sDrop (eCall fn_need_fit (aC (eVar 0) (aC (eVar 1) aN)))) (sRet (eL (one1 allD) (aC (lcF (iA (enB false) (aC (eVar 0) aN)) (gTp 2 (gC (gNm 2) (gC (gNm 3) gN0))) tYs (e2 eqD (e2 ixD (eVar 1) (eVar 2)) (e2 ixD (eVar 1) (e2 idxD (eVar 0) (eVar 3)))) [2, 3]) aN)))))
def fn_is_finer : List D → M D := fun ds => runB S_is_finer (env0 4 ds)
theorem b_is_finer {P : Program} {w : World} {K : PySem.W.Frag} {mg : Str → Option Value} {base : Heap} {f : Addr} {f_need_parting : Addr} {d_need_parting : FuncData} {p_need_parting : List Str} {f_need_fit : Addr} {d_need_fit : FuncData} {p_need_fit : List Str} (T : Tx mg) (C_need_parting : Fc P w K mg base "need_parting" 3 f_need_parting d_need_parting p_need_parting [.dat] .dat fn_need_parting) (C_need_fit : Fc P w K mg base "need_fit" 4 f_need_fit d_need_fit p_need_fit [.dat, .dat] .dat fn_need_fit) (cdv : Value) (A : Around) (outer : List Env) (s : Shared) (H : Hp) (E : XK)
    (hgd : (A.deeper (PyProof.Rows.envOfC "is_finer" (defScope s_is_finer) s.heap.objs.size f cdv)).guards = some []) (hr : Room 4 (A.deeper (PyProof.Rows.envOfC "is_finer" (defScope s_is_finer) s.heap.objs.size f cdv))) :
    FSs (cxOf CX0 P w K mg base N_is_finer "is_finer" (defScope s_is_finer) f cdv A outer s H E).nox ⟨none, [], dk_is_finer, .dat, E0⟩ [] [] (defBody s_is_finer) S_is_finer [] := by
  have nd := nd_is_finer
  have hc : (cxOf CX0 P w K mg base N_is_finer "is_finer" (defScope s_is_finer) f cdv A outer s H E).nox.calm = true := rfl
  have hu : HU (cxOf CX0 P w K mg base N_is_finer "is_finer" (defScope s_is_finer) f cdv A outer s H E).nox := .of hr
  have hu1 := hu_1 hu
  have hu64 := hu_64 hu
  have hu65 := hu_65 hu
  exact (fss_cons (fs_expr (fb (fr_f C_need_parting hgd (hr.mono (by decide)) (fa_cons (fe_w (fr_var .nd 0)) fa_nil)))) (fss_cons (fs_expr (fb (fr_f C_need_fit hgd (hr.mono (by decide)) (fa_cons (fe_w (fr_var .nd 0)) (fa_cons (fr_var .dat 1) fa_nil))))) (fss_one (fs_ret (fe_callB cv_all T.b_all (fab_cons (fb (fe_of (fo_lc [("door", 2), ("block", 3)] hc nd (fi_enum false T.b_enumerate (fa_cons (fr_var .nd 0) fa_nil)) (fun _ _ _ _ _ => (fg_tup (n := 2) hc (fg_cons (fg_nm 2 nd) (fg_cons (fg_nm 3 nd) fg_nil)))) (fun _ _ _ _ _ => fts_nil) (fun _ _ _ _ _ => (fe_cmp (ov_eq hu64) (fb (fe_ix (fb (fr_var .dat 1)) (fr_var .dat 2))) (fb (fe_ix (fb (fr_var .dat 1)) (fe_tindex (fr_var .nd 0) (fr_var .dat 3))))))))) fab_nil))))))
theorem ok_is_finer {P : Program} {w : World} {K : PySem.W.Frag} {mg : Str → Option Value} {base : Heap} {f : Addr} {fd : FuncData} {f_need_parting : Addr} {d_need_parting : FuncData} {p_need_parting : List Str} {f_need_fit : Addr} {d_need_fit : FuncData} {p_need_fit : List Str} (T : Tx mg) (F : Fun K "is_finer" "is_finer" s_is_finer f fd) (C_need_parting : Fc P w K mg base "need_parting" 3 f_need_parting d_need_parting p_need_parting [.dat] .dat fn_need_parting) (C_need_fit : Fc P w K mg base "need_fit" 4 f_need_fit d_need_fit p_need_fit [.dat, .dat] .dat fn_need_fit) :
    FnV P w K mg base CX0 5 f fd ["parting", "other"] (spP K [.nd, .dat] .dat fn_is_finer) :=
  fn_P F sc_is_finer rfl (fun i kk h => match i, h with | 0, h => by cases h; rfl | 1, h => by cases h; rfl | n + 2, h => by cases h) (fun cdv A outer s H E hgd hr => b_is_finer T C_need_parting C_need_fit cdv A outer s H E hgd hr) (.inl rfl)
abbrev s_joined_labels : Stmt := top 25
def N_joined_labels : List Str := ["parting", "other", "labels", "block", "met", "label", "there"]
theorem nd_joined_labels : N_joined_labels.Nodup := by decide +kernel
theorem sc_joined_labels : FnScope N_joined_labels ["parting", "other"] (defScope s_joined_labels) := ⟨rfl, rfl, rfl, nd_joined_labels, rfl, by decide +kernel, by decide +kernel⟩
def dk_joined_labels : Nat → Kd
  | _ => .dat
def S_joined_labels : SE → M Ctl := (sq (sSet 2 (eL (one1 listD) (aC (eVar 0) aN))) (sq (sFor (iA rng1 (aC (e2 addD (eL (one1 maxV) (aC (eVar 1) aN)) (eC (.int 1))) aN)) (gNm 3) (sq (sSet 4 (lcF (iA (zpB true false) (aC (eVar 2) (aC (eVar 1) aN))) (gTp 2 (gC (gNm 5) (gC (gNm 6) gN0))) (tV asB (e2 eqD (eVar 6) (eVar 3))) (eVar 5) [5, 6])) (sSetO 2 (lcF (iL seqL (eVar 2)) (gNm 5) tYs (eIf (tV asB (e2 inD (eVar 5) (eVar 4))) (e2 ixD (eVar 4) (eC (.int 0))) (eVar 5)) [5])))) (sRet (eVar 2))))
def fn_joined_labels : List D → M D := fun ds => runB S_joined_labels (env0 7 ds)
theorem b_joined_labels {P : Program} {w : World} {K : PySem.W.Frag} {mg : Str → Option Value} {base : Heap} {f : Addr}  (T : Tx mg)  (cdv : Value) (A : Around) (outer : List Env) (s : Shared) (H : Hp) (E : XK)
    (hgd : (A.deeper (PyProof.Rows.envOfC "joined_labels" (defScope s_joined_labels) s.heap.objs.size f cdv)).guards = some []) (hr : Room 0 (A.deeper (PyProof.Rows.envOfC "joined_labels" (defScope s_joined_labels) s.heap.objs.size f cdv))) :
    FSs (cxOf CX0 P w K mg base N_joined_labels "joined_labels" (defScope s_joined_labels) f cdv A outer s H E).nox ⟨none, [], dk_joined_labels, .dat, E0⟩ [] [] (defBody s_joined_labels) S_joined_labels [] := by
  have nd := nd_joined_labels
  have hc : (cxOf CX0 P w K mg base N_joined_labels "joined_labels" (defScope s_joined_labels) f cdv A outer s H E).nox.calm = true := rfl
  have hu : HU (cxOf CX0 P w K mg base N_joined_labels "joined_labels" (defScope s_joined_labels) f cdv A outer s H E).nox := .of hr
  have hu1 := hu_1 hu
  have hu64 := hu_64 hu
  have hu65 := hu_65 hu
  exact (fss_cons (fs_set 2 (fe_of (fo_callTy co_list T.b_list (fab_cons (fb (fr_var .dat 0)) fab_nil))) nd) (fss_cons (fs_for PassesOwn.never hc (fi_rng1 T.b_range (fa_cons (fe_binS ov_add (fe_callB (cv_max1 hu) T.b_max (fab_cons (fb (fr_var .dat 1)) fab_nil)) fe_int) fa_nil)) (fg_nm 3 nd) (fss_cons (fs_set 4 (fe_of (fo_lc [("label", 5), ("there", 6)] hc nd (fi_zip true false T.b_zip (fa_cons (fr_var .dat 2) (fa_cons (fr_var .dat 1) fa_nil))) (fun _ _ _ _ _ => (fg_tup (n := 2) hc (fg_cons (fg_nm 5 nd) (fg_cons (fg_nm 6 nd) fg_nil)))) (fun _ _ _ _ _ => (fts_one (ft_cmp (ov_eq hu64) (fb (fr_var .dat 6)) (fb (fr_var .dat 3))))) (fun _ _ _ _ _ => (fr_var .dat 5)))) nd) (fss_one (fs_wk (Un := []) (fs_setLc 2 [("label", 5)] hc nd (fi_l (fr_var .dat 2)) (fun _ _ _ _ _ => (fg_nm 5 nd)) (fun _ _ _ _ _ => fts_nil) (fun _ _ _ _ _ => (fr_if (ft_cmp (ov_in hu65) (fb (fr_var .dat 5)) (fb (fr_var .dat 4))) (fe_ix (fb (fr_var .dat 4)) fe_int) (fr_var .dat 5))) (sw_true rfl rfl rfl rfl)))))) (fss_one (fs_ret (fr_var .dat 2)))))
theorem ok_joined_labels {P : Program} {w : World} {K : PySem.W.Frag} {mg : Str → Option Value} {base : Heap} {f : Addr} {fd : FuncData}  (T : Tx mg) (F : Fun K "joined_labels" "joined_labels" s_joined_labels f fd)  :
    FnV P w K mg base CX0 1 f fd ["parting", "other"] (spP K [.dat, .dat] .dat fn_joined_labels) :=
  fn_P F sc_joined_labels rfl (fun i kk h => match i, h with | 0, h => by cases h; rfl | 1, h => by cases h; rfl | n + 2, h => by cases h) (fun cdv A outer s H E hgd hr => b_joined_labels T  cdv A outer s H E hgd hr) (.inl rfl)
abbrev s_finest_above : Stmt := top 26
def N_finest_above : List Str := ["parting", "other"]
theorem nd_finest_above : N_finest_above.Nodup := by decide +kernel
theorem sc_finest_above : FnScope N_finest_above ["parting", "other"] (defScope s_finest_above) := ⟨rfl, rfl, rfl, nd_finest_above, rfl, by decide +kernel, by decide +kernel⟩
def dk_finest_above : Nat → Kd
  | _ => .dat
def S_finest_above : SE → M Ctl := (sq (sDrop (eCall fn_need_parting (aC (eVar 0) aN))) (sq (sDrop (eCall fn_need_fit (aC (eVar 0) (aC (eVar 1) aN)))) (sRet (eCall fn_renumbered (aC (eCall fn_joined_labels (aC (eVar 0) (aC (eVar 1) aN))) aN)))))
def fn_finest_above : List D → M D := fun ds => runB S_finest_above (env0 2 ds)
theorem b_finest_above {P : Program} {w : World} {K : PySem.W.Frag} {mg : Str → Option Value} {base : Heap} {f : Addr} {f_need_parting : Addr} {d_need_parting : FuncData} {p_need_parting : List Str} {f_need_fit : Addr} {d_need_fit : FuncData} {p_need_fit : List Str} {f_renumbered : Addr} {d_renumbered : FuncData} {p_renumbered : List Str} {f_joined_labels : Addr} {d_joined_labels : FuncData} {p_joined_labels : List Str} (T : Tx mg) (C_need_parting : Fc P w K mg base "need_parting" 3 f_need_parting d_need_parting p_need_parting [.dat] .dat fn_need_parting) (C_need_fit : Fc P w K mg base "need_fit" 4 f_need_fit d_need_fit p_need_fit [.dat, .dat] .dat fn_need_fit) (C_renumbered : Fc P w K mg base "renumbered" 1 f_renumbered d_renumbered p_renumbered [.dat] .dat fn_renumbered) (C_joined_labels : Fc P w K mg base "joined_labels" 1 f_joined_labels d_joined_labels p_joined_labels [.dat, .dat] .dat fn_joined_labels) (cdv : Value) (A : Around) (outer : List Env) (s : Shared) (H : Hp) (E : XK)
    (hgd : (A.deeper (PyProof.Rows.envOfC "finest_above" (defScope s_finest_above) s.heap.objs.size f cdv)).guards = some []) (hr : Room 4 (A.deeper (PyProof.Rows.envOfC "finest_above" (defScope s_finest_above) s.heap.objs.size f cdv))) :
    FSs (cxOf CX0 P w K mg base N_finest_above "finest_above" (defScope s_finest_above) f cdv A outer s H E).nox ⟨none, [], dk_finest_above, .dat, E0⟩ [] [] (defBody s_finest_above) S_finest_above [] := by
  have nd := nd_finest_above
  have hc : (cxOf CX0 P w K mg base N_finest_above "finest_above" (defScope s_finest_above) f cdv A outer s H E).nox.calm = true := rfl
  have hu : HU (cxOf CX0 P w K mg base N_finest_above "finest_above" (defScope s_finest_above) f cdv A outer s H E).nox := .of hr
  have hu1 := hu_1 hu
  have hu64 := hu_64 hu
  have hu65 := hu_65 hu
  exact (fss_cons (fs_expr (fb (fr_f C_need_parting hgd (hr.mono (by decide)) (fa_cons (fr_var .dat 0) fa_nil)))) (fss_cons (fs_expr (fb (fr_f C_need_fit hgd (hr.mono (by decide)) (fa_cons (fr_var .dat 0) (fa_cons (fr_var .dat 1) fa_nil))))) (fss_one (fs_ret (fr_f C_renumbered hgd (hr.mono (by decide)) (fa_cons (fr_f C_joined_labels hgd (hr.mono (by decide)) (fa_cons (fr_var .dat 0) (fa_cons (fr_var .dat 1) fa_nil))) fa_nil))))))
theorem ok_finest_above {P : Program} {w : World} {K : PySem.W.Frag} {mg : Str → Option Value} {base : Heap} {f : Addr} {fd : FuncData} {f_need_parting : Addr} {d_need_parting : FuncData} {p_need_parting : List Str} {f_need_fit : Addr} {d_need_fit : FuncData} {p_need_fit : List Str} {f_renumbered : Addr} {d_renumbered : FuncData} {p_renumbered : List Str} {f_joined_labels : Addr} {d_joined_labels : FuncData} {p_joined_labels : List Str} (T : Tx mg) (F : Fun K "finest_above" "finest_above" s_finest_above f fd) (C_need_parting : Fc P w K mg base "need_parting" 3 f_need_parting d_need_parting p_need_parting [.dat] .dat fn_need_parting) (C_need_fit : Fc P w K mg base "need_fit" 4 f_need_fit d_need_fit p_need_fit [.dat, .dat] .dat fn_need_fit) (C_renumbered : Fc P w K mg base "renumbered" 1 f_renumbered d_renumbered p_renumbered [.dat] .dat fn_renumbered) (C_joined_labels : Fc P w K mg base "joined_labels" 1 f_joined_labels d_joined_labels p_joined_labels [.dat, .dat] .dat fn_joined_labels) :
    FnV P w K mg base CX0 5 f fd ["parting", "other"] (spP K [.dat, .dat] .dat fn_finest_above) :=
  fn_P F sc_finest_above rfl (fun i kk h => match i, h with | 0, h => by cases h; rfl | 1, h => by cases h; rfl | n + 2, h => by cases h) (fun cdv A outer s H E hgd hr => b_finest_above T C_need_parting C_need_fit C_renumbered C_joined_labels cdv A outer s H E hgd hr) (.inl rfl)
abbrev s_coarsest_below : Stmt := top 27
def N_coarsest_below : List Str := ["parting", "other"]
theorem nd_coarsest_below : N_coarsest_below.Nodup := by decide +kernel
theorem sc_coarsest_below : FnScope N_coarsest_below ["parting", "other"] (defScope s_coarsest_below) := ⟨rfl, rfl, rfl, nd_coarsest_below, rfl, by decide +kernel, by decide +kernel⟩
def dk_coarsest_below : Nat → Kd
  | _ => .dat
def S_coarsest_below : SE → M Ctl := (sq (sDrop (eCall fn_need_parting (aC (eVar 0) aN))) (sq (sDrop (eCall fn_need_fit (aC (eVar 0) (aC (eVar 1) aN)))) (sRet (eCall fn_renumberedT (aC (eL (lzD false false) (aC (eVar 0) (aC (eVar 1) aN))) aN)))))
def fn_coarsest_below : List D → M D := fun ds => runB S_coarsest_below (env0 2 ds)
theorem b_coarsest_below {P : Program} {w : World} {K : PySem.W.Frag} {mg : Str → Option Value} {base : Heap} {f : Addr} {f_need_parting : Addr} {d_need_parting : FuncData} {p_need_parting : List Str} {f_need_fit : Addr} {d_need_fit : FuncData} {p_need_fit : List Str} {f_renumberedT : Addr} {d_renumberedT : FuncData} {p_renumberedT : List Str} (T : Tx mg) (C_need_parting : Fc P w K mg base "need_parting" 3 f_need_parting d_need_parting p_need_parting [.dat] .dat fn_need_parting) (C_need_fit : Fc P w K mg base "need_fit" 4 f_need_fit d_need_fit p_need_fit [.dat, .dat] .dat fn_need_fit) (C_renumberedT : Fc P w K mg base "renumbered" 1 f_renumberedT d_renumberedT p_renumberedT [.pl] .dat fn_renumberedT) (cdv : Value) (A : Around) (outer : List Env) (s : Shared) (H : Hp) (E : XK)
    (hgd : (A.deeper (PyProof.Rows.envOfC "coarsest_below" (defScope s_coarsest_below) s.heap.objs.size f cdv)).guards = some []) (hr : Room 4 (A.deeper (PyProof.Rows.envOfC "coarsest_below" (defScope s_coarsest_below) s.heap.objs.size f cdv))) :
    FSs (cxOf CX0 P w K mg base N_coarsest_below "coarsest_below" (defScope s_coarsest_below) f cdv A outer s H E).nox ⟨none, [], dk_coarsest_below, .dat, E0⟩ [] [] (defBody s_coarsest_below) S_coarsest_below [] := by
  have nd := nd_coarsest_below
  have hc : (cxOf CX0 P w K mg base N_coarsest_below "coarsest_below" (defScope s_coarsest_below) f cdv A outer s H E).nox.calm = true := rfl
  have hu : HU (cxOf CX0 P w K mg base N_coarsest_below "coarsest_below" (defScope s_coarsest_below) f cdv A outer s H E).nox := .of hr
  have hu1 := hu_1 hu
  have hu64 := hu_64 hu
  have hu65 := hu_65 hu
  exact (fss_cons (fs_expr (fb (fr_f C_need_parting hgd (hr.mono (by decide)) (fa_cons (fr_var .dat 0) fa_nil)))) (fss_cons (fs_expr (fb (fr_f C_need_fit hgd (hr.mono (by decide)) (fa_cons (fr_var .dat 0) (fa_cons (fr_var .dat 1) fa_nil))))) (fss_one (fs_ret (fr_f C_renumberedT hgd (hr.mono (by decide)) (fa_cons (fr_lz false false hc T.b_zip T.b_list (fa_cons (fr_var .dat 0) (fa_cons (fr_var .dat 1) fa_nil))) fa_nil))))))
theorem ok_coarsest_below {P : Program} {w : World} {K : PySem.W.Frag} {mg : Str → Option Value} {base : Heap} {f : Addr} {fd : FuncData} {f_need_parting : Addr} {d_need_parting : FuncData} {p_need_parting : List Str} {f_need_fit : Addr} {d_need_fit : FuncData} {p_need_fit : List Str} {f_renumberedT : Addr} {d_renumberedT : FuncData} {p_renumberedT : List Str} (T : Tx mg) (F : Fun K "coarsest_below" "coarsest_below" s_coarsest_below f fd) (C_need_parting : Fc P w K mg base "need_parting" 3 f_need_parting d_need_parting p_need_parting [.dat] .dat fn_need_parting) (C_need_fit : Fc P w K mg base "need_fit" 4 f_need_fit d_need_fit p_need_fit [.dat, .dat] .dat fn_need_fit) (C_renumberedT : Fc P w K mg base "renumbered" 1 f_renumberedT d_renumberedT p_renumberedT [.pl] .dat fn_renumberedT) :
    FnV P w K mg base CX0 5 f fd ["parting", "other"] (spP K [.dat, .dat] .dat fn_coarsest_below) :=
  fn_P F sc_coarsest_below rfl (fun i kk h => match i, h with | 0, h => by cases h; rfl | 1, h => by cases h; rfl | n + 2, h => by cases h) (fun cdv A outer s H E hgd hr => b_coarsest_below T C_need_parting C_need_fit C_renumberedT cdv A outer s H E hgd hr) (.inl rfl)
abbrev s_need_doors : Stmt := top 29
def N_need_doors : List Str := ["doors", "many", "place", "door"]
theorem nd_need_doors : N_need_doors.Nodup := by decide +kernel
theorem sc_need_doors : FnScope N_need_doors ["doors", "many"] (defScope s_need_doors) := ⟨rfl, rfl, rfl, nd_need_doors, rfl, by decide +kernel, by decide +kernel⟩
def dk_need_doors : Nat → Kd
  | _ => .dat
def S_need_doors : SE → M Ctl := (sq (sIf (tOr2 (tNot1 (tV truD (e1 (isT "tuple") (eVar 0)))) (tNot1 (e3c leD leD (eC (.int 1)) (eL (one1 lenD) (aC (eVar 0) aN)) (eC (.int 60))))) sNo sNx) (sq (sFor (iA (enB false) (aC (eVar 0) aN)) (gTp 2 (gC (gNm 2) (gC (gNm 3) gN0))) (sIf (tOr2 (tNot1 (tV asB (eCall fn_is_within (aC (eVar 3) (aC (eC (.int 0)) (aC (e2 subD (eVar 1) (eC (.int 1))) aN)))))) (tV asB (e2 inD (eVar 3) (slD (eVar 0) pN (pS (eVar 2)))))) sNo sNx)) (sRet (eVar 0))))
def fn_need_doors : List D → M D := fun ds => runB S_need_doors (env0 4 ds)
theorem b_need_doors {P : Program} {w : World} {K : PySem.W.Frag} {mg : Str → Option Value} {base : Heap} {f : Addr} {f_is_within : Addr} {d_is_within : FuncData} {p_is_within : List Str} (T : Tx mg) (C_is_within : Fc P w K mg base "is_within" 2 f_is_within d_is_within p_is_within [.dat, .dat, .dat] .dat fn_is_within) (cdv : Value) (A : Around) (outer : List Env) (s : Shared) (H : Hp) (E : XK)
    (hgd : (A.deeper (PyProof.Rows.envOfC "need_doors" (defScope s_need_doors) s.heap.objs.size f cdv)).guards = some []) (hr : Room 2 (A.deeper (PyProof.Rows.envOfC "need_doors" (defScope s_need_doors) s.heap.objs.size f cdv))) :
    FSs (cxOf CX0 P w K mg base N_need_doors "need_doors" (defScope s_need_doors) f cdv A outer s H E).nox ⟨none, [], dk_need_doors, .dat, E0⟩ [] [] (defBody s_need_doors) S_need_doors [] := by
  have nd := nd_need_doors
  have hc : (cxOf CX0 P w K mg base N_need_doors "need_doors" (defScope s_need_doors) f cdv A outer s H E).nox.calm = true := rfl
  have hu : HU (cxOf CX0 P w K mg base N_need_doors "need_doors" (defScope s_need_doors) f cdv A outer s H E).nox := .of hr
  have hu1 := hu_1 hu
  have hu64 := hu_64 hu
  have hu65 := hu_65 hu
  exact (fss_cons (fs_if (Un := []) (ft_w (fw_or (ft_not (ft_truth (fb (fe_isi (T := "tuple") T.b_isinstance T.b_tuple (fr_var .dat 0))))) (fw_or1 (ft_not (ft_chain ov_le ov_le (fb fe_int) (fb (fe_callB cv_len T.b_len (fab_cons (fb (fr_var .dat 0)) fab_nil))) (fb (fe_gI T.g_MOST_DOORS))))))) (fss_one fs_no) fss_nil) (fss_cons (fs_for PassesOwn.never hc (fi_enum false T.b_enumerate (fa_cons (fr_var .dat 0) fa_nil)) (fg_tup (n := 2) hc (fg_cons (fg_nm 2 nd) (fg_cons (fg_nm 3 nd) fg_nil))) (fss_one (fs_if (Un := []) (ft_w (fw_or (ft_not (ft_val (fr_f C_is_within hgd (hr.mono (by decide)) (fa_cons (fr_var .dat 3) (fa_cons fe_int (fa_cons (fe_bin ov_sub (fb (fr_var .dat 1)) (fb fe_int)) fa_nil)))))) (fw_or1 (ft_cmp (ov_in hu65) (fb (fr_var .dat 3)) (fb (fe_sl (fr_var .dat 0) fp_none (fp_some (fr_var .dat 2)))))))) (fss_one fs_no) fss_nil))) (fss_one (fs_ret (fr_var .dat 0)))))
theorem ok_need_doors {P : Program} {w : World} {K : PySem.W.Frag} {mg : Str → Option Value} {base : Heap} {f : Addr} {fd : FuncData} {f_is_within : Addr} {d_is_within : FuncData} {p_is_within : List Str} (T : Tx mg) (F : Fun K "need_doors" "need_doors" s_need_doors f fd) (C_is_within : Fc P w K mg base "is_within" 2 f_is_within d_is_within p_is_within [.dat, .dat, .dat] .dat fn_is_within) :
    FnV P w K mg base CX0 3 f fd ["doors", "many"] (spP K [.dat, .dat] .dat fn_need_doors) :=
  fn_P F sc_need_doors rfl (fun i kk h => match i, h with | 0, h => by cases h; rfl | 1, h => by cases h; rfl | n + 2, h => by cases h) (fun cdv A outer s H E hgd hr => b_need_doors T C_is_within cdv A outer s H E hgd hr) (.inl rfl)
abbrev s_parting_of_some : Stmt := top 30
def N_parting_of_some : List Str := ["parting", "doors", "door"]
theorem nd_parting_of_some : N_parting_of_some.Nodup := by decide +kernel
theorem sc_parting_of_some : FnScope N_parting_of_some ["parting", "doors"] (defScope s_parting_of_some) := ⟨rfl, rfl, rfl, nd_parting_of_some, rfl, by decide +kernel, by decide +kernel⟩
def dk_parting_of_some : Nat → Kd
  | _ => .dat
def S_parting_of_some : SE → M Ctl := (sq (sDrop (eCall fn_need_parting (aC (eVar 0) aN))) (sq (sDrop (eCall fn_need_doors (aC (eVar 1) (aC (eL (one1 lenD) (aC (eVar 0) aN)) aN)))) (sRet (eCall fn_renumbered (aC (lcF (iL seqT (eVar 1)) (gNm 2) tYs (e2 ixD (eVar 0) (eVar 2)) [2]) aN)))))
def fn_parting_of_some : List D → M D := fun ds => runB S_parting_of_some (env0 3 ds)
theorem b_parting_of_some {P : Program} {w : World} {K : PySem.W.Frag} {mg : Str → Option Value} {base : Heap} {f : Addr} {f_need_parting : Addr} {d_need_parting : FuncData} {p_need_parting : List Str} {f_need_doors : Addr} {d_need_doors : FuncData} {p_need_doors : List Str} {f_renumbered : Addr} {d_renumbered : FuncData} {p_renumbered : List Str} (T : Tx mg) (C_need_parting : Fc P w K mg base "need_parting" 3 f_need_parting d_need_parting p_need_parting [.dat] .dat fn_need_parting) (C_need_doors : Fc P w K mg base "need_doors" 3 f_need_doors d_need_doors p_need_doors [.dat, .dat] .dat fn_need_doors) (C_renumbered : Fc P w K mg base "renumbered" 1 f_renumbered d_renumbered p_renumbered [.dat] .dat fn_renumbered) (cdv : Value) (A : Around) (outer : List Env) (s : Shared) (H : Hp) (E : XK)
    (hgd : (A.deeper (PyProof.Rows.envOfC "parting_of_some" (defScope s_parting_of_some) s.heap.objs.size f cdv)).guards = some []) (hr : Room 3 (A.deeper (PyProof.Rows.envOfC "parting_of_some" (defScope s_parting_of_some) s.heap.objs.size f cdv))) :
    FSs (cxOf CX0 P w K mg base N_parting_of_some "parting_of_some" (defScope s_parting_of_some) f cdv A outer s H E).nox ⟨none, [], dk_parting_of_some, .dat, E0⟩ [] [] (defBody s_parting_of_some) S_parting_of_some [] := by
  have nd := nd_parting_of_some
  have hc : (cxOf CX0 P w K mg base N_parting_of_some "parting_of_some" (defScope s_parting_of_some) f cdv A outer s H E).nox.calm = true := rfl
  have hu : HU (cxOf CX0 P w K mg base N_parting_of_some "parting_of_some" (defScope s_parting_of_some) f cdv A outer s H E).nox := .of hr
  have hu1 := hu_1 hu
  have hu64 := hu_64 hu
  have hu65 := hu_65 hu
  exact (fss_cons (fs_expr (fb (fr_f C_need_parting hgd (hr.mono (by decide)) (fa_cons (fr_var .dat 0) fa_nil)))) (fss_cons (fs_expr (fb (fr_f C_need_doors hgd (hr.mono (by decide)) (fa_cons (fr_var .dat 1) (fa_cons (fe_callB cv_len T.b_len (fab_cons (fb (fr_var .dat 0)) fab_nil)) fa_nil))))) (fss_one (fs_ret (fr_f C_renumbered hgd (hr.mono (by decide)) (fa_cons (fe_of (fo_lc [("door", 2)] hc nd (fi_t (fr_var .dat 1)) (fun _ _ _ _ _ => (fg_nm 2 nd)) (fun _ _ _ _ _ => fts_nil) (fun _ _ _ _ _ => (fe_ix (fb (fr_var .dat 0)) (fr_var .dat 2))))) fa_nil))))))
theorem ok_parting_of_some {P : Program} {w : World} {K : PySem.W.Frag} {mg : Str → Option Value} {base : Heap} {f : Addr} {fd : FuncData} {f_need_parting : Addr} {d_need_parting : FuncData} {p_need_parting : List Str} {f_need_doors : Addr} {d_need_doors : FuncData} {p_need_doors : List Str} {f_renumbered : Addr} {d_renumbered : FuncData} {p_renumbered : List Str} (T : Tx mg) (F : Fun K "parting_of_some" "parting_of_some" s_parting_of_some f fd) (C_need_parting : Fc P w K mg base "need_parting" 3 f_need_parting d_need_parting p_need_parting [.dat] .dat fn_need_parting) (C_need_doors : Fc P w K mg base "need_doors" 3 f_need_doors d_need_doors p_need_doors [.dat, .dat] .dat fn_need_doors) (C_renumbered : Fc P w K mg base "renumbered" 1 f_renumbered d_renumbered p_renumbered [.dat] .dat fn_renumbered) :
    FnV P w K mg base CX0 4 f fd ["parting", "doors"] (spP K [.dat, .dat] .dat fn_parting_of_some) :=
  fn_P F sc_parting_of_some rfl (fun i kk h => match i, h with | 0, h => by cases h; rfl | 1, h => by cases h; rfl | n + 2, h => by cases h) (fun cdv A outer s H E hgd hr => b_parting_of_some T C_need_parting C_need_doors C_renumbered cdv A outer s H E hgd hr) (.inl rfl)
abbrev s_beside : Stmt := top 31
def N_beside : List Str := ["parting", "other", "shift", "block"]
theorem nd_beside : N_beside.Nodup := by decide +kernel
theorem sc_beside : FnScope N_beside ["parting", "other"] (defScope s_beside) := ⟨rfl, rfl, rfl, nd_beside, rfl, by decide +kernel, by decide +kernel⟩
def dk_beside : Nat → Kd
  | _ => .dat
def S_beside : SE → M Ctl := (sq (sSet 2 (eCall fn_size_of (aC (eVar 0) aN))) (sq (sDrop (eCall fn_need_parting (aC (eVar 1) aN))) (sq (sIf (tV asB (e2 gtD (e2 addD (eL (one1 lenD) (aC (eVar 0) aN)) (eL (one1 lenD) (aC (eVar 1) aN))) (eC (.int 60)))) sNo sNx) (sRet (e2 addD (eVar 0) (eL (one1 tupD) (aC (lcF (iL seqT (eVar 1)) (gNm 3) tYs (e2 addD (eVar 2) (eVar 3)) [3]) aN)))))))
def fn_beside : List D → M D := fun ds => runB S_beside (env0 4 ds)
theorem b_beside {P : Program} {w : World} {K : PySem.W.Frag} {mg : Str → Option Value} {base : Heap} {f : Addr} {f_size_of : Addr} {d_size_of : FuncData} {p_size_of : List Str} {f_need_parting : Addr} {d_need_parting : FuncData} {p_need_parting : List Str} (T : Tx mg) (C_size_of : Fc P w K mg base "size_of" 4 f_size_of d_size_of p_size_of [.dat] .dat fn_size_of) (C_need_parting : Fc P w K mg base "need_parting" 3 f_need_parting d_need_parting p_need_parting [.dat] .dat fn_need_parting) (cdv : Value) (A : Around) (outer : List Env) (s : Shared) (H : Hp) (E : XK)
    (hgd : (A.deeper (PyProof.Rows.envOfC "beside" (defScope s_beside) s.heap.objs.size f cdv)).guards = some []) (hr : Room 4 (A.deeper (PyProof.Rows.envOfC "beside" (defScope s_beside) s.heap.objs.size f cdv))) :
    FSs (cxOf CX0 P w K mg base N_beside "beside" (defScope s_beside) f cdv A outer s H E).nox ⟨none, [], dk_beside, .dat, E0⟩ [] [] (defBody s_beside) S_beside [] := by
  have nd := nd_beside
  have hc : (cxOf CX0 P w K mg base N_beside "beside" (defScope s_beside) f cdv A outer s H E).nox.calm = true := rfl
  have hu : HU (cxOf CX0 P w K mg base N_beside "beside" (defScope s_beside) f cdv A outer s H E).nox := .of hr
  have hu1 := hu_1 hu
  have hu64 := hu_64 hu
  have hu65 := hu_65 hu
  exact (fss_cons (fs_set 2 (fr_f C_size_of hgd (hr.mono (by decide)) (fa_cons (fr_var .dat 0) fa_nil)) nd) (fss_cons (fs_expr (fb (fr_f C_need_parting hgd (hr.mono (by decide)) (fa_cons (fr_var .dat 1) fa_nil)))) (fss_cons (fs_if (Un := []) (ft_cmp ov_gt (fb (fe_binS ov_add (fe_callB cv_len T.b_len (fab_cons (fb (fr_var .dat 0)) fab_nil)) (fe_callB cv_len T.b_len (fab_cons (fb (fr_var .dat 1)) fab_nil)))) (fb (fe_gI T.g_MOST_DOORS))) (fss_one fs_no) fss_nil) (fss_one (fs_ret (fe_binS ov_add (fr_var .dat 0) (fe_callTy cv_tuple T.b_tuple (fab_cons (fb (fe_of (fo_lc [("block", 3)] hc nd (fi_t (fr_var .dat 1)) (fun _ _ _ _ _ => (fg_nm 3 nd)) (fun _ _ _ _ _ => fts_nil) (fun _ _ _ _ _ => (fe_binS ov_add (fr_var .dat 2) (fr_var .dat 3)))))) fab_nil))))))))
theorem ok_beside {P : Program} {w : World} {K : PySem.W.Frag} {mg : Str → Option Value} {base : Heap} {f : Addr} {fd : FuncData} {f_size_of : Addr} {d_size_of : FuncData} {p_size_of : List Str} {f_need_parting : Addr} {d_need_parting : FuncData} {p_need_parting : List Str} (T : Tx mg) (F : Fun K "beside" "beside" s_beside f fd) (C_size_of : Fc P w K mg base "size_of" 4 f_size_of d_size_of p_size_of [.dat] .dat fn_size_of) (C_need_parting : Fc P w K mg base "need_parting" 3 f_need_parting d_need_parting p_need_parting [.dat] .dat fn_need_parting) :
    FnV P w K mg base CX0 5 f fd ["parting", "other"] (spP K [.dat, .dat] .dat fn_beside) :=
  fn_P F sc_beside rfl (fun i kk h => match i, h with | 0, h => by cases h; rfl | 1, h => by cases h; rfl | n + 2, h => by cases h) (fun cdv A outer s H E hgd hr => b_beside T C_size_of C_need_parting cdv A outer s H E hgd hr) (.inl rfl)
abbrev s__law_mixed : Stmt := top 33
def N__law_mixed : List Str := ["_law_cell", "_law_n", "_law_blend"]
theorem nd__law_mixed : N__law_mixed.Nodup := by decide +kernel
theorem sc__law_mixed : FnScope N__law_mixed ["_law_cell", "_law_n"] (defScope s__law_mixed) := ⟨rfl, rfl, rfl, nd__law_mixed, rfl, by decide +kernel, by decide +kernel⟩
def dk__law_mixed : Nat → Kd
  | _ => .dat
def S__law_mixed : SE → M Ctl := (sq (sSet 2 (e2 addD (e2 addD (e2 modD (eL (one1 intD) (aC (e2 mulD (e2 mulD (eVar 0) (e2 addD (eC (.int 1)) (e2 mulD (eC (.int 2)) (eVar 1)))) (eC (.int 48271))) aN)) (eC (.int 2147483647))) (e2 mulD (e2 mulD (eC (.int 7919)) (eVar 1)) (eVar 1))) (e2 mulD (eC (.int 104729)) (eVar 1)))) (sRet (e2 fdivD (e2 modD (eL (one1 intD) (aC (e2 mulD (eVar 2) (eC (.int 69621))) aN)) (eC (.int 2147483629))) (eC (.int 7)))))
def fn__law_mixed : List D → M D := fun ds => runB S__law_mixed (env0 3 ds)
theorem b__law_mixed {P : Program} {w : World} {K : PySem.W.Frag} {mg : Str → Option Value} {base : Heap} {f : Addr}  (T : Tx mg)  (cdv : Value) (A : Around) (outer : List Env) (s : Shared) (H : Hp) (E : XK)
    (hgd : (A.deeper (PyProof.Rows.envOfC "_law_mixed" (defScope s__law_mixed) s.heap.objs.size f cdv)).guards = some []) (hr : Room 0 (A.deeper (PyProof.Rows.envOfC "_law_mixed" (defScope s__law_mixed) s.heap.objs.size f cdv))) :
    FSs (cxOf CX0 P w K mg base N__law_mixed "_law_mixed" (defScope s__law_mixed) f cdv A outer s H E).nox ⟨none, [], dk__law_mixed, .dat, E0⟩ [] [] (defBody s__law_mixed) S__law_mixed [] := by
  have nd := nd__law_mixed
  have hc : (cxOf CX0 P w K mg base N__law_mixed "_law_mixed" (defScope s__law_mixed) f cdv A outer s H E).nox.calm = true := rfl
  have hu : HU (cxOf CX0 P w K mg base N__law_mixed "_law_mixed" (defScope s__law_mixed) f cdv A outer s H E).nox := .of hr
  have hu1 := hu_1 hu
  have hu64 := hu_64 hu
  have hu65 := hu_65 hu
  exact (fss_cons (fs_set 2 (fe_binS ov_add (fe_binS ov_add (fe_bin ov_mod (fb (fe_callTy cv_int T.b_int (fab_cons (fb (fe_bin ov_mul (fb (fe_bin ov_mul (fb (fr_var .dat 0)) (fb (fe_binS ov_add fe_int (fe_bin ov_mul (fb fe_int) (fb (fr_var .dat 1))))))) (fb fe_int))) fab_nil))) (fb fe_int)) (fe_bin ov_mul (fb (fe_bin ov_mul (fb fe_int) (fb (fr_var .dat 1)))) (fb (fr_var .dat 1)))) (fe_bin ov_mul (fb fe_int) (fb (fr_var .dat 1)))) nd) (fss_one (fs_ret (fe_bin ov_fdiv (fb (fe_bin ov_mod (fb (fe_callTy cv_int T.b_int (fab_cons (fb (fe_bin ov_mul (fb (fr_var .dat 2)) (fb fe_int))) fab_nil))) (fb fe_int))) (fb fe_int)))))
theorem ok__law_mixed {P : Program} {w : World} {K : PySem.W.Frag} {mg : Str → Option Value} {base : Heap} {f : Addr} {fd : FuncData}  (T : Tx mg) (F : Fun K "_law_mixed" "_law_mixed" s__law_mixed f fd)  :
    FnV P w K mg base CX0 1 f fd ["_law_cell", "_law_n"] (spP K [.dat, .dat] .dat fn__law_mixed) :=
  fn_P F sc__law_mixed rfl (fun i kk h => match i, h with | 0, h => by cases h; rfl | 1, h => by cases h; rfl | n + 2, h => by cases h) (fun cdv A outer s H E hgd hr => b__law_mixed T  cdv A outer s H E hgd hr) (.inl rfl)
abbrev s__law_folded : Stmt := top 34
def N__law_folded : List Str := ["_law_script", "_law_found", "_law_n", "_law_cell"]
theorem nd__law_folded : N__law_folded.Nodup := by decide +kernel
theorem sc__law_folded : FnScope N__law_folded ["_law_script"] (defScope s__law_folded) := ⟨rfl, rfl, rfl, nd__law_folded, rfl, by decide +kernel, by decide +kernel⟩
def dk__law_folded : Nat → Kd
  | _ => .dat
def S__law_folded : SE → M Ctl := (sq (sSetO 1 (lcF (iA rng1 (aC (eC (.int 64)) aN)) (gNm 2) tYs (e2 addD (eC (.int 17)) (eVar 2)) [2])) (sq (sFor (iA (enB true) (aC (eVar 0) aN)) (gTp 2 (gC (gNm 2) (gC (gNm 3) gN0))) (sSetIx 1 (e2 modD (eL (one1 intD) (aC (eVar 2) aN)) (eC (.int 64))) (e2 modD (eL (one1 intD) (aC (e2 addD (e2 mulD (e2 ixD (eVar 1) (e2 modD (eL (one1 intD) (aC (eVar 2) aN)) (eC (.int 64)))) (eC (.int 48271))) (eVar 3)) aN)) (eC (.int 2147483647))))) (sq (sFor (iA rng2 (aC (eC (.int 1)) (aC (eC (.int 64)) aN))) (gNm 2) (sSetIx 1 (eVar 2) (e2 modD (eL (one1 intD) (aC (e2 addD (e2 ixD (eVar 1) (eVar 2)) (e2 mulD (e2 ixD (eVar 1) (e2 subD (eVar 2) (eC (.int 1)))) (eC (.int 16807)))) aN)) (eC (.int 2147483647))))) (sRet (eVar 1)))))
def fn__law_folded : List D → M D := fun ds => runB S__law_folded (env0 4 ds)
theorem b__law_folded {P : Program} {w : World} {K : PySem.W.Frag} {mg : Str → Option Value} {base : Heap} {f : Addr}  (T : Tx mg)  (cdv : Value) (A : Around) (outer : List Env) (s : Shared) (H : Hp) (E : XK)
    (hgd : (A.deeper (PyProof.Rows.envOfC "_law_folded" (defScope s__law_folded) s.heap.objs.size f cdv)).guards = some []) (hr : Room 0 (A.deeper (PyProof.Rows.envOfC "_law_folded" (defScope s__law_folded) s.heap.objs.size f cdv))) :
    FSs (cxOf CX0 P w K mg base N__law_folded "_law_folded" (defScope s__law_folded) f cdv A outer s H E).nox ⟨none, [], dk__law_folded, .dat, E0⟩ [] [] (defBody s__law_folded) S__law_folded [1] := by
  have nd := nd__law_folded
  have hc : (cxOf CX0 P w K mg base N__law_folded "_law_folded" (defScope s__law_folded) f cdv A outer s H E).nox.calm = true := rfl
  have hu : HU (cxOf CX0 P w K mg base N__law_folded "_law_folded" (defScope s__law_folded) f cdv A outer s H E).nox := .of hr
  have hu1 := hu_1 hu
  have hu64 := hu_64 hu
  have hu65 := hu_65 hu
  exact (fss_cons (fs_setLc 1 [("_law_n", 2)] hc nd (fi_rng1 T.b_range (fa_cons fe_int fa_nil)) (fun _ _ _ _ _ => (fg_nm 2 nd)) (fun _ _ _ _ _ => fts_nil) (fun _ _ _ _ _ => (fe_binS ov_add fe_int (fr_var .dat 2))) (sw_true rfl rfl rfl rfl)) (fss_cons (fs_for PassesOwn.never hc (fi_enum true T.b_enumerate (fa_cons (fr_var .dat 0) fa_nil)) (fg_tup (n := 2) hc (fg_cons (fg_nm 2 nd) (fg_cons (fg_nm 3 nd) fg_nil))) (fss_one (fs_setIx 1 (fe_bin ov_mod (fb (fe_callTy cv_int T.b_int (fab_cons (fb (fr_var .dat 2)) fab_nil))) (fb fe_int)) (fe_bin ov_mod (fb (fe_callTy cv_int T.b_int (fab_cons (fb (fe_binS ov_add (fe_bin ov_mul (fb (fe_ix (fb_own 1) (fe_bin ov_mod (fb (fe_callTy cv_int T.b_int (fab_cons (fb (fr_var .dat 2)) fab_nil))) (fb fe_int)))) (fb fe_int)) (fr_var .dat 3))) fab_nil))) (fb fe_int))))) (fss_cons (fs_for PassesOwn.never hc (fi_rng2 T.b_range (fa_cons fe_int (fa_cons fe_int fa_nil))) (fg_nm 2 nd) (fss_one (fs_setIx 1 (fr_var .dat 2) (fe_bin ov_mod (fb (fe_callTy cv_int T.b_int (fab_cons (fb (fe_binS ov_add (fe_ix (fb_own 1) (fr_var .dat 2)) (fe_bin ov_mul (fb (fe_ix (fb_own 1) (fe_bin ov_sub (fb (fr_var .dat 2)) (fb fe_int)))) (fb fe_int)))) fab_nil))) (fb fe_int))))) (fss_one (fs_fz [] (fs_ret (fr_var .dat 1)))))))
theorem ok__law_folded {P : Program} {w : World} {K : PySem.W.Frag} {mg : Str → Option Value} {base : Heap} {f : Addr} {fd : FuncData}  (T : Tx mg) (F : Fun K "_law_folded" "_law_folded" s__law_folded f fd)  :
    FnV P w K mg base CX0 1 f fd ["_law_script"] (spP K [.dat] .dat fn__law_folded) :=
  fn_P F sc__law_folded rfl (fun i kk h => match i, h with | 0, h => by cases h; rfl | n + 1, h => by cases h) (fun cdv A outer s H E hgd hr => b__law_folded T  cdv A outer s H E hgd hr) (.inl rfl)
abbrev s__law_numbered : Stmt := top 39
def N__law_numbered : List Str := ["_law_labels", "_law_label", "_law_spots", "_law_found"]
theorem nd__law_numbered : N__law_numbered.Nodup := by decide +kernel
theorem sc__law_numbered : FnScope N__law_numbered ["_law_labels"] (defScope s__law_numbered) := ⟨rfl, rfl, rfl, nd__law_numbered, rfl, by decide +kernel, by decide +kernel⟩
def dk__law_numbered : Nat → Kd
  | 2 => .dic
  | _ => .dat
def S__law_numbered : SE → M Ctl := (sq (sParO 2 3 (eC (.dict [])) (eL mkL aN)) (sq (sFor (iL seqL (eVar 0)) (gNm 1) (sq (sIf (eDin true hasK 2 (eVar 1)) (sDput putKq 2 (eVar 1) (eDlen 2)) sNx) (sMeth 3 appD (eDgK 2 (eVar 1))))) (sRet (eL (one1 fun d => (seqL d).map .tuple) (aC (eVar 3) aN)))))
def fn__law_numbered : List D → M D := fun ds => runB S__law_numbered (env0 4 ds)
theorem b__law_numbered {P : Program} {w : World} {K : PySem.W.Frag} {mg : Str → Option Value} {base : Heap} {f : Addr}  (T : Tx mg)  (cdv : Value) (A : Around) (outer : List Env) (s : Shared) (H : Hp) (E : XK)
    (hgd : (A.deeper (PyProof.Rows.envOfC "_law_numbered" (defScope s__law_numbered) s.heap.objs.size f cdv)).guards = some []) (hr : Room 0 (A.deeper (PyProof.Rows.envOfC "_law_numbered" (defScope s__law_numbered) s.heap.objs.size f cdv))) :
    FSs (cxOf CX0 P w K mg base N__law_numbered "_law_numbered" (defScope s__law_numbered) f cdv A outer s H E).nox ⟨none, [], dk__law_numbered, .nd, E0⟩ [] [] (defBody s__law_numbered) S__law_numbered [2, 3] := by
  have nd := nd__law_numbered
  have hc : (cxOf CX0 P w K mg base N__law_numbered "_law_numbered" (defScope s__law_numbered) f cdv A outer s H E).nox.calm = true := rfl
  have hu : HU (cxOf CX0 P w K mg base N__law_numbered "_law_numbered" (defScope s__law_numbered) f cdv A outer s H E).nox := .of hr
  have hu1 := hu_1 hu
  have hu64 := hu_64 hu
  have hu65 := hu_65 hu
  exact (fss_cons (fs_wk (Un := [2, 3]) (fs_parO 2 3 hc nd fo_dicK (fo_lst (n := 0) fa_nil))) (fss_cons (fs_for PassesOwn.never hc (fi_l (fr_var .dat 0)) (fg_nm 1 nd) (fss_cons (fs_if (Un := [2, 3]) (ft_dninK 2 hu1 (fr_var .dat 1)) (fss_one (fs_dputK 2 hu1 (fr_var .dat 1) (fe_lenK 2 T.b_len))) fss_nil) (fss_one (fs_append 3 (fe_dgK 2 hu1 (fr_var .dat 1)))))) (fss_one (fs_ret (fr_tupN T.b_tuple (fab_cons (fb_own 3) fab_nil))))))
theorem ok__law_numbered {P : Program} {w : World} {K : PySem.W.Frag} {mg : Str → Option Value} {base : Heap} {f : Addr} {fd : FuncData}  (T : Tx mg) (F : Fun K "_law_numbered" "_law_numbered" s__law_numbered f fd)  :
    FnV P w K mg base CX0 1 f fd ["_law_labels"] (spP K [.dat] .nd fn__law_numbered) :=
  fn_P F sc__law_numbered rfl (fun i kk h => match i, h with | 0, h => by cases h; rfl | n + 1, h => by cases h) (fun cdv A outer s H E hgd hr => b__law_numbered T  cdv A outer s H E hgd hr) (.inr (by repeat (first | exact nonx_ret | refine nonx_sq ?_)))
def dk__law_numberedT : Nat → Kd
  | 0 => .pl
  | 1 => .pl
  | 2 => .dit
  | _ => .dat
def S__law_numberedT : SE → M Ctl := (sq (sParO 2 3 (eC (.dict [])) (eL mkL aN)) (sq (sFor (iL seqL (eVar 0)) (gNm 1) (sq (sIf (eDin true hasT 2 (eVar 1)) (sDput putTq 2 (eVar 1) (eDlen 2)) sNx) (sMeth 3 appD (eDgT 2 (eVar 1))))) (sRet (eL (one1 fun d => (seqL d).map .tuple) (aC (eVar 3) aN)))))
def fn__law_numberedT : List D → M D := fun ds => runB S__law_numberedT (env0 4 ds)
theorem b__law_numberedT {P : Program} {w : World} {K : PySem.W.Frag} {mg : Str → Option Value} {base : Heap} {f : Addr}  (T : Tx mg)  (cdv : Value) (A : Around) (outer : List Env) (s : Shared) (H : Hp) (E : XK)
    (hgd : (A.deeper (PyProof.Rows.envOfC "_law_numbered" (defScope s__law_numbered) s.heap.objs.size f cdv)).guards = some []) (hr : Room 0 (A.deeper (PyProof.Rows.envOfC "_law_numbered" (defScope s__law_numbered) s.heap.objs.size f cdv))) :
    FSs (cxOf CX0 P w K mg base N__law_numbered "_law_numbered" (defScope s__law_numbered) f cdv A outer s H E).nox ⟨none, [], dk__law_numberedT, .nd, E0⟩ [] [] (defBody s__law_numbered) S__law_numberedT [2, 3] := by
  have nd := nd__law_numbered
  have hc : (cxOf CX0 P w K mg base N__law_numbered "_law_numbered" (defScope s__law_numbered) f cdv A outer s H E).nox.calm = true := rfl
  have hu : HU (cxOf CX0 P w K mg base N__law_numbered "_law_numbered" (defScope s__law_numbered) f cdv A outer s H E).nox := .of hr
  have hu1 := hu_1 hu
  have hu64 := hu_64 hu
  have hu65 := hu_65 hu
  exact (fss_cons (fs_wk (Un := [2, 3]) (fs_parO 2 3 hc nd fo_dicT (fo_lst (n := 0) fa_nil))) (fss_cons (fs_for PassesOwn.never hc (fi_l (fr_var .pl 0)) (fg_nm 1 nd) (fss_cons (fs_if (Un := [2, 3]) (ft_dninT 2 hu1 (fr_var .pl 1)) (fss_one (fs_dputT 2 hu1 (fr_var .pl 1) (fe_lenT 2 T.b_len))) fss_nil) (fss_one (fs_append 3 (fe_dgT 2 hu1 (fr_var .pl 1)))))) (fss_one (fs_ret (fr_tupN T.b_tuple (fab_cons (fb_own 3) fab_nil))))))
theorem ok__law_numberedT {P : Program} {w : World} {K : PySem.W.Frag} {mg : Str → Option Value} {base : Heap} {f : Addr} {fd : FuncData}  (T : Tx mg) (F : Fun K "_law_numbered" "_law_numbered" s__law_numbered f fd)  :
    FnV P w K mg base CX0 1 f fd ["_law_labels"] (spP K [.pl] .nd fn__law_numberedT) :=
  fn_P F sc__law_numbered rfl (fun i kk h => match i, h with | 0, h => by cases h; rfl | n + 1, h => by cases h) (fun cdv A outer s H E hgd hr => b__law_numberedT T  cdv A outer s H E hgd hr) (.inr (by repeat (first | exact nonx_ret | refine nonx_sq ?_)))
abbrev s__law_like : Stmt := top 37
def N__law_like : List Str := ["_law_got", "_law_due"]
theorem nd__law_like : N__law_like.Nodup := by decide +kernel
theorem sc__law_like : FnScope N__law_like ["_law_got", "_law_due"] (defScope s__law_like) := ⟨rfl, rfl, rfl, nd__law_like, rfl, by decide +kernel, by decide +kernel⟩
def dk__law_like : Nat → Kd
  | _ => .dat
def S__law_like : SE → M Ctl := (sRet (e2 eqD (eL (one1 reprD) (aC (eVar 0) aN)) (eL (one1 reprD) (aC (eVar 1) aN))))
def fn__law_like : List D → M D := fun ds => runB S__law_like (env0 2 ds)
theorem b__law_like {P : Program} {w : World} {K : PySem.W.Frag} {mg : Str → Option Value} {base : Heap} {f : Addr}  (T : Tx mg)  (cdv : Value) (A : Around) (outer : List Env) (s : Shared) (H : Hp) (E : XK)
    (hgd : (A.deeper (PyProof.Rows.envOfC "_law_like" (defScope s__law_like) s.heap.objs.size f cdv)).guards = some []) (hr : Room 0 (A.deeper (PyProof.Rows.envOfC "_law_like" (defScope s__law_like) s.heap.objs.size f cdv))) :
    FSs (cxOf CX0 P w K mg base N__law_like "_law_like" (defScope s__law_like) f cdv A outer s H E).nox ⟨none, [], dk__law_like, .dat, E0⟩ [] [] (defBody s__law_like) S__law_like [] := by
  have nd := nd__law_like
  have hc : (cxOf CX0 P w K mg base N__law_like "_law_like" (defScope s__law_like) f cdv A outer s H E).nox.calm = true := rfl
  have hu : HU (cxOf CX0 P w K mg base N__law_like "_law_like" (defScope s__law_like) f cdv A outer s H E).nox := .of hr
  have hu1 := hu_1 hu
  have hu64 := hu_64 hu
  have hu65 := hu_65 hu
  exact (fss_one (fs_ret (fe_cmp (ov_eq hu64) (fb (fe_callB (cv_repr hu hgd) T.b_repr (fab_cons (fb (fr_var .dat 0)) fab_nil))) (fb (fe_callB (cv_repr hu hgd) T.b_repr (fab_cons (fb (fr_var .dat 1)) fab_nil))))))
theorem ok__law_like {P : Program} {w : World} {K : PySem.W.Frag} {mg : Str → Option Value} {base : Heap} {f : Addr} {fd : FuncData}  (T : Tx mg) (F : Fun K "_law_like" "_law_like" s__law_like f fd)  :
    FnV P w K mg base CX0 1 f fd ["_law_got", "_law_due"] (spP K [.dat, .dat] .dat fn__law_like) :=
  fn_P F sc__law_like rfl (fun i kk h => match i, h with | 0, h => by cases h; rfl | 1, h => by cases h; rfl | n + 2, h => by cases h) (fun cdv A outer s H E hgd hr => b__law_like T  cdv A outer s H E hgd hr) (.inl rfl)
abbrev s__law_partings : Stmt := top 40
def N__law_partings : List Str := ["_law_many", "_law_rows", "_law_turn", "_law_longer", "_law_row", "_law_block"]
theorem nd__law_partings : N__law_partings.Nodup := by decide +kernel
theorem sc__law_partings : FnScope N__law_partings ["_law_many"] (defScope s__law_partings) := ⟨rfl, rfl, rfl, nd__law_partings, rfl, by decide +kernel, by decide +kernel⟩
def dk__law_partings : Nat → Kd
  | _ => .dat
def S__law_partings : SE → M Ctl := (sq (sSet 1 (eL mkL (aC (eL mkT (aC (eC (.int 0)) aN)) aN))) (sq (sFor (iA rng1 (aC (e2 subD (eVar 0) (eC (.int 1))) aN)) (gNm 2) (sq (sSetO 3 (eL mkL aN)) (sq (sFor (iL seqL (eVar 1)) (gNm 4) (sMeth 3 extD (lcF (iA rng1 (aC (e2 addD (eL (one1 maxV) (aC (eVar 4) aN)) (eC (.int 2))) aN)) (gNm 5) tYs (e2 addD (eVar 4) (eL mkT (aC (eVar 5) aN))) [5]))) (sSet 1 (eVar 3))))) (sRet (eVar 1))))
def fn__law_partings : List D → M D := fun ds => runB S__law_partings (env0 6 ds)
theorem b__law_partings {P : Program} {w : World} {K : PySem.W.Frag} {mg : Str → Option Value} {base : Heap} {f : Addr}  (T : Tx mg)  (cdv : Value) (A : Around) (outer : List Env) (s : Shared) (H : Hp) (E : XK)
    (hgd : (A.deeper (PyProof.Rows.envOfC "_law_partings" (defScope s__law_partings) s.heap.objs.size f cdv)).guards = some []) (hr : Room 0 (A.deeper (PyProof.Rows.envOfC "_law_partings" (defScope s__law_partings) s.heap.objs.size f cdv))) :
    FSs (cxOf CX0 P w K mg base N__law_partings "_law_partings" (defScope s__law_partings) f cdv A outer s H E).nox ⟨none, [], dk__law_partings, .dat, E0⟩ [] [] (defBody s__law_partings) S__law_partings [] := by
  have nd := nd__law_partings
  have hc : (cxOf CX0 P w K mg base N__law_partings "_law_partings" (defScope s__law_partings) f cdv A outer s H E).nox.calm = true := rfl
  have hu : HU (cxOf CX0 P w K mg base N__law_partings "_law_partings" (defScope s__law_partings) f cdv A outer s H E).nox := .of hr
  have hu1 := hu_1 hu
  have hu64 := hu_64 hu
  have hu65 := hu_65 hu
  exact (fss_cons (fs_set 1 (fe_of (fo_lst (n := 1) (fa_cons (fe_tup (n := 1) (fa_cons fe_int fa_nil)) fa_nil))) nd) (fss_cons (fs_for PassesOwn.never hc (fi_rng1 T.b_range (fa_cons (fe_bin ov_sub (fb (fr_var .dat 0)) (fb fe_int)) fa_nil)) (fg_nm 2 nd) (fss_cons (fs_setO 3 (fo_lst (n := 0) fa_nil) nd) (fss_cons (fs_for PassesOwn.never hc (fi_l (fr_var .dat 1)) (fg_nm 4 nd) (fss_one (fs_extend 3 (fo_lc [("_law_block", 5)] hc nd (fi_rng1 T.b_range (fa_cons (fe_binS ov_add (fe_callB (cv_max1 hu) T.b_max (fab_cons (fb (fr_var .dat 4)) fab_nil)) fe_int) fa_nil)) (fun _ _ _ _ _ => (fg_nm 5 nd)) (fun _ _ _ _ _ => fts_nil) (fun _ _ _ _ _ => (fe_binS ov_add (fr_var .dat 4) (fe_tup (n := 1) (fa_cons (fr_var .dat 5) fa_nil)))))))) (fss_one (fs_fz [] (fs_set 1 (fr_var .dat 3) nd)))))) (fss_one (fs_ret (fr_var .dat 1)))))
theorem ok__law_partings {P : Program} {w : World} {K : PySem.W.Frag} {mg : Str → Option Value} {base : Heap} {f : Addr} {fd : FuncData}  (T : Tx mg) (F : Fun K "_law_partings" "_law_partings" s__law_partings f fd)  :
    FnV P w K mg base CX0 1 f fd ["_law_many"] (spP K [.dat] .dat fn__law_partings) :=
  fn_P F sc__law_partings rfl (fun i kk h => match i, h with | 0, h => by cases h; rfl | n + 1, h => by cases h) (fun cdv A outer s H E hgd hr => b__law_partings T  cdv A outer s H E hgd hr) (.inl rfl)
abbrev s__law_is_finer : Stmt := top 44
def N__law_is_finer : List Str := ["_law_one", "_law_two", "_law_at", "_law_spot"]
theorem nd__law_is_finer : N__law_is_finer.Nodup := by decide +kernel
theorem sc__law_is_finer : FnScope N__law_is_finer ["_law_one", "_law_two"] (defScope s__law_is_finer) := ⟨rfl, rfl, rfl, nd__law_is_finer, rfl, by decide +kernel, by decide +kernel⟩
def dk__law_is_finer : Nat → Kd
  | _ => .dat
def S__law_is_finer : SE → M Ctl := (sq (sFor (iA rng1 (aC (eL (one1 lenD) (aC (eVar 0) aN)) aN)) (gNm 2) (sIf (tV asB (e2 neD (lcF (iA rng1 (aC (eVar 2) aN)) (gNm 3) (tAnd2 (tV asB (e2 eqD (e2 ixD (eVar 0) (eVar 3)) (e2 ixD (eVar 0) (eVar 2)))) (tV asB (e2 neD (e2 ixD (eVar 1) (eVar 3)) (e2 ixD (eVar 1) (eVar 2))))) (eC (.int 1)) [3]) (eL mkL aN))) (sRet (eC (.bool false))) sNx)) (sRet (eC (.bool true))))
def fn__law_is_finer : List D → M D := fun ds => runB S__law_is_finer (env0 4 ds)
theorem b__law_is_finer {P : Program} {w : World} {K : PySem.W.Frag} {mg : Str → Option Value} {base : Heap} {f : Addr}  (T : Tx mg)  (cdv : Value) (A : Around) (outer : List Env) (s : Shared) (H : Hp) (E : XK)
    (hgd : (A.deeper (PyProof.Rows.envOfC "_law_is_finer" (defScope s__law_is_finer) s.heap.objs.size f cdv)).guards = some []) (hr : Room 0 (A.deeper (PyProof.Rows.envOfC "_law_is_finer" (defScope s__law_is_finer) s.heap.objs.size f cdv))) :
    FSs (cxOf CX0 P w K mg base N__law_is_finer "_law_is_finer" (defScope s__law_is_finer) f cdv A outer s H E).nox ⟨none, [], dk__law_is_finer, .dat, E0⟩ [] [] (defBody s__law_is_finer) S__law_is_finer [] := by
  have nd := nd__law_is_finer
  have hc : (cxOf CX0 P w K mg base N__law_is_finer "_law_is_finer" (defScope s__law_is_finer) f cdv A outer s H E).nox.calm = true := rfl
  have hu : HU (cxOf CX0 P w K mg base N__law_is_finer "_law_is_finer" (defScope s__law_is_finer) f cdv A outer s H E).nox := .of hr
  have hu1 := hu_1 hu
  have hu64 := hu_64 hu
  have hu65 := hu_65 hu
  exact (fss_cons (fs_for PassesOwn.never hc (fi_rng1 T.b_range (fa_cons (fe_callB cv_len T.b_len (fab_cons (fb (fr_var .dat 0)) fab_nil)) fa_nil)) (fg_nm 2 nd) (fss_one (fs_if (Un := []) (ft_cmp (ov_ne hu64) (fb (fe_of (fo_lc [("_law_spot", 3)] hc nd (fi_rng1 T.b_range (fa_cons (fr_var .dat 2) fa_nil)) (fun _ _ _ _ _ => (fg_nm 3 nd)) (fun _ _ _ _ _ => (fts_one (ft_w (fw_and (ft_cmp (ov_eq hu64) (fb (fe_ix (fb (fr_var .dat 0)) (fr_var .dat 3))) (fb (fe_ix (fb (fr_var .dat 0)) (fr_var .dat 2)))) (fw_and1 (ft_cmp (ov_ne hu64) (fb (fe_ix (fb (fr_var .dat 1)) (fr_var .dat 3))) (fb (fe_ix (fb (fr_var .dat 1)) (fr_var .dat 2))))))))) (fun _ _ _ _ _ => fe_int)))) (fb (fe_of (fo_lst (n := 0) fa_nil)))) (fss_one (fs_ret fe_bl)) fss_nil))) (fss_one (fs_ret fe_bl)))
theorem ok__law_is_finer {P : Program} {w : World} {K : PySem.W.Frag} {mg : Str → Option Value} {base : Heap} {f : Addr} {fd : FuncData}  (T : Tx mg) (F : Fun K "_law_is_finer" "_law_is_finer" s__law_is_finer f fd)  :
    FnV P w K mg base CX0 1 f fd ["_law_one", "_law_two"] (spP K [.dat, .dat] .dat fn__law_is_finer) :=
  fn_P F sc__law_is_finer rfl (fun i kk h => match i, h with | 0, h => by cases h; rfl | 1, h => by cases h; rfl | n + 2, h => by cases h) (fun cdv A outer s H E hgd hr => b__law_is_finer T  cdv A outer s H E hgd hr) (.inl rfl)
abbrev s__law_hung : Stmt := top 42
def N__law_hung : List Str := ["_law_parting", "_law_other", "_law_labels", "_law_at", "_law_shift", "_law_closing", "_law_one", "_law_two", "_law_label"]
theorem nd__law_hung : N__law_hung.Nodup := by decide +kernel
theorem sc__law_hung : FnScope N__law_hung ["_law_parting", "_law_other"] (defScope s__law_hung) := ⟨rfl, rfl, rfl, nd__law_hung, rfl, by decide +kernel, by decide +kernel⟩
def dk__law_hung : Nat → Kd
  | _ => .dat
def S__law_hung : SE → M Ctl := (sq (sPar 4 5 (aC (e2 addD (eL (one1 maxV) (aC (eVar 0) aN)) (eC (.int 1))) (aC (eC .none) aN))) (sq (sSet 2 (e1 lrngD (e2 addD (e2 addD (eVar 4) (eL (one1 maxV) (aC (eVar 1) aN))) (eC (.int 1))))) (sq (sFor (iA rng1 (aC (eL (one1 lenD) (aC (eVar 0) aN)) aN)) (gNm 3) (sq (sAsg (gTp 2 (gC (gNm 6) (gC (gNm 7) gN0))) (eL mkT (aC (e2 ixD (eVar 2) (e2 ixD (eVar 0) (eVar 3))) (aC (e2 ixD (eVar 2) (e2 addD (eVar 4) (e2 ixD (eVar 1) (eVar 3)))) aN)))) (sq (sIf (tAnd2 (tV asB (e2 eqD (eVar 6) (eVar 7))) (tV asB (e2 isN (eVar 5) (eC .none)))) (sSet 5 (eVar 3)) sNx) (sIf (tV asB (e2 neD (eVar 6) (eVar 7))) (sSetO 2 (lcF (iL seqL (eVar 2)) (gNm 8) tYs (eIf (tV asB (e2 eqD (eVar 8) (eVar 7))) (eVar 6) (eVar 8)) [8])) sNx)))) (sRet (eL mkT (aC (eVar 2) (aC (eVar 5) aN)))))))
def fn__law_hung : List D → M D := fun ds => runB S__law_hung (env0 9 ds)
theorem b__law_hung {P : Program} {w : World} {K : PySem.W.Frag} {mg : Str → Option Value} {base : Heap} {f : Addr}  (T : Tx mg)  (cdv : Value) (A : Around) (outer : List Env) (s : Shared) (H : Hp) (E : XK)
    (hgd : (A.deeper (PyProof.Rows.envOfC "_law_hung" (defScope s__law_hung) s.heap.objs.size f cdv)).guards = some []) (hr : Room 0 (A.deeper (PyProof.Rows.envOfC "_law_hung" (defScope s__law_hung) s.heap.objs.size f cdv))) :
    FSs (cxOf CX0 P w K mg base N__law_hung "_law_hung" (defScope s__law_hung) f cdv A outer s H E).nox ⟨none, [], dk__law_hung, .dat, E0⟩ [] [] (defBody s__law_hung) S__law_hung [] := by
  have nd := nd__law_hung
  have hc : (cxOf CX0 P w K mg base N__law_hung "_law_hung" (defScope s__law_hung) f cdv A outer s H E).nox.calm = true := rfl
  have hu : HU (cxOf CX0 P w K mg base N__law_hung "_law_hung" (defScope s__law_hung) f cdv A outer s H E).nox := .of hr
  have hu1 := hu_1 hu
  have hu64 := hu_64 hu
  have hu65 := hu_65 hu
  exact (fss_cons (fs_par 4 5 hc nd (fa_cons (fe_binS ov_add (fe_callB (cv_max1 hu) T.b_max (fab_cons (fb (fr_var .dat 0)) fab_nil)) fe_int) (fa_cons fe_non fa_nil))) (fss_cons (fs_set 2 (fe_of (fo_lrng T.b_list T.b_range (fe_binS ov_add (fe_binS ov_add (fr_var .dat 4) (fe_callB (cv_max1 hu) T.b_max (fab_cons (fb (fr_var .dat 1)) fab_nil))) fe_int))) nd) (fss_cons (fs_for PassesOwn.never hc (fi_rng1 T.b_range (fa_cons (fe_callB cv_len T.b_len (fab_cons (fb (fr_var .dat 0)) fab_nil)) fa_nil)) (fg_nm 3 nd) (fss_cons (fs_asg (fe_tup (n := 2) (fa_cons (fe_ix (fb (fr_var .dat 2)) (fe_ix (fb (fr_var .dat 0)) (fr_var .dat 3))) (fa_cons (fe_ix (fb (fr_var .dat 2)) (fe_binS ov_add (fr_var .dat 4) (fe_ix (fb (fr_var .dat 1)) (fr_var .dat 3)))) fa_nil))) (fg_tup (n := 2) hc (fg_cons (fg_nm 6 nd) (fg_cons (fg_nm 7 nd) fg_nil)))) (fss_cons (fs_if (Un := []) (ft_w (fw_and (ft_cmp (ov_eq hu64) (fb (fr_var .dat 6)) (fb (fr_var .dat 7))) (fw_and1 (ft_cmp ov_isN (fb (fr_var .dat 5)) (fb fe_non))))) (fss_one (fs_set 5 (fr_var .dat 3) nd)) fss_nil) (fss_one (fs_if (Un := []) (ft_cmp (ov_ne hu64) (fb (fr_var .dat 6)) (fb (fr_var .dat 7))) (fss_one (fs_wk (Un := []) (fs_setLc 2 [("_law_label", 8)] hc nd (fi_l (fr_var .dat 2)) (fun _ _ _ _ _ => (fg_nm 8 nd)) (fun _ _ _ _ _ => fts_nil) (fun _ _ _ _ _ => (fr_if (ft_cmp (ov_eq hu64) (fb (fr_var .dat 8)) (fb (fr_var .dat 7))) (fr_var .dat 6) (fr_var .dat 8))) (sw_true rfl rfl rfl rfl)))) fss_nil))))) (fss_one (fs_ret (fe_tup (n := 2) (fa_cons (fr_var .dat 2) (fa_cons (fr_var .dat 5) fa_nil))))))))
theorem ok__law_hung {P : Program} {w : World} {K : PySem.W.Frag} {mg : Str → Option Value} {base : Heap} {f : Addr} {fd : FuncData}  (T : Tx mg) (F : Fun K "_law_hung" "_law_hung" s__law_hung f fd)  :
    FnV P w K mg base CX0 1 f fd ["_law_parting", "_law_other"] (spP K [.dat, .dat] .dat fn__law_hung) :=
  fn_P F sc__law_hung rfl (fun i kk h => match i, h with | 0, h => by cases h; rfl | 1, h => by cases h; rfl | n + 2, h => by cases h) (fun cdv A outer s H E hgd hr => b__law_hung T  cdv A outer s H E hgd hr) (.inl rfl)
abbrev s__law_any_parting : Stmt := top 41
def N__law_any_parting : List Str := ["_law_m", "_law_many", "_law_cap", "_law_turn"]
theorem nd__law_any_parting : N__law_any_parting.Nodup := by decide +kernel
theorem sc__law_any_parting : FnScope N__law_any_parting ["_law_m", "_law_many"] (defScope s__law_any_parting) := ⟨rfl, rfl, rfl, nd__law_any_parting, rfl, by decide +kernel, by decide +kernel⟩
def dk__law_any_parting : Nat → Kd
  | _ => .dat
def S__law_any_parting : SE → M Ctl := (sq (sSet 2 (e2 addD (eC (.int 1)) (eCallM fn__law_draw (aC (eVar 1) aN)))) (sRet (eCall fn__law_numbered (aC (lcF (iA rng1 (aC (eVar 1) aN)) (gNm 3) tYs (eCallM fn__law_draw (aC (eVar 2) aN)) [3]) aN))))
def fn__law_any_parting : List D → M D := fun ds => runB S__law_any_parting (envM 4 ds)
theorem b__law_any_parting {P : Program} {w : World} {K : PySem.W.Frag} {mg : Str → Option Value} {base : Heap} {f : Addr} {f__law_draw : Addr} {d__law_draw : FuncData} {p__law_draw : List Str} {f__law_numbered : Addr} {d__law_numbered : FuncData} {p__law_numbered : List Str} (T : Tx mg) (C__law_draw : FcM P w K mg base "_law_draw" 3 f__law_draw d__law_draw p__law_draw [.dat] .dat fn__law_draw) (C__law_numbered : Fc P w K mg base "_law_numbered" 1 f__law_numbered d__law_numbered p__law_numbered [.dat] .nd fn__law_numbered) (W : Wd) (cdv : Value) (A : Around) (outer : List Env) (s : Shared) (H : Hp) (E : XK)
    (hgd : (A.deeper (PyProof.Rows.envOfC "_law_any_parting" (defScope s__law_any_parting) s.heap.objs.size f cdv)).guards = some []) (hr : Room 3 (A.deeper (PyProof.Rows.envOfC "_law_any_parting" (defScope s__law_any_parting) s.heap.objs.size f cdv))) :
    FSs (cxOf CX0 P w K mg base N__law_any_parting "_law_any_parting" (defScope s__law_any_parting) f cdv A outer s H E).nox ⟨some W, [0], dk__law_any_parting, .nd, E0⟩ [] [] (defBody s__law_any_parting) S__law_any_parting [] := by
  have nd := nd__law_any_parting
  have hc : (cxOf CX0 P w K mg base N__law_any_parting "_law_any_parting" (defScope s__law_any_parting) f cdv A outer s H E).nox.calm = true := rfl
  have hu : HU (cxOf CX0 P w K mg base N__law_any_parting "_law_any_parting" (defScope s__law_any_parting) f cdv A outer s H E).nox := .of hr
  have hu1 := hu_1 hu
  have hu64 := hu_64 hu
  have hu65 := hu_65 hu
  have hW : (⟨some W, [0], dk__law_any_parting, .nd, E0⟩ : Ct).W = some W := rfl
  exact (fss_cons (fs_set 2 (fe_binS ov_add fe_int (fr_m 0 hW C__law_draw hgd (hr.mono (by decide)) (fa_cons (fr_var .dat 1) fa_nil))) nd) (fss_one (fs_ret (fr_f C__law_numbered hgd (hr.mono (by decide)) (fa_cons (fe_of (fo_lc [("_law_turn", 3)] hc nd (fi_rng1 T.b_range (fa_cons (fr_var .dat 1) fa_nil)) (fun _ _ _ _ _ => (fg_nm 3 nd)) (fun _ _ _ _ _ => fts_nil) (fun _ _ _ _ _ => (fr_m 0 hW C__law_draw hgd (hr.mono (by decide)) (fa_cons (fr_var .dat 2) fa_nil))))) fa_nil)))))
theorem ok__law_any_parting {P : Program} {w : World} {K : PySem.W.Frag} {mg : Str → Option Value} {base : Heap} {f : Addr} {fd : FuncData} {f__law_draw : Addr} {d__law_draw : FuncData} {p__law_draw : List Str} {f__law_numbered : Addr} {d__law_numbered : FuncData} {p__law_numbered : List Str} (T : Tx mg) (F : Fun K "_law_any_parting" "_law_any_parting" s__law_any_parting f fd) (C__law_draw : FcM P w K mg base "_law_draw" 3 f__law_draw d__law_draw p__law_draw [.dat] .dat fn__law_draw) (C__law_numbered : Fc P w K mg base "_law_numbered" 1 f__law_numbered d__law_numbered p__law_numbered [.dat] .nd fn__law_numbered) :
    FnV P w K mg base CX0 4 f fd ["_law_m", "_law_many"] (spM K [.dat] .nd fn__law_any_parting) :=
  fn_M F sc__law_any_parting rfl (fun i kk h => match i, h with | 0, h => by cases h; rfl | n + 1, h => by cases h) (fun W cdv A outer s H E hgd hr => b__law_any_parting T C__law_draw C__law_numbered W cdv A outer s H E hgd hr) (.inr (by repeat (first | exact nonx_ret | refine nonx_sq ?_)))
abbrev s__law_coarser : Stmt := top 43
def N__law_coarser : List Str := ["_law_m", "_law_parting", "_law_cap", "_law_into", "_law_block"]
theorem nd__law_coarser : N__law_coarser.Nodup := by decide +kernel
theorem sc__law_coarser : FnScope N__law_coarser ["_law_m", "_law_parting"] (defScope s__law_coarser) := ⟨rfl, rfl, rfl, nd__law_coarser, rfl, by decide +kernel, by decide +kernel⟩
def dk__law_coarser : Nat → Kd
  | _ => .dat
def S__law_coarser : SE → M Ctl := (sq (sSet 2 (e2 addD (eC (.int 1)) (eCallM fn__law_draw (aC (e2 addD (eL (one1 maxV) (aC (eVar 1) aN)) (eC (.int 1))) aN)))) (sq (sSet 3 (lcF (iA rng1 (aC (e2 addD (eL (one1 maxV) (aC (eVar 1) aN)) (eC (.int 1))) aN)) (gNm 4) tYs (eCallM fn__law_draw (aC (eVar 2) aN)) [4])) (sRet (eCall fn__law_numbered (aC (lcF (iL seqT (eVar 1)) (gNm 4) tYs (e2 ixD (eVar 3) (eVar 4)) [4]) aN)))))
def fn__law_coarser : List D → M D := fun ds => runB S__law_coarser (envM 5 ds)
theorem b__law_coarser {P : Program} {w : World} {K : PySem.W.Frag} {mg : Str → Option Value} {base : Heap} {f : Addr} {f__law_draw : Addr} {d__law_draw : FuncData} {p__law_draw : List Str} {f__law_numbered : Addr} {d__law_numbered : FuncData} {p__law_numbered : List Str} (T : Tx mg) (C__law_draw : FcM P w K mg base "_law_draw" 3 f__law_draw d__law_draw p__law_draw [.dat] .dat fn__law_draw) (C__law_numbered : Fc P w K mg base "_law_numbered" 1 f__law_numbered d__law_numbered p__law_numbered [.dat] .nd fn__law_numbered) (W : Wd) (cdv : Value) (A : Around) (outer : List Env) (s : Shared) (H : Hp) (E : XK)
    (hgd : (A.deeper (PyProof.Rows.envOfC "_law_coarser" (defScope s__law_coarser) s.heap.objs.size f cdv)).guards = some []) (hr : Room 3 (A.deeper (PyProof.Rows.envOfC "_law_coarser" (defScope s__law_coarser) s.heap.objs.size f cdv))) :
    FSs (cxOf CX0 P w K mg base N__law_coarser "_law_coarser" (defScope s__law_coarser) f cdv A outer s H E).nox ⟨some W, [0], dk__law_coarser, .nd, E0⟩ [] [] (defBody s__law_coarser) S__law_coarser [] := by
  have nd := nd__law_coarser
  have hc : (cxOf CX0 P w K mg base N__law_coarser "_law_coarser" (defScope s__law_coarser) f cdv A outer s H E).nox.calm = true := rfl
  have hu : HU (cxOf CX0 P w K mg base N__law_coarser "_law_coarser" (defScope s__law_coarser) f cdv A outer s H E).nox := .of hr
  have hu1 := hu_1 hu
  have hu64 := hu_64 hu
  have hu65 := hu_65 hu
  have hW : (⟨some W, [0], dk__law_coarser, .nd, E0⟩ : Ct).W = some W := rfl
  exact (fss_cons (fs_set 2 (fe_binS ov_add fe_int (fr_m 0 hW C__law_draw hgd (hr.mono (by decide)) (fa_cons (fe_binS ov_add (fe_callB (cv_max1 hu) T.b_max (fab_cons (fb (fr_var .dat 1)) fab_nil)) fe_int) fa_nil))) nd) (fss_cons (fs_set 3 (fe_of (fo_lc [("_law_block", 4)] hc nd (fi_rng1 T.b_range (fa_cons (fe_binS ov_add (fe_callB (cv_max1 hu) T.b_max (fab_cons (fb (fr_var .dat 1)) fab_nil)) fe_int) fa_nil)) (fun _ _ _ _ _ => (fg_nm 4 nd)) (fun _ _ _ _ _ => fts_nil) (fun _ _ _ _ _ => (fr_m 0 hW C__law_draw hgd (hr.mono (by decide)) (fa_cons (fr_var .dat 2) fa_nil))))) nd) (fss_one (fs_ret (fr_f C__law_numbered hgd (hr.mono (by decide)) (fa_cons (fe_of (fo_lc [("_law_block", 4)] hc nd (fi_t (fr_var .dat 1)) (fun _ _ _ _ _ => (fg_nm 4 nd)) (fun _ _ _ _ _ => fts_nil) (fun _ _ _ _ _ => (fe_ix (fb (fr_var .dat 3)) (fr_var .dat 4))))) fa_nil))))))
theorem ok__law_coarser {P : Program} {w : World} {K : PySem.W.Frag} {mg : Str → Option Value} {base : Heap} {f : Addr} {fd : FuncData} {f__law_draw : Addr} {d__law_draw : FuncData} {p__law_draw : List Str} {f__law_numbered : Addr} {d__law_numbered : FuncData} {p__law_numbered : List Str} (T : Tx mg) (F : Fun K "_law_coarser" "_law_coarser" s__law_coarser f fd) (C__law_draw : FcM P w K mg base "_law_draw" 3 f__law_draw d__law_draw p__law_draw [.dat] .dat fn__law_draw) (C__law_numbered : Fc P w K mg base "_law_numbered" 1 f__law_numbered d__law_numbered p__law_numbered [.dat] .nd fn__law_numbered) :
    FnV P w K mg base CX0 4 f fd ["_law_m", "_law_parting"] (spM K [.dat] .nd fn__law_coarser) :=
  fn_M F sc__law_coarser rfl (fun i kk h => match i, h with | 0, h => by cases h; rfl | n + 1, h => by cases h) (fun W cdv A outer s H E hgd hr => b__law_coarser T C__law_draw C__law_numbered W cdv A outer s H E hgd hr) (.inr (by repeat (first | exact nonx_ret | refine nonx_sq ?_)))
end K01
namespace K01
open PySem L2 VL
theorem mixed_ev {c n : Int} (hn : 0 ≤ n ∧ n < 10000000000) (m : MS) : Ev (fn__law_mixed [.int c, .int n]) m (.int (mixI c n)) m := by
  refine v_runR (v_sq (v_set 2 (v_e2 (v_e2 (v_e2 (v_eL (v_aC (v_e2 (v_e2 (v_var 0 rfl) (v_e2 (v_c _) (v_e2 (v_c _) (v_var 1 rfl) (mulD_l (by decide))) rfl) (mulD_r (by omega))) (v_c _) (mulD_r (by decide))) v_aN) rfl) (v_c _) (modD_p (by decide)))
    (v_e2 (v_e2 (v_c _) (v_var 1 rfl) (mulD_l (by decide))) (v_var 1 rfl) (mulD_r (by omega))) rfl) (v_e2 (v_c _) (v_var 1 rfl) (mulD_l (by decide))) rfl))
    (v_ret (v_e2 (v_e2 (v_eL (v_aC (v_e2 (v_var 2 rfl) (v_c _) (mulD_r (by decide))) v_aN) rfl) (v_c _) (modD_p (by decide))) (v_c _) (fdivD_p (by decide)))))
section
variable {P : Program} {w : World} {K : PySem.W.Frag} {mg : Str → Option Value} {base : Heap}
abbrev s__law_draw : Stmt := top 35
def N__law_draw : List Str := ["_law_m", "_law_limit", "_law_n", "_law_lot", "_law_here", "_law_cell"]
theorem nd__law_draw : N__law_draw.Nodup := by decide +kernel
theorem sc__law_draw : FnScope N__law_draw ["_law_m", "_law_limit"] (defScope s__law_draw) := ⟨rfl, rfl, rfl, nd__law_draw, rfl, by decide +kernel, by decide +kernel⟩
def dk__law_draw : Nat → Kd
  | 0 => .dic
  | _ => .dat
theorem ok__law_draw {f f1 : Addr} {fd d1 : FuncData} {p1 : List Str} (T : Tx mg) (F : Fun K "_law_draw" "_law_draw" s__law_draw f fd) (C_ : Fc P w K mg base "_law_mixed" 1 f1 d1 p1 [.dat, .dat] .dat fn__law_mixed) :
    FnV P w K mg base CX0 2 f fd ["_law_m", "_law_limit"] (spM K [.dat] .dat fnDraw) := by
  refine fnV_of F sc__law_draw (spM_len rfl) fun cdv A outer s H vs Q E hga hr hsp => ?_
  obtain ⟨W, Zs, ds, m, vs', rfl, hw, hz, hd, hA, hG⟩ := hsp
  have hgd : (cxOf CX0 P w K mg base N__law_draw "_law_draw" (defScope s__law_draw) f cdv A outer s H E).nox.A.guards = some [] := hga
  have nd := nd__law_draw
  have hc : (cxOf CX0 P w K mg base N__law_draw "_law_draw" (defScope s__law_draw) f cdv A outer s H E).nox.calm = true := rfl
  have hu : HU (cxOf CX0 P w K mg base N__law_draw "_law_draw" (defScope s__law_draw) f cdv A outer s H E).nox := .of hr
  have hu1 := hu_1 hu
  have hu64 := hu_64 hu
  refine ⟨_, (pss_cons (ps_set (i := 2) nd rfl (Or.inl rfl) (FR.pe (c := ⟨none, [], dk__law_draw, .dat, E0⟩) (U := []) (k := .dat) (fe_dgK 0 hu1 fe_str)))
    (pss_cons (ps_dput hu1 (pv 0) pe_str (pe_op op_add (pv 2) pe_int) rfl)
    (pss_cons (ps_if (FT.pt (c := ⟨none, [], dk__law_draw, .dat, E0⟩) (U := []) (ft_cmp (ov_ne hu64) (fb (fe_dgK 0 hu1 fe_str)) (fb (fe_of (fo_lst (n := 0) fa_nil)))))
      (pss_cons (ps_set (i := 3) nd rfl (Or.inl rfl) (pe_dget hu1 (pv 0) pe_str (by intro _ _; rfl)))
      (pss_cons (ps_set (i := 4) nd rfl (Or.inl rfl) (FR.pe (c := ⟨none, [], dk__law_draw, .dat, E0⟩) (U := []) (k := .dat) (fe_bin ov_mod (fb (fe_callTy cv_int T.b_int (fab_cons (fb (fr_var .dat 2)) fab_nil))) (fb (fe_callB cv_len T.b_len (fab_cons (fb (fr_var .dat 3)) fab_nil))))))
      (pss_cons (ps_set (i := 5) nd rfl (Or.inl rfl) (FR.pe (c := ⟨none, [], dk__law_draw, .dat, E0⟩) (U := []) (k := .dat) (fe_ix (fb (fr_var .dat 3)) (fr_var .dat 4))))
      (pss_one (ps_if (FT.pt (c := ⟨none, [], dk__law_draw, .dat, E0⟩) (U := []) (ft_cmp ov_gt (fb (fr_var .dat 5)) (fb fe_int)))
        (pss_cons (ps_asg (FR.pe (c := ⟨none, [], dk__law_draw, .dat, E0⟩) (U := []) (k := .dat) (fe_bin ov_fdiv (fb (fr_var .dat 5)) (fb (fr_var .dat 1)))) (pg_sub (pv 3) (pv 4) set_list))
        (pss_one (ps_ret (FR.pe (c := ⟨none, [], dk__law_draw, .dat, E0⟩) (U := []) (k := .dat) (fe_bin ov_mod (fb (fe_callTy cv_int T.b_int (fab_cons (fb (fr_var .dat 5)) fab_nil))) (fb (fr_var .dat 1)))))))
        pss_nil)))))
      pss_nil)
    (pss_cons (ps_set (i := 3) nd rfl (Or.inl rfl) (FR.pe (c := ⟨none, [], dk__law_draw, .dat, E0⟩) (U := []) (k := .dat) (fe_dgK 0 hu1 fe_str)))
    (pss_one (ps_ret (FR.pe (c := ⟨none, [], dk__law_draw, .dat, E0⟩) (U := []) (k := .dat)
      (fe_bin ov_mod (fb (fe_callTy cv_int T.b_int (fab_cons (fb (fr_f C_ hgd (hr.mono (by decide)) (fa_cons (fr_f C_ hgd (hr.mono (by decide)) (fa_cons (fe_binS ov_add (fe_ix (fb (fr_var .dat 3)) (fe_bin ov_mod (fb (fe_callTy cv_int T.b_int (fab_cons (fb (fr_var .dat 2)) fab_nil))) (fb fe_int)))
        (fe_bin ov_mul (fb fe_int) (fb (fe_bin ov_fdiv (fb (fr_var .dat 2)) (fb fe_int))))) (fa_cons (fr_var .dat 2) fa_nil))) (fa_cons (fe_binS ov_add (fr_var .dat 2) fe_int) fa_nil)))) fab_nil))) (fb (fr_var .dat 1)))))))))
    : PSs (cxOf CX0 P w K mg base N__law_draw "_law_draw" (defScope s__law_draw) f cdv A outer s H E).nox _ _).nox, ?_⟩
  cases hA' : vs' with
  | nil => subst hA'; cases ds <;> first | exact hG.elim | cases hA
  | cons v vs1 =>
    subst hA'
    cases ds with
    | nil => cases hA
    | cons d ds1 =>
      have hlen := hA.len
      obtain rfl : vs1 = [] := List.eq_nil_of_length_eq_zero (by simpa using hlen.1)
      obtain rfl : ds1 = [] := List.eq_nil_of_length_eq_zero (by simpa using hlen.2)
      have hd1 : Dq K (hide Zs H) v d := hA.1
      cases d with
      | int L =>
        cases hd1
        obtain ⟨cells, great, n⟩ := m
        obtain ⟨⟨c1, c2, c3, c4, c5⟩, hG⟩ := draw_inv (show Good (drawM L (cells, great, n)) _ _ from hG)
        obtain ⟨ap1, ap2⟩ := hd.apart
        -- _law_n
        refine tE_use (en := [some (mDt (cells, great, n)), some (.int L), none, none, none, none]) (d := .int n) ⟨mDt_res hd, Dq.int L, trivial⟩ (v_dgK rfl (v_c _) (dg_spot _ _ _)) fun v1 H1 s1 q1 => ?_
        cases (show Dq K H1 v1 (.int n) from q1)
        have hd1 := hd.same s1
        obtain ⟨g1, g2, g3⟩ := hd1.at
        -- the spot
        refine ⟨_, rfl, n, 1, rfl, rfl, _, rfl, W.am, _, rfl, DPut.k (k := .inr "spot") g1 (by show 3 < sizeLine; rw [sizeLine_eq]; decide), ?_⟩
        rw [m_put]
        have hd2 : DrawOk (some W) (upd H1 W.am (.dK (mKv W (n + 1)))) (cells, great, n + 1) := DrawOk.of upd_same (rd_upd g2 ap1.symm) (by rw [upd_ne ap2.symm]; exact g3)
        have sw2 : SameW (some W) H (upd H1 W.am (.dK (mKv W (n + 1)))) := fun b o hb e => by
          rw [upd_ne (hb W rfl).1]
          exact s1 b o e
        generalize upd H1 W.am (.dK (mKv W (n + 1))) = H2 at hd2 sw2 ⊢
        -- the test
        refine tT_use (en := [some (mDt (cells, great, n + 1)), some (.int L), some (.int n), none, none, none]) (b := !great.isEmpty) ⟨mDt_res hd2, Dq.int L, Dq.int n, trivial⟩ (v_tV (v_e2 (v_dgK rfl (v_c _) (dg_great _ _ _)) (v_eL v_aN rfl) ne_nil) rfl) fun H3 s3 => ?_
        have hd3 := hd2.same s3
        have sw3 : SameW (some W) H H3 := sw2.trans (.of s3)
        by_cases hne : great = []
        · rcases hG with ⟨g, hg, _⟩ | ⟨_, r, hr1, hk⟩
          · rw [hne] at hg
            cases hg
          · have e : (!great.isEmpty) = false := by rw [hne]; rfl
            rw [e]
            refine iteF ?_
            have hd4 := hd3
            have sw4 := sw3
            obtain ⟨c, hc1, rfl⟩ := Option.map_eq_some_iff.mp hr1
            refine tE_use (en := [some (mDt (cells, great, n + 1)), some (.int L), some (.int n), none, none, none]) (d := .list (cells.map .int)) ⟨mDt_res hd4, Dq.int L, Dq.int n, trivial⟩ (v_dgK rfl (v_c _) (dg_cells _ _ _)) fun v5 H5 s5 q5 => ?_
            refine tE_use (en := [none, some (.int L), some (.int n), some (.list (cells.map .int)), none, none]) (d := .int (mixI (mixI (c + 31 * (n / 64)) n) (n + 7) % L)) ⟨Dq.int L, Dq.int n, q5, trivial⟩
              (v_e2 (v_eL (v_aC (v_call (v_aC (v_call (v_aC (v_e2 (v_e2 (v_var 3 rfl) (v_e2 (v_eL (v_aC (v_var 2 rfl) v_aN) rfl) (v_c _) (modD_p (by decide))) (at_int (Int.emod_nonneg _ (by decide)) hc1)) (v_e2 (v_c _) (v_e2 (v_var 2 rfl) (v_c _) (fdivD_p (by decide))) (mulD_l (by decide))) rfl)
                (v_aC (v_var 2 rfl) v_aN)) (mixed_ev ⟨c3, by omega⟩ _)) (v_aC (v_e2 (v_var 2 rfl) (v_c _) rfl) v_aN)) (mixed_ev ⟨by omega, by omega⟩ _)) v_aN) rfl) (v_var 1 rfl) (modD_p c1)) fun v6 H6 s6 q6 => ?_
            cases (show Dq K H6 v6 (.int _) from q6)
            have s46 := Same.trans s5 s6
            exact hk _ H6 (sw4.trans (.of s46)) (hd4.same s46) (Dq.int _)
        · have e : (!great.isEmpty) = true := by cases great with | nil => exact absurd rfl hne | cons _ _ => rfl
          rw [e]
          refine iteT ?_
          have hlen : 0 < (great.length : Int) := by
            have : great.length ≠ 0 := fun q => hne (List.eq_nil_of_length_eq_zero q)
            omega
          have i0 : 0 ≤ n % (great.length : Int) := Int.emod_nonneg _ (by omega)
          have i1 : n % (great.length : Int) < (great.length : Int) := Int.emod_lt_of_pos _ hlen
          obtain ⟨g, hgat⟩ : ∃ g, great[(n % (great.length : Int)).toNat]? = some g := ⟨_, List.getElem?_eq_getElem (by omega)⟩
          -- _law_lot, _law_here, _law_cell
          obtain ⟨t1, t2, t3⟩ := hd3.at
          refine ⟨_, rfl, W.am, .ref W.gA, rfl, by rw [← m_great W (n + 1)]; exact DGet.k (k := .inr "great") t1, ?_⟩
          have rg : Dq K H3 (.ref W.gA) (.list (great.map .int)) := .lst (.inl t3) (DqAll.ofInts _)
          refine tE_use (en := [none, some (.int L), some (.int n), some (.list (great.map .int)), none, none]) (d := .int (n % (great.length : Int))) ⟨Dq.int L, Dq.int n, rg, trivial⟩
            (v_e2 (v_eL (v_aC (v_var 2 rfl) v_aN) rfl) (v_eL (v_aC (v_var 3 rfl) v_aN) (by show some (PyData.int ((great.map PyData.int).length : Nat)) = _; rw [List.length_map])) (modD_p hlen)) fun v4 H4 s4 q4 => ?_
          cases (show Dq K H4 v4 (.int _) from q4)
          refine tE_use (en := [none, some (.int L), some (.int n), some (.list (great.map .int)), some (.int (n % (great.length : Int))), none]) (d := .int g) ⟨Dq.int L, Dq.int n, Dq.mono s4 rg, Dq.int _, trivial⟩
            (v_e2 (v_var 3 rfl) (v_var 4 rfl) (at_int i0 hgat)) fun v5 H5 s5 q5 => ?_
          cases (show Dq K H5 v5 (.int _) from q5)
          refine tT_use (en := [none, some (.int L), some (.int n), none, none, some (.int g)]) (b := decide (0 < g)) ⟨Dq.int L, Dq.int n, Dq.int g, trivial⟩ (v_tV (v_e2 (v_var 5 rfl) (v_c _) rfl) rfl) fun H6 s6 => ?_
          have s36 := Same.trans s4 (Same.trans s5 s6)
          have hd6 := hd3.same s36
          have sw6 := sw3.trans (.of s36)
          by_cases hg : 0 < g
          · rw [decide_eq_true hg]
            refine iteT ?_
            rcases hG with ⟨g', hg', _, hk⟩ | ⟨h1, _⟩
            · rw [hgat] at hg'
              cases hg'
              refine tE_use (en := [none, some (.int L), none, none, none, some (.int g)]) (d := .int (g / L)) ⟨Dq.int L, Dq.int g, trivial⟩ (v_e2 (v_var 5 rfl) (v_var 1 rfl) (fdivD_p ⟨c1, c2⟩)) fun v7 H7 s7 q7 => ?_
              cases (show Dq K H7 v7 (.int _) from q7)
              have hd7 := hd6.same s7
              have sw7 := sw6.trans (.of s7)
              obtain ⟨u1, u2, u3⟩ := hd7.at
              have ap3 : W.cA ≠ W.gA := W.ne
              refine ⟨_, rfl, _, rfl, W.gA, great.map V.int, _, (n % (great.length : Int)).toNat, rfl, rfl, u3, ?_, ?_⟩
              · rw [List.length_map]
                have e2 : n % (great.length : Int) = (((n % (great.length : Int)).toNat : Nat) : Int) := by omega
                rw [e2]
                exact ixN_at (by omega)
              · have e3 : (great.map V.int).set (n % (great.length : Int)).toNat (.int (g / L)) = (great.set (n % (great.length : Int)).toNat (g / L)).map V.int := by rw [List.map_set]
                rw [e3]
                have hd8 : DrawOk (some W) (upd H7 W.gA (.lst ((great.set (n % (great.length : Int)).toNat (g / L)).map V.int))) (cells, great.set (n % (great.length : Int)).toNat (g / L), n + 1) := DrawOk.of (by rw [upd_ne ap2]; exact u1) (rd_upd u2 ap3) upd_same
                have sw8 : SameW (some W) H (upd H7 W.gA (.lst ((great.set (n % (great.length : Int)).toNat (g / L)).map V.int))) := fun b o hb q => by
                  rw [upd_ne (hb W rfl).2]
                  exact sw7 b o hb q
                generalize upd H7 W.gA (.lst ((great.set (n % (great.length : Int)).toNat (g / L)).map V.int)) = H8 at hd8 sw8 ⊢
                refine tE_use (en := [none, some (.int L), none, none, none, some (.int g)]) (d := .int (g % L)) ⟨Dq.int L, Dq.int g, trivial⟩ (v_e2 (v_eL (v_aC (v_var 5 rfl) v_aN) rfl) (v_var 1 rfl) (modD_p c1)) fun v9 H9 s9 q9 => ?_
                cases (show Dq K H9 v9 (.int _) from q9)
                exact hk _ H9 (sw8.trans (.of s9)) (hd8.same s9) (Dq.int _)
            · rcases h1 with ⟨g', hg', hn⟩ | h1
              · rw [hgat] at hg'
                cases hg'
                exact absurd hg hn
              · exact absurd h1 hne
          · rw [decide_eq_false hg]
            refine iteF ?_
            rcases hG with ⟨g', hg', hp, _⟩ | ⟨_, r, hr1, hk⟩
            · rw [hgat] at hg'
              cases hg'
              exact absurd hp hg
            · have hd4 := hd6
              have sw4 := sw6
              obtain ⟨c, hc1, rfl⟩ := Option.map_eq_some_iff.mp hr1
              refine tE_use (en := [some (mDt (cells, great, n + 1)), some (.int L), some (.int n), none, none, none]) (d := .list (cells.map .int)) ⟨mDt_res hd4, Dq.int L, Dq.int n, trivial⟩ (v_dgK rfl (v_c _) (dg_cells _ _ _)) fun v5 H5 s5 q5 => ?_
              refine tE_use (en := [none, some (.int L), some (.int n), some (.list (cells.map .int)), none, none]) (d := .int (mixI (mixI (c + 31 * (n / 64)) n) (n + 7) % L)) ⟨Dq.int L, Dq.int n, q5, trivial⟩
                (v_e2 (v_eL (v_aC (v_call (v_aC (v_call (v_aC (v_e2 (v_e2 (v_var 3 rfl) (v_e2 (v_eL (v_aC (v_var 2 rfl) v_aN) rfl) (v_c _) (modD_p (by decide))) (at_int (Int.emod_nonneg _ (by decide)) hc1)) (v_e2 (v_c _) (v_e2 (v_var 2 rfl) (v_c _) (fdivD_p (by decide))) (mulD_l (by decide))) rfl)
                  (v_aC (v_var 2 rfl) v_aN)) (mixed_ev ⟨c3, by omega⟩ _)) (v_aC (v_e2 (v_var 2 rfl) (v_c _) rfl) v_aN)) (mixed_ev ⟨by omega, by omega⟩ _)) v_aN) rfl) (v_var 1 rfl) (modD_p c1)) fun v6 H6 s6 q6 => ?_
              cases (show Dq K H6 v6 (.int _) from q6)
              have s46 := Same.trans s5 s6
              exact hk _ H6 (sw4.trans (.of s46)) (hd4.same s46) (Dq.int _)
      | _ => exact hG.elim
end
end K01
namespace K01
open PySem L2 VL
/-- the folded cells: 64 numbers -/
theorem folded_ev (ns : List Int) (m : MS) : ∃ cells : List Int, cells.length = 64 ∧ Ev (fn__law_folded [.list (ns.map .int)]) m (.list (cells.map .int)) m := by
  -- the first cells
  have h1 : Ev (lcF (iA rng1 (aC (eC (.int 64)) aN)) (gNm 2) tYs (e2 addD (eC (.int 17)) (eVar 2)) [2] [some (.list (ns.map PyData.int)), none, none, none]) m (.list (((List.range 64).map fun i => (17 + (0 + (i : Nat)) : Int)).map .int)) m := by
    refine v_lc (v_iA (v_aC (v_c _) v_aN) rfl) (xs := _) ?_ (by rw [List.length_map, List.length_map, List.length_range]; decide)
    have := v_lcM (f := lcStep (gNm 2) tYs (e2 addD (eC (.int 17)) (eVar 2)) (wipeE [some (.list (ns.map PyData.int)), none, none, none] [2])) (fun d => match d with | .int i => .int (17 + i) | d => d) (m := m) (ds := rngI 0 64) fun d hd => by
      obtain ⟨i, _, rfl⟩ := mem_rngI hd
      exact v_stepT (v_gNm 2 _ _ m) (v_tYs _ m) (v_e2 (v_c _) (v_var 2 rfl) rfl)
    rw [show (rngI 0 (64 : Int).toNat) = rngI 0 64 from rfl] 
    have e : (rngI 0 64).map (fun d => match d with | .int i => PyData.int (17 + i) | d => d) = ((List.range 64).map fun i => (17 + (0 + (i : Nat)) : Int)).map .int := by
      unfold rngI
      rw [List.map_map, List.map_map]
      rfl
    rw [← e]
    exact this
  -- the script folded in
  let I : Nat → SE → MS → Prop := fun _ en m' => m' = m ∧ ∃ (cells : List Int) (x2 x3 : Option D), cells.length = 64 ∧ en = [some (.list (ns.map PyData.int)), some (.list (cells.map .int)), x2, x3]
  obtain ⟨e2', m2, l1, rfl, cells2, y2, y3, hc2, rfl⟩ := v_loop I (Gt := gTp 2 (gC (gNm 2) (gC (gNm 3) gN0))) (B := sSetIx 1 (e2 modD (eL (one1 intD) (aC (eVar 2) aN)) (eC (.int 64))) (e2 modD (eL (one1 intD) (aC (e2 addD (e2 mulD (e2 ixD (eVar 1) (e2 modD (eL (one1 intD) (aC (eVar 2) aN)) (eC (.int 64)))) (eC (.int 48271))) (eVar 3)) aN)) (eC (.int 2147483647)))) (enumD (ns.map .int)) 0
    [some (.list (ns.map PyData.int)), some (.list (((List.range 64).map fun i => (17 + (0 + (i : Nat)) : Int)).map .int)), none, none] m ⟨rfl, _, _, _, by simp, rfl⟩ (by
    rintro j d en m' hd ⟨rfl, cells, x2, x3, hc, rfl⟩
    obtain ⟨a, ha, rfl⟩ := enumD_inv hd
    obtain ⟨c, hc1, rfl⟩ := map_inv ha
    have p0 : 0 ≤ ((j : Nat) : Int) % 64 := Int.emod_nonneg _ (by decide)
    have p1 : ((j : Nat) : Int) % 64 < 64 := Int.emod_lt_of_pos _ (by decide)
    refine ⟨_, _, _, _, v_gTp2 2 3 _ _ _ m', .inl (v_setIx 1 (v_e2 (v_eL (v_aC (v_e2 (v_e2 (v_e2 (v_var 1 rfl) (v_e2 (v_eL (v_aC (v_var 2 rfl) v_aN) rfl) (v_c _) (modD_p (by decide))) (at_int p0 (List.getElem?_eq_getElem (by omega)))) (v_c _) (mulD_r (by decide))) (v_var 3 rfl) rfl) v_aN) rfl) (v_c _) (modD_p (by decide)))
      rfl (v_e2 (v_eL (v_aC (v_var 2 rfl) v_aN) rfl) (v_c _) (modD_p (by decide))) (setIx_int p0 (by omega))), rfl, _, _, _, ?_, rfl⟩
    rw [List.length_set]
    exact hc)
  obtain ⟨e3', m3, l2, rfl, cells3, z2, z3, hc3, rfl⟩ := v_loop I (Gt := gNm 2) (B := sSetIx 1 (eVar 2) (e2 modD (eL (one1 intD) (aC (e2 addD (e2 ixD (eVar 1) (eVar 2)) (e2 mulD (e2 ixD (eVar 1) (e2 subD (eVar 2) (eC (.int 1)))) (eC (.int 16807)))) aN)) (eC (.int 2147483647)))) (rngI 1 63) 0
    [some (.list (ns.map PyData.int)), some (.list (cells2.map .int)), y2, y3] m2 ⟨rfl, _, _, _, hc2, rfl⟩ (by
    rintro j d en m' hd ⟨rfl, cells, x2, x3, hc, rfl⟩
    obtain ⟨hj, rfl⟩ := rngI_inv hd
    refine ⟨_, _, _, _, v_gNm 2 _ _ m', .inl (v_setIx 1 (v_e2 (v_eL (v_aC (v_e2 (v_e2 (v_var 1 rfl) (v_var 2 rfl) (at_int (by omega) (List.getElem?_eq_getElem (by omega)))) (v_e2 (v_e2 (v_var 1 rfl) (v_e2 (v_var 2 rfl) (v_c _) rfl) (at_int (by omega) (List.getElem?_eq_getElem (by omega)))) (v_c _) (mulD_r (by decide))) rfl) v_aN) rfl) (v_c _) (modD_p (by decide)))
      rfl (v_var 2 rfl) (setIx_int (by omega) (by omega))), rfl, _, _, _, ?_, rfl⟩
    rw [List.length_set]
    exact hc)
  exact ⟨cells3, hc3, v_runR (v_sq (v_setO 1 h1 (by show 1 < 4; decide)) (v_sq (v_for (v_iA (v_aC (v_var 0 rfl) v_aN) rfl) l1) (v_sq (v_for (v_iA (v_aC (v_c _) (v_aC (v_c _) v_aN)) rfl) l2) (v_ret (v_var 1 rfl)))))⟩
end K01
namespace K01
open PySem L2 VL
section
variable {P : Program} {w : World} {K : PySem.W.Frag} {mg : Str → Option Value} {base : Heap}
/-- the machine begun: some cells, some great numbers -/
def spB (K : PySem.W.Frag) : Sp := fun vs H Q E => ∃ (ns : List Int) (v : V), vs = [v] ∧ Dq K H v (.list (ns.map .int)) ∧ ns.length ≤ lineN ∧
  ∀ (W : Wd) (H' : Hp) (cells great : List Int), Same H H' → cells.length = 64 → DrawOk (some W) H' (cells, great, 0) → Q (.ref W.am) H'
abbrev s__law_begun : Stmt := top 36
def N__law_begun : List Str := ["_law_script", "_law_m", "_law_cell"]
theorem nd__law_begun : N__law_begun.Nodup := by decide +kernel
theorem sc__law_begun : FnScope N__law_begun ["_law_script"] (defScope s__law_begun) := ⟨rfl, rfl, rfl, nd__law_begun, rfl, by decide +kernel, by decide +kernel⟩
def dk__law_begun : Nat → Kd
  | _ => .dat
theorem ok__law_begun {f f1 : Addr} {fd d1 : FuncData} {p1 : List Str} (T : Tx mg) (F : Fun K "_law_begun" "_law_begun" s__law_begun f fd) (C_ : Fc P w K mg base "_law_folded" 1 f1 d1 p1 [.dat] .dat fn__law_folded) :
    FnV P w K mg base CX0 2 f fd ["_law_script"] (spB K) := by
  refine fnV_of F sc__law_begun (fun vs H Q E ⟨ns, v, e, _⟩ => by rw [e]; rfl) fun cdv A outer s H vs Q E hga hr hsp => ?_
  obtain ⟨ns, v, rfl, hv, hln, hQ⟩ := hsp
  have hgd : (cxOf CX0 P w K mg base N__law_begun "_law_begun" (defScope s__law_begun) f cdv A outer s H E).nox.A.guards = some [] := hga
  have nd := nd__law_begun
  have hc : (cxOf CX0 P w K mg base N__law_begun "_law_begun" (defScope s__law_begun) f cdv A outer s H E).nox.calm = true := rfl
  have hu : HU (cxOf CX0 P w K mg base N__law_begun "_law_begun" (defScope s__law_begun) f cdv A outer s H E).nox := .of hr
  have hu1 := hu_1 hu
  refine ⟨_, (pss_cons (ps_set (i := 1) nd rfl (Or.inl rfl) (pe_disp (pps_cons pe_str (FR.pe (c := ⟨none, [], dk__law_begun, .dat, E0⟩) (U := []) (k := .dat) (fr_f C_ hgd (hr.mono (by decide)) (fa_cons (fr_var .dat 0) fa_nil)))
      (pps_cons pe_str (pe_lst pa_nil) (pps_cons pe_str pe_int pps_nil))) rfl rfl (by intro q; cases q) (by decide)))
    (pss_cons (ps_dput hu1 (pv 1) pe_str (FO.pe (c := ⟨none, [], dk__law_begun, .dat, E0⟩) (U := []) (k := .dat) ((fo_lc [("_law_cell", 2)] hc nd (fi_l (fr_var .dat 0)) (fun _ _ _ _ _ => fg_nm 2 nd) (fun _ _ _ _ _ => fts_nil)
      (fun _ _ _ _ _ => fe_if (ft_cmp ov_ge (fb (fr_var .dat 2)) (fb (fe_bin ov_pow (fb fe_int) (fb fe_int)))) (fr_var .dat 2) fe_int)))) rfl)
    (pss_one (ps_ret (pv 1))))
    : PSs (cxOf CX0 P w K mg base N__law_begun "_law_begun" (defScope s__law_begun) f cdv A outer s H E).nox _ _).nox, ?_⟩
  intro am ham
  obtain ⟨cells, hc64, hev⟩ := folded_ev ns ms0
  have sa := same_new ham (.dK [])
  refine tE_use (en := [some (.list (ns.map .int)), none, none]) (d := .list (cells.map .int)) ⟨Dq.mono sa hv, trivial⟩ (v_call (v_aC (v_var 0 rfl) v_aN) hev) fun v1 H1 s1 q1 => ?_
  obtain ⟨cA, xs, rfl, hcA, hxs⟩ := Dq.lstE (show Dq K H1 v1 (.list (cells.map .int)) from q1)
  obtain rfl := DqAll.ints hxs
  refine ⟨Nat.zero_le _, fun l hl => ?_⟩
  have hamo : H1 am = some (.dK []) := s1 _ _ upd_same
  have nal : am ≠ l := ne_of_none hamo hl
  refine ⟨by rw [upd_ne nal]; exact hamo, [(.inr "cells", .ref cA), (.inr "great", .ref l), (.inr "spot", .int 0)], rfl, (by show 3 ≤ 15; decide), ?_⟩
  have s2 : Same H1 (upd H1 l (.lst [])) := same_new hl _
  -- the dict as it stands
  have n1 : ¬ (("cells" : Str) = "great") := s_cg
  have hmk : mergeK [] [((.inr "cells" : Key), V.ref cA), (.inr "great", .ref l), (.inr "spot", .int 0)] = [(.inr "cells", .ref cA), (.inr "great", .ref l), (.inr "spot", .int 0)] := by
    simp [mergeK, putK, s_cg, s_cs, s_gs]
  rw [hmk]
  generalize hH2 : upd (upd H1 l (.lst [])) am (.dK [(.inr "cells", .ref cA), (.inr "great", .ref l), (.inr "spot", .int 0)]) = H2
  have nc : cA ≠ am := fun e => by
    rw [e] at hcA
    rcases hcA with q | ⟨x, q⟩
    · rw [hamo] at q
      cases q
    · rw [hamo] at q
      cases q
  have ncl : cA ≠ l := fun e => by
    rw [e] at hcA
    rcases hcA with q | ⟨x, q⟩
    · rw [hl] at q
      cases q
    · rw [hl] at q
      cases q
  have sH2 : ∀ b o, H b = some o → H2 b = some o := fun b o q => by
    have nb : b ≠ am := ne_of_none q ham
    rw [← hH2, upd_ne nb]
    exact s2 _ _ (s1 _ _ (sa _ _ q))
  have a2 : H2 am = some (.dK [(.inr "cells", .ref cA), (.inr "great", .ref l), (.inr "spot", .int 0)]) := by rw [← hH2]; exact upd_same
  have c2 : Rd H2 cA (.lst (cells.map V.int)) := by
    rw [← hH2]
    exact rd_upd (same_rd s2 hcA) nc
  -- the great numbers
  have ev2 : Ev (lcF (iL seqL (eVar 0)) (gNm 2) tYs (eIf (tV asB (e2 geD (eVar 2) (e2 powD (eC (.int 10)) (eC (.int 18))))) (eVar 2) (eC (.int 0))) [2] [some (.list (ns.map .int)), none, none]) ms0 (.list ((ns.map fun i => if 10 ^ 18 ≤ i then i else 0).map .int)) ms0 := by
    have h := v_lcM (f := lcStep (gNm 2) tYs (eIf (tV asB (e2 geD (eVar 2) (e2 powD (eC (.int 10)) (eC (.int 18))))) (eVar 2) (eC (.int 0))) (wipeE [some (.list (ns.map PyData.int)), none, none] [2])) (onI fun i => if (10 : Int) ^ 18 ≤ i then i else 0) (m := ms0) (ds := ns.map .int) fun d hd => by
      obtain ⟨i, _, rfl⟩ := List.mem_map.mp hd
      show Ev _ _ (some (PyData.int (if (10 : Int) ^ 18 ≤ i then i else 0))) _
      by_cases hi : (10 : Int) ^ 18 ≤ i
      · rw [if_pos hi]
        exact v_stepT (v_gNm 2 _ _ _) (v_tYs _ _) (v_ifT (v_tV (v_e2 (v_var 2 rfl) (v_e2 (v_c _) (v_c _) rfl) rfl) (by show some (decide ((10 : Int) ^ 18 ≤ i)) = some true; rw [decide_eq_true hi])) (v_var 2 rfl))
      · rw [if_neg hi]
        exact v_stepT (v_gNm 2 _ _ _) (v_tYs _ _) (v_ifF (v_tV (v_e2 (v_var 2 rfl) (v_e2 (v_c _) (v_c _) rfl) rfl) (by show some (decide ((10 : Int) ^ 18 ≤ i)) = some false; rw [decide_eq_false hi])) (v_c _))
    rw [map_onI] at h
    refine v_lc (v_iL (v_var 0 rfl) rfl) h ?_
    rw [List.length_map, List.length_map]
    exact hln
  simp only [gName, tSeq, sDPut]
  refine tEO_use (en := [some (.list (ns.map .int)), none, none]) (d := .list ((ns.map fun i => if (10 : Int) ^ 18 ≤ i then i else 0).map .int)) ?hr ev2 ?kk
  case hr => exact ⟨Dq.mono (H := H) (fun b o q => sH2 b o q) hv, trivial⟩
  intro gA o3 H3 s3 n3 g3 q3
  cases q3 with
  | lst _ vs q3 =>
    obtain rfl := DqAll.ints q3
    refine ⟨_, rfl, am, _, rfl, DPut.k (k := .inr "great") (s3 _ _ a2) (by show 3 < sizeLine; rw [sizeLine_eq]; decide), ?_⟩
    have hput : putK [((.inr "cells" : Key), V.ref cA), (.inr "great", .ref l), (.inr "spot", .int 0)] (.inr "great") (.ref gA) = [(.inr "cells", .ref cA), (.inr "great", .ref gA), (.inr "spot", .int 0)] := by
      have h : ([((.inr "cells" : Key), V.ref cA), (.inr "great", .ref l), (.inr "spot", .int 0)].any fun kv => decide (kv.1 = .inr "great")) = true := by simp
      have n2 : ¬ (("spot" : Str) = "great") := fun q => s_gs q.symm
      unfold putK
      rw [if_pos h]
      simp [s_cg, n2]
    rw [hput]
    have ngam : gA ≠ am := fun e => by
      rw [e, a2] at n3
      cases n3
    have ncg : cA ≠ gA := fun e => by
      rw [e] at c2
      rcases c2 with q | ⟨x, q⟩
      · rw [n3] at q
        cases q
      · rw [n3] at q
        cases q
    refine ⟨_, rfl, hQ ⟨am, cA, gA, ncg⟩ _ cells (ns.map fun i => if (10 : Int) ^ 18 ≤ i then i else 0) (fun b o q => ?_) hc64 (DrawOk.of upd_same (rd_upd (same_rd s3 c2) nc) (by rw [upd_ne ngam]; exact g3))⟩
    rw [upd_ne (ne_of_none q ham)]
    exact s3 _ _ (sH2 _ _ q)
end
end K01
namespace K01
open PySem L2 VL
abbrev s__law_order : Stmt := top 38
def N__law_order : List Str := ["_law_m", "_law_many", "_law_left", "_law_turn"]
theorem nd__law_order : N__law_order.Nodup := by decide +kernel
theorem sc__law_order : FnScope N__law_order ["_law_m", "_law_many"] (defScope s__law_order) := ⟨rfl, rfl, rfl, nd__law_order, rfl, by decide +kernel, by decide +kernel⟩
def dk__law_order : Nat → Kd
  | _ => .dat
def S__law_order : SE → M Ctl := sq (sSetO 2 (e1 lrngD (eVar 1))) (sRet (lcPF (iA rng1 (aC (eVar 1) aN)) (gNm 3) 2 (eCallM fn__law_draw (aC (eL (one1 lenD) (aC (eVar 2) aN)) aN)) [3]))
def fn__law_order : List D → M D := fun ds => runB S__law_order (envM 4 ds)
theorem b__law_order {P : Program} {w : World} {K : PySem.W.Frag} {mg : Str → Option Value} {base : Heap} {f : Addr} {f__law_draw : Addr} {d__law_draw : FuncData} {p__law_draw : List Str} (T : Tx mg) (C__law_draw : FcM P w K mg base "_law_draw" 3 f__law_draw d__law_draw p__law_draw [.dat] .dat fn__law_draw) (W : Wd) (cdv : Value) (A : Around) (outer : List Env) (s : Shared) (H : Hp) (E : XK)
    (hgd : (A.deeper (PyProof.Rows.envOfC "_law_order" (defScope s__law_order) s.heap.objs.size f cdv)).guards = some []) (hr : Room 3 (A.deeper (PyProof.Rows.envOfC "_law_order" (defScope s__law_order) s.heap.objs.size f cdv))) :
    FSs (cxOf CX0 P w K mg base N__law_order "_law_order" (defScope s__law_order) f cdv A outer s H E).nox ⟨some W, [0], dk__law_order, .dat, E0⟩ [] [] (defBody s__law_order) S__law_order [] := by
  have nd := nd__law_order
  have hc : (cxOf CX0 P w K mg base N__law_order "_law_order" (defScope s__law_order) f cdv A outer s H E).nox.calm = true := rfl
  have hu : HU (cxOf CX0 P w K mg base N__law_order "_law_order" (defScope s__law_order) f cdv A outer s H E).nox := .of hr
  have hu1 := hu_1 hu
  have hW : (⟨some W, [0], dk__law_order, .dat, E0⟩ : Ct).W = some W := rfl
  exact fss_cons (fs_setO 2 (fo_lrng T.b_list T.b_range (fr_var .dat 1)) nd) (fss_one (fs_retPop 2 (own := [("_law_turn", 3)]) hc nd (fi_rng1 T.b_range (fa_cons (fr_var .dat 1) fa_nil)) (fun _ _ _ _ _ => (fg_nm 3 nd)) (fun _ _ _ _ _ => pe_pop 2 (fr_m 0 hW C__law_draw hgd (hr.mono (by decide)) (fa_cons (fe_callB cv_len T.b_len (fab_cons (fb_own 2) fab_nil)) fa_nil)))))
end K01
namespace K01
open PySem L2 VL
abbrev s_blocks_of : Stmt := top 20
def N_blocks_of : List Str := ["parting", "found", "block", "door", "doors"]
theorem nd_blocks_of : N_blocks_of.Nodup := by decide +kernel
theorem sc_blocks_of : FnScope N_blocks_of ["parting"] (defScope s_blocks_of) := ⟨rfl, rfl, rfl, nd_blocks_of, rfl, by decide +kernel, by decide +kernel⟩
def dk_blocks_of : Nat → Kd
  | _ => .dat
def ints? : List D → Option (List Int)
  | [] => some []
  | .int i :: r => (ints? r).map (i :: ·)
  | _ => none
theorem ints?_some : ∀ {ds : List D} {bs : List Int}, ints? ds = some bs → ds = bs.map .int
  | [], _, h => by cases h; rfl
  | d :: ds, bs, h => by
    cases d with
    | int i =>
      obtain ⟨r, hr, rfl⟩ := Option.map_eq_some_iff.mp (show (ints? ds).map (i :: ·) = some bs from h)
      rw [ints?_some hr]
      rfl
    | _ => cases h
theorem ints?_map : ∀ (bs : List Int), ints? (bs.map .int) = some bs
  | [] => rfl
  | b :: bs => by
    show (ints? (bs.map .int)).map (b :: ·) = _
    rw [ints?_map bs]
    rfl
/-- the places of a block, counted from k -/
def posFrom : Nat → List Int → Int → List Int
  | _, [], _ => []
  | k, b :: bs, c => if b = c then (k : Int) :: posFrom (k + 1) bs c else posFrom (k + 1) bs c
def blkD (bs : List Int) (n : Nat) : D := .tuple ((List.range n).map fun (c : Nat) => .tuple ((posFrom 0 bs c).map .int))
def fn_blocks_of : List D → M D := fun ds => do
  let d ← fn_size_of ds
  match d, ds with
  | .int n, [.tuple xs] => (match ints? xs with
    | some bs => if 0 ≤ n ∧ n ≤ 1000 ∧ bs.length ≤ 1000 ∧ ∀ b ∈ bs, 0 ≤ b ∧ b < n then pure (blkD bs n.toNat) else M.no
    | none => M.no)
  | _, _ => M.no
theorem blk_inv {d : D} {P : D → MS → Prop} (h : Good (fn_blocks_of [d] ms0) P fun _ _ => False) : ∃ (n : Int) (bs : List Int) (m1 : MS), d = .tuple (bs.map .int) ∧ Ev (fn_size_of [d]) ms0 (.int n) m1 ∧ 0 ≤ n ∧ n ≤ 1000 ∧ bs.length ≤ 1000 ∧ (∀ b ∈ bs, 0 ≤ b ∧ b < n) ∧ P (blkD bs n.toNat) m1 := by
  have h1 := h.bd
  cases q : fn_size_of [d] ms0 with
  | bad => rw [q] at h1; exact h1.elim
  | exc x y => rw [q] at h1; exact h1.elim
  | ok r m1 =>
    rw [q] at h1
    cases r with
    | int n =>
      cases d with
      | tuple xs =>
        have h2 : Good ((match ints? xs with
          | some bs => if 0 ≤ n ∧ n ≤ 1000 ∧ bs.length ≤ 1000 ∧ ∀ b ∈ bs, 0 ≤ b ∧ b < n then pure (blkD bs n.toNat) else M.no
          | none => M.no : M D) m1) P fun _ _ => False := h1
        clear h1
        cases q2 : ints? xs with
        | none => rw [q2] at h2; exact h2.elim
        | some bs =>
          rw [q2] at h2
          obtain rfl := ints?_some q2
          by_cases hb : 0 ≤ n ∧ n ≤ 1000 ∧ bs.length ≤ 1000 ∧ ∀ b ∈ bs, 0 ≤ b ∧ b < n
          · have h3 : Good ((if 0 ≤ n ∧ n ≤ 1000 ∧ bs.length ≤ 1000 ∧ ∀ b ∈ bs, 0 ≤ b ∧ b < n then pure (blkD bs n.toNat) else M.no : M D) m1) P fun _ _ => False := h2
            rw [if_pos hb] at h3
            exact ⟨n, bs, m1, rfl, q, hb.1, hb.2.1, hb.2.2.1, hb.2.2.2, h3⟩
          · have h3 : Good ((if 0 ≤ n ∧ n ≤ 1000 ∧ bs.length ≤ 1000 ∧ ∀ b ∈ bs, 0 ≤ b ∧ b < n then pure (blkD bs n.toNat) else M.no : M D) m1) P fun _ _ => False := h2
            rw [if_neg hb] at h3
            exact h3.elim
      | _ => exact h1.elim
    | _ => exact h1.elim
theorem good_ev {α : Type} {x : M α} {m m' : MS} {a : α} {P : α → MS → Prop} {R : Exn → MS → Prop} (h : Ev x m a m') (k : P a m') : Good (x m) P R := by
  rw [show x m = .ok a m' from h]
  exact k
theorem hide_mn {Z : List Addr} {H H' : Hp} (s : Same H H') : Same (hide Z H) (hide Z H') := fun b o q => by
  obtain ⟨h1, h2⟩ := hide_some q
  rw [hide_ne h1]
  exact s _ _ h2
theorem _root_.VL.EnvOk.turnZ {K : PySem.W.Frag} {W : Option Wd} {ms : List Nat} {dk : Nat → Kd} {Z : List Addr} {H0 H : Hp} {U : List Nat} {O : List (Nat × Addr)} {e : SE} {σ : L2.St} {m : MS} {a : Addr} {o : HO} (h : EnvOk K W ms dk Z H0 U O e σ H m) (ha : a ∈ Z) (n : H0 a = none) : EnvOk K W ms dk Z H0 U O e σ (upd H a o) m := by
  have hin : a ∈ ZO Z O := List.mem_append_left _ ha
  have hh : hide (ZO Z O) (upd H a o) = hide (ZO Z O) H := hide_updZ hin
  refine ⟨h.len, h.us, h.und, h.wz, fun z hz => ?_, h.w0, h.dr.updN (h.nw0 n), same_updW h.same n, h.dm, h.nds, h.nz, fun q hq => ?_, fun j d1 h1 h2 => ?_⟩
  · by_cases t : z = a
    · rw [t, upd_same]
      exact fun x => nomatch x
    · rw [upd_ne t]
      exact h.zt0 z hz
  · obtain ⟨n', d, o', h1, h2, h3, h4, h5⟩ := h.own q hq
    have nq : q.2 ≠ a := fun t => h.nz q hq (t ▸ ha)
    exact ⟨n', d, o', h1, h2, by rw [upd_ne nq]; exact h3, by rw [hh]; exact h4, h5⟩
  · obtain ⟨v, g1, g2⟩ := h.rep j d1 h1 h2
    exact ⟨v, g1, by rw [hh]; exact g2⟩
theorem take_snoc {α : Type} {xs : List α} {i : Nat} {x : α} (h : xs[i]? = some x) : xs.take (i + 1) = xs.take i ++ [x] := by
  rw [List.take_add_one, h]
  rfl
theorem atI_nn {α : Type} {xs : List α} {i : Int} {x : α} (h0 : 0 ≤ i) (h : xs[i.toNat]? = some x) : atI xs i = some x := by
  have := atI_nat h
  rwa [Int.toNat_of_nonneg h0] at this
theorem dn0 {H : Hp} {m : MS} : DrawOk none H m := fun w q => nomatch q
theorem posFrom_snoc : ∀ (k : Nat) (bs : List Int) (b c : Int), posFrom k (bs ++ [b]) c = posFrom k bs c ++ (if b = c then [((k + bs.length : Nat) : Int)] else [])
  | k, [], b, c => by
    show (if b = c then _ else _) = _
    simp [posFrom]
  | k, x :: bs, b, c => by
    rw [List.cons_append]
    show (if x = c then _ else _) = (if x = c then _ else _) ++ _
    rw [posFrom_snoc (k + 1) bs b c]
    have e : k + 1 + bs.length = k + (x :: bs).length := by
      rw [List.length_cons]
      omega
    rw [e]
    by_cases h : x = c
    · rw [if_pos h, if_pos h, List.cons_append]
    · rw [if_neg h, if_neg h]
theorem posFrom_len : ∀ (k : Nat) (bs : List Int) (c : Int), (posFrom k bs c).length ≤ bs.length
  | _, [], _ => Nat.le_refl _
  | k, x :: bs, c => by
    show (if x = c then _ else _ : List Int).length ≤ _
    have := posFrom_len (k + 1) bs c
    by_cases h : x = c
    · rw [if_pos h, List.length_cons, List.length_cons]
      omega
    · rw [if_neg h, List.length_cons]
      omega
section
variable {P : Program} {w : World} {K : PySem.W.Frag} {mg : Str → Option Value} {base : Heap}
theorem ok_blocks_of {f f1 : Addr} {fd d1 : FuncData} {p1 : List Str} (T : Tx mg) (F : Fun K "blocks_of" "blocks_of" s_blocks_of f fd) (C_ : Fc P w K mg base "size_of" 4 f1 d1 p1 [.dat] .dat fn_size_of) :
    FnV P w K mg base CX0 5 f fd ["parting"] (spP K [.dat] .dat fn_blocks_of) := by
  refine fnV_of F sc_blocks_of (spP_len rfl) fun cdv A outer s H vs Q E hga hr hsp => ?_
  obtain ⟨Zs, ds, hz, hA, hG⟩ := hsp
  have hgd : (cxOf CX0 P w K mg base N_blocks_of "blocks_of" (defScope s_blocks_of) f cdv A outer s H E).nox.A.guards = some [] := hga
  have nd := nd_blocks_of
  have hc : (cxOf CX0 P w K mg base N_blocks_of "blocks_of" (defScope s_blocks_of) f cdv A outer s H E).nox.calm = true := rfl
  have hu : HU (cxOf CX0 P w K mg base N_blocks_of "blocks_of" (defScope s_blocks_of) f cdv A outer s H E).nox := .of hr
  obtain ⟨w1, pi1, ri1⟩ : FI (cxOf CX0 P w K mg base N_blocks_of "blocks_of" (defScope s_blocks_of) f cdv A outer s H E).nox ⟨none, [], dk_blocks_of, .dat, E0⟩ [] .dat _ _ (iA rng1 (aC (eCall fn_size_of (aC (eVar 0) aN)) aN)) :=
    fi_rng1 T.b_range (fa_cons (fr_f C_ hgd (hr.mono (by decide)) (fa_cons (fr_var .dat 0) fa_nil)) fa_nil)
  obtain ⟨w2, pi2, ri2⟩ : FI (cxOf CX0 P w K mg base N_blocks_of "blocks_of" (defScope s_blocks_of) f cdv A outer s H E).nox ⟨none, [], dk_blocks_of, .dat, E0⟩ [] .dat _ _ (iA (enB false) (aC (eVar 0) aN)) :=
    fi_enum false T.b_enumerate (fa_cons (fr_var .dat 0) fa_nil)
  have hg2 : ∀ p q kk r, FG (cxOf CX0 P w K mg base N_blocks_of "blocks_of" (defScope s_blocks_of) f cdv A outer s H E).nox ⟨none, [], dk_blocks_of, .dat, E0⟩ [] .dat [3, 2] (.Tuple [.Name "door" p, .Name "block" q] kk r) (gTp 2 (gC (gNm 3) (gC (gNm 2) gN0))) := fun _ _ _ _ =>
    fg_tup (n := 2) hc (fg_cons (fg_nm 3 nd) (fg_cons (fg_nm 2 nd) fg_nil))
  refine ⟨_, (pss_cons (ps_setLc (i := 1) (g := tG (cxOf CX0 P w K mg base N_blocks_of "blocks_of" (defScope s_blocks_of) f cdv A outer s H E).nox ⟨none, [], dk_blocks_of, .dat, E0⟩ [] .dat [2] (gNm 2)) (tt := tT (cxOf CX0 P w K mg base N_blocks_of "blocks_of" (defScope s_blocks_of) f cdv A outer s H E).nox ⟨none, [], dk_blocks_of, .dat, E0⟩ [] tYs) (own := [("block", 2)]) hc nd rfl rfl rfl pi1 (blkOk_by rfl) (fun _ _ _ _ _ => fg_nm 2 nd) (fun _ _ _ _ _ => fts_nil) (fun _ _ _ _ _ => pe_lst pa_nil))
    (pss_cons (ps_for PassesOwn.never hc pi2 (hg2 _ _ _ _)
      (pss_one (ps_expr (pe_bm PySem.F.plainAttrs_list PySem.F.slot_list_append PySem.F.type_list_append mt_append (pe_ix ix_list (pv 1) (pv 2) (fun _ _ => rfl)) (pa_cons (pv 3) pa_nil)) rfl)))
    (pss_one (ps_ret (FR.pe (c := ⟨none, [], dk_blocks_of, .dat, E0⟩) (U := []) (k := .dat)
      (fe_callTy cv_tuple T.b_tuple (fab_cons (fb (fe_of (fo_lc [("doors", 4)] hc nd (fi_l (fr_var .dat 1)) (fun _ _ _ _ _ => fg_nm 4 nd) (fun _ _ _ _ _ => fts_nil)
        (fun _ _ _ _ _ => fe_callTy cv_tuple T.b_tuple (fab_cons (fb (fr_var .dat 4)) fab_nil))))) fab_nil)))))) 
    : PSs (cxOf CX0 P w K mg base N_blocks_of "blocks_of" (defScope s_blocks_of) f cdv A outer s H E).nox _ _).nox, ?_⟩
  have hl := hA.len
  obtain ⟨v, rfl⟩ : ∃ v, vs = [v] := by
    match vs, hl.1 with
    | [v], _ => exact ⟨v, rfl⟩
  obtain ⟨d, rfl⟩ : ∃ d, ds = [d] := by
    match ds, hl.2 with
    | [d], _ => exact ⟨d, rfl⟩
  have hd : Dq K (hide Zs H) v d := hA.1
  obtain ⟨n, bs, m1, rfl, hev, n0, n1, hbl, hb, hQ⟩ := blk_inv hG
  have E0 : EnvOk K none [] dk_blocks_of Zs H [] [] [some (.tuple (bs.map .int)), none, none, none, none] [some v, none, none, none, none] H ms0 :=
    ⟨rfl, fun i => Iff.rfl, List.nodup_nil, (fun w q => nomatch q), hz, (fun w q => nomatch q), (fun w q => nomatch q), SameW.refl _ _, (fun w q => nomatch q), List.nodup_nil, (fun p hp => nomatch hp), (fun p hp => nomatch hp), fun i d h1 _ => by
      match i, h1 with
      | 0, h1 =>
        cases h1
        exact ⟨v, rfl, hd.mono (hide_sub fun b hb => by simpa [ZO] using hb)⟩
      | 1, h1 => cases h1
      | 2, h1 => cases h1
      | 3, h1 => cases h1
      | 4, h1 => cases h1⟩
  refine ri1 Zs H [] _ [some v, none, none, none, none] H ms0 _ E0 (good_ev (v_iA (es := rngI 0 n.toNat) (v_aC (v_call (v_aC (v_var 0 rfl) v_aN) hev) v_aN) (by show (if -(2 ^ 62) ≤ n ∧ n < 2 ^ 62 then some (rngI 0 n.toNat) else none) = _; rw [if_pos ⟨by omega, by omega⟩])) ?_)
  intro J H1 s1 _ wk a na
  have s1' : Same H H1 := sameN s1
  have hlr : (rngI 0 n.toNat).length = n.toNat := by
    unfold rngI
    rw [List.length_map, List.length_range]
  have szl : ∀ k : Nat, k ≤ 1000 → k < sizeLine := fun k hk => by
    rw [sizeLine_eq]
    omega
  rw [hlr] at wk
  refine lc_it wk (fun i H' => ∃ ps : List Addr, ps.length = i ∧ ps.Nodup ∧ Same H1 H' ∧ H' a = some (.lst (ps.map .ref)) ∧ ∀ p ∈ ps, H1 p = none ∧ p ≠ a ∧ H' p = some (.lst [])) ⟨[], rfl, List.nodup_nil, same_new na _, upd_same, fun p hp => nomatch hp⟩
    (fun i H' _ ⟨ps, _, _, s, _⟩ => (hide_same _ _).trans s) (fun i x H3 H4 hi ⟨ps, hpl, hnd, s3, ha3, hps⟩ y => ?_) (fun H' ⟨ps, hpl, hnd, s3, ha3, hps⟩ => ?_)
  · obtain ⟨sy, d', hd', hr'⟩ := y
    have E3 := (E0.step (s1.trans (SameW.of (s3.trans sy))) (dn0 (m := ms0))).wiped (vs := [2]) (fun i _ => (nomatch ·)) (fun i _ => (nomatch ·))
    refine ⟨Zs, H, [], _, ms0, d', E3, hr' _ (E0.step (s1.trans (SameW.of s3)) (dn0 (m := ms0))).zt (hide_mn s3), good_ev (v_gNm 2 d' _ ms0) fun σ2 H5 s5 w5 E5 => ⟨(w5 [2] (fun i hi => hi)).trans wipe_wipe, Zs, H, [], _, ms0, E5, good_ev (v_tYs _ ms0) fun H6 s6 _ => ?_⟩⟩
    dsimp only
    rw [if_pos rfl]
    refine ⟨Nat.zero_le _, fun p hp => ?_⟩
    have s36 : Same H3 H6 := sy.trans ((sameN s5).trans (sameN s6))
    have ha6 := s36 _ _ ha3
    have npa : p ≠ a := fun e => by
      rw [e, ha6] at hp
      cases hp
    have hp1 : H1 p = none := by
      cases q : H1 p with
      | none => rfl
      | some o =>
        rw [s36 _ _ (s3 _ _ q)] at hp
        cases hp
    have nps : p ∉ ps := fun h => by
      rw [s36 _ _ (hps p h).2.2] at hp
      cases hp
    refine ⟨ps.map .ref, by rw [upd_ne npa.symm]; exact ha6, by rw [List.length_map]; exact szl _ (by omega), ps ++ [p], by rw [List.length_append, hpl]; rfl, ?_, ?_, ?_, fun q hq => ?_⟩
    · rw [List.nodup_append]
      exact ⟨hnd, List.nodup_cons.mpr ⟨(fun h => nomatch h), List.nodup_nil⟩, fun x hx y hy e => by
        obtain rfl := List.mem_singleton.mp hy
        exact nps (e ▸ hx)⟩
    · intro b o q
      have nb : b ≠ a := ne_of_none q na
      rw [upd_ne nb, upd_ne (ne_of_none q hp1)]
      exact s36 _ _ (s3 _ _ q)
    · rw [upd_same, List.map_append]
      rfl
    · rcases List.mem_append.mp hq with h | h
      · have nq : q ≠ p := fun e => nps (e ▸ h)
        obtain ⟨h1, h2, h3⟩ := hps q h
        refine ⟨h1, h2, ?_⟩
        rw [upd_ne h2, upd_ne nq]
        exact s36 _ _ h3
      · obtain rfl := List.mem_singleton.mp h
        refine ⟨hp1, npa, ?_⟩
        rw [upd_ne npa, upd_same]
  · -- the second loop
    have sH : Same H H' := s1'.trans s3
    have nH : ∀ p, H1 p = none → H p = none := fun p q => by
      cases r : H p with
      | none => rfl
      | some o =>
        rw [s1' _ _ r] at q
        cases q
    have hmem : ∀ b, H1 b ≠ none → b ∉ Zs → b ∉ a :: (ps ++ Zs) := fun b hb1 hb2 h => by
      rcases List.mem_cons.mp h with h | h
      · exact hb1 (h ▸ na)
      · rcases List.mem_append.mp h with h | h
        · exact hb1 (hps b h).1
        · exact hb2 h
    have sub2 : Same (hide Zs H) (hide (ZO (a :: (ps ++ Zs)) []) H') := fun b o q => by
      obtain ⟨h1, h2⟩ := hide_some q
      rw [hide_ne (by rw [show ZO (a :: (ps ++ Zs)) [] = a :: (ps ++ Zs) from List.append_nil _]; exact hmem b (by rw [s1' _ _ h2]; exact fun x => nomatch x) h1)]
      exact sH _ _ h2
    have E2 : EnvOk K none [] dk_blocks_of (a :: (ps ++ Zs)) H [] [] [some (.tuple (bs.map .int)), none, none, none, none] [some v, some (.ref a), none, none, none] H' ms0 :=
      ⟨rfl, fun i => Iff.rfl, List.nodup_nil, (fun w q => nomatch q), (fun z hz' => by
        rcases List.mem_cons.mp hz' with h | h
        · rw [h, ha3]
          exact fun x => nomatch x
        · rcases List.mem_append.mp h with h | h
          · rw [(hps z h).2.2]
            exact fun x => nomatch x
          · cases q : H z with
            | none => exact absurd q (hz z h)
            | some o =>
              rw [sH _ _ q]
              exact fun x => nomatch x), (fun w q => nomatch q), (fun w q => nomatch q), SameW.of sH, (fun w q => nomatch q), List.nodup_nil, (fun p hp => nomatch hp), (fun p hp => nomatch hp), fun i d h1 _ => by
        match i, h1 with
        | 0, h1 =>
          cases h1
          exact ⟨v, rfl, hd.mono sub2⟩
        | 1, h1 => cases h1
        | 2, h1 => cases h1
        | 3, h1 => cases h1
        | 4, h1 => cases h1⟩
    refine ri2 (a :: (ps ++ Zs)) H [] _ [some v, some (.ref a), none, none, none] H' ms0 _ E2 (good_ev (v_iA (es := enumD (bs.map .int)) (v_aC (v_var 0 rfl) v_aN) rfl) ?_)
    intro J2 H3 s4 _ wk2
    have E3 := E2.step s4 (dn0 (m := ms0))
    have s4' : Same H' H3 := sameN s4
    rw [enumD_len, List.length_map] at wk2
    refine for_it wk2 (fun i σ' H4 => ∃ en', en'.length = 5 ∧ EnvOk K none [] dk_blocks_of (a :: (ps ++ Zs)) H [] [] en' σ' H4 ms0 ∧ Same (hide (ZO (a :: (ps ++ Zs)) []) H3) (hide (ZO (a :: (ps ++ Zs)) []) H4) ∧ σ'[1]? = some (some (.ref a)) ∧ H4 a = some (.lst (ps.map .ref)) ∧ ∀ j p, ps[j]? = some p → H4 p = some (.lst ((posFrom 0 (bs.take i) (j : Nat)).map V.int)))
      ⟨_, rfl, E3, fun _ _ q => q, rfl, s4' _ _ ha3, fun j p hp => ?_⟩ (fun i σ' H4 _ ⟨en', hl5, E4, s, _⟩ => s.trans (hide_same _ _)) (fun i x σ' H4 H5 hi ⟨en', hl5, E4, s4, hσ, ha4, hp4⟩ y => ?_) (fun σ' H4 ⟨en', hl5, E4, s4, hσ, ha4, hp4⟩ => ?_)
    · rw [s4' _ _ (hps p (List.mem_of_getElem? hp)).2.2]
      rfl
    · obtain ⟨sy, d', hd', hr'⟩ := y
      obtain ⟨b', hb', rfl⟩ := enumD_inv hd'
      obtain ⟨b, hb'', rfl⟩ := map_inv hb'
      refine ⟨_, H, [], en', ms0, _, E4.grow sy, hr' _ E4.zt s4, good_ev (v_gTp2 3 2 _ _ en' ms0) fun σ2 H6 s6 w6 E6 => ?_⟩
      have hσ1 : σ2[1]? = some (some (.ref a)) := by
        rw [← wipeS_out (σ := σ2) (vs := [3, 2]) (by decide), w6 [3, 2] (fun i hi => hi), wipeS_out (by decide)]
        exact hσ
      obtain ⟨v2, g2, q2⟩ := E6.rep 2 (.int b) (by rw [List.getElem?_set_self (by rw [List.length_set]; omega)]) (fun h => nomatch h)
      obtain ⟨v3, g3, q3⟩ := E6.rep 3 (.int (i : Nat)) (by rw [List.getElem?_set_ne (by decide), List.getElem?_set_self (by omega)]) (fun h => nomatch h)
      cases (show Dq K _ v2 (.int b) from q2)
      cases (show Dq K _ v3 (.int (i : Nat)) from q3)
      obtain ⟨hb0, hbn⟩ := hb b (List.mem_of_getElem? hb'')
      have s56 : Same H4 H6 := sy.trans (sameN s6)
      have ha6 := s56 _ _ ha4
      have hbi : b.toNat < ps.length := by omega
      obtain ⟨p, hp⟩ : ∃ p, ps[b.toNat]? = some p := ⟨_, List.getElem?_eq_getElem hbi⟩
      have hpm := List.mem_of_getElem? hp
      have hp6 := s56 _ _ (hp4 _ _ hp)
      have hat : atI (ps.map V.ref) b = some (.ref p) := atI_nn hb0 (by rw [List.getElem?_map, hp]; rfl)
      have npa : p ≠ a := (hps p hpm).2.1
      have hlp : (posFrom 0 (bs.take i) b).length ≤ (bs.take i).length := posFrom_len _ _ _
      have hpz : p ∈ a :: (ps ++ Zs) := List.mem_cons_of_mem _ (List.mem_append_left _ hpm)
      rw [show ((b.toNat : Nat) : Int) = b from Int.toNat_of_nonneg hb0] at hp6
      refine ⟨_, hσ1, _, g2, a, ps.map .ref, b, .ref p, rfl, rfl, .inl (.inl ha6), hat, .inl ⟨rfl, _, .inl (.inl hp6)⟩, _, g3, p, _, _, rfl, rfl, hp6, ?_, _, ?_, E6.turnZ hpz (nH p (hps p hpm).1), ?_, hσ1, ?_, fun j q hq => ?_⟩
      · rw [List.length_map]
        refine szl _ (Nat.le_trans hlp ?_)
        rw [List.length_take]
        omega
      · rw [List.length_set, List.length_set]
        exact hl5
      · rw [hide_updZ (by rw [show ZO (a :: (ps ++ Zs)) [] = a :: (ps ++ Zs) from List.append_nil _]; exact hpz)]
        exact s4.trans (hide_mn s56)
      · rw [upd_ne npa.symm]
        exact ha6
      · rw [take_snoc hb'', posFrom_snoc, List.length_take]
        by_cases hj : j = b.toNat
        · subst hj
          rw [hp] at hq
          cases hq
          rw [upd_same, show ((b.toNat : Nat) : Int) = b from Int.toNat_of_nonneg hb0, if_pos rfl, List.map_append]
          have hib : i < bs.length := hi
          rw [Nat.min_eq_left (Nat.le_of_lt hib), Nat.zero_add]
          rfl
        · have nq : q ≠ p := fun e => hj (by
            exact (List.getElem?_inj (List.getElem?_eq_some_iff.mp hq).1 hnd).mp (by rw [hq, hp, e]))
          rw [upd_ne nq, if_neg (by omega), List.append_nil]
          exact s56 _ _ (hp4 _ _ hq)
    · -- the return
      have hsl : ∃ x0 x2 x3 x4, σ' = [x0, some (.ref a), x2, x3, x4] := by
        have hl := E4.len
        rw [hl5] at hl
        match σ', hl, hσ with
        | [x0, x1, x2, x3, x4], _, hσ =>
          have hσ : some x1 = some (some (.ref a)) := hσ
          cases hσ
          exact ⟨x0, x2, x3, x4, rfl⟩
      obtain ⟨x0, x2, x3, x4, rfl⟩ := hsl
      have sH4 : Same H H4 := sameN E4.same
      have nz : ∀ p, H p = none → p ∉ Zs := fun p q h => hz p h q
      have hrep : Dq K (hide Zs H4) (.ref a) (.list ((List.range n.toNat).map fun (c : Nat) => .list ((posFrom 0 bs c).map .int))) := by
        refine Dq.lst (xs := ps.map .ref) (Rd.of (by rw [hide_ne (nz a (nH a na))]; exact ha4)) ?_
        have key : ∀ (qs : List Addr) (k : Nat), (∀ j p, qs[j]? = some p → H p = none ∧ H4 p = some (.lst ((posFrom 0 bs ((k + j : Nat) : Int)).map V.int))) → DqAll K (hide Zs H4) (qs.map .ref) ((List.range' k qs.length).map fun (c : Nat) => .list ((posFrom 0 bs c).map .int)) := by
          intro qs
          induction qs with
          | nil => exact fun k h => .nil
          | cons q qs ih =>
            intro k h
            obtain ⟨h1, h2⟩ := h 0 q rfl
            refine .cons (Dq.lst (Rd.of (by rw [hide_ne (nz q h1)]; exact h2)) (DqAll.ofInts _)) (ih (k + 1) fun j p hp => ?_)
            have := h (j + 1) p hp
            rwa [show k + (j + 1) = k + 1 + j by omega] at this
        have := key ps 0 fun j p hp => ⟨nH p (hps p (List.mem_of_getElem? hp)).1, by
          have := hp4 j p hp
          rwa [List.take_of_length_le (by simp), show j = 0 + j by omega] at this⟩
        rw [hpl, ← List.range_eq_range'] at this
        exact this
      have E5 : EnvOk K none [] dk_blocks_of Zs H4 [] [] [none, some (.list ((List.range n.toNat).map fun (c : Nat) => .list ((posFrom 0 bs c).map .int))), none, none, none] [x0, some (.ref a), x2, x3, x4] H4 ms0 :=
        ⟨rfl, fun i => Iff.rfl, List.nodup_nil, (fun w q => nomatch q), (fun z hz' => by
          cases q : H z with
          | none => exact absurd q (hz z hz')
          | some o =>
            rw [sH4 _ _ q]
            exact fun x => nomatch x), (fun w q => nomatch q), (fun w q => nomatch q), SameW.refl _ _, (fun w q => nomatch q), List.nodup_nil, (fun p hp => nomatch hp), (fun p hp => nomatch hp), fun i d h1 _ => by
          match i, h1 with
          | 0, h1 => cases h1
          | 1, h1 =>
            cases h1
            refine ⟨_, rfl, ?_⟩
            rw [show ZO Zs [] = Zs from List.append_nil _]
            exact hrep
          | 2, h1 => cases h1
          | 3, h1 => cases h1
          | 4, h1 => cases h1⟩
      refine ⟨Zs, H4, [], _, ms0, E5, good_ev (a := blkD bs n.toNat) (m' := ms0) ?_ fun v' H5 s5 _ q5 => hQ v' H5 (sH4.trans (sameN s5)) ?_⟩
      · refine v_eL (v_aC (v_lc (v_iL (v_var 1 rfl) rfl) (v_lcM (fun d => match d with | .list xs => .tuple xs | d => d) fun d hd => ?_) ?_) v_aN) ?_
        · obtain ⟨c, _, rfl⟩ := List.mem_map.mp hd
          exact v_stepT (v_gNm 4 _ _ ms0) (v_tYs _ ms0) (v_eL (v_aC (v_var 4 rfl) v_aN) rfl)
        · rw [List.length_map, List.length_map, List.length_range]
          show n.toNat ≤ 16000000
          omega
        · rw [List.map_map]
          rfl
      · rw [show ZO Zs [] = Zs from List.append_nil _] at q5
        exact q5
end
end K01
namespace K01
open PySem L2 VL
set_option maxHeartbeats 0
abbrev s_law : Stmt := top 45
def N_law : List Str := ["_law_script", "_law_m", "_law_many", "_law_first", "_law_second", "_law_size", "_law_codes", "_law_blocks", "_law_told", "_law_above", "_law_below", "_law_due", "_law_doors", "_law_third", "_law_few", "_law_labels", "_law_closing", "_law_block", "_law_at"]
theorem nd_law : N_law.Nodup := by decide +kernel
theorem sc_law : FnScope N_law ["_law_script"] (defScope s_law) := ⟨rfl, rfl, rfl, nd_law, rfl, by decide +kernel, by decide +kernel⟩
def dk_law : Nat → Kd
  | 3 => .nd
  | 4 => .nd
  | 10 => .nd
  | _ => .dat
def S_law : SE → M Ctl := (sq (sSet 2 (e2 addD (eC (.int 1)) (eCallM fn__law_draw (aC (eIf (tV asB (e2 gtD (eCallM fn__law_draw (aC (eC (.int 3)) aN)) (eC (.int 0)))) (eC (.int 60)) (eC (.int 7))) aN)))) (sq (sSet 3 (eCallM fn__law_any_parting (aC (eVar 2) aN))) (sq (sSet 4 (eIf (tV asB (e2 eqD (eCallM fn__law_draw (aC (eC (.int 2)) aN)) (eC (.int 0)))) (eCallM fn__law_any_parting (aC (eVar 2) aN)) (eCallM fn__law_coarser (aC (eVar 3) aN)))) (sq (sSet 5 (e2 addD (eL (one1 maxV) (aC (eVar 3) aN)) (eC (.int 1)))) (sq (sSet 6 (lcF (iA rng1 (aC (eVar 5) aN)) (gNm 17) tYs (e2 mulD (e2 addD (e2 mulD (eCallM fn__law_draw (aC (eC (.int 1000000000)) aN)) (eC (.int 61))) (eVar 17)) (e2 subD (eC (.int 1)) (e2 mulD (eC (.int 2)) (eCallM fn__law_draw (aC (eC (.int 2)) aN))))) [17])) (sq (sSet 7 (eL (one1 tupD) (aC (lcF (iA rng1 (aC (eVar 5) aN)) (gNm 17) tYs (eL (one1 tupD) (aC (lcF (iA rng1 (aC (eVar 2) aN)) (gNm 18) (tV asB (e2 eqD (e2 ixD (eVar 3) (eVar 18)) (eVar 17))) (eVar 18) [18]) aN)) [17]) aN))) (sq (sSet 8 (eL mkL (aC (eCall fn_parting_of (aC (eL (one1 tupD) (aC (lcF (iL seqT (eVar 3)) (gNm 17) tYs (e2 ixD (eVar 6) (eVar 17)) [17]) aN)) aN)) (aC (eCall fn_blocks_of (aC (eVar 3) aN)) (aC (eCall fn_size_of (aC (eVar 3) aN)) (aC (eCall fn_need_parting (aC (eVar 3) aN)) aN)))))) (sq (sIf (tOr2 (tNot1 (tV asB (eCall fn__law_like (aC (eVar 8) (aC (eL mkL (aC (eVar 3) (aC (eVar 7) (aC (eVar 5) (aC (eVar 3) aN))))) aN))))) (tV asB (e2 isNBD (eCall fn_is_parting (aC (eVar 3) aN)) (eC (.bool true))))) (sRet (eC (.bool false))) sNx) (sq (sAsg (gTp 2 (gC (gNm 15) (gC (gNm 16) gN0))) (eCall fn__law_hung (aC (eVar 3) (aC (eVar 4) aN)))) (sq (sSet 9 (eCall fn__law_numbered (aC (lcF (iL seqT (eVar 3)) (gNm 17) tYs (e2 ixD (eVar 15) (eVar 17)) [17]) aN))) (sq (sSet 10 (eCall fn__law_numberedT (aC (eL (lzD false false) (aC (eVar 3) (aC (eVar 4) aN))) aN))) (sq (sSet 8 (eL mkL (aC (eCall fn_finest_above (aC (eVar 3) (aC (eVar 4) aN))) (aC (eCall fn_coarsest_below (aC (eVar 3) (aC (eVar 4) aN))) (aC (eCall fn_is_finer (aC (eVar 3) (aC (eVar 4) aN))) (aC (eCall fn_is_finer (aC (eVar 4) (aC (eVar 3) aN))) aN)))))) (sq (sSet 11 (eL mkL (aC (eVar 9) (aC (eVar 10) (aC (eCall fn__law_is_finer (aC (eVar 3) (aC (eVar 4) aN))) (aC (eCall fn__law_is_finer (aC (eVar 4) (aC (eVar 3) aN))) aN)))))) (sq (sIf (tOr2 (tNot1 (tV asB (eCall fn__law_like (aC (eVar 8) (aC (eVar 11) aN))))) (tNot1 (tV asB (eCall fn__law_like (aC (eCall fn_finest_above (aC (eVar 4) (aC (eVar 3) aN))) (aC (eVar 9) aN)))))) (sRet (eC (.bool false))) sNx) (sq (sSet 8 (eL mkL (aC (eCall fn_is_finer (aC (eVar 3) (aC (eVar 9) aN))) (aC (eCall fn_is_finer (aC (eVar 4) (aC (eVar 9) aN))) (aC (eCall fn_is_finer (aC (eVar 10) (aC (eVar 3) aN))) (aC (eCall fn_is_finer (aC (eVar 10) (aC (eVar 4) aN))) aN)))))) (sq (sIf (tNot1 (tV asB (eCall fn__law_like (aC (eVar 8) (aC (eL mkL (aC (eC (.bool true)) (aC (eC (.bool true)) (aC (eC (.bool true)) (aC (eC (.bool true)) aN))))) aN))))) (sRet (eC (.bool false))) sNx) (sq (sSet 12 (slD (eCallM fn__law_order (aC (eVar 2) aN)) pN (pS (e2 addD (eC (.int 1)) (eCallM fn__law_draw (aC (eVar 2) aN)))))) (sq (sSet 11 (eCall fn__law_numbered (aC (lcF (iL seqL (eVar 12)) (gNm 18) tYs (e2 ixD (eVar 3) (eVar 18)) [18]) aN))) (sq (sIf (tNot1 (tV asB (eCall fn__law_like (aC (eCall fn_parting_of_some (aC (eVar 3) (aC (eL (one1 tupD) (aC (eVar 12) aN)) aN))) (aC (eVar 11) aN))))) (sRet (eC (.bool false))) sNx) (sq (sSet 13 (eIf (tV asB (e2 ltD (eVar 2) (eC (.int 60)))) (eCallM fn__law_any_parting (aC (e2 addD (eC (.int 1)) (eCallM fn__law_draw (aC (e2 subD (eC (.int 61)) (eVar 2)) aN))) aN)) (eL mkT (aC (eC (.int 0)) aN)))) (sq (sSet 11 (e2 addD (eVar 3) (eL (one1 tupD) (aC (lcF (iL seqT (eVar 13)) (gNm 17) tYs (e2 addD (eVar 5) (eVar 17)) [17]) aN)))) (sq (sIf (tAnd2 (tV asB (e2 leD (eL (one1 lenD) (aC (eVar 11) aN)) (eC (.int 60)))) (tNot1 (tV asB (eCall fn__law_like (aC (eCall fn_beside (aC (eVar 3) (aC (eVar 13) aN))) (aC (eVar 11) aN)))))) (sRet (eC (.bool false))) sNx) (sq (sSet 14 (e2 addD (eC (.int 1)) (eCallM fn__law_draw (aC (eC (.int 8)) aN)))) (sRet (eCall fn__law_like (aC (eCall fn_all_partings (aC (eVar 14) aN)) (aC (eL (one1 tupD) (aC (eCall fn__law_partings (aC (eVar 14) aN)) aN)) aN)))))))))))))))))))))))))))
theorem b_law {P : Program} {w : World} {K : PySem.W.Frag} {mg : Str → Option Value} {base : Heap} {f : Addr} {f__law_draw : Addr} {d__law_draw : FuncData} {p__law_draw : List Str} {f__law_any_parting : Addr} {d__law_any_parting : FuncData} {p__law_any_parting : List Str} {f__law_coarser : Addr} {d__law_coarser : FuncData} {p__law_coarser : List Str} {f_need_parting : Addr} {d_need_parting : FuncData} {p_need_parting : List Str} {f_size_of : Addr} {d_size_of : FuncData} {p_size_of : List Str} {f_blocks_of : Addr} {d_blocks_of : FuncData} {p_blocks_of : List Str} {f_parting_of : Addr} {d_parting_of : FuncData} {p_parting_of : List Str} {f_is_parting : Addr} {d_is_parting : FuncData} {p_is_parting : List Str} {f__law_like : Addr} {d__law_like : FuncData} {p__law_like : List Str} {f__law_hung : Addr} {d__law_hung : FuncData} {p__law_hung : List Str} {f__law_numbered : Addr} {d__law_numbered : FuncData} {p__law_numbered : List Str} {f__law_numberedT : Addr} {d__law_numberedT : FuncData} {p__law_numberedT : List Str} {f_is_finer : Addr} {d_is_finer : FuncData} {p_is_finer : List Str} {f_coarsest_below : Addr} {d_coarsest_below : FuncData} {p_coarsest_below : List Str} {f_finest_above : Addr} {d_finest_above : FuncData} {p_finest_above : List Str} {f__law_is_finer : Addr} {d__law_is_finer : FuncData} {p__law_is_finer : List Str} {f__law_order : Addr} {d__law_order : FuncData} {p__law_order : List Str} {f_parting_of_some : Addr} {d_parting_of_some : FuncData} {p_parting_of_some : List Str} {f_beside : Addr} {d_beside : FuncData} {p_beside : List Str} {f__law_partings : Addr} {d__law_partings : FuncData} {p__law_partings : List Str} {f_all_partings : Addr} {d_all_partings : FuncData} {p_all_partings : List Str} (T : Tx mg) (C__law_draw : FcM P w K mg base "_law_draw" 3 f__law_draw d__law_draw p__law_draw [.dat] .dat fn__law_draw) (C__law_any_parting : FcM P w K mg base "_law_any_parting" 4 f__law_any_parting d__law_any_parting p__law_any_parting [.dat] .nd fn__law_any_parting) (C__law_coarser : FcM P w K mg base "_law_coarser" 4 f__law_coarser d__law_coarser p__law_coarser [.dat] .nd fn__law_coarser) (C_need_parting : Fc P w K mg base "need_parting" 3 f_need_parting d_need_parting p_need_parting [.dat] .dat fn_need_parting) (C_size_of : Fc P w K mg base "size_of" 4 f_size_of d_size_of p_size_of [.dat] .dat fn_size_of) (C_blocks_of : Fc P w K mg base "blocks_of" 5 f_blocks_of d_blocks_of p_blocks_of [.dat] .dat fn_blocks_of) (C_parting_of : Fc P w K mg base "parting_of" 2 f_parting_of d_parting_of p_parting_of [.dat] .dat fn_parting_of) (C_is_parting : Fc P w K mg base "is_parting" 4 f_is_parting d_is_parting p_is_parting [.dat] .dat fn_is_parting) (C__law_like : Fc P w K mg base "_law_like" 1 f__law_like d__law_like p__law_like [.dat, .dat] .dat fn__law_like) (C__law_hung : Fc P w K mg base "_law_hung" 1 f__law_hung d__law_hung p__law_hung [.dat, .dat] .dat fn__law_hung) (C__law_numbered : Fc P w K mg base "_law_numbered" 1 f__law_numbered d__law_numbered p__law_numbered [.dat] .nd fn__law_numbered) (C__law_numberedT : Fc P w K mg base "_law_numbered" 1 f__law_numberedT d__law_numberedT p__law_numberedT [.pl] .nd fn__law_numberedT) (C_is_finer : Fc P w K mg base "is_finer" 5 f_is_finer d_is_finer p_is_finer [.nd, .dat] .dat fn_is_finer) (C_coarsest_below : Fc P w K mg base "coarsest_below" 5 f_coarsest_below d_coarsest_below p_coarsest_below [.dat, .dat] .dat fn_coarsest_below) (C_finest_above : Fc P w K mg base "finest_above" 5 f_finest_above d_finest_above p_finest_above [.dat, .dat] .dat fn_finest_above) (C__law_is_finer : Fc P w K mg base "_law_is_finer" 1 f__law_is_finer d__law_is_finer p__law_is_finer [.dat, .dat] .dat fn__law_is_finer) (C__law_order : FcM P w K mg base "_law_order" 4 f__law_order d__law_order p__law_order [.dat] .dat fn__law_order) (C_parting_of_some : Fc P w K mg base "parting_of_some" 4 f_parting_of_some d_parting_of_some p_parting_of_some [.dat, .dat] .dat fn_parting_of_some) (C_beside : Fc P w K mg base "beside" 5 f_beside d_beside p_beside [.dat, .dat] .dat fn_beside) (C__law_partings : Fc P w K mg base "_law_partings" 1 f__law_partings d__law_partings p__law_partings [.dat] .dat fn__law_partings) (C_all_partings : Fc P w K mg base "all_partings" 4 f_all_partings d_all_partings p_all_partings [.dat] .dat fn_all_partings) (W : Wd) (cdv : Value) (A : Around) (outer : List Env) (s : Shared) (H : Hp) (E : XK)
    (hgd : (A.deeper (PyProof.Rows.envOfC "law" (defScope s_law) s.heap.objs.size f cdv)).guards = some []) (hr : Room 5 (A.deeper (PyProof.Rows.envOfC "law" (defScope s_law) s.heap.objs.size f cdv))) :
    FSs (cxOf CX0 P w K mg base N_law "law" (defScope s_law) f cdv A outer s H E).nox ⟨some W, [1], dk_law, .dat, E0⟩ [] [] ((defBody s_law).drop 1) S_law [] := by
  have nd := nd_law
  have hc : (cxOf CX0 P w K mg base N_law "law" (defScope s_law) f cdv A outer s H E).nox.calm = true := rfl
  have hu : HU (cxOf CX0 P w K mg base N_law "law" (defScope s_law) f cdv A outer s H E).nox := .of hr
  have hu1 := hu_1 hu
  have hu64 := hu_64 hu
  have hu65 := hu_65 hu
  have hW : (⟨some W, [1], dk_law, .dat, E0⟩ : Ct).W = some W := rfl
  exact (fss_cons (fs_set 2 (fe_binS ov_add fe_int (fr_m 1 hW C__law_draw hgd (hr.mono (by decide)) (fa_cons (fr_if (ft_cmp ov_gt (fb (fr_m 1 hW C__law_draw hgd (hr.mono (by decide)) (fa_cons fe_int fa_nil))) (fb fe_int)) fe_int fe_int) fa_nil))) nd) (fss_cons (fs_set 3 (fr_m 1 hW C__law_any_parting hgd (hr.mono (by decide)) (fa_cons (fr_var .dat 2) fa_nil)) nd) (fss_cons (fs_set 4 (fr_if (ft_cmp (ov_eq hu64) (fb (fr_m 1 hW C__law_draw hgd (hr.mono (by decide)) (fa_cons fe_int fa_nil))) (fb fe_int)) (fr_m 1 hW C__law_any_parting hgd (hr.mono (by decide)) (fa_cons (fr_var .dat 2) fa_nil)) (fr_m 1 hW C__law_coarser hgd (hr.mono (by decide)) (fa_cons (fe_w (fr_var .nd 3)) fa_nil))) nd) (fss_cons (fs_set 5 (fe_binS ov_add (fe_callB (cv_max1 hu) T.b_max (fab_cons (fb (fr_var .nd 3)) fab_nil)) fe_int) nd) (fss_cons (fs_set 6 (fe_of (fo_lc [("_law_block", 17)] hc nd (fi_rng1 T.b_range (fa_cons (fr_var .dat 5) fa_nil)) (fun _ _ _ _ _ => (fg_nm 17 nd)) (fun _ _ _ _ _ => fts_nil) (fun _ _ _ _ _ => (fe_bin ov_mul (fb (fe_binS ov_add (fe_bin ov_mul (fb (fr_m 1 hW C__law_draw hgd (hr.mono (by decide)) (fa_cons fe_int fa_nil))) (fb fe_int)) (fr_var .dat 17))) (fb (fe_bin ov_sub (fb fe_int) (fb (fe_bin ov_mul (fb fe_int) (fb (fr_m 1 hW C__law_draw hgd (hr.mono (by decide)) (fa_cons fe_int fa_nil))))))))))) nd) (fss_cons (fs_set 7 (fe_callTy cv_tuple T.b_tuple (fab_cons (fb (fe_of (fo_lc [("_law_block", 17)] hc nd (fi_rng1 T.b_range (fa_cons (fr_var .dat 5) fa_nil)) (fun _ _ _ _ _ => (fg_nm 17 nd)) (fun _ _ _ _ _ => fts_nil) (fun _ _ _ _ _ => (fe_callTy cv_tuple T.b_tuple (fab_cons (fb (fe_of (fo_lc [("_law_at", 18)] hc nd (fi_rng1 T.b_range (fa_cons (fr_var .dat 2) fa_nil)) (fun _ _ _ _ _ => (fg_nm 18 nd)) (fun _ _ _ _ _ => (fts_one (ft_cmp (ov_eq hu64) (fb (fe_ix (fb (fr_var .nd 3)) (fr_var .dat 18))) (fb (fr_var .dat 17))))) (fun _ _ _ _ _ => (fr_var .dat 18))))) fab_nil)))))) fab_nil)) nd) (fss_cons (fs_set 8 (fe_of (fo_lst (n := 4) (fa_cons (fr_f C_parting_of hgd (hr.mono (by decide)) (fa_cons (fe_callTy cv_tuple T.b_tuple (fab_cons (fb (fe_of (fo_lc [("_law_block", 17)] hc nd (fi_t (fr_var .nd 3)) (fun _ _ _ _ _ => (fg_nm 17 nd)) (fun _ _ _ _ _ => fts_nil) (fun _ _ _ _ _ => (fe_ix (fb (fr_var .dat 6)) (fr_var .dat 17)))))) fab_nil)) fa_nil)) (fa_cons (fr_f C_blocks_of hgd (hr.mono (by decide)) (fa_cons (fe_w (fr_var .nd 3)) fa_nil)) (fa_cons (fr_f C_size_of hgd (hr.mono (by decide)) (fa_cons (fe_w (fr_var .nd 3)) fa_nil)) (fa_cons (fr_f C_need_parting hgd (hr.mono (by decide)) (fa_cons (fe_w (fr_var .nd 3)) fa_nil)) fa_nil)))))) nd) (fss_cons (fs_if (Un := []) (ft_w (fw_or (ft_not (ft_val (fr_f C__law_like hgd (hr.mono (by decide)) (fa_cons (fr_var .dat 8) (fa_cons (fe_of (fo_lst (n := 4) (fa_cons (fe_w (fr_var .nd 3)) (fa_cons (fr_var .dat 7) (fa_cons (fr_var .dat 5) (fa_cons (fe_w (fr_var .nd 3)) fa_nil)))))) fa_nil))))) (fw_or1 (ft_cmp ov_isNB (fb (fr_f C_is_parting hgd (hr.mono (by decide)) (fa_cons (fe_w (fr_var .nd 3)) fa_nil))) (fb fe_bl))))) (fss_one (fs_ret fe_bl)) fss_nil) (fss_cons (fs_asg (fr_f C__law_hung hgd (hr.mono (by decide)) (fa_cons (fe_w (fr_var .nd 3)) (fa_cons (fe_w (fr_var .nd 4)) fa_nil))) (fg_tup (n := 2) hc (fg_cons (fg_nm 15 nd) (fg_cons (fg_nm 16 nd) fg_nil)))) (fss_cons (fs_set 9 (fe_w (fr_f C__law_numbered hgd (hr.mono (by decide)) (fa_cons (fe_of (fo_lc [("_law_block", 17)] hc nd (fi_t (fr_var .nd 3)) (fun _ _ _ _ _ => (fg_nm 17 nd)) (fun _ _ _ _ _ => fts_nil) (fun _ _ _ _ _ => (fe_ix (fb (fr_var .dat 15)) (fr_var .dat 17))))) fa_nil))) nd) (fss_cons (fs_set 10 (fr_f C__law_numberedT hgd (hr.mono (by decide)) (fa_cons (fr_lz false false hc T.b_zip T.b_list (fa_cons (fr_var .nd 3) (fa_cons (fr_var .nd 4) fa_nil))) fa_nil)) nd) (fss_cons (fs_set 8 (fe_of (fo_lst (n := 4) (fa_cons (fr_f C_finest_above hgd (hr.mono (by decide)) (fa_cons (fe_w (fr_var .nd 3)) (fa_cons (fe_w (fr_var .nd 4)) fa_nil))) (fa_cons (fr_f C_coarsest_below hgd (hr.mono (by decide)) (fa_cons (fe_w (fr_var .nd 3)) (fa_cons (fe_w (fr_var .nd 4)) fa_nil))) (fa_cons (fr_f C_is_finer hgd (hr.mono (by decide)) (fa_cons (fr_var .nd 3) (fa_cons (fe_w (fr_var .nd 4)) fa_nil))) (fa_cons (fr_f C_is_finer hgd (hr.mono (by decide)) (fa_cons (fr_var .nd 4) (fa_cons (fe_w (fr_var .nd 3)) fa_nil))) fa_nil)))))) nd) (fss_cons (fs_set 11 (fe_of (fo_lst (n := 4) (fa_cons (fr_var .dat 9) (fa_cons (fe_w (fr_var .nd 10)) (fa_cons (fr_f C__law_is_finer hgd (hr.mono (by decide)) (fa_cons (fe_w (fr_var .nd 3)) (fa_cons (fe_w (fr_var .nd 4)) fa_nil))) (fa_cons (fr_f C__law_is_finer hgd (hr.mono (by decide)) (fa_cons (fe_w (fr_var .nd 4)) (fa_cons (fe_w (fr_var .nd 3)) fa_nil))) fa_nil)))))) nd) (fss_cons (fs_if (Un := []) (ft_w (fw_or (ft_not (ft_val (fr_f C__law_like hgd (hr.mono (by decide)) (fa_cons (fr_var .dat 8) (fa_cons (fr_var .dat 11) fa_nil))))) (fw_or1 (ft_not (ft_val (fr_f C__law_like hgd (hr.mono (by decide)) (fa_cons (fr_f C_finest_above hgd (hr.mono (by decide)) (fa_cons (fe_w (fr_var .nd 4)) (fa_cons (fe_w (fr_var .nd 3)) fa_nil))) (fa_cons (fr_var .dat 9) fa_nil)))))))) (fss_one (fs_ret fe_bl)) fss_nil) (fss_cons (fs_set 8 (fe_of (fo_lst (n := 4) (fa_cons (fr_f C_is_finer hgd (hr.mono (by decide)) (fa_cons (fr_var .nd 3) (fa_cons (fr_var .dat 9) fa_nil))) (fa_cons (fr_f C_is_finer hgd (hr.mono (by decide)) (fa_cons (fr_var .nd 4) (fa_cons (fr_var .dat 9) fa_nil))) (fa_cons (fr_f C_is_finer hgd (hr.mono (by decide)) (fa_cons (fr_var .nd 10) (fa_cons (fe_w (fr_var .nd 3)) fa_nil))) (fa_cons (fr_f C_is_finer hgd (hr.mono (by decide)) (fa_cons (fr_var .nd 10) (fa_cons (fe_w (fr_var .nd 4)) fa_nil))) fa_nil)))))) nd) (fss_cons (fs_if (Un := []) (ft_not (ft_val (fr_f C__law_like hgd (hr.mono (by decide)) (fa_cons (fr_var .dat 8) (fa_cons (fe_of (fo_lst (n := 4) (fa_cons fe_bl (fa_cons fe_bl (fa_cons fe_bl (fa_cons fe_bl fa_nil)))))) fa_nil))))) (fss_one (fs_ret fe_bl)) fss_nil) (fss_cons (fs_set 12 (fe_sl (fr_m 1 hW C__law_order hgd (hr.mono (by decide)) (fa_cons (fr_var .dat 2) fa_nil)) fp_none (fp_some (fe_binS ov_add fe_int (fr_m 1 hW C__law_draw hgd (hr.mono (by decide)) (fa_cons (fr_var .dat 2) fa_nil))))) nd) (fss_cons (fs_set 11 (fe_w (fr_f C__law_numbered hgd (hr.mono (by decide)) (fa_cons (fe_of (fo_lc [("_law_at", 18)] hc nd (fi_l (fr_var .dat 12)) (fun _ _ _ _ _ => (fg_nm 18 nd)) (fun _ _ _ _ _ => fts_nil) (fun _ _ _ _ _ => (fe_ix (fb (fr_var .nd 3)) (fr_var .dat 18))))) fa_nil))) nd) (fss_cons (fs_if (Un := []) (ft_not (ft_val (fr_f C__law_like hgd (hr.mono (by decide)) (fa_cons (fr_f C_parting_of_some hgd (hr.mono (by decide)) (fa_cons (fe_w (fr_var .nd 3)) (fa_cons (fe_callTy cv_tuple T.b_tuple (fab_cons (fb (fr_var .dat 12)) fab_nil)) fa_nil))) (fa_cons (fr_var .dat 11) fa_nil))))) (fss_one (fs_ret fe_bl)) fss_nil) (fss_cons (fs_set 13 (fe_if (ft_cmp ov_lt (fb (fr_var .dat 2)) (fb fe_int)) (fe_w (fr_m 1 hW C__law_any_parting hgd (hr.mono (by decide)) (fa_cons (fe_binS ov_add fe_int (fr_m 1 hW C__law_draw hgd (hr.mono (by decide)) (fa_cons (fe_bin ov_sub (fb fe_int) (fb (fr_var .dat 2))) fa_nil))) fa_nil))) (fe_tup (n := 1) (fa_cons fe_int fa_nil))) nd) (fss_cons (fs_set 11 (fe_binS ov_add (fe_w (fr_var .nd 3)) (fe_callTy cv_tuple T.b_tuple (fab_cons (fb (fe_of (fo_lc [("_law_block", 17)] hc nd (fi_t (fr_var .dat 13)) (fun _ _ _ _ _ => (fg_nm 17 nd)) (fun _ _ _ _ _ => fts_nil) (fun _ _ _ _ _ => (fe_binS ov_add (fr_var .dat 5) (fr_var .dat 17)))))) fab_nil))) nd) (fss_cons (fs_if (Un := []) (ft_w (fw_and (ft_cmp ov_le (fb (fe_callB cv_len T.b_len (fab_cons (fb (fr_var .dat 11)) fab_nil))) (fb fe_int)) (fw_and1 (ft_not (ft_val (fr_f C__law_like hgd (hr.mono (by decide)) (fa_cons (fr_f C_beside hgd (hr.mono (by decide)) (fa_cons (fe_w (fr_var .nd 3)) (fa_cons (fr_var .dat 13) fa_nil))) (fa_cons (fr_var .dat 11) fa_nil)))))))) (fss_one (fs_ret fe_bl)) fss_nil) (fss_cons (fs_set 14 (fe_binS ov_add fe_int (fr_m 1 hW C__law_draw hgd (hr.mono (by decide)) (fa_cons fe_int fa_nil))) nd) (fss_one (fs_ret (fr_f C__law_like hgd (hr.mono (by decide)) (fa_cons (fr_f C_all_partings hgd (hr.mono (by decide)) (fa_cons (fr_var .dat 14) fa_nil)) (fa_cons (fe_callTy cv_tuple T.b_tuple (fab_cons (fb (fr_f C__law_partings hgd (hr.mono (by decide)) (fa_cons (fr_var .dat 14) fa_nil))) fab_nil)) fa_nil))))))))))))))))))))))))))))
end K01
namespace K01
open PySem L2 VL

/-- the law's slots behind its first statement -/
def enLaw : SE := List.replicate 19 none
/-- the plain law: whatever the machine, the answer is True -/
def LawEv : Prop := ∀ (cells great : List Int), cells.length = 64 → ∃ m, Ev (S_law enLaw) (cells, great, 0) (.rt (.bool true)) m
theorem ok_law (hev : LawEv) {P : Program} {w : World} {K : PySem.W.Frag} {mg : Str → Option Value} {base : Heap} {f f_b : Addr} {fd d_b : FuncData} {f__law_draw : Addr} {d__law_draw : FuncData} {p__law_draw : List Str} {f__law_any_parting : Addr} {d__law_any_parting : FuncData} {p__law_any_parting : List Str} {f__law_coarser : Addr} {d__law_coarser : FuncData} {p__law_coarser : List Str} {f_need_parting : Addr} {d_need_parting : FuncData} {p_need_parting : List Str} {f_size_of : Addr} {d_size_of : FuncData} {p_size_of : List Str} {f_blocks_of : Addr} {d_blocks_of : FuncData} {p_blocks_of : List Str} {f_parting_of : Addr} {d_parting_of : FuncData} {p_parting_of : List Str} {f_is_parting : Addr} {d_is_parting : FuncData} {p_is_parting : List Str} {f__law_like : Addr} {d__law_like : FuncData} {p__law_like : List Str} {f__law_hung : Addr} {d__law_hung : FuncData} {p__law_hung : List Str} {f__law_numbered : Addr} {d__law_numbered : FuncData} {p__law_numbered : List Str} {f__law_numberedT : Addr} {d__law_numberedT : FuncData} {p__law_numberedT : List Str} {f_is_finer : Addr} {d_is_finer : FuncData} {p_is_finer : List Str} {f_coarsest_below : Addr} {d_coarsest_below : FuncData} {p_coarsest_below : List Str} {f_finest_above : Addr} {d_finest_above : FuncData} {p_finest_above : List Str} {f__law_is_finer : Addr} {d__law_is_finer : FuncData} {p__law_is_finer : List Str} {f__law_order : Addr} {d__law_order : FuncData} {p__law_order : List Str} {f_parting_of_some : Addr} {d_parting_of_some : FuncData} {p_parting_of_some : List Str} {f_beside : Addr} {d_beside : FuncData} {p_beside : List Str} {f__law_partings : Addr} {d__law_partings : FuncData} {p__law_partings : List Str} {f_all_partings : Addr} {d_all_partings : FuncData} {p_all_partings : List Str} (T : Tx mg) (F : Fun K "law" "law" s_law f fd) (B : FnV P w K mg base CX0 2 f_b d_b ["_law_script"] (spB K)) (mb : mg "_law_begun" = some (.ref f_b)) (kb : PySem.W.keepIn K (.ref f_b) = true) (bb : Binds K d_b ["_law_script"] []) (C__law_draw : FcM P w K mg base "_law_draw" 3 f__law_draw d__law_draw p__law_draw [.dat] .dat fn__law_draw) (C__law_any_parting : FcM P w K mg base "_law_any_parting" 4 f__law_any_parting d__law_any_parting p__law_any_parting [.dat] .nd fn__law_any_parting) (C__law_coarser : FcM P w K mg base "_law_coarser" 4 f__law_coarser d__law_coarser p__law_coarser [.dat] .nd fn__law_coarser) (C_need_parting : Fc P w K mg base "need_parting" 3 f_need_parting d_need_parting p_need_parting [.dat] .dat fn_need_parting) (C_size_of : Fc P w K mg base "size_of" 4 f_size_of d_size_of p_size_of [.dat] .dat fn_size_of) (C_blocks_of : Fc P w K mg base "blocks_of" 5 f_blocks_of d_blocks_of p_blocks_of [.dat] .dat fn_blocks_of) (C_parting_of : Fc P w K mg base "parting_of" 2 f_parting_of d_parting_of p_parting_of [.dat] .dat fn_parting_of) (C_is_parting : Fc P w K mg base "is_parting" 4 f_is_parting d_is_parting p_is_parting [.dat] .dat fn_is_parting) (C__law_like : Fc P w K mg base "_law_like" 1 f__law_like d__law_like p__law_like [.dat, .dat] .dat fn__law_like) (C__law_hung : Fc P w K mg base "_law_hung" 1 f__law_hung d__law_hung p__law_hung [.dat, .dat] .dat fn__law_hung) (C__law_numbered : Fc P w K mg base "_law_numbered" 1 f__law_numbered d__law_numbered p__law_numbered [.dat] .nd fn__law_numbered) (C__law_numberedT : Fc P w K mg base "_law_numbered" 1 f__law_numberedT d__law_numberedT p__law_numberedT [.pl] .nd fn__law_numberedT) (C_is_finer : Fc P w K mg base "is_finer" 5 f_is_finer d_is_finer p_is_finer [.nd, .dat] .dat fn_is_finer) (C_coarsest_below : Fc P w K mg base "coarsest_below" 5 f_coarsest_below d_coarsest_below p_coarsest_below [.dat, .dat] .dat fn_coarsest_below) (C_finest_above : Fc P w K mg base "finest_above" 5 f_finest_above d_finest_above p_finest_above [.dat, .dat] .dat fn_finest_above) (C__law_is_finer : Fc P w K mg base "_law_is_finer" 1 f__law_is_finer d__law_is_finer p__law_is_finer [.dat, .dat] .dat fn__law_is_finer) (C__law_order : FcM P w K mg base "_law_order" 4 f__law_order d__law_order p__law_order [.dat] .dat fn__law_order) (C_parting_of_some : Fc P w K mg base "parting_of_some" 4 f_parting_of_some d_parting_of_some p_parting_of_some [.dat, .dat] .dat fn_parting_of_some) (C_beside : Fc P w K mg base "beside" 5 f_beside d_beside p_beside [.dat, .dat] .dat fn_beside) (C__law_partings : Fc P w K mg base "_law_partings" 1 f__law_partings d__law_partings p__law_partings [.dat] .dat fn__law_partings) (C_all_partings : Fc P w K mg base "all_partings" 4 f_all_partings d_all_partings p_all_partings [.dat] .dat fn_all_partings) :
    FnV P w K mg base CX0 6 f fd ["_law_script"] (spLaw K 63) := by
  refine fnV_of F sc_law (fun vs H Q E ⟨a, ns, e, _⟩ => by rw [e]; rfl) fun cdv A outer s H vs Q E hga hr hsp => ?_
  obtain ⟨a, ns, rfl, hA, hln, hQ⟩ := hsp
  have hgd : (cxOf CX0 P w K mg base N_law "law" (defScope s_law) f cdv A outer s H E).nox.A.guards = some [] := hga
  have nd := nd_law
  have pt2 : PSs (cxOf CX0 P w K mg base N_law "law" (defScope s_law) f cdv A outer s H E).nox ((defBody s_law).drop 1) (fun D σ H1 => ∃ t, PSs (cxOf CX0 P w K mg base N_law "law" (defScope s_law) f cdv A outer s H E).nox ((defBody s_law).drop 1) t ∧ t D σ H1) :=
    ⟨fun pins s σ H D I ⟨t, pt, h⟩ => pt.run pins s σ H D I h⟩
  refine ⟨_, (pss_cons (ps_set (i := 1) nd rfl (by first | exact Or.inl rfl | exact Or.inr rfl) (pe_V B hgd (hr.mono (by decide)) rfl mb kb bb pass0 (pa_cons (pv 0) pa_nil))) pt2
    : PSs (cxOf CX0 P w K mg base N_law "law" (defScope s_law) f cdv A outer s H E).nox (defBody s_law) _).nox, ?_⟩
  refine ⟨_, rfl, ns, _, rfl, Dq.lst hA (DqAll.ofInts ns), Nat.le_trans hln (by decide), fun W H1 cells great s1 hc64 hdr => ?_⟩
  obtain ⟨t, pt, rt⟩ := b_law (P := P) (w := w) (K := K) (mg := mg) (base := base) (f := f) T C__law_draw C__law_any_parting C__law_coarser C_need_parting C_size_of C_blocks_of C_parting_of C_is_parting C__law_like C__law_hung C__law_numbered C__law_numberedT C_is_finer C_coarsest_below C_finest_above C__law_is_finer C__law_order C_parting_of_some C_beside C__law_partings C_all_partings W cdv A outer s H E hga hr
  refine ⟨t, pt, ?_⟩
  obtain ⟨h1, h2, h3⟩ := hdr W rfl
  have E1 : EnvOk K (some W) [1] dk_law [W.am, W.cA, W.gA] H1 [] [] enLaw (some (V.ref a) :: some (V.ref W.am) :: List.replicate 17 none) H1 (cells, great, 0) := by
    have n1 : H1 W.am ≠ none := by rw [h1]; exact fun x => nomatch x
    have n2 : H1 W.cA ≠ none := by
      rcases h2 with q | ⟨x, q⟩
      · rw [q]; exact fun x => nomatch x
      · rw [q]; exact fun x => nomatch x
    have n3 : H1 W.gA ≠ none := by rw [h3]; exact fun x => nomatch x
    refine ⟨rfl, fun i => Iff.rfl, List.nodup_nil, fun w q => ?_, fun z hz => ?_, fun w q => ?_, hdr, SameW.refl _ _, fun w q j hj => ?_, List.nodup_nil, (fun p hp => nomatch hp), (fun p hp => nomatch hp), fun i d h _ => ?_⟩
    · cases q
      exact ⟨List.mem_cons_self, List.mem_cons_of_mem _ List.mem_cons_self, List.mem_cons_of_mem _ (List.mem_cons_of_mem _ List.mem_cons_self)⟩
    · rcases List.mem_cons.mp hz with e | hz
      · rw [e]; exact n1
      · rcases List.mem_cons.mp hz with e | hz
        · rw [e]; exact n2
        · rw [List.mem_singleton.mp hz]; exact n3
    · cases q
      exact ⟨n1, n2, n3⟩
    · cases q
      rw [List.mem_singleton.mp hj]
      rfl
    · unfold enLaw at h
      rw [List.getElem?_replicate] at h
      split at h <;> cases h
  obtain ⟨m, hm⟩ := hev cells great hc64
  have hm : S_law enLaw (cells, great, 0) = Out.ok (Ctl.rt (.bool true)) m := hm
  refine rt _ _ _ _ _ _ _ _ E1 ?_
  rw [hm]
  intro v H2 s2 _ q2
  have q2 : Dq K _ v (.bool true) := q2
  cases q2
  exact hQ H2
end K01
namespace K01
open PySem L2 VL
/-- the machine, drawn from at most b times -/
def Mk (m : MS) (b : Nat) : Prop := m.1.length = 64 ∧ 0 ≤ m.2.2 ∧ m.2.2 ≤ (b : Int)
theorem Mk.mono {m : MS} {b c : Nat} (h : Mk m b) (q : b ≤ c) : Mk m c := ⟨h.1, h.2.1, by have := h.2.2; omega⟩
theorem draw_ev {m : MS} {b : Nat} {L : Int} (h : Mk m b) (hb : b < 1000000) (h0 : 0 < L) (h1 : L < 1073741824) : ∃ v m', Ev (fn__law_draw [.int L]) m (.int v) m' ∧ 0 ≤ v ∧ v < L ∧ Mk m' (b + 1) := by
  obtain ⟨cells, great, n⟩ := m
  obtain ⟨hc, hn0, hn1⟩ := h
  have hc : cells.length = 64 := hc
  have hn0 : 0 ≤ n := hn0
  have hn1 : n ≤ (b : Int) := hn1
  have cond : 0 < L ∧ L < 1073741824 ∧ 0 ≤ n ∧ n < 1000000000 ∧ cells.length = 64 := ⟨h0, h1, hn0, by omega, hc⟩
  have hi : (n % 64).toNat < cells.length := by omega
  have hbase : drawBase L cells n = some (mixI (mixI (cells[(n % 64).toNat] + 31 * (n / 64)) n) (n + 7) % L) := by
    unfold drawBase
    rw [List.getElem?_eq_getElem hi]
    rfl
  have e : ∀ x : M D, x = drawM L → x (cells, great, n) = drawM L (cells, great, n) := fun x q => by rw [q]
  have hM : drawM L (cells, great, n) = (match great[(n % (great.length : Int)).toNat]? with
    | some g => if 0 < g then Out.ok (PyData.int (g % L)) (cells, great.set (n % (great.length : Int)).toNat (g / L), n + 1)
      else match drawBase L cells n with
        | some v => .ok (.int v) (cells, great, n + 1)
        | none => .bad
    | none => if great = [] then match drawBase L cells n with
        | some v => .ok (.int v) (cells, great, n + 1)
        | none => .bad
      else .bad) := by
    unfold drawM
    rw [if_pos cond]
    all_goals rfl
  rw [hbase] at hM
  cases q : great[(n % (great.length : Int)).toNat]? with
  | some g =>
    rw [q] at hM
    by_cases hg : 0 < g
    · have hM : drawM L (cells, great, n) = (if 0 < g then Out.ok (PyData.int (g % L)) (cells, great.set (n % (great.length : Int)).toNat (g / L), n + 1) else _) := hM
      rw [if_pos hg] at hM
      exact ⟨_, _, hM, Int.emod_nonneg _ (by omega), Int.emod_lt_of_pos _ h0, hc, by show 0 ≤ n + 1; omega, by show n + 1 ≤ _; omega⟩
    · have hM : drawM L (cells, great, n) = (if 0 < g then _ else Out.ok (PyData.int (mixI (mixI (cells[(n % 64).toNat] + 31 * (n / 64)) n) (n + 7) % L)) (cells, great, n + 1)) := hM
      rw [if_neg hg] at hM
      exact ⟨_, _, hM, Int.emod_nonneg _ (by omega), Int.emod_lt_of_pos _ h0, hc, by show 0 ≤ n + 1; omega, by show n + 1 ≤ _; omega⟩
  | none =>
    rw [q] at hM
    have hge : great = [] := by
      by_cases hl : great.length = 0
      · exact List.eq_nil_of_length_eq_zero hl
      · have h2 : 0 < (great.length : Int) := by omega
        have h3 := Int.emod_lt_of_pos n h2
        have h4 := Int.emod_nonneg n (show (great.length : Int) ≠ 0 by omega)
        rw [List.getElem?_eq_getElem (by omega)] at q
        cases q
    have hM : drawM L (cells, great, n) = (if great = [] then Out.ok (PyData.int (mixI (mixI (cells[(n % 64).toNat] + 31 * (n / 64)) n) (n + 7) % L)) (cells, great, n + 1) else _) := hM
    rw [if_pos hge] at hM
    exact ⟨_, _, hM, Int.emod_nonneg _ (by omega), Int.emod_lt_of_pos _ h0, hc, by show 0 ≤ n + 1; omega, by show n + 1 ≤ _; omega⟩
end K01
namespace K01
open PySem L2 VL
/-- numbered labels as data -/
def numD {κ : Type} [DecidableEq κ] (xs : List κ) : D := .tuple (natD (num xs))
theorem law_numbered_ev {xs : List Key} {m : MS} (h : xs.length ≤ 900) : Ev (fn__law_numbered [.list (xs.map keyD)]) m (numD xs) m := by
  obtain ⟨ks', x', hl⟩ := num_loop (kd := keyD) (Gt := gNm 1) (B := sq (sIf (eDin true hasK 2 (eVar 1)) (sDput putKq 2 (eVar 1) (eDlen 2)) sNx) (sMeth 3 appD (eDgK 2 (eVar 1))))
    (fun ks found x => [some (.list (xs.map keyD)), x, some (.dict (seenKV keyD ks)), some (.list (natD found))]) (m := m)
    (fun ks found x k h1 h2 => ⟨_, some (keyD k), v_gNm 1 _ _ m, num_stepG asK_keyD (fun _ _ => rfl) (fun _ _ _ => rfl) dgK_ev rfl rfl rfl (by decide) (by decide) h1 h2⟩) xs [] [] none (by simp; omega) (by simp; omega)
  exact v_runR (v_sq (v_parO 2 3 (v_c _) (v_eL v_aN rfl) ⟨by show 2 < 4; decide, by show 3 < 4; decide⟩) (v_sq (v_for (v_iL (v_var 0 rfl) rfl) hl) (v_ret (v_eL (v_aC (v_var 3 rfl) v_aN) rfl))))
theorem law_numberedT_ev {xs : List (List Key)} {m : MS} (h : xs.length ≤ 900) : Ev (fn__law_numberedT [.list (xs.map keyT)]) m (numD xs) m := by
  obtain ⟨ks', x', hl⟩ := num_loop (kd := keyT) (Gt := gNm 1) (B := sq (sIf (eDin true hasT 2 (eVar 1)) (sDput putTq 2 (eVar 1) (eDlen 2)) sNx) (sMeth 3 appD (eDgT 2 (eVar 1))))
    (fun ks found x => [some (.list (xs.map keyT)), x, some (.dict (seenKV keyT ks)), some (.list (natD found))]) (m := m)
    (fun ks found x k h1 h2 => ⟨_, some (keyT k), v_gNm 1 _ _ m, num_stepG asT_keyT (fun _ _ => rfl) (fun _ _ _ => rfl) dgT_ev rfl rfl rfl (by decide) (by decide) h1 h2⟩) xs [] [] none (by simp; omega) (by simp; omega)
  exact v_runR (v_sq (v_parO 2 3 (v_c _) (v_eL v_aN rfl) ⟨by show 2 < 4; decide, by show 3 < 4; decide⟩) (v_sq (v_for (v_iL (v_var 0 rfl) rfl) hl) (v_ret (v_eL (v_aC (v_var 3 rfl) v_aN) rfl))))
theorem renumbered_ev {xs : List Key} {m : MS} (h : xs.length ≤ 900) : Ev (fn_renumbered [.list (xs.map keyD)]) m (numD xs) m := by
  obtain ⟨ks', x', hl⟩ := num_loop (kd := keyD) (Gt := gNm 3) (B := sq (sIf (eDin true hasK 1 (eVar 3)) (sDput putKq 1 (eVar 3) (eDlen 1)) sNx) (sMeth 2 appD (eDgK 1 (eVar 3))))
    (fun ks found x => [some (.list (xs.map keyD)), some (.dict (seenKV keyD ks)), some (.list (natD found)), x]) (m := m)
    (fun ks found x k h1 h2 => ⟨_, some (keyD k), v_gNm 3 _ _ m, num_stepG asK_keyD (fun _ _ => rfl) (fun _ _ _ => rfl) dgK_ev rfl rfl rfl (by decide) (by decide) h1 h2⟩) xs [] [] none (by simp; omega) (by simp; omega)
  exact v_runR (v_sq (v_setO 1 (v_c _) (by show 1 < 4; decide)) (v_sq (v_setO 2 (v_eL v_aN rfl) (by show 2 < 4; decide)) (v_sq (v_for (v_iL (v_var 0 rfl) rfl) hl) (v_ret (v_eL (v_aC (v_var 2 rfl) v_aN) rfl)))))
theorem renumberedS_ev {xs : List Key} {m : MS} (h : xs.length ≤ 900) : Ev (fn_renumberedS [.tuple (xs.map keyD)]) m (numD xs) m := by
  obtain ⟨ks', x', hl⟩ := num_loop (kd := keyD) (Gt := gNm 3) (B := sq (sIf (eDin true hasK 1 (eVar 3)) (sDput putKq 1 (eVar 3) (eDlen 1)) sNx) (sMeth 2 appD (eDgK 1 (eVar 3))))
    (fun ks found x => [some (.tuple (xs.map keyD)), some (.dict (seenKV keyD ks)), some (.list (natD found)), x]) (m := m)
    (fun ks found x k h1 h2 => ⟨_, some (keyD k), v_gNm 3 _ _ m, num_stepG asK_keyD (fun _ _ => rfl) (fun _ _ _ => rfl) dgK_ev rfl rfl rfl (by decide) (by decide) h1 h2⟩) xs [] [] none (by simp; omega) (by simp; omega)
  exact v_runR (v_sq (v_setO 1 (v_c _) (by show 1 < 4; decide)) (v_sq (v_setO 2 (v_eL v_aN rfl) (by show 2 < 4; decide)) (v_sq (v_for (v_iL (v_var 0 rfl) rfl) hl) (v_ret (v_eL (v_aC (v_var 2 rfl) v_aN) rfl)))))
theorem renumberedT_ev {xs : List (List Key)} {m : MS} (h : xs.length ≤ 900) : Ev (fn_renumberedT [.list (xs.map keyT)]) m (numD xs) m := by
  obtain ⟨ks', x', hl⟩ := num_loop (kd := keyT) (Gt := gNm 3) (B := sq (sIf (eDin true hasT 1 (eVar 3)) (sDput putTq 1 (eVar 3) (eDlen 1)) sNx) (sMeth 2 appD (eDgT 1 (eVar 3))))
    (fun ks found x => [some (.list (xs.map keyT)), some (.dict (seenKV keyT ks)), some (.list (natD found)), x]) (m := m)
    (fun ks found x k h1 h2 => ⟨_, some (keyT k), v_gNm 3 _ _ m, num_stepG asT_keyT (fun _ _ => rfl) (fun _ _ _ => rfl) dgT_ev rfl rfl rfl (by decide) (by decide) h1 h2⟩) xs [] [] none (by simp; omega) (by simp; omega)
  exact v_runR (v_sq (v_setO 1 (v_c _) (by show 1 < 4; decide)) (v_sq (v_setO 2 (v_eL v_aN rfl) (by show 2 < 4; decide)) (v_sq (v_for (v_iL (v_var 0 rfl) rfl) hl) (v_ret (v_eL (v_aC (v_var 2 rfl) v_aN) rfl)))))
end K01
namespace K01
open PySem L2 VL
theorem like_ev {n : Nat} {d : D} {m : MS} (hn : n < 60) (h : plD n d = true) (hb : d.bulk ≤ 1000000) : Ev (fn__law_like [d, d]) m (.bool true) m :=
  v_runR (v_ret (v_e2 (v_eL (v_aC (v_var 0 rfl) v_aN) (reprD_plain hn h hb)) (v_eL (v_aC (v_var 1 rfl) v_aN) (reprD_plain hn h hb)) (eqD_str (plD_ok n d h))))
end K01
namespace K01
open PySem L2 VL
/-- blocks told by first meeting, k of them met before -/
def rg : Nat → List Nat → Prop
  | _, [] => True
  | k, b :: bs => b ≤ k ∧ rg (max k (b + 1)) bs
/-- how many blocks -/
def topN (k : Nat) (p : List Nat) : Nat := p.foldl (fun k b => max k (b + 1)) k
structure IsP (p : List Nat) : Prop where
  l1 : 1 ≤ p.length
  l2 : p.length ≤ 60
  g : rg 0 p
theorem topN_ge : ∀ (p : List Nat) (k : Nat), k ≤ topN k p
  | [], k => Nat.le_refl _
  | b :: p, k => Nat.le_trans (Nat.le_max_left k (b + 1)) (topN_ge p _)
theorem topN_mem : ∀ (p : List Nat) (k b : Nat), b ∈ p → b < topN k p
  | x :: p, k, b, h => by
    rcases List.mem_cons.mp h with rfl | h
    · exact Nat.lt_of_lt_of_le (Nat.lt_succ_self b) (Nat.le_trans (Nat.le_max_right k (b + 1)) (topN_ge p _))
    · exact topN_mem p _ b h
theorem topN_le : ∀ (p : List Nat) (k : Nat), rg k p → topN k p ≤ k + p.length
  | [], k, _ => Nat.le_refl _
  | b :: p, k, h => by
    have h1 := topN_le p (max k (b + 1)) h.2
    have h2 := h.1
    show topN (max k (b + 1)) p ≤ _
    rw [List.length_cons]
    omega
theorem rg_numGo {κ : Type} [DecidableEq κ] : ∀ (xs ks : List κ), rg ks.length (numGo ks xs)
  | [], _ => trivial
  | x :: xs, ks => by
    have ih := rg_numGo xs (numStep ks x)
    show (numStep ks x).idxOf x ≤ ks.length ∧ rg (max ks.length ((numStep ks x).idxOf x + 1)) (numGo (numStep ks x) xs)
    by_cases h : x ∈ ks
    · have e : numStep ks x = ks := if_pos h
      have hl := List.idxOf_lt_length_of_mem h
      rw [e] at ih ⊢
      exact ⟨by omega, by rw [Nat.max_eq_left (by omega)]; exact ih⟩
    · have e : numStep ks x = ks ++ [x] := if_neg h
      rw [numStep_new h]
      refine ⟨Nat.le_refl _, ?_⟩
      rw [Nat.max_eq_right (by omega)]
      rw [e] at ih ⊢
      rw [List.length_append] at ih
      exact ih
theorem isP_num {κ : Type} [DecidableEq κ] {xs : List κ} (h1 : 1 ≤ xs.length) (h2 : xs.length ≤ 60) : IsP (num xs) :=
  ⟨by rw [num_len]; exact h1, by rw [num_len]; exact h2, rg_numGo xs []⟩
/-- a parting's own numbers are its numbering -/
theorem numGo_rg : ∀ (p : List Nat) (k : Nat), rg k p → numGo (List.range k) p = p
  | [], _, _ => rfl
  | b :: p, k, h => by
    have h1 := h.1
    have e : numStep (List.range k) b = List.range (max k (b + 1)) := by
      unfold numStep
      by_cases q : b < k
      · rw [if_pos (List.mem_range.mpr q), Nat.max_eq_left (by omega)]
      · have : b = k := by omega
        subst this
        rw [if_neg (fun t => q (List.mem_range.mp t)), Nat.max_eq_right (by omega), List.range_succ]
    show (numStep (List.range k) b).idxOf b :: numGo (numStep (List.range k) b) p = b :: p
    rw [e, numGo_rg p _ h.2]
    have hm : b ∈ List.range (max k (b + 1)) := List.mem_range.mpr (by omega)
    have hl := List.idxOf_lt_length_of_mem hm
    have := List.getElem_idxOf hl
    rw [List.getElem_range] at this
    rw [this]
theorem num_isP {p : List Nat} (h : rg 0 p) : num p = p := numGo_rg p 0 h
/-! ### the program's checks -/
theorem is_whole_ev {i : Int} {m : MS} : Ev (fn_is_whole [.int i]) m (.bool true) m := rfl
theorem is_within_ev {i lo hi : Int} {m : MS} (h1 : lo ≤ i) (h2 : i ≤ hi) : Ev (fn_is_within [.int i, .int lo, .int hi]) m (.bool true) m := by
  refine v_runR (v_ret (ev_bd (v_call (v_aC (v_var 0 rfl) v_aN) is_whole_ev) (ev_bd (ev_lft (a := true) m rfl) ?_)))
  exact v_eB (v_c3T (b := .int i) (v_var 1 rfl) (v_var 0 rfl) (by show some (PyData.bool (decide (lo ≤ i))) = _; rw [decide_eq_true h1]) (v_var 2 rfl) (by show some (PyData.bool (decide (i ≤ hi))) = _; rw [decide_eq_true h2]))
end K01
namespace K01
open PySem L2 VL
theorem natD_get {p : List Nat} {j : Nat} {d : D} (h : (natD p)[j]? = some d) : ∃ b, p[j]? = some b ∧ d = .int (b : Nat) := by
  obtain ⟨b, h1, h2⟩ := map_inv h
  exact ⟨b, h1, h2⟩
theorem need_parting_ev {p : List Nat} (hp : IsP p) {m : MS} : Ev (fn_need_parting [.tuple (natD p)]) m (.tuple (natD p)) m := by
  have hl : (natD p).length = p.length := natD_len p
  have l1 := hp.l1
  have l2 := hp.l2
  have hc1 : decide ((1 : Int) ≤ ((natD p).length : Nat)) = true := decide_eq_true (by rw [hl]; omega)
  have hc2 : decide ((((natD p).length : Nat) : Int) ≤ 60) = true := decide_eq_true (by rw [hl]; omega)
  let I : Nat → SE → MS → Prop := fun i en m' => m' = m ∧ ∃ (k : Nat) (x2 x3 : Option D), en = [some (.tuple (natD p)), some (.int (k : Nat)), x2, x3] ∧ rg k (p.drop i)
  obtain ⟨e', m', hloop, rfl, k, x2, x3, rfl, _⟩ := v_loop I (Gt := gTp 2 (gC (gNm 2) (gC (gNm 3) gN0))) (B := sq (sIf (tNot1 (tV asB (eCall fn_is_within (aC (eVar 3) (aC (eC (.int 0)) (aC (eVar 1) aN)))))) sNo sNx) (sSet 1 (eL (two2 max2D) (aC (eVar 1) (aC (e2 addD (eVar 3) (eC (.int 1))) aN))))) (enumD (natD p)) 0
    [some (.tuple (natD p)), some (.int (0 : Nat)), none, none] m ⟨rfl, 0, none, none, rfl, hp.g⟩ (by
      rintro j d en m' hd ⟨rfl, k, x2, x3, rfl, hg⟩
      obtain ⟨a, ha, rfl⟩ := enumD_inv hd
      obtain ⟨b, hb, rfl⟩ := natD_get ha
      have hj := (List.getElem?_eq_some_iff.mp hb)
      have e : p.drop (0 + j) = b :: p.drop (0 + j + 1) := by
        rw [Nat.zero_add, List.drop_eq_getElem_cons hj.1, hj.2]
      rw [e] at hg
      obtain ⟨g1, g2⟩ := hg
      refine ⟨_, m', _, m', v_gTp2 2 3 _ _ _ m', .inl (v_sq (v_sIfF (v_not (o := true) (v_tV (v_call (v_aC (v_var 3 rfl) (v_aC (v_c _) (v_aC (v_var 1 rfl) v_aN))) (is_within_ev (by omega) (by omega))) rfl)) rfl) (v_set 1 (v_eL (v_aC (v_var 1 rfl) (v_aC (v_e2 (v_var 3 rfl) (v_c _) rfl) v_aN)) rfl))), rfl, max k (b + 1), some (.int (j : Nat)), some (.int (b : Nat)), ?_, g2⟩
      have e3 : (if ((b : Nat) : Int) + 1 > ((k : Nat) : Int) then ((b : Nat) : Int) + 1 else ((k : Nat) : Int)) = ((max k (b + 1) : Nat) : Int) := by
        split <;> omega
      rw [← e3]
      rfl)
  refine v_runR (v_sq (v_sIfF (v_orF (v_not (o := true) (v_tV (v_e1 (v_var 0 rfl) rfl) rfl)) (v_not (o := true) (v_c3T (b := .int ((natD p).length : Nat)) (v_c _) (v_eL (v_aC (v_var 0 rfl) v_aN) rfl) (by show some (PyData.bool (decide ((1 : Int) ≤ ((natD p).length : Nat)))) = _; rw [hc1]) (v_c _) (by show some (PyData.bool (decide ((((natD p).length : Nat) : Int) ≤ 60))) = _; rw [hc2])))) rfl) (v_sq (v_set 1 (v_c _)) (v_sq (v_for (v_iA (v_aC (v_var 0 rfl) v_aN) rfl) hloop) (v_ret (v_var 0 rfl)))))
theorem is_parting_ev {p : List Nat} (hp : IsP p) {m : MS} : Ev (fn_is_parting [.tuple (natD p)]) m (.bool true) m :=
  v_runR (v_sq (ev_nox (v_drop (v_call (v_aC (v_var 0 rfl) v_aN) (need_parting_ev hp)))) (v_ret (v_c _)))
end K01
namespace K01
open PySem L2 VL
theorem alike_natD (p : List Nat) : alikeB (natD p) = true := by
  unfold alikeB
  rw [Bool.and_eq_true]
  have h : ∀ x ∈ natD p, ∃ b : Nat, x = .int (b : Nat) := fun x hx => by
    obtain ⟨b, _, e⟩ := List.mem_map.mp hx
    exact ⟨b, e.symm⟩
  refine ⟨List.all_eq_true.mpr fun x hx => List.all_eq_true.mpr fun y hy => ?_, List.all_eq_true.mpr fun x hx => ?_⟩
  · obtain ⟨b, rfl⟩ := h x hx
    obtain ⟨c, rfl⟩ := h y hy
    simp [PySem.W.alike]
  · obtain ⟨b, rfl⟩ := h x hx
    rfl
theorem plD_natD {n : Nat} {p : List Nat} (h : ∀ b ∈ p, b < 1000000) : (natD p).all (plD n) = true := List.all_eq_true.mpr fun x hx => by
  obtain ⟨b, hb, rfl⟩ := List.mem_map.mp hx
  have := h b hb
  cases n <;> exact decide_eq_true (show Int.natAbs ((b : Nat) : Int) < 1000000000000 by omega)
theorem IsP.small {p : List Nat} (hp : IsP p) : ∀ b ∈ p, b < 60 := fun b hb => by
  have h1 := topN_mem p 0 b hb
  have h2 := topN_le p 0 hp.g
  have := hp.l2
  omega
theorem fold_top : ∀ (q : List Nat) (b : Nat), (q.map fun (n : Nat) => (n : Int)).foldl max (b : Int) + 1 = ((topN (b + 1) q : Nat) : Int)
  | [], b => by simp [topN]
  | c :: q, b => by
    have ih := fold_top q (max b c)
    show (q.map fun (n : Nat) => (n : Int)).foldl max (max (b : Int) (c : Int)) + 1 = ((topN (max (b + 1) (c + 1)) q : Nat) : Int)
    rw [show max (b + 1) (c + 1) = max b c + 1 by omega, ← ih, show max ((b : Nat) : Int) (c : Int) = ((max b c : Nat) : Int) by omega]
theorem maxV_natD {p : List Nat} (h1 : 1 ≤ p.length) (h2 : ∀ b ∈ p, b < 1000000) : maxV (.tuple (natD p)) = some (.int ((topN 0 p : Nat) - 1)) := by
  cases p with
  | nil => cases h1
  | cons b q =>
    have hs : SeqAt.shaped (.tuple (natD (b :: q))) = true := plD_shaped (n := 1) (by decide) (plD_natD h2)
    have ha := alike_natD (b :: q)
    unfold maxV
    show (if (alikeB (natD (b :: q)) && SeqAt.shaped (.tuple (natD (b :: q)))) = true then some (PySem.W.maxD (.int (b : Nat)) (natD q)) else none) = _
    rw [ha, hs, if_pos (by rfl), natD_ints, PySem.W.maxD_ints]
    have := fold_top q b
    have e : topN 0 (b :: q) = topN (b + 1) q := by
      show topN (max 0 (b + 1)) q = _
      rw [Nat.max_eq_right (by omega)]
    rw [e, ← this]
    congr 2
    omega
theorem size_of_ev {p : List Nat} (hp : IsP p) {m : MS} : Ev (fn_size_of [.tuple (natD p)]) m (.int (topN 0 p : Nat)) m :=
  v_runR (v_ret (v_e2 (v_eL (v_aC (v_call (v_aC (v_var 0 rfl) v_aN) (need_parting_ev hp)) v_aN) (maxV_natD hp.l1 fun b hb => by have := hp.small b hb; omega)) (v_c _) (by
    show some (PyData.int (((topN 0 p : Nat) : Int) - 1 + 1)) = _
    rw [show ((topN 0 p : Nat) : Int) - 1 + 1 = (topN 0 p : Nat) by omega])))
theorem blocks_of_ev {p : List Nat} (hp : IsP p) {m : MS} : Ev (fn_blocks_of [.tuple (natD p)]) m (blkD (p.map fun (n : Nat) => (n : Int)) (topN 0 p)) m := by
  refine ev_bd (size_of_ev hp) ?_
  have h1 := topN_le p 0 hp.g
  have h2 := hp.l2
  have hb : 0 ≤ ((topN 0 p : Nat) : Int) ∧ ((topN 0 p : Nat) : Int) ≤ 1000 ∧ (p.map fun (n : Nat) => (n : Int)).length ≤ 1000 ∧ ∀ b ∈ p.map fun (n : Nat) => (n : Int), 0 ≤ b ∧ b < ((topN 0 p : Nat) : Int) := by
    refine ⟨by omega, by omega, by rw [List.length_map]; omega, fun b hb => ?_⟩
    obtain ⟨c, hc, rfl⟩ := List.mem_map.mp hb
    have := topN_mem p 0 c hc
    omega
  show (match ints? (natD p) with
    | some bs => if 0 ≤ ((topN 0 p : Nat) : Int) ∧ ((topN 0 p : Nat) : Int) ≤ 1000 ∧ bs.length ≤ 1000 ∧ ∀ b ∈ bs, 0 ≤ b ∧ b < ((topN 0 p : Nat) : Int) then pure (blkD bs ((topN 0 p : Nat) : Int).toNat) else M.no
    | none => M.no : M D) m = _
  rw [natD_ints, ints?_map]
  show (if 0 ≤ ((topN 0 p : Nat) : Int) ∧ ((topN 0 p : Nat) : Int) ≤ 1000 ∧ (p.map fun (n : Nat) => (n : Int)).length ≤ 1000 ∧ ∀ b ∈ p.map fun (n : Nat) => (n : Int), 0 ≤ b ∧ b < ((topN 0 p : Nat) : Int) then pure (blkD (p.map fun (n : Nat) => (n : Int)) ((topN 0 p : Nat) : Int).toNat) else M.no : M D) m = _
  rw [if_pos hb, Int.toNat_natCast]
  rfl
end K01
namespace K01
open PySem L2 VL
/-- turns that draw -/
theorem draws_ev {f : D → M (Option D)} {P : Int → Prop} {c : Nat} (step : ∀ (d : D) (m : MS) (b : Nat), Mk m b → b < 100000 → ∃ v m', Ev (f d) m (some (.int v)) m' ∧ P v ∧ Mk m' (b + c)) (hc : c ≤ 10) :
    ∀ (ds : List D) (m : MS) (b : Nat), Mk m b → b + 10 * ds.length < 100000 → ∃ (vs : List Int) (m' : MS), Ev (lcL f ds) m (vs.map .int) m' ∧ vs.length = ds.length ∧ (∀ v ∈ vs, P v) ∧ Mk m' (b + c * ds.length)
  | [], m, b, hm, _ => ⟨[], m, rfl, rfl, (fun _ h => nomatch h), hm⟩
  | d :: ds, m, b, hm, hb => by
    rw [List.length_cons] at hb
    obtain ⟨v, m1, h1, h2, h3⟩ := step d m b hm (by omega)
    obtain ⟨vs, m2, h4, h5, h6, h7⟩ := draws_ev step hc ds m1 (b + c) h3 (by omega)
    refine ⟨v :: vs, m2, ev_bd h1 (ev_bd h4 rfl), by rw [List.length_cons, List.length_cons, h5], fun x hx => ?_, ?_⟩
    · rcases List.mem_cons.mp hx with rfl | hx
      · exact h2
      · exact h6 x hx
    · rw [List.length_cons, Nat.mul_add, Nat.mul_one, show b + (c * ds.length + c) = b + c + c * ds.length by omega]
      exact h7
theorem keys_ints (vs : List Int) : vs.map PyData.int = (vs.map fun i => (Sum.inl i : Key)).map keyD := by
  rw [List.map_map]
  rfl
theorem rng1_nat {n : Nat} (h : n ≤ 100000) : rng1 [.int (n : Nat)] = some (rngI 0 n) := by
  unfold rng1
  simp only [Int.toNat_natCast]
  rw [if_pos ⟨by omega, by omega⟩]
theorem any_parting_ev {n : Nat} {m : MS} {b : Nat} (hm : Mk m b) (hb : b < 50000) (h1 : 1 ≤ n) (h2 : n ≤ 60) : ∃ p m', Ev (fn__law_any_parting [.int (n : Nat)]) m (.tuple (natD p)) m' ∧ IsP p ∧ p.length = n ∧ Mk m' (b + 61) := by
  obtain ⟨v, m1, e1, v0, v1, k1⟩ := draw_ev (L := (n : Nat)) hm (by omega) (by omega) (by omega)
  have hlr : (rngI 0 n).length = n := by
    unfold rngI
    rw [List.length_map, List.length_range]
  obtain ⟨vs, m2, e2, hl, _, k2⟩ := draws_ev (P := fun _ => True) (c := 1) (f := lcStep (gNm 3) tYs (eCallM fn__law_draw (aC (eVar 2) aN)) (wipeE [none, some (.int (n : Nat)), some (.int (1 + v)), none] [3]))
    (fun d m b hm hb => by
      obtain ⟨w, m', q1, q2, q3, q4⟩ := draw_ev (L := 1 + v) hm (by omega) (by omega) (by omega)
      exact ⟨w, m', v_stepT (v_gNm 3 _ _ m) (v_tYs _ m) (v_callM (v_aC (v_var 2 rfl) v_aN) q1), trivial, q4⟩) (by decide) (rngI 0 n) m1 (b + 1) k1 (by rw [hlr]; omega)
  rw [hlr] at hl k2
  have hk : (vs.map fun i => (Sum.inl i : Key)).length = n := by rw [List.length_map, hl]
  refine ⟨num (vs.map fun i => (Sum.inl i : Key)), m2, ?_, isP_num (by rw [hk]; exact h1) (by rw [hk]; exact h2), by rw [num_len, hk], k2.mono (by omega)⟩
  refine v_runR (v_sq (v_set 2 (v_e2 (v_c _) (v_callM (v_aC (v_var 1 rfl) v_aN) e1) rfl)) (v_ret (v_call (m2 := ms0) (v_aC (v_lc (xs := vs.map .int) (v_iA (v_aC (v_var 1 rfl) v_aN) ?_) e2 ?_) v_aN) ?_)))
  · exact rng1_nat (by omega)
  · rw [List.length_map, hl]
    show n ≤ 16000000
    omega
  · rw [keys_ints]
    exact law_numbered_ev (by rw [hk]; omega)
end K01
namespace K01
open PySem L2 VL
theorem IsP.top1 {p : List Nat} (hp : IsP p) : 1 ≤ topN 0 p := by
  cases p with
  | nil => exact absurd hp.l1 (by decide)
  | cons b q =>
    have := topN_mem (b :: q) 0 b List.mem_cons_self
    omega
theorem IsP.top2 {p : List Nat} (hp : IsP p) : topN 0 p ≤ 60 := by
  have h1 := topN_le p 0 hp.g
  have := hp.l2
  omega
theorem max1_ev {p : List Nat} (hp : IsP p) {i : Nat} {en : SE} {m : MS} (h : en[i]? = some (some (.tuple (natD p)))) : Ev (e2 addD (eL (one1 maxV) (aC (eVar i) aN)) (eC (.int 1)) en) m (.int (topN 0 p : Nat)) m :=
  v_e2 (v_eL (v_aC (v_var i h) v_aN) (maxV_natD hp.l1 fun b hb => by have := hp.small b hb; omega)) (v_c _) (by
    show some (PyData.int (((topN 0 p : Nat) : Int) - 1 + 1)) = _
    rw [show ((topN 0 p : Nat) : Int) - 1 + 1 = (topN 0 p : Nat) by omega])
/-- a list of ints read at a list of places -/
theorem pick_ev {vs : List Int} {p : List Nat} (hb : ∀ b ∈ p, b < vs.length) {f : D → M (Option D)} {m : MS} (hf : ∀ b : Nat, ∀ h : b < vs.length, Ev (f (.int (b : Nat))) m (some (.int vs[b])) m) : Ev (lcL f (natD p)) m ((p.map fun b => vs.getD b 0).map .int) m := by
  have h := v_lcM (f := f) (onI fun i => vs.getD i.toNat 0) (m := m) (ds := natD p) fun d hd => by
    obtain ⟨b, hbm, rfl⟩ := List.mem_map.mp hd
    have h1 := hb b hbm
    have h2 := hf b h1
    show Ev _ _ (some (PyData.int (vs.getD ((b : Nat) : Int).toNat 0))) _
    rw [Int.toNat_natCast, List.getD_eq_getElem?_getD, List.getElem?_eq_getElem h1]
    exact h2
  rw [natD_ints, map_onI] at h
  rw [natD_ints]
  have e : (p.map fun b => vs.getD b 0) = (p.map fun (n : Nat) => (n : Int)).map fun i : Int => vs.getD i.toNat 0 := by
    rw [List.map_map]
    refine List.map_congr_left fun b _ => ?_
    show _ = vs.getD ((b : Nat) : Int).toNat 0
    rw [Int.toNat_natCast]
  rw [e]
  exact h
theorem coarser_ev {p : List Nat} (hp : IsP p) {m : MS} {b : Nat} (hm : Mk m b) (hb : b < 50000) : ∃ q m', Ev (fn__law_coarser [.tuple (natD p)]) m (.tuple (natD q)) m' ∧ IsP q ∧ q.length = p.length ∧ Mk m' (b + 61) := by
  have t1 := hp.top1
  have t2 := hp.top2
  obtain ⟨v, m1, e1, v0, v1, k1⟩ := draw_ev (L := (topN 0 p : Nat)) hm (by omega) (by omega) (by omega)
  have hlr : (rngI 0 (topN 0 p)).length = topN 0 p := by
    unfold rngI
    rw [List.length_map, List.length_range]
  obtain ⟨vs, m2, ee2, hl, _, k2⟩ := draws_ev (P := fun _ => True) (c := 1) (f := lcStep (gNm 4) tYs (eCallM fn__law_draw (aC (eVar 2) aN)) (wipeE [none, some (.tuple (natD p)), some (.int (1 + v)), none, none] [4]))
    (fun d m b hm hb => by
      obtain ⟨w, m', q1, q2, q3, q4⟩ := draw_ev (L := 1 + v) hm (by omega) (by omega) (by omega)
      exact ⟨w, m', v_stepT (v_gNm 4 _ _ m) (v_tYs _ m) (v_callM (v_aC (v_var 2 rfl) v_aN) q1), trivial, q4⟩) (by decide) (rngI 0 (topN 0 p)) m1 (b + 1) k1 (by rw [hlr]; omega)
  rw [hlr] at hl k2
  have hk : ((p.map fun b => vs.getD b 0).map fun i => (Sum.inl i : Key)).length = p.length := by rw [List.length_map, List.length_map]
  have e3 := pick_ev (vs := vs) (p := p) (fun b hb => by rw [hl]; exact topN_mem p 0 b hb) (f := lcStep (gNm 4) tYs (e2 ixD (eVar 3) (eVar 4)) (wipeE [none, some (.tuple (natD p)), some (.int (1 + v)), some (.list (vs.map .int)), none] [4])) (m := m2)
    fun b h => v_stepT (v_gNm 4 _ _ m2) (v_tYs _ m2) (v_e2 (v_var 3 rfl) (v_var 4 rfl) (at_nat h))
  refine ⟨num ((p.map fun b => vs.getD b 0).map fun i => (Sum.inl i : Key)), m2, ?_, isP_num (by rw [hk]; exact hp.l1) (by rw [hk]; exact hp.l2), by rw [num_len, hk], k2.mono (by omega)⟩
  refine v_runR (v_sq (v_set 2 (v_e2 (v_c _) (v_callM (v_aC (max1_ev hp rfl) v_aN) e1) rfl)) (v_sq (v_set 3 (v_lc (xs := vs.map .int) (v_iA (v_aC (max1_ev hp rfl) v_aN) (rng1_nat (by omega))) ee2 ?_)) (v_ret (v_call (m2 := ms0) (v_aC (v_lc (xs := (p.map fun b => vs.getD b 0).map .int) (v_iL (v_var 1 rfl) rfl) e3 ?_) v_aN) ?_))))
  · rw [List.length_map, hl]
    show topN 0 p ≤ 16000000
    omega
  · rw [List.length_map, List.length_map]
    have := hp.l2
    show p.length ≤ 16000000
    omega
  · rw [keys_ints]
    exact law_numbered_ev (by rw [hk]; have := hp.l2; omega)
end K01
namespace K01
open PySem L2 VL
theorem need_fit_ev {p q : List Nat} (hq : IsP q) (hl : q.length = p.length) {m : MS} : Ev (fn_need_fit [.tuple (natD p), .tuple (natD q)]) m (.tuple (natD q)) m := by
  refine v_runR (v_sq (v_drop (v_call (v_aC (v_var 1 rfl) v_aN) (need_parting_ev hq (m := ms0)))) (v_sq (v_sIfF (v_tV (a := .bool false) (v_e2 (v_eL (v_aC (v_var 1 rfl) v_aN) rfl) (v_eL (v_aC (v_var 0 rfl) v_aN) rfl) ?_) rfl) rfl) (v_ret (v_var 1 rfl))))
  rw [natD_len, natD_len, hl]
  have hs : SeqAt.shaped (.int (p.length : Nat)) = true := by
    unfold SeqAt.shaped
    simp [PyData.canLay0, PyData.depth]
  unfold neD
  rw [hs, SeqAt.eqv_refl _ (SeqAt.canLay_of_shaped hs)]
  rfl
/-- the numbering of ints by data: what the program's renumbered gives -/
theorem num_keys (vs : List Int) : num (vs.map fun i => (Sum.inl i : Key)) = num vs := num_congr (by rw [List.length_map]) fun i j x y u v h1 h2 h3 h4 => by
  rw [List.getElem?_map] at h1 h2
  rw [h3] at h1
  rw [h4] at h2
  cases h1
  cases h2
  exact ⟨fun e => Sum.inl.inj e, fun e => by rw [e]⟩
/-- labels told apart as a parting's blocks are number to it -/
theorem num_of_ker {α : Type} [DecidableEq α] {p : List Nat} (hp : IsP p) {xs : List α} (hl : xs.length = p.length) (H : ∀ (i j : Nat) (x y : α) (u v : Nat), xs[i]? = some x → xs[j]? = some y → p[i]? = some u → p[j]? = some v → (x = y ↔ u = v)) : num xs = p := by
  rw [num_congr hl H, num_isP hp.g]
theorem num_map_inj {p : List Nat} (hp : IsP p) {f : Nat → Int} (hf : ∀ a b, a ∈ p → b ∈ p → f a = f b → a = b) : num (p.map f) = p := num_of_ker hp (List.length_map _) fun i j x y u v h1 h2 h3 h4 => by
  rw [List.getElem?_map, h3] at h1
  rw [List.getElem?_map, h4] at h2
  cases h1
  cases h2
  exact ⟨fun e => hf _ _ (List.mem_of_getElem? h3) (List.mem_of_getElem? h4) e, fun e => by rw [e]⟩
theorem parting_of_ev {vs : List Int} (h1 : 1 ≤ vs.length) (h2 : vs.length ≤ 60) {m : MS} : Ev (fn_parting_of [.tuple (vs.map .int)]) m (.tuple (natD (num vs))) m := by
  have hl : (vs.map PyData.int).length = vs.length := List.length_map _
  have hc1 : decide ((1 : Int) ≤ ((vs.map PyData.int).length : Nat)) = true := decide_eq_true (by rw [hl]; omega)
  have hc2 : decide ((((vs.map PyData.int).length : Nat) : Int) ≤ 60) = true := decide_eq_true (by rw [hl]; omega)
  let I : Nat → SE → MS → Prop := fun i en m' => m' = m ∧ ∃ (x1 x2 : Option D), en = [some (.tuple (vs.map .int)), x1, x2]
  obtain ⟨e', m', hloop, rfl, x1, x2, rfl⟩ := v_loop I (Gt := gTp 2 (gC (gNm 1) (gC (gNm 2) gN0))) (B := sIf (tNot1 (tV asB (eCall fn_is_whole (aC (eVar 2) aN)))) sNo sNx) (enumD (vs.map .int)) 0
    [some (.tuple (vs.map .int)), none, none] m ⟨rfl, none, none, rfl⟩ (by
      rintro j d en m' hd ⟨rfl, x1, x2, rfl⟩
      obtain ⟨a, ha, rfl⟩ := enumD_inv hd
      obtain ⟨c, hc, rfl⟩ := map_inv ha
      exact ⟨_, m', _, m', v_gTp2 1 2 _ _ _ m', .inl (v_sIfF (v_not (o := true) (v_tV (v_call (v_aC (v_var 2 rfl) v_aN) (is_whole_ev (m := ms0))) rfl)) rfl), rfl, _, _, rfl⟩)
  refine v_runR (v_sq (v_sIfF (v_orF (v_not (o := true) (v_tV (v_e1 (v_var 0 rfl) rfl) rfl)) (v_not (o := true) (v_c3T (b := .int ((vs.map PyData.int).length : Nat)) (v_c _) (v_eL (v_aC (v_var 0 rfl) v_aN) rfl) (by show some (PyData.bool (decide ((1 : Int) ≤ ((vs.map PyData.int).length : Nat)))) = _; rw [hc1]) (v_c _) (by show some (PyData.bool (decide ((((vs.map PyData.int).length : Nat) : Int) ≤ 60))) = _; rw [hc2])))) rfl) (v_sq (v_for (v_iA (v_aC (v_var 0 rfl) v_aN) rfl) hloop) (v_ret (v_call (m2 := ms0) (v_aC (v_var 0 rfl) v_aN) ?_))))
  rw [keys_ints, ← num_keys]
  exact renumberedS_ev (by rw [List.length_map]; omega)
end K01
namespace K01
open PySem L2 VL
/-- turns that draw, each knowing its item -/
theorem draws2_ev {f : D → M (Option D)} {P : D → Int → Prop} {c : Nat} (hc : c ≤ 10) :
    ∀ (ds : List D) (m : MS) (b : Nat), (∀ (d : D) (m : MS) (b : Nat), d ∈ ds → Mk m b → b < 100000 → ∃ v m', Ev (f d) m (some (.int v)) m' ∧ P d v ∧ Mk m' (b + c)) → Mk m b → b + 10 * ds.length < 100000 →
      ∃ (vs : List Int) (m' : MS), Ev (lcL f ds) m (vs.map .int) m' ∧ vs.length = ds.length ∧ (∀ (j : Nat) (d : D) (v : Int), ds[j]? = some d → vs[j]? = some v → P d v) ∧ Mk m' (b + c * ds.length)
  | [], m, b, _, hm, _ => ⟨[], m, rfl, rfl, (fun j d v h => by simp at h), hm⟩
  | d :: ds, m, b, step, hm, hb => by
    rw [List.length_cons] at hb
    obtain ⟨v, m1, h1, h2, h3⟩ := step d m b List.mem_cons_self hm (by omega)
    obtain ⟨vs, m2, h4, h5, h6, h7⟩ := draws2_ev hc ds m1 (b + c) (fun e m b he => step e m b (List.mem_cons_of_mem _ he)) h3 (by omega)
    refine ⟨v :: vs, m2, ev_bd h1 (ev_bd h4 rfl), by rw [List.length_cons, List.length_cons, h5], fun j e w q1 q2 => ?_, ?_⟩
    · cases j with
      | zero =>
        cases q1
        cases q2
        exact h2
      | succ j => exact h6 j e w (by simpa using q1) (by simpa using q2)
    · rw [List.length_cons, Nat.mul_add, Nat.mul_one, show b + (c * ds.length + c) = b + c + c * ds.length by omega]
      exact h7
/-- a block's code -/
def CodeOf (b v : Int) : Prop := ∃ d s : Int, 0 ≤ d ∧ d < 1000000000 ∧ (s = 0 ∨ s = 1) ∧ v = (d * 61 + b) * (1 - 2 * s)
theorem code_inj {b c v : Int} (hb0 : 0 ≤ b) (hb1 : b < 61) (hc0 : 0 ≤ c) (hc1 : c < 61) (h1 : CodeOf b v) (h2 : CodeOf c v) : b = c := by
  obtain ⟨d, s, d0, d1, hs, rfl⟩ := h1
  obtain ⟨e, t, e0, e1, ht, h⟩ := h2
  rcases hs with rfl | rfl <;> rcases ht with rfl | rfl <;> omega
theorem code_small {b v : Int} (hb0 : 0 ≤ b) (hb1 : b < 61) (h : CodeOf b v) : v.natAbs < 100000000000 := by
  obtain ⟨d, s, d0, d1, hs, rfl⟩ := h
  rcases hs with rfl | rfl <;> omega
end K01
namespace K01
open PySem L2 VL
theorem codes_ev {en : SE} {n : Nat} (hl : en.length = 19) (h5 : en[5]? = some (some (.int (n : Nat)))) (hn : n ≤ 60) {m : MS} {b : Nat} (hm : Mk m b) (hb : b < 50000) :
    ∃ (vs : List Int) (m' : MS), Ev (lcF (iA rng1 (aC (eVar 5) aN)) (gNm 17) tYs (e2 mulD (e2 addD (e2 mulD (eCallM fn__law_draw (aC (eC (.int 1000000000)) aN)) (eC (.int 61))) (eVar 17)) (e2 subD (eC (.int 1)) (e2 mulD (eC (.int 2)) (eCallM fn__law_draw (aC (eC (.int 2)) aN))))) [17] en) m (.list (vs.map .int)) m' ∧
      vs.length = n ∧ (∀ (j : Nat) (v : Int), vs[j]? = some v → CodeOf (j : Nat) v) ∧ Mk m' (b + 120) := by
  have hlr : (rngI 0 n).length = n := by
    unfold rngI
    rw [List.length_map, List.length_range]
  have hw : (wipeE en [17]).length = 19 := by rw [wipeE_length]; exact hl
  obtain ⟨vs, m2, q1, q2, q3, q4⟩ := draws2_ev (P := fun d v => ∀ k : Int, d = .int k → CodeOf k v) (c := 2) (f := lcStep (gNm 17) tYs (e2 mulD (e2 addD (e2 mulD (eCallM fn__law_draw (aC (eC (.int 1000000000)) aN)) (eC (.int 61))) (eVar 17)) (e2 subD (eC (.int 1)) (e2 mulD (eC (.int 2)) (eCallM fn__law_draw (aC (eC (.int 2)) aN))))) (wipeE en [17])) (by decide) (rngI 0 n) m b
    (fun d m b hd hm hb => by
      obtain ⟨i, _, rfl⟩ := mem_rngI hd
      obtain ⟨x, m1, x1, x2, x3, x4⟩ := draw_ev (L := 1000000000) hm (by omega) (by decide) (by decide)
      obtain ⟨s, m2, s1, s2, s3, s4⟩ := draw_ev (L := 2) x4 (by omega) (by decide) (by decide)
      refine ⟨(x * 61 + (0 + (i : Nat))) * (1 - 2 * s), m2, v_stepT (v_gNm 17 _ _ m) (v_tYs _ m) (v_e2 (v_e2 (v_e2 (v_callM (v_aC (v_c _) v_aN) x1) (v_c _) (mulD_r (by decide))) (v_var 17 (List.getElem?_set_self (by rw [hw]; decide))) rfl) (v_e2 (v_c _) (v_e2 (v_c _) (v_callM (v_aC (v_c _) v_aN) s1) (mulD_l (by decide))) rfl) (mulD_r (by omega))), fun k e => ?_, s4⟩
      cases e
      exact ⟨x, s, x2, x3, by omega, rfl⟩) hm (by rw [hlr]; omega)
  rw [hlr] at q2 q4
  refine ⟨vs, m2, v_lc (v_iA (v_aC (v_var 5 h5) v_aN) (rng1_nat (by omega))) q1 ?_, q2, fun j v hv => ?_, q4.mono (by omega)⟩
  · rw [List.length_map, q2]
    show n ≤ 16000000
    omega
  · have hj := (List.getElem?_eq_some_iff.mp hv).1
    exact q3 j (.int (0 + (j : Nat))) v (rngI_get (by omega)) hv _ (by rw [Int.zero_add])
end K01
namespace K01
open PySem L2 VL
/-- the codes of a parting's blocks, door by door, are numbered to it -/
theorem codes_num {p : List Nat} (hp : IsP p) {vs : List Int} (hl : vs.length = topN 0 p) (hc : ∀ (j : Nat) (v : Int), vs[j]? = some v → CodeOf (j : Nat) v) : num (p.map fun b => vs.getD b 0) = p := by
  refine num_map_inj hp fun a b ha hb e => ?_
  have h1 := topN_mem p 0 a ha
  have h2 := topN_mem p 0 b hb
  have t := hp.top2
  have ea : vs.getD a 0 = vs[a]'(by omega) := by rw [List.getD_eq_getElem?_getD, List.getElem?_eq_getElem (by omega)]; rfl
  have eb : vs.getD b 0 = vs[b]'(by omega) := by rw [List.getD_eq_getElem?_getD, List.getElem?_eq_getElem (by omega)]; rfl
  rw [ea, eb] at e
  have c1 := hc a _ (List.getElem?_eq_getElem (by omega))
  have c2 := hc b _ (List.getElem?_eq_getElem (by omega))
  rw [← e] at c2
  have := code_inj (by omega) (by omega) (by omega) (by omega) c1 c2
  omega
/-- the doors of a block, as the law lists them -/
theorem filter_pos (p : List Nat) (c : Nat) : ∀ (q : List Nat) (k : Nat), posFrom k (q.map fun (n : Nat) => (n : Int)) (c : Nat) = ((List.range' k q.length).filter fun i => decide (q[i - k]? = some c)).map fun (i : Nat) => (i : Int)
  | [], k => rfl
  | b :: q, k => by
    have ih := filter_pos p c q (k + 1)
    show (if ((b : Nat) : Int) = (c : Nat) then (k : Int) :: posFrom (k + 1) (q.map fun (n : Nat) => (n : Int)) (c : Nat) else posFrom (k + 1) (q.map fun (n : Nat) => (n : Int)) (c : Nat)) = _
    rw [List.length_cons, List.range'_succ, List.filter_cons]
    have e : (List.range' (k + 1) q.length).filter (fun i => decide ((b :: q)[i - k]? = some c)) = (List.range' (k + 1) q.length).filter fun i => decide (q[i - (k + 1)]? = some c) := by
      refine List.filter_congr fun i hi => ?_
      have h := (List.mem_range'_1.mp hi).1
      rw [show i - k = (i - (k + 1)) + 1 by omega, List.getElem?_cons_succ]
    rw [e, ih, Nat.sub_self]
    by_cases h : b = c
    · subst h
      rw [if_pos rfl, if_pos (by simp)]
      rfl
    · rw [if_neg (by omega), if_neg (by simp [h])]
end K01
namespace K01
open PySem L2 VL
theorem shaped_int (i : Int) : SeqAt.shaped (.int i) = true := by
  unfold SeqAt.shaped
  simp [PyData.canLay0, PyData.depth]
theorem eqD_int (a b : Int) : eqD (.int a) (.int b) = some (.bool (decide (a = b))) := by
  unfold eqD
  rw [shaped_int, shaped_int]
  show some (PyData.bool (a == b)) = _
  by_cases h : a = b
  · rw [decide_eq_true h, show (a == b) = true from beq_iff_eq.mpr h]
  · rw [decide_eq_false h, show (a == b) = false from beq_eq_false_iff_ne.mpr h]
theorem neD_int (a b : Int) : neD (.int a) (.int b) = some (.bool (!decide (a = b))) := by
  unfold neD
  rw [shaped_int, shaped_int]
  show some (PyData.bool (!(a == b))) = _
  by_cases h : a = b
  · rw [decide_eq_true h, show (a == b) = true from beq_iff_eq.mpr h]
  · rw [decide_eq_false h, show (a == b) = false from beq_eq_false_iff_ne.mpr h]
theorem ixT_nat {p : List Nat} {j : Nat} (h : j < p.length) : ixD (.tuple (natD p)) (.int (j : Nat)) = some (.int (p[j] : Nat)) := by
  show atI (natD p) (j : Int) = _
  exact atI_nat (by unfold natD; rw [List.getElem?_map, List.getElem?_eq_getElem h]; rfl)
end K01
namespace K01
open PySem L2 VL
theorem boolsD_map : ∀ bs : List Bool, boolsD (bs.map PyData.bool) = some bs
  | [] => rfl
  | b :: bs => by
    have ih := boolsD_map bs
    rw [List.map_cons]
    unfold boolsD
    rw [ih]
    rfl
theorem intsD_map : ∀ ns : List Int, intsD (ns.map PyData.int) = some ns
  | [] => rfl
  | n :: ns => by
    have ih := intsD_map ns
    rw [List.map_cons]
    unfold intsD
    rw [ih]
    rfl
theorem idx_cast (p : List Nat) (b : Nat) : (p.map fun (n : Nat) => (n : Int)).idxOf (b : Int) = p.idxOf b := by
  induction p with
  | nil => rfl
  | cons x p ih =>
    rw [List.map_cons, List.idxOf_cons, List.idxOf_cons, ih]
    by_cases h : x = b
    · rw [h]; simp
    · rw [show (((x : Nat) : Int) == (b : Int)) = false from beq_false_of_ne (by omega), show (x == b) = false from beq_false_of_ne h]
theorem idxT_nat {p : List Nat} {b : Nat} (h : b ∈ p) : idxD (.tuple (natD p)) (.int (b : Nat)) = some (.int (p.idxOf b : Nat)) := by
  show (intsD (natD p)).bind _ = _
  rw [natD_ints, intsD_map]
  show (if ((b : Nat) : Int) ∈ p.map fun (n : Nat) => (n : Int) then some (PyData.int ((p.map fun (n : Nat) => (n : Int)).idxOf ((b : Nat) : Int) : Nat)) else none) = _
  rw [if_pos (List.mem_map.mpr ⟨b, h, rfl⟩), idx_cast]
end K01
namespace K01
open PySem L2 VL
/-- is_finer, as the program answers -/
def finA (p q : List Nat) : Bool := (List.range p.length).all fun i => decide (q.getD i 0 = q.getD (p.idxOf (p.getD i 0)) 0)
theorem enum_natD (p : List Nat) : enumD (natD p) = (List.range p.length).map fun i => .tuple [.int (i : Nat), .int (p.getD i 0 : Nat)] := by
  refine List.ext_getElem? fun j => ?_
  rw [List.getElem?_map]
  by_cases h : j < p.length
  · rw [List.getElem?_range h, enumD_get (d := .int (p.getD j 0 : Nat)) (by unfold natD; rw [List.getElem?_map, List.getElem?_eq_getElem h, List.getD_eq_getElem?_getD, List.getElem?_eq_getElem h]; rfl)]
    rfl
  · rw [List.getElem?_eq_none (by rw [enumD_len, natD_len]; omega), List.getElem?_eq_none (by rw [List.length_range]; omega)]
    rfl
theorem is_finer_ev {p q : List Nat} (hp : IsP p) (hq : IsP q) (hl : q.length = p.length) {m : MS} : Ev (fn_is_finer [.tuple (natD p), .tuple (natD q)]) m (.bool (finA p q)) m := by
  have hget : ∀ {i : Nat} (h : i < p.length), p.getD i 0 = p[i] := fun {i} h => by rw [List.getD_eq_getElem?_getD, List.getElem?_eq_getElem h]; rfl
  have hgetq : ∀ {i : Nat} (h : i < q.length), q.getD i 0 = q[i] := fun {i} h => by rw [List.getD_eq_getElem?_getD, List.getElem?_eq_getElem h]; rfl
  have h := v_lcM (f := lcStep (gTp 2 (gC (gNm 2) (gC (gNm 3) gN0))) tYs (e2 eqD (e2 ixD (eVar 1) (eVar 2)) (e2 ixD (eVar 1) (e2 idxD (eVar 0) (eVar 3)))) (wipeE [some (.tuple (natD p)), some (.tuple (natD q)), none, none] [2, 3]))
    (fun d => match d with | .tuple [.int i, .int b] => .bool (decide (q.getD i.toNat 0 = q.getD (p.idxOf b.toNat) 0)) | d => d) (m := m) (ds := enumD (natD p)) fun d hd => by
      rw [enum_natD] at hd
      obtain ⟨i, hi, rfl⟩ := List.mem_map.mp hd
      have hi := List.mem_range.mp hi
      have hm : p.getD i 0 ∈ p := by rw [hget hi]; exact List.getElem_mem hi
      have hx := List.idxOf_lt_length_of_mem hm
      refine v_stepT (v_gTp2 2 3 _ _ _ m) (v_tYs _ m) (v_e2 (v_e2 (v_var 1 rfl) (v_var 2 rfl) (ixT_nat (by omega))) (v_e2 (v_var 1 rfl) (v_e2 (v_var 0 rfl) (v_var 3 rfl) (idxT_nat hm)) (ixT_nat (by omega))) ?_)
      rw [eqD_int]
      show _ = some (PyData.bool (decide (q.getD ((i : Nat) : Int).toNat 0 = q.getD (p.idxOf (((p.getD i 0 : Nat) : Int).toNat)) 0)))
      rw [Int.toNat_natCast, Int.toNat_natCast, hgetq (i := i) (by omega), hgetq (i := p.idxOf (p.getD i 0)) (by omega)]
      congr 2
      exact decide_eq_decide.mpr (by omega)
  refine v_runR (v_sq (v_drop (v_call (v_aC (v_var 0 rfl) v_aN) (need_parting_ev hp (m := ms0)))) (v_sq (v_drop (v_call (v_aC (v_var 0 rfl) (v_aC (v_var 1 rfl) v_aN)) (need_fit_ev hq hl (m := ms0)))) (v_ret (v_eL (v_aC (v_lc (v_iA (v_aC (v_var 0 rfl) v_aN) rfl) h ?_) v_aN) ?_))))
  · rw [List.length_map, enumD_len, natD_len]
    have := hp.l2
    show p.length ≤ 16000000
    omega
  · rw [enum_natD, List.map_map]
    show (boolsD ((List.range p.length).map fun i => PyData.bool (decide (q.getD ((i : Nat) : Int).toNat 0 = q.getD (p.idxOf (((p.getD i 0 : Nat) : Int).toNat)) 0)))).map _ = _
    rw [show ((List.range p.length).map fun i => PyData.bool (decide (q.getD ((i : Nat) : Int).toNat 0 = q.getD (p.idxOf (((p.getD i 0 : Nat) : Int).toNat)) 0))) = ((List.range p.length).map fun i => decide (q.getD i 0 = q.getD (p.idxOf (p.getD i 0)) 0)).map PyData.bool by rw [List.map_map]; rfl, boolsD_map]
    show some (PyData.bool (((List.range p.length).map fun i => decide (q.getD i 0 = q.getD (p.idxOf (p.getD i 0)) 0)).all id)) = _
    rw [List.all_map]
    rfl
end K01
namespace K01
open PySem L2 VL
/-- a witness against finer, below place i -/
def badL (p q : List Nat) (i : Nat) : Bool := (List.range i).any fun j => decide (p.getD j 0 = p.getD i 0) && !decide (q.getD j 0 = q.getD i 0)
def finL (p q : List Nat) : Bool := (List.range p.length).all fun i => !badL p q i
theorem law_is_finer_ev {p q : List Nat} (h2 : p.length ≤ 60) (hl : q.length = p.length) {m : MS} : Ev (fn__law_is_finer [.tuple (natD p), .tuple (natD q)]) m (.bool (finL p q)) m := by
  have hget : ∀ {i : Nat} (h : i < p.length), p.getD i 0 = p[i] := fun {i} h => by rw [List.getD_eq_getElem?_getD, List.getElem?_eq_getElem h]; rfl
  have hgetq : ∀ {i : Nat} (h : i < q.length), q.getD i 0 = q[i] := fun {i} h => by rw [List.getD_eq_getElem?_getD, List.getElem?_eq_getElem h]; rfl
  have hlr : (rngI 0 p.length).length = p.length := by
    unfold rngI
    rw [List.length_map, List.length_range]
  have main := v_search (Gt := gNm 2) (B := sIf (tV asB (e2 neD (lcF (iA rng1 (aC (eVar 2) aN)) (gNm 3) (tAnd2 (tV asB (e2 eqD (e2 ixD (eVar 0) (eVar 3)) (e2 ixD (eVar 0) (eVar 2)))) (tV asB (e2 neD (e2 ixD (eVar 1) (eVar 3)) (e2 ixD (eVar 1) (eVar 2))))) (eC (.int 1)) [3]) (eL mkL aN))) (sRet (eC (.bool false))) sNx) (m := m) (r := .bool false)
    (fun _ en => ∃ x2 x3, en = [some (.tuple (natD p)), some (.tuple (natD q)), x2, x3]) (badL p q) (rngI 0 p.length) 0 [some (.tuple (natD p)), some (.tuple (natD q)), none, none] ⟨_, _, rfl⟩ (by
      rintro i d en hd ⟨x2, x3, rfl⟩
      obtain ⟨hi, rfl⟩ := rngI_inv hd
      rw [Int.zero_add, Nat.zero_add]
      let sel : Nat → Bool := fun j => decide (p.getD j 0 = p.getD i 0) && !decide (q.getD j 0 = q.getD i 0)
      have hlc := v_lcO (f := lcStep (gNm 3) (tAnd2 (tV asB (e2 eqD (e2 ixD (eVar 0) (eVar 3)) (e2 ixD (eVar 0) (eVar 2)))) (tV asB (e2 neD (e2 ixD (eVar 1) (eVar 3)) (e2 ixD (eVar 1) (eVar 2))))) (eC (.int 1)) (wipeE [some (.tuple (natD p)), some (.tuple (natD q)), some (.int (i : Nat)), x3] [3]))
        (fun d => match d with | .int j => if sel j.toNat = true then some (.int 1) else none | _ => none) (m := m) (ds := rngI 0 i) fun d hd => by
          obtain ⟨j, hj, rfl⟩ := mem_rngI hd
          rw [Int.zero_add]
          have hjp : j < p.length := by omega
          have ee := eqD_int (p[j] : Nat) (p[i] : Nat)
          have en := neD_int (q[j]'(by omega) : Nat) (q[i]'(by omega) : Nat)
          show Ev _ _ (if sel ((j : Nat) : Int).toNat = true then some (PyData.int 1) else none) _
          rw [Int.toNat_natCast]
          have hs : sel j = (decide (p[j] = p[i]) && !decide (q[j]'(by omega) = q[i]'(by omega))) := by
            show (decide (p.getD j 0 = p.getD i 0) && !decide (q.getD j 0 = q.getD i 0)) = _
            rw [hget hjp, hget hi, hgetq (i := j) (by omega), hgetq (i := i) (by omega)]
          rw [hs]
          by_cases c1 : p[j] = p[i]
          · rw [decide_eq_true (by rw [c1])] at ee
            rw [decide_eq_true c1, Bool.true_and]
            by_cases c2 : q[j]'(by omega) = q[i]'(by omega)
            · rw [decide_eq_true (by rw [c2])] at en
              rw [decide_eq_true c2]
              exact v_stepF (v_gNm 3 _ _ m) (v_andT (v_tV (v_e2 (v_e2 (v_var 0 rfl) (v_var 3 rfl) (ixT_nat hjp)) (v_e2 (v_var 0 rfl) (v_var 2 rfl) (ixT_nat hi)) ee) rfl) (v_tV (v_e2 (v_e2 (v_var 1 rfl) (v_var 3 rfl) (ixT_nat (by omega))) (v_e2 (v_var 1 rfl) (v_var 2 rfl) (ixT_nat (by omega))) en) rfl))
            · rw [decide_eq_false (by omega)] at en
              rw [decide_eq_false c2]
              exact v_stepT (v_gNm 3 _ _ m) (v_andT (v_tV (v_e2 (v_e2 (v_var 0 rfl) (v_var 3 rfl) (ixT_nat hjp)) (v_e2 (v_var 0 rfl) (v_var 2 rfl) (ixT_nat hi)) ee) rfl) (v_tV (v_e2 (v_e2 (v_var 1 rfl) (v_var 3 rfl) (ixT_nat (by omega))) (v_e2 (v_var 1 rfl) (v_var 2 rfl) (ixT_nat (by omega))) en) rfl)) (v_c _)
          · rw [decide_eq_false (by omega)] at ee
            rw [decide_eq_false c1, Bool.false_and]
            exact v_stepF (v_gNm 3 _ _ m) (v_andF (v_tV (v_e2 (v_e2 (v_var 0 rfl) (v_var 3 rfl) (ixT_nat hjp)) (v_e2 (v_var 0 rfl) (v_var 2 rfl) (ixT_nat hi)) ee) rfl))
      have hx : (rngI 0 i).filterMap (fun d => match d with | .int j => if sel j.toNat = true then some (PyData.int 1) else none | _ => none) = (((List.range i).filter sel).map fun _ => (1 : Int)).map PyData.int := by
        unfold rngI
        rw [List.filterMap_map]
        generalize List.range i = l
        induction l with
        | nil => rfl
        | cons x l ih =>
          have e0 : (if sel ((0 : Int) + (x : Nat)).toNat = true then some (PyData.int 1) else none) = if sel x = true then some (PyData.int 1) else none := by rw [Int.zero_add, Int.toNat_natCast]
          rw [List.filter_cons]
          by_cases c : sel x = true
          · rw [if_pos c] at e0 ⊢
            refine Eq.trans (List.filterMap_cons_some (b := PyData.int 1) ?_) (congrArg _ ih)
            exact e0
          · rw [if_neg c] at e0 ⊢
            refine Eq.trans (List.filterMap_cons_none ?_) ih
            exact e0
      rw [hx] at hlc
      have hlist := v_lc (en := [some (.tuple (natD p)), some (.tuple (natD q)), some (.int (i : Nat)), x3]) (It := iA rng1 (aC (eVar 2) aN)) (vs := [3]) (v_iA (v_aC (v_var 2 rfl) v_aN) (rng1_nat (by omega))) hlc (by
        rw [List.length_map, List.length_map]
        have := List.length_filter_le sel (List.range i)
        rw [List.length_range] at this
        show _ ≤ 16000000
        omega)
      have hbad : badL p q i = !((((List.range i).filter sel).map fun _ => (1 : Int)).isEmpty) := by
        show (List.range i).any sel = _
        generalize List.range i = l
        induction l with
        | nil => rfl
        | cons x l ih =>
          rw [List.any_cons, List.filter_cons, ih]
          by_cases c : sel x = true
          · rw [c, if_pos rfl]; rfl
          · rw [if_neg c, Bool.eq_false_iff.mpr c, Bool.false_or]
      have ht := v_tV (g := asB) (o := badL p q i) (v_e2 hlist (v_eL (g := mkL) (d := .list []) v_aN rfl) ne_nil) (by rw [hbad]; rfl)
      refine ⟨_, v_gNm 2 _ _ m, ?_⟩
      cases hc : badL p q i with
      | false =>
        rw [hc] at ht
        exact .inl ⟨rfl, _, v_sIfF ht rfl, _, _, rfl⟩
      | true =>
        rw [hc] at ht
        exact .inr ⟨rfl, v_sIfT ht (v_ret (v_c _))⟩)
  have hfor : Ev (iA rng1 (aC (eL (one1 lenD) (aC (eVar 0) aN)) aN) [some (.tuple (natD p)), some (.tuple (natD q)), none, none]) m (rngI 0 p.length) m := v_iA (v_aC (v_eL (d := .int (p.length : Nat)) (v_aC (v_var 0 rfl) v_aN) (by show some (PyData.int ((natD p).length : Nat)) = _; rw [natD_len])) v_aN) (rng1_nat (by omega))
  rcases main with ⟨⟨j, hj, hb⟩, hev⟩ | ⟨hall, e', hev, x2, x3, rfl⟩
  · have : finL p q = false := by
      rw [hlr] at hj
      rw [Nat.zero_add] at hb
      refine Bool.eq_false_iff.mpr fun t => ?_
      have := List.all_eq_true.mp t j (List.mem_range.mpr hj)
      rw [hb] at this
      cases this
    rw [this]
    exact v_runR (v_sqR (v_for hfor hev))
  · have : finL p q = true := List.all_eq_true.mpr fun j hj => by
      have := hall j (by rw [hlr]; exact List.mem_range.mp hj)
      rw [Nat.zero_add] at this
      rw [this]
      rfl
    rw [this]
    exact v_runR (v_sq (v_for hfor hev) (v_ret (v_c _)))
end K01
namespace K01
open PySem L2 VL
def Finer (p q : List Nat) : Prop := ∀ i j, i < p.length → j < p.length → p.getD i 0 = p.getD j 0 → q.getD i 0 = q.getD j 0
theorem finA_iff {p q : List Nat} : finA p q = true ↔ Finer p q := by
  have hg : ∀ i, i < p.length → p.getD i 0 ∈ p ∧ p.idxOf (p.getD i 0) < p.length ∧ p.getD (p.idxOf (p.getD i 0)) 0 = p.getD i 0 := fun i hi => by
    have hm : p.getD i 0 ∈ p := by
      rw [List.getD_eq_getElem?_getD, List.getElem?_eq_getElem hi]
      exact List.getElem_mem hi
    have hl := List.idxOf_lt_length_of_mem hm
    refine ⟨hm, hl, ?_⟩
    rw [List.getD_eq_getElem?_getD (i := p.idxOf (p.getD i 0)), List.getElem?_eq_getElem hl]
    exact List.getElem_idxOf hl
  constructor
  · intro h i j hi hj e
    have h1 := of_decide_eq_true (List.all_eq_true.mp h i (List.mem_range.mpr hi))
    have h2 := of_decide_eq_true (List.all_eq_true.mp h j (List.mem_range.mpr hj))
    rw [h1, h2, e]
  · intro h
    refine List.all_eq_true.mpr fun i hi => decide_eq_true ?_
    have hi := List.mem_range.mp hi
    obtain ⟨_, h2, h3⟩ := hg i hi
    exact h i _ hi h2 h3.symm
theorem finL_iff {p q : List Nat} : finL p q = true ↔ Finer p q := by
  constructor
  · intro h
    have low : ∀ i j, i < p.length → j < i → p.getD j 0 = p.getD i 0 → q.getD j 0 = q.getD i 0 := fun i j hi hj e => by
      have h1 := List.all_eq_true.mp h i (List.mem_range.mpr hi)
      have h2 : badL p q i = false := by simpa using h1
      have h3 := List.any_eq_false.mp h2 j (List.mem_range.mpr hj)
      simp only [Bool.and_eq_true, decide_eq_true_eq, Bool.not_eq_true', decide_eq_false_iff_not, not_and, Classical.not_not] at h3
      exact h3 e
    intro i j hi hj e
    rcases Nat.lt_trichotomy i j with t | t | t
    · exact low j i hj t e
    · rw [t]
    · exact (low i j hi t e.symm).symm
  · intro h
    refine List.all_eq_true.mpr fun i hi => ?_
    have hi := List.mem_range.mp hi
    have : badL p q i = false := List.any_eq_false.mpr fun j hj => by
      have hj := List.mem_range.mp hj
      simp only [Bool.and_eq_true, decide_eq_true_eq, Bool.not_eq_true', decide_eq_false_iff_not]
      rintro ⟨a, b⟩
      exact b (h j i (by omega) hi a)
    rw [this]
    rfl
theorem fin_same (p q : List Nat) : finA p q = finL p q := by
  cases h : finL p q with
  | true => exact finA_iff.mpr (finL_iff.mp h)
  | false =>
    refine Bool.eq_false_iff.mpr fun t => ?_
    rw [finL_iff.mpr (finA_iff.mp t)] at h
    cases h
end K01
namespace K01
/-- labels of doors as two partings glue them -/
structure Glue (p q : List Nat) (L : Nat → Int) : Prop where
  one : ∀ i j, i < p.length → j < p.length → p.getD i 0 = p.getD j 0 → L i = L j
  two : ∀ i j, i < p.length → j < p.length → q.getD i 0 = q.getD j 0 → L i = L j
  low : ∀ f : Nat → Int, (∀ i j, i < p.length → j < p.length → p.getD i 0 = p.getD j 0 → f i = f j) → (∀ i j, i < p.length → j < p.length → q.getD i 0 = q.getD j 0 → f i = f j) → ∀ i j, i < p.length → j < p.length → L i = L j → f i = f j
theorem Glue.same {p q : List Nat} {L L' : Nat → Int} (h : Glue p q L) (h' : Glue p q L') (i j : Nat) (hi : i < p.length) (hj : j < p.length) : L i = L j ↔ L' i = L' j :=
  ⟨h.low L' h'.one h'.two i j hi hj, h'.low L h.one h.two i j hi hj⟩
theorem Glue.swap {p q : List Nat} {L : Nat → Int} (h : Glue p q L) (hl : q.length = p.length) : Glue q p L :=
  ⟨by rw [hl]; exact h.two, by rw [hl]; exact h.one, fun f h1 h2 => by rw [hl] at h1 h2 ⊢; exact h.low f h2 h1⟩
/-! ### the law's hanging together -/
def hungStep (p q : List Nat) (s : Nat) (k : Nat) (ls : List Int) : List Int :=
  ls.map fun l => if l = ls.getD (s + q.getD k 0) 0 then ls.getD (p.getD k 0) 0 else l
structure HI (p q : List Nat) (s t k : Nat) (ls : List Int) : Prop where
  len : ls.length = s + t
  met : ∀ i, i < k → ls.getD (p.getD i 0) 0 = ls.getD (s + q.getD i 0) 0
  low : ∀ g : Nat → Int, (∀ i, i < p.length → g (p.getD i 0) = g (s + q.getD i 0)) → ∀ x y, x < s + t → y < s + t → ls.getD x 0 = ls.getD y 0 → g x = g y
theorem getD_map {f : Int → Int} {ls : List Int} {x : Nat} (h : x < ls.length) : (ls.map f).getD x 0 = f (ls.getD x 0) := by
  simp [List.getD_eq_getElem?_getD, List.getElem?_eq_getElem h]
theorem HI.step {p q : List Nat} {s t k : Nat} {ls : List Int} (h : HI p q s t k ls) (hk : k < p.length) (hp : ∀ i, i < p.length → p.getD i 0 < s) (hq : ∀ i, i < p.length → q.getD i 0 < t) : HI p q s t (k + 1) (hungStep p q s k ls) := by
  have hl := h.len
  have e : ∀ x, x < s + t → (hungStep p q s k ls).getD x 0 = if ls.getD x 0 = ls.getD (s + q.getD k 0) 0 then ls.getD (p.getD k 0) 0 else ls.getD x 0 := fun x hx => by
    unfold hungStep
    rw [getD_map (by omega)]
  refine ⟨by unfold hungStep; rw [List.length_map]; exact hl, fun i hi => ?_, fun g hg x y hx hy hxy => ?_⟩
  · have h1 := hp i (by omega)
    have h2 := hq i (by omega)
    rw [e _ (by omega), e _ (by omega)]
    by_cases c : i = k
    · subst c
      rw [if_pos rfl]
      by_cases d : ls.getD (p.getD i 0) 0 = ls.getD (s + q.getD i 0) 0
      · rw [if_pos d]
      · rw [if_neg d]
    · rw [h.met i (by omega)]
  · rw [e x hx, e y hy] at hxy
    have gk := hg k hk
    have h1 := hp k hk
    have h2 := hq k hk
    by_cases c : ls.getD x 0 = ls.getD (s + q.getD k 0) 0 <;> by_cases d : ls.getD y 0 = ls.getD (s + q.getD k 0) 0
    · exact h.low g hg x y hx hy (c.trans d.symm)
    · rw [if_pos c, if_neg d] at hxy
      rw [h.low g hg x _ hx (by omega) c, ← gk]
      exact h.low g hg _ y (by omega) hy hxy
    · rw [if_neg c, if_pos d] at hxy
      rw [h.low g hg y _ hy (by omega) d, ← gk]
      exact h.low g hg x _ hx (by omega) hxy
    · rw [if_neg c, if_neg d] at hxy
      exact h.low g hg x y hx hy hxy
theorem HI.start {p q : List Nat} {s t : Nat} : HI p q s t 0 ((List.range (s + t)).map fun (i : Nat) => (i : Int)) := by
  have e : ∀ x, x < s + t → ((List.range (s + t)).map fun (i : Nat) => (i : Int)).getD x 0 = (x : Int) := fun x hx => by
    simp [List.getD_eq_getElem?_getD, hx]
  refine ⟨by simp, fun i hi => absurd hi (Nat.not_lt_zero i), fun g _ x y hx hy h => ?_⟩
  rw [e x hx, e y hy] at h
  rw [show x = y by omega]
theorem getD_idxOf {p : List Nat} {b : Nat} (h : b ∈ p) : p.getD (p.idxOf b) 0 = b ∧ p.idxOf b < p.length := by
  have h1 := List.idxOf_lt_length_of_mem h
  refine ⟨?_, h1⟩
  rw [List.getD_eq_getElem?_getD, List.getElem?_eq_getElem h1]
  exact List.getElem_idxOf h1
theorem getD_mem {p : List Nat} {i : Nat} (h : i < p.length) : p.getD i 0 ∈ p := by
  rw [List.getD_eq_getElem?_getD, List.getElem?_eq_getElem h]
  exact List.getElem_mem h
theorem HI.glue {p q : List Nat} {s t : Nat} {ls : List Int} (h : HI p q s t p.length ls) (hl : q.length = p.length) (hp : ∀ i, i < p.length → p.getD i 0 < s) (hq : ∀ i, i < p.length → q.getD i 0 < t) : Glue p q fun i => ls.getD (p.getD i 0) 0 := by
  refine ⟨fun i j hi hj e => by rw [e], fun i j hi hj e => ?_, fun f h1 h2 i j hi hj e => ?_⟩
  · rw [h.met i hi, h.met j hj, e]
  · let g : Nat → Int := fun x => if x < s then f (p.idxOf x) else f (q.idxOf (x - s))
    have gp : ∀ i, i < p.length → g (p.getD i 0) = f i := fun i hi => by
      have a := getD_idxOf (getD_mem hi)
      show (if p.getD i 0 < s then f (p.idxOf (p.getD i 0)) else _) = _
      rw [if_pos (hp i hi)]
      exact h1 _ _ a.2 hi a.1
    have gq : ∀ i, i < p.length → g (s + q.getD i 0) = f i := fun i hi => by
      have a := getD_idxOf (getD_mem (p := q) (i := i) (by omega))
      show (if s + q.getD i 0 < s then _ else f (q.idxOf (s + q.getD i 0 - s))) = _
      rw [if_neg (by omega), show s + q.getD i 0 - s = q.getD i 0 by omega]
      exact h2 _ _ (by omega) hi a.1
    have k1 := hp i hi
    have k2 := hp j hj
    have := h.low g (fun i hi => by rw [gp i hi, gq i hi]) _ _ (by omega) (by omega) e
    rwa [gp i hi, gp j hj] at this
/-! ### the program's joined labels -/
def metOf (q : List Nat) (k : Nat) (ls : List Int) : List Int := ((ls.zip q).filter fun x => decide (x.2 = k)).map (·.1)
def joinStep (q : List Nat) (k : Nat) (ls : List Int) : List Int :=
  ls.map fun l => if l ∈ metOf q k ls then (metOf q k ls).headD 0 else l
theorem mem_metOf {q : List Nat} {k : Nat} {ls : List Int} {l : Int} (hl : ls.length = q.length) : l ∈ metOf q k ls ↔ ∃ i, i < q.length ∧ q.getD i 0 = k ∧ ls.getD i 0 = l := by
  unfold metOf
  constructor
  · intro h
    obtain ⟨x, h1, rfl⟩ := List.mem_map.mp h
    obtain ⟨h2, h3⟩ := List.mem_filter.mp h1
    obtain ⟨i, hi, e⟩ := List.getElem_of_mem h2
    rw [List.length_zip] at hi
    rw [List.getElem_zip] at e
    subst e
    refine ⟨i, by omega, ?_, ?_⟩
    · rw [List.getD_eq_getElem?_getD, List.getElem?_eq_getElem (by omega)]
      exact of_decide_eq_true h3
    · rw [List.getD_eq_getElem?_getD, List.getElem?_eq_getElem (by omega)]
      rfl
  · rintro ⟨i, hi, h1, h2⟩
    refine List.mem_map.mpr ⟨(l, k), List.mem_filter.mpr ⟨?_, decide_eq_true rfl⟩, rfl⟩
    rw [List.getD_eq_getElem?_getD, List.getElem?_eq_getElem (by omega)] at h1 h2
    have hz : i < (ls.zip q).length := by rw [List.length_zip]; omega
    have : (ls.zip q)[i] = (l, k) := by
      rw [List.getElem_zip]
      exact Prod.ext h2 h1
    rw [← this]
    exact List.getElem_mem hz
structure JI (p q : List Nat) (k : Nat) (ls : List Int) : Prop where
  len : ls.length = p.length
  one : ∀ i j, i < p.length → j < p.length → p.getD i 0 = p.getD j 0 → ls.getD i 0 = ls.getD j 0
  two : ∀ i j, i < p.length → j < p.length → q.getD i 0 = q.getD j 0 → q.getD i 0 < k → ls.getD i 0 = ls.getD j 0
  low : ∀ f : Nat → Int, (∀ i j, i < p.length → j < p.length → p.getD i 0 = p.getD j 0 → f i = f j) → (∀ i j, i < p.length → j < p.length → q.getD i 0 = q.getD j 0 → f i = f j) → ∀ i j, i < p.length → j < p.length → ls.getD i 0 = ls.getD j 0 → f i = f j
theorem JI.start {p q : List Nat} : JI p q 0 (p.map fun (n : Nat) => (n : Int)) := by
  have e : ∀ i, i < p.length → (p.map fun (n : Nat) => (n : Int)).getD i 0 = (p.getD i 0 : Nat) := fun i hi => by
    simp [List.getD_eq_getElem?_getD, hi]
  refine ⟨List.length_map _, fun i j hi hj h => by rw [e i hi, e j hj, h], fun i j _ _ _ h => absurd h (Nat.not_lt_zero _), fun f h1 _ i j hi hj h => h1 i j hi hj ?_⟩
  rw [e i hi, e j hj] at h
  omega
theorem headD_mem {l : List Int} (h : l ≠ []) : l.headD 0 ∈ l := by
  cases l with
  | nil => exact absurd rfl h
  | cons a l => exact List.mem_cons_self
theorem JI.step {p q : List Nat} {k : Nat} {ls : List Int} (h : JI p q k ls) (hl : q.length = p.length) : JI p q (k + 1) (joinStep q k ls) := by
  have hle := h.len
  have e : ∀ x, x < p.length → (joinStep q k ls).getD x 0 = if ls.getD x 0 ∈ metOf q k ls then (metOf q k ls).headD 0 else ls.getD x 0 := fun x hx => by
    unfold joinStep
    rw [getD_map (by omega)]
  have mm : ∀ l, l ∈ metOf q k ls ↔ ∃ i, i < q.length ∧ q.getD i 0 = k ∧ ls.getD i 0 = l := fun l => mem_metOf (by omega)
  refine ⟨by unfold joinStep; rw [List.length_map]; exact hle, fun i j hi hj a => ?_, fun i j hi hj a b => ?_, fun f h1 h2 i j hi hj a => ?_⟩
  · rw [e i hi, e j hj, h.one i j hi hj a]
  · by_cases c : q.getD i 0 = k
    · rw [e i hi, e j hj, if_pos ((mm _).mpr ⟨i, by omega, c, rfl⟩), if_pos ((mm _).mpr ⟨j, by omega, a ▸ c, rfl⟩)]
    · rw [e i hi, e j hj, h.two i j hi hj a (by omega)]
  · rw [e i hi, e j hj] at a
    have key : ∀ x, x < p.length → ls.getD x 0 ∈ metOf q k ls → ∀ y, y < p.length → ls.getD y 0 ∈ metOf q k ls → f x = f y := fun x hx hmx y hy hmy => by
      obtain ⟨u, u1, u2, u3⟩ := (mm _).mp hmx
      obtain ⟨v, v1, v2, v3⟩ := (mm _).mp hmy
      rw [h.low f h1 h2 x u hx (by omega) u3.symm, h.low f h1 h2 y v hy (by omega) v3.symm]
      exact h2 u v (by omega) (by omega) (u2.trans v2.symm)
    by_cases c : ls.getD i 0 ∈ metOf q k ls <;> by_cases d : ls.getD j 0 ∈ metOf q k ls
    · exact key i hi c j hj d
    · rw [if_pos c, if_neg d] at a
      exact absurd (a ▸ headD_mem (fun z => by rw [z] at c; cases c)) d
    · rw [if_neg c, if_pos d] at a
      exact absurd (a ▸ headD_mem (fun z => by rw [z] at d; cases d)) c
    · rw [if_neg c, if_neg d] at a
      exact h.low f h1 h2 i j hi hj a
theorem JI.glue {p q : List Nat} {k : Nat} {ls : List Int} (h : JI p q k ls) (hq : ∀ i, i < p.length → q.getD i 0 < k) : Glue p q fun i => ls.getD i 0 :=
  ⟨h.one, fun i j hi hj e => h.two i j hi hj e (hq i hi), h.low⟩
end K01
namespace K01
open PySem L2 VL
theorem ixTn {p : List Nat} {j : Nat} (h : j < p.length) : ixD (.tuple (natD p)) (.int (j : Nat)) = some (.int (p.getD j 0 : Nat)) := by
  rw [ixT_nat h, List.getD_eq_getElem?_getD, List.getElem?_eq_getElem h]
  rfl
theorem ixLi {ls : List Int} {j : Nat} (h : j < ls.length) : ixD (.list (ls.map .int)) (.int (j : Nat)) = some (.int (ls.getD j 0)) := by
  show atI (ls.map PyData.int) (j : Int) = _
  rw [at_nat h, List.getD_eq_getElem?_getD, List.getElem?_eq_getElem h]
  rfl
theorem addN (a b : Nat) : addD (.int (a : Nat)) (.int (b : Nat)) = some (.int ((a + b : Nat) : Int)) := by
  show some (PyData.int ((a : Int) + (b : Int))) = _
  rw [show (a : Int) + (b : Int) = ((a + b : Nat) : Int) by omega]
theorem IsP.getD {p : List Nat} (hp : IsP p) {i : Nat} (h : i < p.length) : p.getD i 0 < topN 0 p := topN_mem p 0 _ (getD_mem h)
theorem lenT (p : List Nat) : one1 lenD [.tuple (natD p)] = some (.int (p.length : Nat)) := by
  show some (PyData.int ((natD p).length : Nat)) = _
  rw [natD_len]
theorem hung_ev {p q : List Nat} (hp : IsP p) (hq : IsP q) (hl : q.length = p.length) {m : MS} :
    ∃ ls c, Ev (fn__law_hung [.tuple (natD p), .tuple (natD q)]) m (.tuple [.list (ls.map .int), c]) m ∧ HI p q (topN 0 p) (topN 0 q) p.length ls := by
  have t1 := hp.top2
  have t2 := hq.top2
  have t3 := hq.top1
  have t4 := hp.l2
  let I : Nat → SE → MS → Prop := fun i en m' => m' = m ∧ ∃ ls c x3 x6 x7 x8, en = [some (.tuple (natD p)), some (.tuple (natD q)), some (.list (ls.map .int)), x3, some (.int (topN 0 p : Nat)), some c, x6, x7, x8] ∧ HI p q (topN 0 p) (topN 0 q) i ls
  obtain ⟨e', m', hloop, rfl, ls, c, x3, x6, x7, x8, rfl, hI⟩ := v_loop I (Gt := gNm 3) (B := (sq (sAsg (gTp 2 (gC (gNm 6) (gC (gNm 7) gN0))) (eL mkT (aC (e2 ixD (eVar 2) (e2 ixD (eVar 0) (eVar 3))) (aC (e2 ixD (eVar 2) (e2 addD (eVar 4) (e2 ixD (eVar 1) (eVar 3)))) aN)))) (sq (sIf (tAnd2 (tV asB (e2 eqD (eVar 6) (eVar 7))) (tV asB (e2 isN (eVar 5) (eC .none)))) (sSet 5 (eVar 3)) sNx) (sIf (tV asB (e2 neD (eVar 6) (eVar 7))) (sSetO 2 (lcF (iL seqL (eVar 2)) (gNm 8) tYs (eIf (tV asB (e2 eqD (eVar 8) (eVar 7))) (eVar 6) (eVar 8)) [8])) sNx)))) (rngI 0 p.length) 0
    [some (.tuple (natD p)), some (.tuple (natD q)), some (.list (((List.range (topN 0 p + topN 0 q)).map fun (i : Nat) => (i : Int)).map .int)), none, some (.int (topN 0 p : Nat)), some .none, none, none, none] m ⟨rfl, _, _, _, _, _, _, rfl, HI.start⟩ (by
      rintro k d en m' hd ⟨rfl, ls, c, x3, x6, x7, x8, rfl, h⟩
      obtain ⟨hk, rfl⟩ := rngI_inv hd
      rw [Int.zero_add]
      rw [Nat.zero_add] at h ⊢
      have hll := h.len
      have b1 := hp.getD hk
      have b2 := hq.getD (i := k) (by omega)
      have f1 : ixD (.tuple (natD p)) (.int (k : Nat)) = _ := ixTn hk
      have f2 : ixD (.tuple (natD q)) (.int (k : Nat)) = _ := ixTn (p := q) (by omega)
      have f3 : ixD (.list (ls.map .int)) (.int (p.getD k 0 : Nat)) = _ := ixLi (by omega)
      have f4 := addN (topN 0 p) (q.getD k 0)
      have f5 : ixD (.list (ls.map .int)) (.int ((topN 0 p + q.getD k 0 : Nat) : Int)) = _ := ixLi (by omega)
      generalize ea : ls.getD (p.getD k 0) 0 = a at f3
      generalize eb : ls.getD (topN 0 p + q.getD k 0) 0 = b at f5
      have hst : hungStep p q (topN 0 p) k ls = ls.map fun l => if l = b then a else l := by
        unfold hungStep
        rw [ea, eb]
      have nxt := h.step hk (fun i hi => hp.getD hi) (fun i hi => hq.getD (by omega))
      rw [hst] at nxt
      by_cases hab : a = b
      · have hid : (ls.map fun l => if l = b then a else l) = ls := by
          rw [show (fun l : Int => if l = b then a else l) = id from funext fun l => by by_cases t : l = b <;> simp [t, hab]]
          exact List.map_id ls
        rw [hid] at nxt
        cases hc : isNone c with
        | true =>
          have g1 : isN c .none = some (.bool true) := by show some (PyData.bool (isNone c)) = _; rw [hc]
          exact ⟨_, m', _, m', by and_intros, .inl (by and_intros), rfl, ls, _, _, _, _, _, rfl, nxt⟩
        | false =>
          have g1 : isN c .none = some (.bool false) := by show some (PyData.bool (isNone c)) = _; rw [hc]
          refine ⟨_, m', _, m', by and_intros, .inl (v_sq (by and_intros) (v_sq (v_sIfF (v_andT (by and_intros) (by and_intros)) (by and_intros)) (by and_intros))), rfl, ls, _, _, _, _, _, rfl, nxt⟩
      · have hm := v_lcM (f := lcStep (gNm 8) tYs (eIf (tV asB (e2 eqD (eVar 8) (eVar 7))) (eVar 6) (eVar 8)) (wipeE [some (.tuple (natD p)), some (.tuple (natD q)), some (.list (ls.map .int)), some (.int (k : Nat)), some (.int (topN 0 p : Nat)), some c, some (.int a), some (.int b), x8] [8])) (onI fun l => if l = b then a else l) (m := m') (ds := ls.map .int) (fun d hd => by
          obtain ⟨l, _, rfl⟩ := List.mem_map.mp hd
          show Ev _ _ (some (PyData.int (if l = b then a else l))) _
          by_cases t : l = b
          · rw [if_pos t]
            refine v_stepT (v_gNm _ _ _ _) (v_tYs _ _) ?_
            and_intros
          · rw [if_neg t]
            refine v_stepT (v_gNm _ _ _ _) (v_tYs _ _) ?_
            and_intros)
        rw [map_onI] at hm
        have hln : ((ls.map fun l => if l = b then a else l).map PyData.int).length ≤ lineN := by
          rw [List.length_map, List.length_map, hll]
          show _ ≤ 16000000
          omega
        refine ⟨_, m', _, m', by and_intros, .inl (v_sq (by and_intros) (v_sq (by and_intros) (by and_intros))), rfl, _, _, _, _, _, _, rfl, nxt⟩)
  refine ⟨ls, c, ?_, by rw [rngI_len, Nat.zero_add] at hI; exact hI⟩
  have g1 : e2 addD (eL (one1 maxV) (aC (eVar 0) aN)) (eC (.int 1)) = e2 addD (eL (one1 maxV) (aC (eVar 0) aN)) (eC (.int 1)) := rfl
  have mx : one1 maxV [.tuple (natD q)] = _ := maxV_natD hq.l1 fun b hb => by have := hq.small b hb; omega
  have ad : addD (.int (topN 0 p : Nat)) (.int ((topN 0 q : Nat) - 1)) = some (.int (((topN 0 p : Nat) : Int) + ((topN 0 q : Nat) - 1))) := rfl
  have ad2 : addD (.int (((topN 0 p : Nat) : Int) + ((topN 0 q : Nat) - 1))) (.int 1) = some (.int ((topN 0 p + topN 0 q : Nat) : Int)) := by
    show some (PyData.int _) = _
    congr 2
    omega
  have lr : lrngD (.int ((topN 0 p + topN 0 q : Nat) : Int)) = some (.list (((List.range (topN 0 p + topN 0 q)).map fun (i : Nat) => (i : Int)).map .int)) := by
    rw [lrng_n (by omega)]
    unfold rngI
    rw [List.map_map]
    congr 3
    funext i
    show PyData.int (0 + (i : Int)) = _
    rw [Int.zero_add]
    rfl
  have ln := lenT p
  have rn := rng1_n (n := p.length) (by omega)
  refine v_runR (v_sq (v_par 4 5 (v_aC (max1_ev hp rfl) (by and_intros))) (v_sq (by and_intros) (v_sq (v_for (by and_intros) hloop) (by and_intros))))
end K01
namespace K01
open PySem L2 VL
theorem inD_ints {ns : List Int} {l : Int} : inD (.int l) (.list (ns.map .int)) = some (.bool (decide (l ∈ ns))) := by
  unfold inD
  show (if (SeqAt.shaped (.int l) && SeqAt.shaped (.list (ns.map PyData.int))) = true then some (PyData.bool ((ns.map PyData.int).any fun z => PyData.eqv z (.int l))) else none) = _
  rw [shapedI, PySem.W.shaped_ints ns]
  rw [if_pos (by rfl)]
  congr 2
  rw [List.any_map]
  induction ns with
  | nil => rfl
  | cons n ns ih =>
    rw [List.any_cons, ih]
    show ((n == l) || _) = _
    by_cases h : n = l
    · subst h
      rw [show (n == n) = true from beq_iff_eq.mpr rfl, decide_eq_true List.mem_cons_self]
      rfl
    · rw [show (n == l) = false from beq_eq_false_iff_ne.mpr h, Bool.false_or]
      by_cases t : l ∈ ns
      · rw [decide_eq_true t, decide_eq_true (List.mem_cons_of_mem _ t)]
      · rw [decide_eq_false t, decide_eq_false (fun q => (List.mem_cons.mp q).elim (fun e => h e.symm) t)]
/-- the labels met in a block -/
theorem met_map (k : Nat) : ∀ (ls : List Int) (q : List Nat), (zipD (ls.map .int) (natD q)).filterMap (fun d => match d with | .tuple [.int l, .int t] => if t = (k : Int) then some (PyData.int l) else none | _ => none) = (metOf q k ls).map .int
  | [], q => rfl
  | l :: ls, [] => rfl
  | l :: ls, t :: q => by
    have ih := met_map k ls q
    unfold metOf at ih ⊢
    have hz : zipD ((l :: ls).map .int) (natD (t :: q)) = .tuple [.int l, .int (t : Nat)] :: zipD (ls.map .int) (natD q) := rfl
    rw [hz, List.zip_cons_cons, List.filter_cons]
    by_cases h : t = k
    · subst h
      rw [List.filterMap_cons_some (b := .int l) (by show (if ((t : Nat) : Int) = (t : Int) then some (PyData.int l) else none) = _; rw [if_pos rfl]), ih, if_pos (by simp)]
      rfl
    · rw [List.filterMap_cons_none (by show (if ((t : Nat) : Int) = (k : Int) then some (PyData.int l) else none) = _; rw [if_neg (by omega)]), ih, if_neg (by simp [h])]
theorem joined_ev {p q : List Nat} (hp : IsP p) (hq : IsP q) (hl : q.length = p.length) {m : MS} :
    ∃ ls, Ev (fn_joined_labels [.tuple (natD p), .tuple (natD q)]) m (.list (ls.map .int)) m ∧ JI p q (topN 0 q) ls := by
  have t2 := hq.top2
  have t4 := hp.l2
  let I : Nat → SE → MS → Prop := fun i en m' => m' = m ∧ ∃ ls x3 x4 x5 x6, en = [some (.tuple (natD p)), some (.tuple (natD q)), some (.list (ls.map .int)), x3, x4, x5, x6] ∧ JI p q i ls
  obtain ⟨e', m', hloop, rfl, ls, x3, x4, x5, x6, rfl, hI⟩ := v_loop I (Gt := gNm 3) (B := (sq (sSet 4 (lcF (iA (zpB true false) (aC (eVar 2) (aC (eVar 1) aN))) (gTp 2 (gC (gNm 5) (gC (gNm 6) gN0))) (tV asB (e2 eqD (eVar 6) (eVar 3))) (eVar 5) [5, 6])) (sSetO 2 (lcF (iL seqL (eVar 2)) (gNm 5) tYs (eIf (tV asB (e2 inD (eVar 5) (eVar 4))) (e2 ixD (eVar 4) (eC (.int 0))) (eVar 5)) [5])))) (rngI 0 (topN 0 q)) 0
    [some (.tuple (natD p)), some (.tuple (natD q)), some (.list ((p.map fun (n : Nat) => (n : Int)).map .int)), none, none, none, none] m ⟨rfl, _, _, _, _, _, rfl, JI.start⟩ (by
      rintro k d en m' hd ⟨rfl, ls, x3, x4, x5, x6, rfl, h⟩
      obtain ⟨hk, rfl⟩ := rngI_inv hd
      rw [Int.zero_add]
      rw [Nat.zero_add] at h ⊢
      have hll := h.len
      have nxt := h.step hl
      have hm := v_lcO (f := lcStep (gTp 2 (gC (gNm 5) (gC (gNm 6) gN0))) (tV asB (e2 eqD (eVar 6) (eVar 3))) (eVar 5) (wipeE [some (.tuple (natD p)), some (.tuple (natD q)), some (.list (ls.map .int)), some (.int (k : Nat)), x4, x5, x6] [5, 6]))
        (fun d => match d with | .tuple [.int l, .int t] => if t = (k : Int) then some (PyData.int l) else none | _ => none) (m := m') (ds := zipD (ls.map .int) (natD q)) fun d hd => by
          obtain ⟨i, hi, rfl⟩ := List.getElem_of_mem hd
          unfold zipD at hi ⊢
          rw [List.length_zipWith, List.length_map, natD_len] at hi
          rw [List.getElem_zipWith, List.getElem_map]
          have e : (natD q)[i]'(by rw [natD_len]; omega) = .int (q[i]'(by omega) : Nat) := by unfold natD; rw [List.getElem_map]
          rw [e]
          show Ev _ _ (if ((q[i]'(by omega) : Nat) : Int) = (k : Int) then some (PyData.int ls[i]) else none) _
          by_cases t : q[i]'(by omega) = k
          · rw [if_pos (by omega)]
            exact v_stepT (v_gTp2 5 6 _ _ _ _) (by and_intros) (by and_intros)
          · rw [if_neg (by omega)]
            exact v_stepF (v_gTp2 5 6 _ _ _ _) (by and_intros)
      rw [met_map] at hm
      have hz : zpB true false [.list (ls.map .int), .tuple (natD q)] = some (zipD (ls.map .int) (natD q)) := rfl
      have hml : (metOf q k ls).length ≤ ls.length := by
        unfold metOf
        rw [List.length_map]
        refine Nat.le_trans (List.length_filter_le _ _) ?_
        rw [List.length_zip]
        omega
      have hln : ((metOf q k ls).map PyData.int).length ≤ lineN := by
        rw [List.length_map]
        show _ ≤ 16000000
        omega
      have hm2 := v_lcM (f := lcStep (gNm 5) tYs (eIf (tV asB (e2 inD (eVar 5) (eVar 4))) (e2 ixD (eVar 4) (eC (.int 0))) (eVar 5)) (wipeE [some (.tuple (natD p)), some (.tuple (natD q)), some (.list (ls.map .int)), some (.int (k : Nat)), some (.list ((metOf q k ls).map .int)), x5, x6] [5])) (onI fun l => if l ∈ metOf q k ls then (metOf q k ls).headD 0 else l) (m := m') (ds := ls.map .int) (fun d hd => by
          obtain ⟨l, _, rfl⟩ := List.mem_map.mp hd
          show Ev _ _ (some (PyData.int (if l ∈ metOf q k ls then (metOf q k ls).headD 0 else l))) _
          have hin := inD_ints (ns := metOf q k ls) (l := l)
          by_cases t : l ∈ metOf q k ls
          · rw [decide_eq_true t] at hin
            have h0 : ixD (.list ((metOf q k ls).map .int)) (.int 0) = some (.int ((metOf q k ls).headD 0)) := by
              have hpos : 0 < (metOf q k ls).length := List.length_pos_of_mem t
              have := ixLi (ls := metOf q k ls) (j := 0) hpos
              rw [show (metOf q k ls).headD 0 = (metOf q k ls).getD 0 0 by cases metOf q k ls <;> rfl]
              exact this
            rw [if_pos t]
            refine v_stepT (v_gNm _ _ _ _) (v_tYs _ _) ?_
            and_intros
          · rw [decide_eq_false t] at hin
            rw [if_neg t]
            refine v_stepT (v_gNm _ _ _ _) (v_tYs _ _) ?_
            and_intros)
      rw [map_onI] at hm2
      have hln2 : ((ls.map fun l => if l ∈ metOf q k ls then (metOf q k ls).headD 0 else l).map PyData.int).length ≤ lineN := by
        rw [List.length_map, List.length_map, hll]
        show _ ≤ 16000000
        omega
      refine ⟨_, m', _, m', by and_intros, .inl (v_sq (by and_intros) (by and_intros)), rfl, _, _, _, _, _, rfl, nxt⟩)
  refine ⟨ls, ?_, by rw [rngI_len, Nat.zero_add] at hI; exact hI⟩
  have rn := rng1_n (n := topN 0 q) (by omega)
  have hl0 : one1 listD [.tuple (natD p)] = some (.list ((p.map fun (n : Nat) => (n : Int)).map .int)) := by
    rw [← natD_ints]
    rfl
  refine v_runR (v_sq (by and_intros) (v_sq (v_for (v_iA (v_aC (max1_ev hq rfl) v_aN) rn) hloop) (by and_intros)))
theorem numD_natD {κ : Type} [DecidableEq κ] {xs : List κ} : numD xs = .tuple (natD (num xs)) := rfl
/-- labels of doors with the same kernel are numbered alike -/
theorem num_glue {L L' : List Int} {n : Nat} (h1 : L.length = n) (h2 : L'.length = n) (h : ∀ i j, i < n → j < n → (L.getD i 0 = L.getD j 0 ↔ L'.getD i 0 = L'.getD j 0)) : num L = num L' :=
  num_congr (by omega) fun i j x y u v a b c d => by
    have hi := (List.getElem?_eq_some_iff.mp a).1
    have hj := (List.getElem?_eq_some_iff.mp b).1
    have := h i j (by omega) (by omega)
    rwa [List.getD_eq_getElem?_getD, List.getD_eq_getElem?_getD, List.getD_eq_getElem?_getD, List.getD_eq_getElem?_getD, a, b, c, d] at this
/-- the glued labels -/
structure Gl (p q : List Nat) (L : List Int) : Prop where
  len : L.length = p.length
  gl : Glue p q fun i => L.getD i 0
theorem Gl.num {p q : List Nat} {L L' : List Int} (h : Gl p q L) (h' : Gl p q L') : num L = num L' := num_glue h.len h'.len (h.gl.same h'.gl)
theorem Gl.swap {p q : List Nat} {L : List Int} (h : Gl p q L) (hl : q.length = p.length) : Gl q p L := ⟨by rw [hl]; exact h.len, h.gl.swap hl⟩
theorem finest_ev {p q : List Nat} (hp : IsP p) (hq : IsP q) (hl : q.length = p.length) {m : MS} : ∃ L, Gl p q L ∧ Ev (fn_finest_above [.tuple (natD p), .tuple (natD q)]) m (.tuple (natD (num L))) m := by
  obtain ⟨ls, h1, h2⟩ := joined_ev (m := ms0) hp hq hl
  have t := hp.l2
  have h3 := need_parting_ev hp (m := ms0)
  have h4 := need_fit_ev (p := p) hq hl (m := ms0)
  have h5 := renumbered_ev (xs := ls.map fun i => (Sum.inl i : Key)) (m := ms0) (by rw [List.length_map, h2.len]; omega)
  rw [← keys_ints, numD_natD, num_keys] at h5
  refine ⟨ls, ⟨h2.len, h2.glue fun i hi => hq.getD (by omega)⟩, ?_⟩
  refine v_runR ?_
  unfold S_finest_above
  and_intros
theorem hung2_ev {p q : List Nat} (hp : IsP p) (hq : IsP q) (hl : q.length = p.length) {m : MS} :
    ∃ (ls : List Int) (c : D), Ev (fn__law_hung [.tuple (natD p), .tuple (natD q)]) m (.tuple [.list (ls.map .int), c]) m ∧ topN 0 p ≤ ls.length ∧ Gl p q (p.map fun b => ls.getD b 0) := by
  obtain ⟨ls, c, h1, h2⟩ := hung_ev hp hq hl (m := m)
  refine ⟨ls, c, h1, by rw [h2.len]; omega, by rw [List.length_map], ?_⟩
  have g := h2.glue hl (fun i hi => hp.getD hi) (fun i hi => hq.getD (by omega))
  have e : ∀ i, i < p.length → (p.map fun b => ls.getD b 0).getD i 0 = ls.getD (p.getD i 0) 0 := fun i hi => by
    simp [List.getD_eq_getElem?_getD, hi]
  exact ⟨fun i j hi hj a => by rw [e i hi, e j hj]; exact g.one i j hi hj a, fun i j hi hj a => by rw [e i hi, e j hj]; exact g.two i j hi hj a, fun f a b i j hi hj c => g.low f a b i j hi hj (by rw [e i hi, e j hj] at c; exact c)⟩
end K01
namespace K01
open PySem L2 VL
def pairsK (p q : List Nat) : List (List Key) := (p.zip q).map fun x => [.inl (x.1 : Int), .inl (x.2 : Int)]
theorem zip_pairs : ∀ (p q : List Nat), zipD (natD p) (natD q) = (pairsK p q).map keyT
  | [], q => by cases q <;> rfl
  | a :: p, [] => rfl
  | a :: p, b :: q => by
    have ih := zip_pairs p q
    show PyData.tuple [.int (a : Nat), .int (b : Nat)] :: zipD (natD p) (natD q) = _
    rw [ih]
    rfl
theorem flat_natD (p : List Nat) : (natD p).all flatD = true := List.all_eq_true.mpr fun x hx => by
  obtain ⟨b, _, rfl⟩ := List.mem_map.mp hx
  rfl
theorem lz_pairs {p q : List Nat} (h : p.length ≤ 60) : lzD false false [.tuple (natD p), .tuple (natD q)] = some (.list ((pairsK p q).map keyT)) := by
  show (if ((natD p).all flatD && (natD q).all flatD && decide (min (natD p).length (natD q).length ≤ lineN)) = true then some (PyData.list (zipD (natD p) (natD q))) else none) = _
  rw [flat_natD, flat_natD, zip_pairs, natD_len, natD_len, decide_eq_true (show min p.length q.length ≤ lineN by show _ ≤ 16000000; omega)]
  rfl
theorem pairs_len {p q : List Nat} (hl : q.length = p.length) : (pairsK p q).length = p.length := by
  unfold pairsK
  rw [List.length_map, List.length_zip, hl]
  omega
theorem coarsest_ev {p q : List Nat} (hp : IsP p) (hq : IsP q) (hl : q.length = p.length) {m : MS} : Ev (fn_coarsest_below [.tuple (natD p), .tuple (natD q)]) m (.tuple (natD (num (pairsK p q)))) m := by
  have t := hp.l2
  have h3 := need_parting_ev hp (m := ms0)
  have h4 := need_fit_ev (p := p) hq hl (m := ms0)
  have h5 := renumberedT_ev (xs := pairsK p q) (m := ms0) (by rw [pairs_len hl]; omega)
  rw [numD_natD] at h5
  have h6 := lz_pairs (p := p) (q := q) (by omega)
  refine v_runR ?_
  unfold S_coarsest_below
  and_intros
theorem num_getD {κ : Type} [DecidableEq κ] {xs : List κ} {i j : Nat} (hi : i < xs.length) (hj : j < xs.length) : (num xs).getD i 0 = (num xs).getD j 0 ↔ xs[i] = xs[j] := by
  rw [← num_ker hi hj]
  have l := num_len xs
  rw [List.getD_eq_getElem?_getD, List.getD_eq_getElem?_getD, List.getElem?_eq_getElem (show i < (num xs).length by omega), List.getElem?_eq_getElem (show j < (num xs).length by omega)]
  exact ⟨fun h => by simpa using h, fun h => by simpa using h⟩
theorem getD_get {ls : List Int} {i : Nat} (h : i < ls.length) : ls.getD i 0 = ls[i] := by
  rw [List.getD_eq_getElem?_getD, List.getElem?_eq_getElem h]
  rfl
theorem getD_getN {ls : List Nat} {i : Nat} (h : i < ls.length) : ls.getD i 0 = ls[i] := by
  rw [List.getD_eq_getElem?_getD, List.getElem?_eq_getElem h]
  rfl
theorem finer_above {p q : List Nat} {L : List Int} (h : Gl p q L) : Finer p (num L) := fun i j hi hj e => by
  have l := h.len
  rw [num_getD (by omega) (by omega), ← getD_get, ← getD_get]
  exact h.gl.one i j hi hj e
theorem pairs_get {p q : List Nat} (hl : q.length = p.length) {i : Nat} (hi : i < p.length) : (pairsK p q)[i]'(by rw [pairs_len hl]; exact hi) = [.inl (p.getD i 0 : Int), .inl (q.getD i 0 : Int)] := by
  unfold pairsK
  rw [List.getElem_map, List.getElem_zip, getD_getN hi, getD_getN (show i < q.length by omega)]
theorem finer_below {p q : List Nat} (hl : q.length = p.length) : Finer (num (pairsK p q)) p ∧ Finer (num (pairsK p q)) q := by
  have l := pairs_len hl
  have key : ∀ i j, i < p.length → j < p.length → (num (pairsK p q)).getD i 0 = (num (pairsK p q)).getD j 0 → p.getD i 0 = p.getD j 0 ∧ q.getD i 0 = q.getD j 0 := fun i j hi hj e => by
    rw [num_getD (by omega) (by omega), pairs_get hl hi, pairs_get hl hj] at e
    have e1 := Sum.inl.inj (List.cons.inj e).1
    have e2 := Sum.inl.inj (List.cons.inj (List.cons.inj e).2).1
    omega
  refine ⟨fun i j hi hj e => ?_, fun i j hi hj e => ?_⟩
  · rw [num_len, l] at hi hj
    exact (key i j hi hj e).1
  · rw [num_len, l] at hi hj
    exact (key i j hi hj e).2
theorem fin_ev {p q : List Nat} (hp : IsP p) (hq : IsP q) (hl : q.length = p.length) (h : Finer p q) {m : MS} : Ev (fn_is_finer [.tuple (natD p), .tuple (natD q)]) m (.bool true) m := by
  have := is_finer_ev hp hq hl (m := m)
  rwa [finA_iff.mpr h] at this
end K01
namespace K01
open PySem L2 VL
/-! ### doors in a drawn order -/
theorem eraseIdx_map' {α β : Type} (f : α → β) : ∀ (l : List α) (i : Nat), (l.map f).eraseIdx i = (l.eraseIdx i).map f
  | [], _ => rfl
  | _ :: _, 0 => rfl
  | a :: l, i + 1 => by
    show f a :: (l.map f).eraseIdx i = f a :: (l.eraseIdx i).map f
    rw [eraseIdx_map' f l i]
theorem perm_erase {α : Type} : ∀ {l : List α} {i : Nat} (h : i < l.length), (l[i] :: l.eraseIdx i).Perm l
  | a :: l, 0, _ => List.Perm.refl _
  | a :: l, i + 1, h => by
    show (l[i]'(by simpa using h) :: a :: l.eraseIdx i).Perm (a :: l)
    exact (List.Perm.swap a _ _).trans (List.Perm.cons a (perm_erase (by simpa using h)))
theorem pop_nat {left : List Nat} {v : Int} (h0 : 0 ≤ v) (h1 : v < left.length) (h2 : left.length < 1000) : popD (natD left) (.int v) = some (.int (left.getD v.toNat 0 : Nat), natD (left.eraseIdx v.toNat)) := by
  have hj : v.toNat < left.length := by omega
  unfold popD
  have e : seqIndex? v (natD left).length = some v.toNat := by
    rw [natD_len]
    unfold seqIndex?
    simp
    omega
  have e2 : (natD left)[v.toNat]? = some (.int (left.getD v.toNat 0 : Nat)) := by
    unfold natD
    rw [List.getElem?_map, List.getElem?_eq_getElem hj, getD_getN hj]
    rfl
  have e3 : (natD left).eraseIdx v.toNat = natD (left.eraseIdx v.toNat) := by
    unfold natD
    rw [eraseIdx_map']
  dsimp only
  rw [if_pos (by omega), e]
  dsimp only
  rw [e2]
  dsimp only
  rw [e3]
theorem order_loop {n : D} : ∀ (ds : List D) (left : List Nat) (m : MS) (b : Nat) (x3 : Option D), left.length = ds.length → ds.length ≤ 60 → Mk m b → b + ds.length < 100000 →
    ∃ (rs : List Nat) (m' : MS), Ev (lcPL (gNm 3) 2 (eCallM fn__law_draw (aC (eL (one1 lenD) (aC (eVar 2) aN)) aN)) [3] [none, some n, some (.list (natD left)), x3] ds) m (natD rs) m' ∧ rs.Perm left ∧ Mk m' (b + ds.length)
  | [], left, m, b, x3, hl, _, hm, _ => by
    have : left = [] := List.eq_nil_of_length_eq_zero hl
    subst this
    exact ⟨[], m, rfl, List.Perm.refl _, hm⟩
  | d :: ds, left, m, b, x3, hl, h60, hm, hb => by
    rw [List.length_cons] at hl h60 hb
    obtain ⟨v, m1, e1, v0, v1, k1⟩ := draw_ev (L := (left.length : Nat)) hm (by omega) (by omega) (by omega)
    have hj : v.toNat < left.length := by omega
    have hel : (left.eraseIdx v.toNat).length = ds.length := by
      rw [List.length_eraseIdx_of_lt hj]
      omega
    obtain ⟨rs, m2, e2, hp, k2⟩ := order_loop (n := n) ds (left.eraseIdx v.toNat) m1 (b + 1) (x3) hel (by omega) k1 (by omega)
    have hln : one1 lenD [.list (natD left)] = some (.int (left.length : Nat)) := by
      show some (PyData.int ((natD left).length : Nat)) = _
      rw [natD_len]
    refine ⟨left.getD v.toNat 0 :: rs, m2, ?_, ?_, ?_⟩
    · refine ev_bd (v_gNm 3 _ _ m) (ev_bd (m1 := m1) (a := .int v) (by and_intros) (ev_bd (ev_lft (a := natD left) m1 rfl) (ev_bd (a := (.int (left.getD v.toNat 0 : Nat), natD (left.eraseIdx v.toNat))) (ev_lft m1 (pop_nat v0 v1 (by omega))) (ev_bd e2 rfl))))
    · refine (List.Perm.cons _ hp).trans ?_
      rw [getD_getN hj]
      exact perm_erase hj
    · rw [List.length_cons, show b + (ds.length + 1) = b + 1 + ds.length by omega]
      exact k2
theorem rngI_natD (n : Nat) : rngI 0 n = natD (List.range n) := by
  unfold rngI natD
  refine List.map_congr_left fun i _ => ?_
  rw [Int.zero_add]
theorem order_ev {n : Nat} {m : MS} {b : Nat} (hn : n ≤ 60) (hm : Mk m b) (hb : b < 50000) : ∃ (rs : List Nat) (m' : MS), Ev (fn__law_order [.int (n : Nat)]) m (.list (natD rs)) m' ∧ rs.Perm (List.range n) ∧ Mk m' (b + n) := by
  obtain ⟨rs, m', e, hp, k⟩ := order_loop (n := .int (n : Nat)) (rngI 0 n) (List.range n) m b none (by rw [rngI_len, List.length_range]) (by rw [rngI_len]; exact hn) hm (by rw [rngI_len]; omega)
  rw [rngI_len] at k
  have hlr := lrng_n (n := n) (by omega)
  rw [rngI_natD] at hlr
  have rn := rng1_n (n := n) (by omega)
  refine ⟨rs, m', ?_, hp, k⟩
  refine v_runR (v_sq (by and_intros) (v_ret ?_))
  refine ev_nox (ev_bd (v_iA (v_aC (v_var 1 rfl) v_aN) rn) (ev_bd e ?_))
  have : (natD rs).length ≤ lineN := by
    rw [natD_len, hp.length_eq, List.length_range]
    show n ≤ 16000000
    omega
  show (if (natD rs).length ≤ lineN then pure (PyData.list (natD rs)) else M.no : M D) m' = _
  rw [if_pos this]
  rfl
/-! ### a tuple of unlike doors -/
theorem inT_nat {p : List Nat} {b : Nat} (hs : ∀ x ∈ p, x < 1000000) : inD (.int (b : Nat)) (.tuple (natD p)) = some (.bool (decide (b ∈ p))) := by
  unfold inD
  show (if (SeqAt.shaped (.int (b : Nat)) && SeqAt.shaped (.tuple (natD p))) = true then some (PyData.bool ((natD p).any fun z => PyData.eqv z (.int (b : Nat)))) else none) = _
  rw [shapedI, plD_shaped (d := .tuple (natD p)) (n := 1) (by decide) (plD_natD (n := 0) hs), if_pos (by rfl)]
  congr 2
  unfold natD
  rw [List.any_map]
  clear hs
  induction p with
  | nil => rfl
  | cons n ns ih =>
    rw [List.any_cons, ih]
    show (((n : Nat) : Int) == (b : Int) || _) = _
    by_cases h : n = b
    · subst h
      rw [show (((n : Nat) : Int) == (n : Int)) = true from beq_iff_eq.mpr rfl, decide_eq_true List.mem_cons_self]
      rfl
    · rw [show (((n : Nat) : Int) == (b : Int)) = false from beq_eq_false_iff_ne.mpr (by omega), Bool.false_or]
      by_cases t : b ∈ ns
      · rw [decide_eq_true t, decide_eq_true (List.mem_cons_of_mem _ t)]
      · rw [decide_eq_false t, decide_eq_false (fun q => (List.mem_cons.mp q).elim (fun e => h e.symm) t)]
theorem need_doors_ev {ds : List Nat} {n : Nat} (h1 : 1 ≤ ds.length) (h2 : ds.length ≤ 60) (hn : n ≤ 60) (hb : ∀ x ∈ ds, x < n) (hd : ds.Nodup) {m : MS} : Ev (fn_need_doors [.tuple (natD ds), .int (n : Nat)]) m (.tuple (natD ds)) m := by
  have hln : one1 lenD [.tuple (natD ds)] = some (.int (ds.length : Nat)) := lenT ds
  let I : Nat → SE → MS → Prop := fun i en m' => m' = m ∧ ∃ (x1 x2 : Option D), en = [some (.tuple (natD ds)), some (.int (n : Nat)), x1, x2]
  obtain ⟨e', m', hloop, rfl, x1, x2, rfl⟩ := v_loop I (Gt := gTp 2 (gC (gNm 2) (gC (gNm 3) gN0))) (B := sIf (tOr2 (tNot1 (tV asB (eCall fn_is_within (aC (eVar 3) (aC (eC (.int 0)) (aC (e2 subD (eVar 1) (eC (.int 1))) aN)))))) (tV asB (e2 inD (eVar 3) (slD (eVar 0) pN (pS (eVar 2)))))) sNo sNx) (enumD (natD ds)) 0
    [some (.tuple (natD ds)), some (.int (n : Nat)), none, none] m ⟨rfl, none, none, rfl⟩ (by
      rintro j d en m' hdd ⟨rfl, x1, x2, rfl⟩
      obtain ⟨a, ha, rfl⟩ := enumD_inv hdd
      obtain ⟨c, hc, rfl⟩ := natD_get ha
      obtain ⟨hj, hje⟩ := List.getElem?_eq_some_iff.mp hc
      have hcm : c < n := hb c (List.mem_of_getElem? hc)
      have hw := is_within_ev (i := (c : Nat)) (lo := 0) (hi := (n : Int) - 1) (m := ms0) (by omega) (by omega)
      have hsub : subD (.int (n : Nat)) (.int 1) = some (.int ((n : Int) - 1)) := rfl
      have hsl : Ev (slD (eVar 0) pN (pS (eVar 2)) [some (.tuple (natD ds)), some (.int (n : Nat)), some (.int (j : Nat)), some (.int (c : Nat))]) m' (.tuple (natD (ds.take j))) m' := by
        have e : cutD (natD ds) none (some (j : Int)) = natD (ds.take j) := by
          unfold cutD
          rw [HT.sIx_none, HT.sIx_nat, natD_len, List.drop_zero, Nat.sub_zero]
          unfold natD
          rw [← List.map_take, Nat.min_eq_left (by omega)]
        refine ev_bd (v_var 0 rfl) (ev_bd (a := none) rfl (ev_bd (a := some (j : Int)) ?_ (ev_lft _ (by rw [← e]))))
        exact ev_bd (v_var 2 rfl) (ev_bd (ev_lft (a := (j : Int)) _ rfl) rfl)
      have hin := inT_nat (p := ds.take j) (b := c) fun x hx => by have := hb x (List.mem_of_mem_take hx); omega
      have hni : c ∉ ds.take j := fun t => by
        obtain ⟨i, hi, e⟩ := List.getElem_of_mem t
        rw [List.length_take] at hi
        rw [List.getElem_take] at e
        have := (List.getElem?_inj (i := i) (j := j) (by omega) hd).mp (by rw [List.getElem?_eq_getElem (by omega), e, hc])
        omega
      rw [decide_eq_false hni] at hin
      exact ⟨_, m', _, m', v_gTp2 2 3 _ _ _ m', .inl (v_sIfF (v_orF (v_not (o := true) (by and_intros)) (v_tV (v_e2 (by and_intros) hsl hin) rfl)) v_nx), rfl, _, _, rfl⟩)
  refine v_runR (v_sq (v_sIfF (v_orF (v_not (o := true) (v_tV (v_e1 (v_var 0 rfl) rfl) rfl)) (by and_intros)) v_nx) (v_sq (v_for (v_iA (v_aC (v_var 0 rfl) v_aN) rfl) hloop) (v_ret (v_var 0 rfl))))
end K01
namespace K01
open PySem L2 VL
/-- a parting read at doors -/
theorem pickT_ev {p ds : List Nat} (hb : ∀ x ∈ ds, x < p.length) {f : D → M (Option D)} {m : MS} (hf : ∀ b : Nat, b < p.length → Ev (f (.int (b : Nat))) m (some (.int (p.getD b 0 : Nat))) m) : Ev (lcL f (natD ds)) m (natD (ds.map fun b => p.getD b 0)) m := by
  have h := v_lcM (f := f) (onI fun i => (p.getD i.toNat 0 : Nat)) (m := m) (ds := natD ds) fun d hd => by
    obtain ⟨b, hbm, rfl⟩ := List.mem_map.mp hd
    show Ev _ _ (some (PyData.int (p.getD ((b : Nat) : Int).toNat 0 : Nat))) _
    rw [Int.toNat_natCast]
    exact hf b (hb b hbm)
  rw [natD_ints, map_onI] at h
  rw [natD_ints, natD_ints]
  have e : ((ds.map fun b => p.getD b 0).map fun (n : Nat) => (n : Int)) = (ds.map fun (n : Nat) => (n : Int)).map fun i : Int => ((p.getD i.toNat 0 : Nat) : Int) := by
    rw [List.map_map, List.map_map]
    refine List.map_congr_left fun b _ => ?_
    show ((p.getD b 0 : Nat) : Int) = ((p.getD ((b : Nat) : Int).toNat 0 : Nat) : Int)
    rw [Int.toNat_natCast]
  rw [e]
  exact h
theorem renum_nat {ns : List Nat} (h : ns.length ≤ 900) {m : MS} : Ev (fn_renumbered [.list (natD ns)]) m (.tuple (natD (num ns))) m := by
  have h5 := renumbered_ev (xs := (ns.map fun (n : Nat) => (n : Int)).map fun i => (Sum.inl i : Key)) (m := m) (by rw [List.length_map, List.length_map]; exact h)
  rw [← keys_ints, numD_natD, num_keys, ← natD_ints] at h5
  have : num (ns.map fun (n : Nat) => (n : Int)) = num ns := num_congr (by rw [List.length_map]) fun i j x y u v h1 h2 h3 h4 => by
    rw [List.getElem?_map, h3] at h1
    rw [List.getElem?_map, h4] at h2
    cases h1
    cases h2
    exact ⟨fun e => by have e : (u : Int) = (v : Int) := e; omega, fun e => by rw [e]⟩
  rwa [this] at h5
theorem lawnum_nat {ns : List Nat} (h : ns.length ≤ 900) {m : MS} : Ev (fn__law_numbered [.list (natD ns)]) m (.tuple (natD (num ns))) m := by
  have h5 := law_numbered_ev (xs := (ns.map fun (n : Nat) => (n : Int)).map fun i => (Sum.inl i : Key)) (m := m) (by rw [List.length_map, List.length_map]; exact h)
  rw [← keys_ints, numD_natD, num_keys, ← natD_ints] at h5
  have : num (ns.map fun (n : Nat) => (n : Int)) = num ns := num_congr (by rw [List.length_map]) fun i j x y u v h1 h2 h3 h4 => by
    rw [List.getElem?_map, h3] at h1
    rw [List.getElem?_map, h4] at h2
    cases h1
    cases h2
    exact ⟨fun e => by have e : (u : Int) = (v : Int) := e; omega, fun e => by rw [e]⟩
  rwa [this] at h5
theorem some_ev {p ds : List Nat} (hp : IsP p) (h1 : 1 ≤ ds.length) (h2 : ds.length ≤ 60) (hb : ∀ x ∈ ds, x < p.length) (hd : ds.Nodup) {m : MS} : Ev (fn_parting_of_some [.tuple (natD p), .tuple (natD ds)]) m (.tuple (natD (num (ds.map fun b => p.getD b 0)))) m := by
  have h3 := need_parting_ev hp (m := ms0)
  have h4 := need_doors_ev h1 h2 hp.l2 hb hd (m := ms0)
  have hln := lenT p
  have h5 := renum_nat (ns := ds.map fun b => p.getD b 0) (m := ms0) (by rw [List.length_map]; omega)
  have h6 := pickT_ev (p := p) (ds := ds) hb (f := lcStep (gNm 2) tYs (e2 ixD (eVar 0) (eVar 2)) (wipeE [some (.tuple (natD p)), some (.tuple (natD ds)), none] [2])) (m := m) fun b h => by
    have := ixTn h
    refine v_stepT (v_gNm _ _ _ _) (v_tYs _ _) ?_
    and_intros
  have h7 : (natD (ds.map fun b => p.getD b 0)).length ≤ lineN := by
    rw [natD_len, List.length_map]
    show _ ≤ 16000000
    omega
  refine v_runR (v_sq (by and_intros) (v_sq (by and_intros) (v_ret (v_call (v_aC (v_lc (by and_intros) h6 h7) v_aN) h5))))
/-- beside: the second one shifted -/
theorem shift_ev {q : List Nat} {s : Nat} {f : D → M (Option D)} {m : MS} (hf : ∀ b : Nat, Ev (f (.int (b : Nat))) m (some (.int ((s + b : Nat) : Int))) m) : Ev (lcL f (natD q)) m (natD (q.map (s + ·))) m := by
  have h := v_lcM (f := f) (onI fun i => s + i) (m := m) (ds := natD q) fun d hd => by
    obtain ⟨b, hbm, rfl⟩ := List.mem_map.mp hd
    have := hf b
    show Ev _ _ (some (PyData.int ((s : Int) + (b : Int)))) _
    rwa [show (s : Int) + (b : Int) = ((s + b : Nat) : Int) by omega]
  rw [natD_ints, map_onI] at h
  rw [natD_ints, natD_ints]
  have e : ((q.map (s + ·)).map fun (n : Nat) => (n : Int)) = (q.map fun (n : Nat) => (n : Int)).map fun i : Int => (s : Int) + i := by
    rw [List.map_map, List.map_map]
    refine List.map_congr_left fun b _ => ?_
    show ((s + b : Nat) : Int) = (s : Int) + (b : Int)
    omega
  rw [e]
  exact h
theorem catN (p q : List Nat) (h : p.length + q.length ≤ 1000) : addD (.tuple (natD p)) (.tuple (natD q)) = some (.tuple (natD (p ++ q))) := by
  show (if (natD p).length + (natD q).length ≤ lineN then some (PyData.tuple (natD p ++ natD q)) else none) = _
  rw [natD_len, natD_len, if_pos (show p.length + q.length ≤ lineN by show _ ≤ 16000000; omega)]
  unfold natD
  rw [List.map_append]
theorem beside_ev {p q : List Nat} (hp : IsP p) (hq : IsP q) (h : p.length + q.length ≤ 60) {m : MS} : Ev (fn_beside [.tuple (natD p), .tuple (natD q)]) m (.tuple (natD (p ++ q.map (topN 0 p + ·)))) m := by
  have h1 := size_of_ev hp (m := ms0)
  have h3 := need_parting_ev hq (m := ms0)
  have l1 := lenT p
  have l2 := lenT q
  have h6 := shift_ev (q := q) (s := topN 0 p) (f := lcStep (gNm 3) tYs (e2 addD (eVar 2) (eVar 3)) (wipeE [some (.tuple (natD p)), some (.tuple (natD q)), some (.int (topN 0 p : Nat)), none] [3])) (m := m) fun b => by
    have := addN (topN 0 p) b
    refine v_stepT (v_gNm _ _ _ _) (v_tYs _ _) ?_
    and_intros
  have h7 : (natD (q.map (topN 0 p + ·))).length ≤ lineN := by
    rw [natD_len, List.length_map]
    show _ ≤ 16000000
    omega
  have h8 := catN p (q.map (topN 0 p + ·)) (by rw [List.length_map]; omega)
  have h9 := addN p.length q.length
  refine v_runR (v_sq (by and_intros) (v_sq (by and_intros) (v_sq (by and_intros) (v_ret (v_e2 (by and_intros) (v_eL (d := .tuple (natD (q.map (topN 0 p + ·)))) (v_aC (v_lc (by and_intros) h6 h7) v_aN) rfl) h8)))))
end K01
namespace K01
open PySem L2 VL
/-! ### all partings -/
def longer (r : List Nat) : List (List Nat) := (List.range (topN 0 r + 1)).map fun b => r ++ [b]
def rowsN : Nat → List (List Nat)
  | 0 => [[0]]
  | k + 1 => (rowsN k).flatMap longer
def rowD (r : List Nat) : D := .tuple (natD r)
theorem rows_len8 : ∀ k < 8, (rowsN k).length ≤ 5000 := by decide +kernel
theorem topN_snoc (r : List Nat) (k b : Nat) : topN k (r ++ [b]) = max (topN k r) (b + 1) := by
  unfold topN
  rw [List.foldl_append]
  rfl
structure RowOk (k : Nat) (r : List Nat) : Prop where
  len : r.length = k + 1
  top : topN 0 r ≤ k + 1
theorem rows_ok : ∀ k, ∀ r ∈ rowsN k, RowOk k r
  | 0, r, h => by
    have : r = [0] := List.mem_singleton.mp h
    subst this
    exact ⟨rfl, by decide⟩
  | k + 1, r, h => by
    obtain ⟨s, h1, h2⟩ := List.mem_flatMap.mp h
    obtain ⟨b, h3, rfl⟩ := List.mem_map.mp h2
    have h3 := List.mem_range.mp h3
    have ih := rows_ok k s h1
    have i1 := ih.len
    have i2 := ih.top
    refine ⟨by rw [List.length_append, List.length_singleton, i1], ?_⟩
    rw [topN_snoc]
    omega
theorem RowOk.small {k : Nat} {r : List Nat} (h : RowOk k r) (hk : k < 8) : ∀ b ∈ r, b < 1000000 := fun b hb => by
  have h1 := topN_mem r 0 b hb
  have h2 := h.top
  omega
theorem snocD (r : List Nat) (b : Nat) (h : r.length ≤ 100) : addD (rowD r) (.tuple [.int (b : Nat)]) = some (rowD (r ++ [b])) := by
  have := catN r [b] (by rw [List.length_singleton]; omega)
  exact this
theorem max2_ev {k : Nat} {r : List Nat} (h : RowOk k r) (hk : k < 8) {i : Nat} {en : SE} {m : MS} (he : en[i]? = some (some (rowD r))) : Ev (iA rng1 (aC (e2 addD (eL (one1 maxV) (aC (eVar i) aN)) (eC (.int 2))) aN) en) m (rngI 0 (topN 0 r + 1)) m := by
  have h1 := h.len
  have h2 := h.top
  refine v_iA (v_aC (v_e2 (v_eL (v_aC (v_var i he) v_aN) (maxV_natD (p := r) (by omega) (h.small hk))) (v_c _) (d := .int ((topN 0 r + 1 : Nat) : Int)) ?_) v_aN) (rng1_n (by omega))
  show some (PyData.int (((topN 0 r : Nat) : Int) - 1 + 2)) = _
  congr 2
  omega
/-- the longer rows of a row, by the turns of a comprehension -/
theorem longer_ev {k : Nat} {r : List Nat} (h : RowOk k r) (hk : k < 8) {f : D → M (Option D)} {m : MS} (hf : ∀ b : Nat, Ev (f (.int (b : Nat))) m (some (rowD (r ++ [b]))) m) : Ev (lcL f (rngI 0 (topN 0 r + 1))) m ((longer r).map rowD) m := by
  have h := v_lcM (f := f) (fun d => match d with | .int i => rowD (r ++ [i.toNat]) | d => d) (m := m) (ds := rngI 0 (topN 0 r + 1)) fun d hd => by
    obtain ⟨i, _, rfl⟩ := mem_rngI hd
    rw [Int.zero_add]
    show Ev _ _ (some (rowD (r ++ [((i : Nat) : Int).toNat]))) _
    rw [Int.toNat_natCast]
    exact hf i
  have e : (rngI 0 (topN 0 r + 1)).map (fun d => match d with | .int i => rowD (r ++ [i.toNat]) | d => d) = (longer r).map rowD := by
    unfold rngI longer
    rw [List.map_map, List.map_map]
    refine List.map_congr_left fun i _ => ?_
    show rowD (r ++ [((0 : Int) + (i : Nat)).toNat]) = _
    rw [Int.zero_add, Int.toNat_natCast]
    rfl
  rwa [e] at h
theorem v_lcLL {f : D → M (List D)} {m : MS} (g : D → List D) : ∀ {ds : List D}, (∀ d ∈ ds, Ev (f d) m (g d) m) → Ev (lcLL f ds) m (ds.flatMap g) m
  | [], _ => rfl
  | d :: ds, h => by
    refine ev_bd (h d List.mem_cons_self) (ev_bd (v_lcLL g (ds := ds) fun x hx => h x (List.mem_cons_of_mem _ hx)) ?_)
    rfl
theorem rows_flat (rows : List (List Nat)) : (rows.map rowD).flatMap (fun d => match d with | .tuple xs => (match ints? xs with | some ns => (longer (ns.map Int.toNat)).map rowD | none => []) | _ => []) = (rows.flatMap longer).map rowD := by
  rw [List.flatMap_map, List.map_flatMap]
  have flatMap_congr' : ∀ (l : List (List Nat)) (f g : List Nat → List D), (∀ r, f r = g r) → l.flatMap f = l.flatMap g := fun l f g h => by rw [show f = g from funext h]
  refine flatMap_congr' rows _ _ fun r => ?_
  show (match ints? (natD r) with | some ns => (longer (ns.map Int.toNat)).map rowD | none => []) = _
  rw [natD_ints, ints?_map]
  show (longer ((r.map fun (n : Nat) => (n : Int)).map Int.toNat)).map rowD = _
  rw [List.map_map, show (Int.toNat ∘ fun (n : Nat) => (n : Int)) = id from funext fun n => Int.toNat_natCast n, List.map_id]
theorem all_of_ev {k : Nat} (hk : k < 8) {m : MS} : Ev (fn_all_of [.int ((k + 1 : Nat) : Int)]) m (.list ((rowsN k).map rowD)) m := by
  let I : Nat → SE → MS → Prop := fun i en m' => m' = m ∧ ∃ (x2 x3 x4 : Option D), en = [some (.int ((k + 1 : Nat) : Int)), some (.list ((rowsN i).map rowD)), x2, x3, x4]
  obtain ⟨e', m', hloop, rfl, x2, x3, x4, rfl⟩ := v_loop I (Gt := gNm 2) (B := (sSetO 1 (lc2F (iL seqL (eVar 1)) (gNm 3) tYs (iA rng1 (aC (e2 addD (eL (one1 maxV) (aC (eVar 3) aN)) (eC (.int 2))) aN)) (gNm 4) tYs (e2 addD (eVar 3) (eL mkT (aC (eVar 4) aN))) [3, 4] [4]))) (rngI 1 k) 0
    [some (.int ((k + 1 : Nat) : Int)), some (.list ((rowsN 0).map rowD)), none, none, none] m ⟨rfl, _, _, _, rfl⟩ (by
      rintro i d en m' hd ⟨rfl, x2, x3, x4, rfl⟩
      obtain ⟨hi, rfl⟩ := rngI_inv hd
      rw [Nat.zero_add]
      have key := v_lcLL (f := lc2Step (gNm 3) tYs (iA rng1 (aC (e2 addD (eL (one1 maxV) (aC (eVar 3) aN)) (eC (.int 2))) aN)) (gNm 4) tYs (e2 addD (eVar 3) (eL mkT (aC (eVar 4) aN))) [4] (wipeE [some (.int ((k + 1 : Nat) : Int)), some (.list ((rowsN i).map rowD)), some (.int (1 + (i : Nat))), x3, x4] [3, 4])) (m := m')
        (fun d => match d with | .tuple xs => (match ints? xs with | some ns => (longer (ns.map Int.toNat)).map rowD | none => []) | _ => []) (ds := (rowsN i).map rowD) fun d hd => by
          obtain ⟨r, hr, rfl⟩ := List.mem_map.mp hd
          have ok := rows_ok i r hr
          have h1 := max2_ev ok (by omega) (i := 3) (en := ((wipeE [some (.int ((k + 1 : Nat) : Int)), some (.list ((rowsN i).map rowD)), some (.int (1 + (i : Nat))), x3, x4] [3, 4]).set 3 (some (rowD r)))) (m := m') rfl
          have h2 := longer_ev ok (by omega) (f := lcStep (gNm 4) tYs (e2 addD (eVar 3) (eL mkT (aC (eVar 4) aN))) (wipeE ((wipeE [some (.int ((k + 1 : Nat) : Int)), some (.list ((rowsN i).map rowD)), some (.int (1 + (i : Nat))), x3, x4] [3, 4]).set 3 (some (rowD r))) [4])) (m := m') fun b => by
            have := snocD r b (by have := ok.len; omega)
            refine v_stepT (v_gNm _ _ _ _) (v_tYs _ _) (v_e2 (v_var 3 rfl) (v_eL (v_aC (v_var 4 rfl) v_aN) rfl) this)
          have e : (match rowD r with | .tuple xs => (match ints? xs with | some ns => (longer (ns.map Int.toNat)).map rowD | none => []) | _ => []) = (longer r).map rowD := by
            show (match ints? (natD r) with | some ns => (longer (ns.map Int.toNat)).map rowD | none => []) = _
            rw [natD_ints, ints?_map]
            show (longer ((r.map fun (n : Nat) => (n : Int)).map Int.toNat)).map rowD = _
            rw [List.map_map, show (Int.toNat ∘ fun (n : Nat) => (n : Int)) = id from funext fun n => Int.toNat_natCast n, List.map_id]
          rw [e]
          exact ev_bd (v_gNm 3 _ _ m') (ev_bd (v_tYs _ m') (ev_bd h1 h2))
      rw [rows_flat] at key
      have hle := rows_len8 (i + 1) (by omega)
      refine ⟨_, m', _, m', v_gNm 2 _ _ m', .inl (v_setO 1 (d := .list ((rowsN (i + 1)).map rowD)) (ev_nox (ev_bd (v_iL (v_var 1 rfl) rfl) (ev_bd key ?_))) (Nat.le_of_ble_eq_true rfl)), rfl, _, _, _, rfl⟩
      show (if (((rowsN i).flatMap longer).map rowD).length ≤ lineN then pure (PyData.list (((rowsN i).flatMap longer).map rowD)) else M.no : M D) m' = _
      rw [if_pos]
      · rfl
      · rw [List.length_map]
        have hle : ((rowsN i).flatMap longer).length ≤ 5000 := hle
        show _ ≤ 16000000
        omega)
  have hrn : rng2 [.int 1, .int ((k + 1 : Nat) : Int)] = some (rngI 1 k) := by
    unfold rng2
    dsimp only
    rw [if_pos (by omega)]
    congr 2
    omega
  rw [rngI_len, Nat.zero_add] at hloop
  refine v_runR (v_sq (v_set 1 (v_eL (v_aC (v_eL (v_aC (v_c _) v_aN) rfl) v_aN) rfl)) (v_sq (v_for (v_iA (v_aC (v_c _) (v_aC (v_var 0 rfl) v_aN)) hrn) hloop) (v_ret (v_var 1 rfl))))
theorem law_partings_ev {k : Nat} (hk : k < 8) {m : MS} : Ev (fn__law_partings [.int ((k + 1 : Nat) : Int)]) m (.list ((rowsN k).map rowD)) m := by
  let I : Nat → SE → MS → Prop := fun i en m' => m' = m ∧ ∃ (x2 x3 x4 x5 : Option D), en = [some (.int ((k + 1 : Nat) : Int)), some (.list ((rowsN i).map rowD)), x2, x3, x4, x5]
  obtain ⟨e', m', hloop, rfl, x2, x3, x4, x5, rfl⟩ := v_loop I (Gt := gNm 2) (B := (sq (sSetO 3 (eL mkL aN)) (sq (sFor (iL seqL (eVar 1)) (gNm 4) (sMeth 3 extD (lcF (iA rng1 (aC (e2 addD (eL (one1 maxV) (aC (eVar 4) aN)) (eC (.int 2))) aN)) (gNm 5) tYs (e2 addD (eVar 4) (eL mkT (aC (eVar 5) aN))) [5]))) (sSet 1 (eVar 3))))) (rngI 0 k) 0
    [some (.int ((k + 1 : Nat) : Int)), some (.list ((rowsN 0).map rowD)), none, none, none, none] m ⟨rfl, _, _, _, _, rfl⟩ (by
      rintro i d en m' hd ⟨rfl, x2, x3, x4, x5, rfl⟩
      obtain ⟨hi, rfl⟩ := rngI_inv hd
      rw [Nat.zero_add]
      let J : Nat → SE → MS → Prop := fun j en m'' => m'' = m' ∧ ∃ (x4 x5 : Option D), en = [some (.int ((k + 1 : Nat) : Int)), some (.list ((rowsN i).map rowD)), some (.int (0 + (i : Nat))), some (.list ((((rowsN i).take j).flatMap longer).map rowD)), x4, x5]
      obtain ⟨e2', m2', hloop2, rfl, y4, y5, rfl⟩ := v_loop J (Gt := gNm 4) (B := (sMeth 3 extD (lcF (iA rng1 (aC (e2 addD (eL (one1 maxV) (aC (eVar 4) aN)) (eC (.int 2))) aN)) (gNm 5) tYs (e2 addD (eVar 4) (eL mkT (aC (eVar 5) aN))) [5]))) ((rowsN i).map rowD) 0
        [some (.int ((k + 1 : Nat) : Int)), some (.list ((rowsN i).map rowD)), some (.int (0 + (i : Nat))), some (.list []), x4, x5] m' ⟨rfl, _, _, rfl⟩ (by
          rintro j d en m'' hd ⟨rfl, z4, z5, rfl⟩
          obtain ⟨r, hr, rfl⟩ := map_inv hd
          rw [Nat.zero_add]
          have ok := rows_ok i r (List.mem_of_getElem? hr)
          have h1 := max2_ev ok (by omega) (i := 4) (en := [some (.int ((k + 1 : Nat) : Int)), some (.list ((rowsN i).map rowD)), some (.int (0 + (i : Nat))), some (.list ((((rowsN i).take j).flatMap longer).map rowD)), some (rowD r), z5]) (m := m'') rfl
          have h2 := longer_ev ok (by omega) (f := lcStep (gNm 5) tYs (e2 addD (eVar 4) (eL mkT (aC (eVar 5) aN))) (wipeE [some (.int ((k + 1 : Nat) : Int)), some (.list ((rowsN i).map rowD)), some (.int (0 + (i : Nat))), some (.list ((((rowsN i).take j).flatMap longer).map rowD)), some (rowD r), z5] [5])) (m := m'') fun b => by
            have := snocD r b (by have := ok.len; omega)
            refine v_stepT (v_gNm _ _ _ _) (v_tYs _ _) (v_e2 (v_var 4 rfl) (v_eL (v_aC (v_var 5 rfl) v_aN) rfl) this)
          have hll : ((longer r).map rowD).length ≤ lineN := by
            unfold longer
            rw [List.length_map, List.length_map, List.length_range]
            have := ok.top
            show _ ≤ 16000000
            omega
          have hsplit : ((rowsN i).take (j + 1)).flatMap longer = ((rowsN i).take j).flatMap longer ++ longer r := by
            rw [take_snoc hr, List.flatMap_append]
            simp
          have hle := rows_len8 (i + 1) (by omega)
          have hle : ((rowsN i).flatMap longer).length ≤ 5000 := hle
          have hsub : (((rowsN i).take (j + 1)).flatMap longer).length ≤ ((rowsN i).flatMap longer).length := by
            conv => rhs; rw [← List.take_append_drop (j + 1) (rowsN i)]
            rw [List.flatMap_append, List.length_append]
            omega
          rw [hsplit, List.length_append] at hsub
          refine ⟨_, m'', _, m'', v_gNm 4 _ _ m'', .inl (v_app 3 (r := (((rowsN i).take (j + 1)).flatMap longer).map rowD) rfl (v_lc h1 h2 hll) ?_), rfl, _, _, rfl⟩
          show (if _ + _ ≤ lineN then some (_ ++ _) else none) = _
          rw [if_pos, hsplit, List.map_append]
          rw [List.length_map, List.length_map]
          show _ ≤ 16000000
          omega)
      rw [List.length_map, Nat.zero_add, List.take_length] at hloop2
      refine ⟨_, m2', _, m2', v_gNm 2 _ _ m2', .inl (v_sq (v_setO 3 (v_eL v_aN rfl) (Nat.le_of_ble_eq_true rfl)) (v_sq (v_for (v_iL (v_var 1 rfl) rfl) hloop2) (v_set 1 (v_var 3 rfl)))), rfl, _, _, _, _, rfl⟩)
  rw [rngI_len, Nat.zero_add] at hloop
  have hsub : subD (.int ((k + 1 : Nat) : Int)) (.int 1) = some (.int (k : Nat)) := by
    show some (PyData.int (((k + 1 : Nat) : Int) - 1)) = _
    congr 2
    omega
  refine v_runR (v_sq (v_set 1 (v_eL (v_aC (v_eL (v_aC (v_c _) v_aN) rfl) v_aN) rfl)) (v_sq (v_for (v_iA (v_aC (v_e2 (v_var 0 rfl) (v_c _) hsub) v_aN) (rng1_n (n := k) (by omega))) hloop) (v_ret (v_var 1 rfl))))
theorem need_number_ev {i lo hi : Int} (h1 : lo ≤ i) (h2 : i ≤ hi) {m : MS} : Ev (fn_need_number [.int i, .int lo, .int hi]) m (.int i) m := by
  have := is_within_ev h1 h2 (m := ms0)
  refine v_runR ?_
  unfold S_need_number
  and_intros
theorem all_partings_ev {k : Nat} (hk : k < 8) {m : MS} : Ev (fn_all_partings [.int ((k + 1 : Nat) : Int)]) m (.tuple ((rowsN k).map rowD)) m := by
  have h1 := need_number_ev (i := ((k + 1 : Nat) : Int)) (lo := 1) (hi := 60) (m := ms0) (by omega) (by omega)
  have h2 := all_of_ev hk (m := ms0)
  refine v_runR ?_
  unfold S_all_partings
  exact v_sq (v_drop (v_call (v_aC (v_var 0 rfl) (v_aC (v_c _) (v_aC (v_c _) v_aN))) h1)) (v_sq (v_sIfF (v_tV (v_e2 (v_var 0 rfl) (v_c _) (gtF (by omega))) rfl) v_nx) (v_ret (v_eL (v_aC (v_call (v_aC (v_var 0 rfl) v_aN) h2) v_aN) rfl)))
end K01
namespace K01
open PySem L2 VL
/-! ### what the law compares is shallow and small -/
theorem bulk_int (i : Int) : (PyData.int i).bulk ≤ 1 := by simp [PyData.bulk]
theorem bulk_bool (i : Bool) : (PyData.bool i).bulk ≤ 1 := by simp [PyData.bulk]
theorem bulk_list {B : Nat} {xs : List D} (h : ∀ x ∈ xs, x.bulk ≤ B) : (PyData.list xs).bulk ≤ (B + 1) * xs.length := by
  simp only [PyData.bulk]
  exact bulkAll_le xs h
theorem bulk_tuple {B : Nat} {xs : List D} (h : ∀ x ∈ xs, x.bulk ≤ B) : (PyData.tuple xs).bulk ≤ (B + 1) * xs.length := by
  simp only [PyData.bulk]
  exact bulkAll_le xs h
theorem bulk_nat {p : List Nat} (h : p.length ≤ 1000) : (PyData.tuple (natD p)).bulk ≤ 2000 := by
  have := bulk_tuple (B := 1) (xs := natD p) fun x hx => by
    obtain ⟨b, _, rfl⟩ := List.mem_map.mp hx
    exact bulk_int _
  rw [natD_len] at this
  omega
theorem plD_tup {n : Nat} {p : List Nat} (h : ∀ b ∈ p, b < 1000000) : plD (n + 1) (.tuple (natD p)) = true := plD_natD h
theorem like_nat {p : List Nat} (h1 : p.length ≤ 1000) (h2 : ∀ b ∈ p, b < 1000000) {m : MS} : Ev (fn__law_like [.tuple (natD p), .tuple (natD p)]) m (.bool true) m :=
  like_ev (n := 1) (by decide) (plD_tup h2) (by have := bulk_nat h1; omega)
theorem like_list {xs : List D} {n : Nat} (hn : n < 50) (hl : xs.length ≤ 100) (h1 : ∀ x ∈ xs, plD n x = true) (h2 : ∀ x ∈ xs, x.bulk ≤ 9000) {m : MS} : Ev (fn__law_like [.list xs, .list xs]) m (.bool true) m := by
  refine like_ev (n := n + 1) (by omega) (List.all_eq_true.mpr h1) ?_
  have := bulk_list h2
  have : (9000 + 1) * xs.length ≤ 9001 * 100 := Nat.mul_le_mul_left _ hl
  omega
/-! ### the law's blocks -/
theorem blk_row {p : List Nat} {c : Nat} (h60 : p.length ≤ 60) {en : SE} (he3 : en[3]? = some (some (.tuple (natD p)))) (he2 : en[2]? = some (some (.int (p.length : Nat)))) (he17 : en[17]? = some (some (.int (c : Nat)))) (hl : en.length = 19) {m : MS} :
    Ev (lcF (iA rng1 (aC (eVar 2) aN)) (gNm 18) (tV asB (e2 eqD (e2 ixD (eVar 3) (eVar 18)) (eVar 17))) (eVar 18) [18] en) m (.list ((posFrom 0 (p.map fun (n : Nat) => (n : Int)) (c : Nat)).map .int)) m := by
  have hw : (wipeE en [18]).length = 19 := by rw [wipeE_length]; exact hl
  have hw3 : ∀ (x : Option D), ((wipeE en [18]).set 18 x)[3]? = some (some (.tuple (natD p))) := fun x => by
    rw [List.getElem?_set_ne (by decide)]
    show (en.set 18 none)[3]? = _
    rw [List.getElem?_set_ne (by decide)]
    exact he3
  have hw17 : ∀ (x : Option D), ((wipeE en [18]).set 18 x)[17]? = some (some (.int (c : Nat))) := fun x => by
    rw [List.getElem?_set_ne (by decide)]
    show (en.set 18 none)[17]? = _
    rw [List.getElem?_set_ne (by decide)]
    exact he17
  have hw18 : ∀ (x : Option D), ((wipeE en [18]).set 18 x)[18]? = some x := fun x => List.getElem?_set_self (by rw [hw]; decide)
  have h := v_lcO (f := lcStep (gNm 18) (tV asB (e2 eqD (e2 ixD (eVar 3) (eVar 18)) (eVar 17))) (eVar 18) (wipeE en [18]))
    (fun d => match d with | .int i => if p[i.toNat]? = some c then some (.int i) else none | _ => none) (m := m) (ds := rngI 0 p.length) fun d hd => by
      obtain ⟨i, hi, rfl⟩ := mem_rngI hd
      rw [Int.zero_add]
      show Ev _ _ (if p[((i : Nat) : Int).toNat]? = some c then some (PyData.int (i : Nat)) else none) _
      rw [Int.toNat_natCast, List.getElem?_eq_getElem hi]
      have hx := ixT_nat hi
      by_cases t : p[i] = c
      · rw [if_pos (by rw [t])]
        exact v_stepT (v_gNm _ _ _ _) (v_tV (v_e2 (v_e2 (v_var 3 (hw3 _)) (v_var 18 (hw18 _)) hx) (v_var 17 (hw17 _)) (eqT (by omega))) rfl) (v_var 18 (hw18 _))
      · rw [if_neg (fun e => t (Option.some.inj e))]
        exact v_stepF (v_gNm _ _ _ _) (v_tV (v_e2 (v_e2 (v_var 3 (hw3 _)) (v_var 18 (hw18 _)) hx) (v_var 17 (hw17 _)) (eqF (by omega))) rfl)
  have e : (rngI 0 p.length).filterMap (fun d => match d with | .int i => if p[i.toNat]? = some c then some (PyData.int i) else none | _ => none) = (posFrom 0 (p.map fun (n : Nat) => (n : Int)) (c : Nat)).map PyData.int := by
    rw [filter_pos p c p 0]
    unfold rngI
    rw [List.range_eq_range']
    generalize List.range' 0 p.length = l
    induction l with
    | nil => rfl
    | cons i l ih =>
      rw [List.filter_cons, Nat.sub_zero]
      by_cases t : p[i]? = some c
      · rw [if_pos (decide_eq_true t), List.map_cons, List.filterMap_cons_some (b := .int (i : Nat)), ih]
        · rfl
        · show (if p[((0 : Int) + (i : Nat)).toNat]? = some c then some (PyData.int ((0 : Int) + (i : Nat))) else none) = _
          rw [Int.zero_add, Int.toNat_natCast, if_pos t]
      · rw [if_neg (by simp [t]), List.map_cons, List.filterMap_cons_none, ih]
        show (if p[((0 : Int) + (i : Nat)).toNat]? = some c then some (PyData.int ((0 : Int) + (i : Nat))) else none) = _
        rw [Int.zero_add, Int.toNat_natCast, if_neg t]
  rw [e] at h
  refine v_lc (v_iA (v_aC (v_var 2 he2) v_aN) (rng1_n (by omega))) h ?_
  rw [List.length_map]
  have := posFrom_len 0 (p.map fun (n : Nat) => (n : Int)) (c : Nat)
  rw [List.length_map] at this
  show _ ≤ 16000000
  omega
theorem law_blocks_ev {p : List Nat} (hp : IsP p) {en : SE} (he3 : en[3]? = some (some (.tuple (natD p)))) (he2 : en[2]? = some (some (.int (p.length : Nat)))) (he5 : en[5]? = some (some (.int (topN 0 p : Nat)))) (hl : en.length = 19) {m : MS} :
    Ev (eL (one1 tupD) (aC (lcF (iA rng1 (aC (eVar 5) aN)) (gNm 17) tYs (eL (one1 tupD) (aC (lcF (iA rng1 (aC (eVar 2) aN)) (gNm 18) (tV asB (e2 eqD (e2 ixD (eVar 3) (eVar 18)) (eVar 17))) (eVar 18) [18]) aN)) [17]) aN) en) m (blkD (p.map fun (n : Nat) => (n : Int)) (topN 0 p)) m := by
  have h60 := hp.l2
  have t := hp.top2
  have hw : (wipeE en [17]).length = 19 := by rw [wipeE_length]; exact hl
  have hw3 : ∀ (j : Nat) (x : Option D), j ≠ 17 → ((wipeE en [17]).set 17 x)[j]? = en[j]? := fun j x hj => by
    rw [List.getElem?_set_ne (Ne.symm hj)]
    show (en.set 17 none)[j]? = _
    rw [List.getElem?_set_ne (Ne.symm hj)]
  have h := v_lcM (f := lcStep (gNm 17) tYs (eL (one1 tupD) (aC (lcF (iA rng1 (aC (eVar 2) aN)) (gNm 18) (tV asB (e2 eqD (e2 ixD (eVar 3) (eVar 18)) (eVar 17))) (eVar 18) [18]) aN)) (wipeE en [17]))
    (fun d => match d with | .int c => .tuple ((posFrom 0 (p.map fun (n : Nat) => (n : Int)) c).map .int) | d => d) (m := m) (ds := rngI 0 (topN 0 p)) fun d hd => by
      obtain ⟨c, _, rfl⟩ := mem_rngI hd
      rw [Int.zero_add]
      refine v_stepT (v_gNm _ _ _ _) (v_tYs _ _) (v_eL (v_aC (blk_row h60 (c := c) ?_ ?_ ?_ ?_) v_aN) rfl)
      · rw [hw3 3 _ (by decide)]; exact he3
      · rw [hw3 2 _ (by decide)]; exact he2
      · exact List.getElem?_set_self (by rw [hw]; decide)
      · rw [List.length_set]; exact hw
  refine v_eL (v_aC (v_lc (v_iA (v_aC (v_var 5 he5) v_aN) (rng1_n (by omega))) h ?_) v_aN) ?_
  · rw [List.length_map, rngI_len]
    show topN 0 p ≤ 16000000
    omega
  · show some (PyData.tuple _) = some (blkD _ _)
    unfold blkD rngI
    rw [List.map_map]
    congr 2
    refine List.map_congr_left fun i _ => ?_
    show PyData.tuple ((posFrom 0 _ ((0 : Int) + (i : Nat))).map .int) = _
    rw [Int.zero_add]
theorem blk_small {p : List Nat} (hp : IsP p) : plD 2 (blkD (p.map fun (n : Nat) => (n : Int)) (topN 0 p)) = true ∧ (blkD (p.map fun (n : Nat) => (n : Int)) (topN 0 p)).bulk ≤ 9000 := by
  have h60 := hp.l2
  have t := hp.top2
  have row : ∀ c : Nat, ∀ i ∈ posFrom 0 (p.map fun (n : Nat) => (n : Int)) (c : Nat), ∃ k : Nat, k < p.length ∧ i = (k : Int) := fun c i hi => by
    rw [filter_pos p c p 0] at hi
    obtain ⟨k, hk, rfl⟩ := List.mem_map.mp hi
    have := (List.mem_filter.mp hk).1
    have := (List.mem_range'_1.mp this).2
    exact ⟨k, by omega, rfl⟩
  constructor
  · refine List.all_eq_true.mpr fun x hx => ?_
    obtain ⟨c, _, rfl⟩ := List.mem_map.mp hx
    refine List.all_eq_true.mpr fun y hy => ?_
    obtain ⟨i, hi, rfl⟩ := List.mem_map.mp hy
    obtain ⟨k, hk, rfl⟩ := row c i hi
    exact decide_eq_true (by omega)
  · have := bulk_tuple (B := 120) (xs := (List.range (topN 0 p)).map fun (c : Nat) => PyData.tuple ((posFrom 0 (p.map fun (n : Nat) => (n : Int)) c).map .int)) fun x hx => by
      obtain ⟨c, _, rfl⟩ := List.mem_map.mp hx
      have h1 := bulk_tuple (B := 1) (xs := (posFrom 0 (p.map fun (n : Nat) => (n : Int)) (c : Nat)).map PyData.int) fun y hy => by
        obtain ⟨i, hi, rfl⟩ := List.mem_map.mp hy
        exact bulk_int _
      have h2 := posFrom_len 0 (p.map fun (n : Nat) => (n : Int)) (c : Nat)
      rw [List.length_map] at h1 h2
      omega
    rw [List.length_map, List.length_range] at this
    unfold blkD
    have : (120 + 1) * topN 0 p ≤ 121 * 60 := Nat.mul_le_mul_left _ t
    omega
end K01
namespace K01
open PySem L2 VL
theorem ex_sq {S S' : SE → M Ctl} {en e : SE} {m m1 : MS} {k : Ctl} (h : Ev (S en) m (.nx e) m1) (h' : ∃ m', Ev (S' e) m1 k m') : ∃ m', Ev (sq S S' en) m k m' := by
  obtain ⟨m', h'⟩ := h'
  exact ⟨m', v_sq h h'⟩
theorem draw_nat {m : MS} {b L : Nat} (h : Mk m b) (hb : b < 1000000) (h0 : 0 < L) (h1 : L < 1073741824) : ∃ (v : Nat) (m' : MS), Ev (fn__law_draw [.int (L : Nat)]) m (.int (v : Nat)) m' ∧ v < L ∧ Mk m' (b + 1) := by
  obtain ⟨v, m', e, v0, v1, k⟩ := draw_ev (L := (L : Nat)) h hb (by omega) (by omega)
  obtain ⟨n, rfl⟩ := Int.eq_ofNat_of_zero_le v0
  exact ⟨n, m', e, by omega, k⟩
theorem many_ev {m : MS} {b : Nat} {en : SE} (h : Mk m b) (hb : b < 1000) : ∃ (n : Nat) (m' : MS), Ev (e2 addD (eC (.int 1)) (eCallM fn__law_draw (aC (eIf (tV asB (e2 gtD (eCallM fn__law_draw (aC (eC (.int 3)) aN)) (eC (.int 0)))) (eC (.int 60)) (eC (.int 7))) aN)) en) m (.int (n : Nat)) m' ∧ 1 ≤ n ∧ n ≤ 60 ∧ Mk m' (b + 2) := by
  obtain ⟨v, m1, e1, v1, k1⟩ := draw_nat (L := 3) h (by omega) (by decide) (by decide)
  by_cases c : 0 < v
  · obtain ⟨w, m2, e2, w1, k2⟩ := draw_nat (L := 60) k1 (by omega) (by decide) (by decide)
    have a := addN 1 w
    exact ⟨1 + w, m2, v_e2 (v_c _) (v_callM (v_aC (v_ifT (v_tV (v_e2 (v_callM (v_aC (v_c _) v_aN) e1) (v_c _) (gtT (by omega))) rfl) (v_c _)) v_aN) e2) a, by omega, by omega, k2⟩
  · obtain ⟨w, m2, e2, w1, k2⟩ := draw_nat (L := 7) k1 (by omega) (by decide) (by decide)
    have a := addN 1 w
    exact ⟨1 + w, m2, v_e2 (v_c _) (v_callM (v_aC (v_ifF (v_tV (v_e2 (v_callM (v_aC (v_c _) v_aN) e1) (v_c _) (gtF (by omega))) rfl) (v_c _)) v_aN) e2) a, by omega, by omega, k2⟩
theorem second_ev {p : List Nat} (hp : IsP p) {m : MS} {b : Nat} {en : SE} (h2 : en[2]? = some (some (.int (p.length : Nat)))) (h3 : en[3]? = some (some (.tuple (natD p)))) (h : Mk m b) (hb : b < 1000) :
    ∃ q m', Ev (eIf (tV asB (e2 eqD (eCallM fn__law_draw (aC (eC (.int 2)) aN)) (eC (.int 0)))) (eCallM fn__law_any_parting (aC (eVar 2) aN)) (eCallM fn__law_coarser (aC (eVar 3) aN)) en) m (.tuple (natD q)) m' ∧ IsP q ∧ q.length = p.length ∧ Mk m' (b + 62) := by
  obtain ⟨v, m1, e1, v1, k1⟩ := draw_nat (L := 2) h (by omega) (by decide) (by decide)
  by_cases c : v = 0
  · obtain ⟨q, m2, ee, hq, hl, k2⟩ := any_parting_ev (n := p.length) k1 (by omega) hp.l1 hp.l2
    exact ⟨q, m2, v_ifT (v_tV (v_e2 (v_callM (v_aC (v_c _) v_aN) e1) (v_c _) (eqT (by omega))) rfl) (v_callM (v_aC (v_var 2 h2) v_aN) ee), hq, hl, k2⟩
  · obtain ⟨q, m2, ee, hq, hl, k2⟩ := coarser_ev hp k1 (by omega)
    exact ⟨q, m2, v_ifF (v_tV (v_e2 (v_callM (v_aC (v_c _) v_aN) e1) (v_c _) (eqF (by omega))) rfl) (v_callM (v_aC (v_var 3 h3) v_aN) ee), hq, hl, k2⟩
theorem third_ev {n : Nat} (h1 : 1 ≤ n) (h60 : n ≤ 60) {m : MS} {b : Nat} (h : Mk m b) (hb : b < 1000) :
    ∃ r m', IsP r ∧ Mk m' (b + 62) ∧ ∀ en : SE, en[2]? = some (some (.int (n : Nat))) → Ev (eIf (tV asB (e2 ltD (eVar 2) (eC (.int 60)))) (eCallM fn__law_any_parting (aC (e2 addD (eC (.int 1)) (eCallM fn__law_draw (aC (e2 subD (eC (.int 61)) (eVar 2)) aN))) aN)) (eL mkT (aC (eC (.int 0)) aN)) en) m (.tuple (natD r)) m' := by
  by_cases c : n < 60
  · obtain ⟨v, m1, e1, v1, k1⟩ := draw_nat (L := 61 - n) h (by omega) (by omega) (by omega)
    obtain ⟨q, m2, ee, hq, hl, k2⟩ := any_parting_ev (n := 1 + v) k1 (by omega) (by omega) (by omega)
    have a := addN 1 v
    have s : subD (.int 61) (.int (n : Nat)) = some (.int ((61 - n : Nat) : Int)) := by
      show some (PyData.int ((61 : Int) - (n : Int))) = _
      congr 2
      omega
    exact ⟨q, m2, hq, k2, fun en h2 => v_ifT (v_tV (v_e2 (v_var 2 h2) (v_c _) (ltT (by omega))) rfl) (v_callM (v_aC (v_e2 (v_c _) (v_callM (v_aC (v_e2 (v_c _) (v_var 2 h2) s) v_aN) e1) a) v_aN) ee)⟩
  · exact ⟨[0], m, ⟨by decide, by decide, ⟨Nat.le_refl 0, trivial⟩⟩, h.mono (by omega), fun en h2 => v_ifF (v_tV (v_e2 (v_var 2 h2) (v_c _) (ltF (by omega))) rfl) (v_eL (v_aC (v_c _) v_aN) rfl)⟩
theorem pickF_ev {vs : List Int} {p : List Nat} {i j : Nat} {en : SE} {m : MS} (h60 : p.length ≤ 60) (hi : en[i]? = some (some (.tuple (natD p)))) (hj : en[j]? = some (some (.list (vs.map .int)))) (hi7 : i ≠ 17) (hj7 : j ≠ 17) (hb : ∀ b ∈ p, b < vs.length) (hl : en.length = 19) :
    Ev (lcF (iL seqT (eVar i)) (gNm 17) tYs (e2 ixD (eVar j) (eVar 17)) [17] en) m (.list ((p.map fun b => vs.getD b 0).map .int)) m := by
  have hw : (wipeE en [17]).length = 19 := by rw [wipeE_length]; exact hl
  refine v_lc (v_iL (v_var i hi) rfl) (pick_ev hb fun b h => v_stepT (v_gNm 17 _ _ m) (v_tYs _ m) (v_e2 (a := .list (vs.map .int)) (v_var j ?_) (v_var 17 (List.getElem?_set_self (by rw [hw]; decide))) (at_nat h))) ?_
  · rw [List.getElem?_set_ne (Ne.symm hj7)]
    show (en.set 17 none)[j]? = _
    rw [List.getElem?_set_ne (Ne.symm hj7)]
    exact hj
  · rw [List.length_map, List.length_map]
    show _ ≤ 16000000
    omega
theorem lawnum_ints {vs : List Int} (h : vs.length ≤ 900) {m : MS} : Ev (fn__law_numbered [.list (vs.map .int)]) m (.tuple (natD (num vs))) m := by
  have h5 := law_numbered_ev (xs := vs.map fun i => (Sum.inl i : Key)) (m := m) (by rw [List.length_map]; exact h)
  rwa [← keys_ints, numD_natD, num_keys] at h5
theorem isP_of {κ : Type} [DecidableEq κ] {p : List Nat} (hp : IsP p) {xs : List κ} (h : xs.length = p.length) : IsP (num xs) := isP_num (by rw [h]; exact hp.l1) (by rw [h]; exact hp.l2)
theorem IsP.small6 {p : List Nat} (hp : IsP p) : ∀ b ∈ p, b < 1000000 := fun b hb => by have := hp.small b hb; omega
theorem plD_p {p : List Nat} (hp : IsP p) (n : Nat) : plD (n + 1) (.tuple (natD p)) = true := plD_tup hp.small6
theorem bulk_p {p : List Nat} (hp : IsP p) : (PyData.tuple (natD p)).bulk ≤ 9000 := by
  have := bulk_nat (p := p) (by have := hp.l2; omega)
  omega
theorem plD_i {n : Nat} {k : Nat} (h : k < 1000000) : plD n (.int (k : Nat)) = true := by
  cases n <;> exact decide_eq_true (show Int.natAbs ((k : Nat) : Int) < 1000000000000 by omega)
theorem rows_like {k : Nat} (hk : k < 8) {m : MS} : Ev (fn__law_like [.tuple ((rowsN k).map rowD), .tuple ((rowsN k).map rowD)]) m (.bool true) m := by
  have h5 := rows_len8 k hk
  refine like_ev (n := 2) (by decide) (List.all_eq_true.mpr fun x hx => ?_) ?_
  · obtain ⟨r, hr, rfl⟩ := List.mem_map.mp hx
    exact plD_tup ((rows_ok k r hr).small hk)
  · have := bulk_tuple (B := 32) (xs := (rowsN k).map rowD) fun x hx => by
      obtain ⟨r, hr, rfl⟩ := List.mem_map.mp hx
      have h1 := bulk_tuple (B := 1) (xs := natD r) fun y hy => by
        obtain ⟨b, _, rfl⟩ := List.mem_map.mp hy
        exact bulk_int _
      have h2 := (rows_ok k r hr).len
      rw [natD_len] at h1
      show (PyData.tuple (natD r)).bulk ≤ 32
      omega
    rw [List.length_map] at this
    omega
end K01
namespace K01
open PySem L2 VL
set_option maxHeartbeats 0 in
theorem law_ev : LawEv := by
  intro cells great hc
  have k0 : Mk (cells, great, 0) 0 := ⟨hc, Int.le_refl 0, Int.le_refl 0⟩
  unfold S_law
  rw [show enLaw = [none, none, none, none, none, none, none, none, none, none, none, none, none, none, none, none, none, none, none] from rfl]
  obtain ⟨n, m1, dr1, n1, n60, k1⟩ := many_ev (en := enLaw) k0 (by decide)
  refine ex_sq (v_set 2 dr1) ?_
  try simp only [List.set_cons_zero, List.set_cons_succ]
  obtain ⟨p, m2, dr2, hp, rfl, k2⟩ := any_parting_ev k1 (by omega) n1 n60
  refine ex_sq (v_set 3 (v_callM (v_aC (v_var 2 rfl) v_aN) dr2)) ?_
  try simp only [List.set_cons_zero, List.set_cons_succ]
  obtain ⟨q, m3, dr3, hq, hl, k3⟩ := second_ev (en := [none, none, some (.int (p.length : Nat)), some (.tuple (natD p)), none, none, none, none, none, none, none, none, none, none, none, none, none, none, none]) hp rfl rfl k2 (by omega)
  refine ex_sq (v_set 4 dr3) ?_
  try simp only [List.set_cons_zero, List.set_cons_succ]
  refine ex_sq (v_set 5 (max1_ev hp rfl)) ?_
  try simp only [List.set_cons_zero, List.set_cons_succ]
  have t1 := hp.top1
  have t2 := hp.top2
  have l60 := hp.l2
  obtain ⟨vs, m4, dr4, hvl, hvc, k4⟩ := codes_ev (en := [none, none, some (.int (p.length : Nat)), some (.tuple (natD p)), some (.tuple (natD q)), some (.int (topN 0 p : Nat)), none, none, none, none, none, none, none, none, none, none, none, none, none]) (n := topN 0 p) rfl rfl t2 k3 (by omega)
  refine ex_sq (v_set 6 dr4) ?_
  try simp only [List.set_cons_zero, List.set_cons_succ]
  refine ex_sq (v_set 7 (law_blocks_ev hp rfl rfl rfl rfl)) ?_
  try simp only [List.set_cons_zero, List.set_cons_succ]
  -- the first answers
  have pick1 := pickF_ev (vs := vs) (p := p) (i := 3) (j := 6) (en := [none, none, some (.int (p.length : Nat)), some (.tuple (natD p)), some (.tuple (natD q)), some (.int (topN 0 p : Nat)), some (.list (vs.map .int)), some (blkD (p.map fun (n : Nat) => (n : Int)) (topN 0 p)), none, none, none, none, none, none, none, none, none, none, none]) (m := m4) l60 rfl rfl (by decide) (by decide) (fun b hb => by rw [hvl]; exact topN_mem p 0 b hb) rfl
  have po := parting_of_ev (vs := p.map fun b => vs.getD b 0) (m := ms0) (by rw [List.length_map]; exact hp.l1) (by rw [List.length_map]; exact l60)
  rw [codes_num hp hvl hvc] at po
  refine ex_sq (v_set 8 (v_eL (v_aC (v_call (v_aC (v_eL (v_aC pick1 v_aN) rfl) v_aN) po) (v_aC (v_call (v_aC (v_var 3 rfl) v_aN) (blocks_of_ev hp (m := ms0))) (v_aC (v_call (v_aC (v_var 3 rfl) v_aN) (size_of_ev hp (m := ms0))) (v_aC (v_call (v_aC (v_var 3 rfl) v_aN) (need_parting_ev hp (m := ms0))) v_aN)))) rfl)) ?_
  try simp only [List.set_cons_zero, List.set_cons_succ]
  have lk1 := like_list (n := 3) (m := ms0) (xs := [.tuple (natD p), blkD (p.map fun (n : Nat) => (n : Int)) (topN 0 p), .int (topN 0 p : Nat), .tuple (natD p)]) (by decide) (by show 4 ≤ 100; decide) (fun x hx => by
      rcases List.mem_cons.mp hx with rfl | hx
      · exact plD_p hp 2
      rcases List.mem_cons.mp hx with rfl | hx
      · have := (blk_small hp).1
        refine List.all_eq_true.mpr fun y hy => ?_
        obtain ⟨c, _, rfl⟩ := List.mem_map.mp hy
        have h2 := List.all_eq_true.mp this _ hy
        refine List.all_eq_true.mpr fun z hz => ?_
        have h3 := List.all_eq_true.mp h2 _ hz
        obtain ⟨i, hi, rfl⟩ := List.mem_map.mp hz
        exact h3
      rcases List.mem_cons.mp hx with rfl | hx
      · exact plD_i (by omega)
      rw [List.mem_singleton.mp hx]
      exact plD_p hp 2) (fun x hx => by
      rcases List.mem_cons.mp hx with rfl | hx
      · exact bulk_p hp
      rcases List.mem_cons.mp hx with rfl | hx
      · exact (blk_small hp).2
      rcases List.mem_cons.mp hx with rfl | hx
      · have := bulk_int (topN 0 p : Nat); omega
      rw [List.mem_singleton.mp hx]
      exact bulk_p hp)
  refine ex_sq (v_sIfF (v_orF (v_not (o := true) (v_tV (v_call (v_aC (v_var 8 rfl) (v_aC (v_eL (v_aC (v_var 3 rfl) (v_aC (v_var 7 rfl) (v_aC (v_var 5 rfl) (v_aC (v_var 3 rfl) v_aN)))) rfl) v_aN)) lk1) rfl)) (v_tV (v_e2 (v_call (v_aC (v_var 3 rfl) v_aN) (is_parting_ev hp (m := ms0))) (v_c _) rfl) rfl)) v_nx) ?_
  try simp only [List.set_cons_zero, List.set_cons_succ]
  -- above and below
  obtain ⟨ls, cl, hu, hlen, gl1⟩ := hung2_ev hp hq hl (m := ms0)
  refine ex_sq (v_asg (v_call (v_aC (v_var 3 rfl) (v_aC (v_var 4 rfl) v_aN)) hu) (v_gTp2 15 16 _ _ _ _)) ?_
  try simp only [List.set_cons_zero, List.set_cons_succ]
  have ab := lawnum_ints (vs := p.map fun b => ls.getD b 0) (m := ms0) (by rw [List.length_map]; omega)
  refine ex_sq (v_set 9 (v_call (v_aC (pickF_ev (vs := ls) (p := p) (i := 3) (j := 15) l60 rfl rfl (by decide) (by decide) (fun b hb => Nat.lt_of_lt_of_le (topN_mem p 0 b hb) hlen) rfl) v_aN) ab)) ?_
  try simp only [List.set_cons_zero, List.set_cons_succ]
  have bl := law_numberedT_ev (xs := pairsK p q) (m := ms0) (by rw [pairs_len hl]; omega)
  rw [numD_natD] at bl
  refine ex_sq (v_set 10 (v_call (v_aC (v_eL (v_aC (v_var 3 rfl) (v_aC (v_var 4 rfl) v_aN)) (lz_pairs l60)) v_aN) bl)) ?_
  try simp only [List.set_cons_zero, List.set_cons_succ]
  obtain ⟨L2', gl2, fa⟩ := finest_ev hp hq hl (m := ms0)
  obtain ⟨L3', gl3, fa2⟩ := finest_ev hq hp hl.symm (m := ms0)
  rw [← gl1.num gl2] at fa
  rw [← gl1.num (gl3.swap hl.symm)] at fa2
  have fA := is_finer_ev hp hq hl (m := ms0)
  have fB := is_finer_ev hq hp hl.symm (m := ms0)
  have fC := law_is_finer_ev (p := p) (q := q) l60 hl (m := ms0)
  have fD := law_is_finer_ev (p := q) (q := p) hq.l2 hl.symm (m := ms0)
  rw [← fin_same] at fC fD
  have cb := coarsest_ev hp hq hl (m := ms0)
  generalize hab : num (p.map fun b => ls.getD b 0) = above at *
  generalize hbl : num (pairsK p q) = below at *
  have pa : IsP above := by rw [← hab]; exact isP_of hp (by rw [List.length_map])
  have pb : IsP below := by rw [← hbl]; exact isP_of hp (pairs_len hl)
  have la : above.length = p.length := by rw [← hab, num_len, List.length_map]
  have lb : below.length = p.length := by rw [← hbl, num_len, pairs_len hl]
  refine ex_sq (v_set 8 (v_eL (v_aC (v_call (v_aC (v_var 3 rfl) (v_aC (v_var 4 rfl) v_aN)) fa) (v_aC (v_call (v_aC (v_var 3 rfl) (v_aC (v_var 4 rfl) v_aN)) cb) (v_aC (v_call (v_aC (v_var 3 rfl) (v_aC (v_var 4 rfl) v_aN)) fA) (v_aC (v_call (v_aC (v_var 4 rfl) (v_aC (v_var 3 rfl) v_aN)) fB) v_aN)))) rfl)) ?_
  try simp only [List.set_cons_zero, List.set_cons_succ]
  refine ex_sq (v_set 11 (v_eL (v_aC (v_var 9 rfl) (v_aC (v_var 10 rfl) (v_aC (v_call (v_aC (v_var 3 rfl) (v_aC (v_var 4 rfl) v_aN)) fC) (v_aC (v_call (v_aC (v_var 4 rfl) (v_aC (v_var 3 rfl) v_aN)) fD) v_aN)))) rfl)) ?_
  try simp only [List.set_cons_zero, List.set_cons_succ]
  have lk2 := like_list (n := 3) (m := ms0) (xs := [.tuple (natD above), .tuple (natD below), .bool (finA p q), .bool (finA q p)]) (by decide) (by show 4 ≤ 100; decide) (fun x hx => by
      rcases List.mem_cons.mp hx with rfl | hx
      · exact plD_p pa 2
      rcases List.mem_cons.mp hx with rfl | hx
      · exact plD_p pb 2
      rcases List.mem_cons.mp hx with rfl | hx
      · rfl
      rw [List.mem_singleton.mp hx]
      rfl) (fun x hx => by
      rcases List.mem_cons.mp hx with rfl | hx
      · exact bulk_p pa
      rcases List.mem_cons.mp hx with rfl | hx
      · exact bulk_p pb
      rcases List.mem_cons.mp hx with rfl | hx
      · have := bulk_bool (finA p q); omega
      rw [List.mem_singleton.mp hx]
      have := bulk_bool (finA q p); omega)
  have lk3 := like_nat (p := above) (m := ms0) (by omega) pa.small6
  refine ex_sq (v_sIfF (v_orF (v_not (o := true) (v_tV (v_call (v_aC (v_var 8 rfl) (v_aC (v_var 11 rfl) v_aN)) lk2) rfl)) (v_not (o := true) (v_tV (v_call (v_aC (v_call (v_aC (v_var 4 rfl) (v_aC (v_var 3 rfl) v_aN)) fa2) (v_aC (v_var 9 rfl) v_aN)) lk3) rfl))) v_nx) ?_
  try simp only [List.set_cons_zero, List.set_cons_succ]
  have g1 := fin_ev hp pa la (by rw [← hab]; exact finer_above gl1) (m := ms0)
  have g2 := fin_ev hq pa (la.trans hl.symm) (by rw [← hab]; exact finer_above (gl1.swap hl)) (m := ms0)
  have g3 := fin_ev pb hp lb.symm (by rw [← hbl]; exact (finer_below hl).1) (m := ms0)
  have g4 := fin_ev pb hq (hl.trans lb.symm) (by rw [← hbl]; exact (finer_below hl).2) (m := ms0)
  refine ex_sq (v_set 8 (v_eL (v_aC (v_call (v_aC (v_var 3 rfl) (v_aC (v_var 9 rfl) v_aN)) g1) (v_aC (v_call (v_aC (v_var 4 rfl) (v_aC (v_var 9 rfl) v_aN)) g2) (v_aC (v_call (v_aC (v_var 10 rfl) (v_aC (v_var 3 rfl) v_aN)) g3) (v_aC (v_call (v_aC (v_var 10 rfl) (v_aC (v_var 4 rfl) v_aN)) g4) v_aN)))) rfl)) ?_
  try simp only [List.set_cons_zero, List.set_cons_succ]
  have lk4 := like_ev (n := 1) (d := .list [.bool true, .bool true, .bool true, .bool true]) (m := ms0) (by decide) rfl (by simp [PyData.bulk, PyData.bulkAll])
  refine ex_sq (v_sIfF (v_not (o := true) (v_tV (v_call (v_aC (v_var 8 rfl) (v_aC (v_eL (v_aC (v_c _) (v_aC (v_c _) (v_aC (v_c _) (v_aC (v_c _) v_aN)))) rfl) v_aN)) lk4) rfl)) v_nx) ?_
  try simp only [List.set_cons_zero, List.set_cons_succ]
  -- some doors
  obtain ⟨rs, m5, dr5, hperm, k5⟩ := order_ev l60 k4 (by omega)
  obtain ⟨w, m6, dr6, hw, k6⟩ := draw_nat (L := p.length) k5 (by omega) hp.l1 (by omega)
  have rl : rs.length = p.length := by rw [hperm.length_eq, List.length_range]
  have cut : cutD (natD rs) none (some ((1 + w : Nat) : Int)) = natD (rs.take (1 + w)) := by
    unfold cutD
    rw [HT.sIx_none, HT.sIx_nat, natD_len, List.drop_zero, Nat.sub_zero, Nat.min_eq_left (by omega)]
    unfold natD
    rw [← List.map_take]
  have a1 := addN 1 w
  refine ex_sq (v_set 12 (d := .list (natD (rs.take (1 + w)))) (m1 := m6) ?_) ?_
  · refine ev_bd (v_callM (v_aC (v_var 2 rfl) v_aN) dr5) (ev_bd (a := none) rfl (ev_bd (a := some ((1 + w : Nat) : Int)) (m1 := m6) (ev_bd (v_e2 (v_c _) (v_callM (v_aC (v_var 2 rfl) v_aN) dr6) a1) (ev_bd (ev_lft _ rfl) rfl)) (ev_lft _ ?_)))
    rw [← cut]
  try simp only [List.set_cons_zero, List.set_cons_succ]
  generalize hds : rs.take (1 + w) = ds at *
  have dl : ds.length = 1 + w := by rw [← hds, List.length_take]; omega
  have dn : ds.Nodup := by rw [← hds]; exact (hperm.nodup_iff.mpr List.nodup_range).sublist (List.take_sublist _ _)
  have db : ∀ x ∈ ds, x < p.length := fun x hx => by
    rw [← hds] at hx
    exact List.mem_range.mp (hperm.mem_iff.mp (List.mem_of_mem_take hx))
  have so := some_ev hp (by omega) (by omega) db dn (m := ms0)
  have ln := lawnum_nat (ns := ds.map fun b => p.getD b 0) (m := ms0) (by rw [List.length_map]; omega)
  generalize hso : num (ds.map fun b => p.getD b 0) = sp at *
  have sl : sp.length = ds.length := by rw [← hso, num_len, List.length_map]
  have ps : IsP sp := by
    rw [← hso]
    exact isP_num (by rw [List.length_map]; omega) (by rw [List.length_map]; omega)
  have pk := fun (en : SE) (h1 : en.length = 19) (h2 : en[12]? = some (some (.list (natD ds)))) (h3 : en[3]? = some (some (.tuple (natD p)))) => show Ev (lcF (iL seqL (eVar 12)) (gNm 18) tYs (e2 ixD (eVar 3) (eVar 18)) [18] en) m6 (.list (natD (ds.map fun b => p.getD b 0))) m6 from by
    have hw : (wipeE en [18]).length = 19 := by rw [wipeE_length]; exact h1
    refine v_lc (v_iL (v_var 12 h2) rfl) (pickT_ev db fun b h => v_stepT (v_gNm _ _ _ _) (v_tYs _ _) (v_e2 (v_var 3 ?_) (v_var 18 (List.getElem?_set_self (by rw [hw]; decide))) (ixTn h))) ?_
    · rw [List.getElem?_set_ne (by decide)]
      show (en.set 18 none)[3]? = _
      rw [List.getElem?_set_ne (by decide)]
      exact h3
    · rw [natD_len, List.length_map]
      show _ ≤ 16000000
      omega
  refine ex_sq (v_set 11 (v_call (v_aC (pk _ rfl rfl rfl) v_aN) ln)) ?_
  try simp only [List.set_cons_zero, List.set_cons_succ]
  have lk5 := like_nat (p := sp) (m := ms0) (by omega) ps.small6
  refine ex_sq (v_sIfF (v_not (o := true) (v_tV (v_call (v_aC (v_call (v_aC (v_var 3 rfl) (v_aC (v_eL (v_aC (v_var 12 rfl) v_aN) rfl) v_aN)) so) (v_aC (v_var 11 rfl) v_aN)) lk5) rfl)) v_nx) ?_
  try simp only [List.set_cons_zero, List.set_cons_succ]
  -- beside
  obtain ⟨r, m7, hr, k7, dr7⟩ := third_ev (n := p.length) hp.l1 l60 k6 (by omega)
  refine ex_sq (v_set 13 (dr7 _ rfl)) ?_
  try simp only [List.set_cons_zero, List.set_cons_succ]
  have r60 := hr.l2
  have sh := fun (en : SE) (h1 : en.length = 19) (h2 : en[13]? = some (some (.tuple (natD r)))) (h5 : en[5]? = some (some (.int (topN 0 p : Nat)))) => show Ev (lcF (iL seqT (eVar 13)) (gNm 17) tYs (e2 addD (eVar 5) (eVar 17)) [17] en) m7 (.list (natD (r.map (topN 0 p + ·)))) m7 from by
    have hw : (wipeE en [17]).length = 19 := by rw [wipeE_length]; exact h1
    refine v_lc (v_iL (v_var 13 h2) rfl) (shift_ev fun b => v_stepT (v_gNm _ _ _ _) (v_tYs _ _) (v_e2 (v_var 5 ?_) (v_var 17 (List.getElem?_set_self (by rw [hw]; decide))) (addN _ _))) ?_
    · rw [List.getElem?_set_ne (by decide)]
      show (en.set 17 none)[5]? = _
      rw [List.getElem?_set_ne (by decide)]
      exact h5
    · rw [natD_len, List.length_map]
      show _ ≤ 16000000
      omega
  refine ex_sq (v_set 11 (v_e2 (v_var 3 rfl) (v_eL (v_aC (sh _ rfl rfl rfl) v_aN) rfl) (catN p (r.map (topN 0 p + ·)) (by rw [List.length_map]; omega)))) ?_
  try simp only [List.set_cons_zero, List.set_cons_succ]
  have dul : (p ++ r.map (topN 0 p + ·)).length = p.length + r.length := by rw [List.length_append, List.length_map]
  have hle : one1 lenD [.tuple (natD (p ++ r.map (topN 0 p + ·)))] = some (.int ((p.length + r.length : Nat) : Int)) := by rw [lenT, dul]
  have sI : ∀ en : SE, en[3]? = some (some (.tuple (natD p))) → en[13]? = some (some (.tuple (natD r))) → en[11]? = some (some (.tuple (natD (p ++ r.map (topN 0 p + ·))))) →
      Ev (sIf (tAnd2 (tV asB (e2 leD (eL (one1 lenD) (aC (eVar 11) aN)) (eC (.int 60)))) (tNot1 (tV asB (eCall fn__law_like (aC (eCall fn_beside (aC (eVar 3) (aC (eVar 13) aN))) (aC (eVar 11) aN)))))) (sRet (eC (.bool false))) sNx en) m7 (.nx en) m7 := fun en h3 h13 h11 => by
    by_cases c : p.length + r.length ≤ 60
    · have be := beside_ev hp hr c (m := ms0)
      have lk6 := like_nat (p := p ++ r.map (topN 0 p + ·)) (m := ms0) (by omega) (fun b hb => by
        rcases List.mem_append.mp hb with h | h
        · exact hp.small6 b h
        · obtain ⟨x, hx, rfl⟩ := List.mem_map.mp h
          have := hr.small x hx
          omega)
      exact v_sIfF (v_andT (v_tV (v_e2 (v_eL (v_aC (v_var 11 h11) v_aN) hle) (v_c _) (leT (by omega))) rfl) (v_not (o := true) (v_tV (v_call (v_aC (v_call (v_aC (v_var 3 h3) (v_aC (v_var 13 h13) v_aN)) be) (v_aC (v_var 11 h11) v_aN)) lk6) rfl))) v_nx
    · exact v_sIfF (v_andF (v_tV (v_e2 (v_eL (v_aC (v_var 11 h11) v_aN) hle) (v_c _) (leF (by omega))) rfl)) v_nx
  refine ex_sq (sI _ rfl rfl rfl) ?_
  try simp only [List.set_cons_zero, List.set_cons_succ]
  -- all partings
  obtain ⟨z, m8, dr8, hz, k8⟩ := draw_nat (L := 8) k7 (by omega) (by decide) (by decide)
  have a8 : addD (.int 1) (.int (z : Nat)) = some (.int ((z + 1 : Nat) : Int)) := by rw [Nat.add_comm z 1]; exact addN 1 z
  refine ex_sq (v_set 14 (v_e2 (v_c _) (v_callM (v_aC (v_c _) v_aN) dr8) a8)) ?_
  try simp only [List.set_cons_zero, List.set_cons_succ]
  exact ⟨m8, v_ret (v_call (v_aC (v_call (v_aC (v_var 14 rfl) v_aN) (all_partings_ev hz (m := ms0))) (v_aC (v_eL (v_aC (v_call (v_aC (v_var 14 rfl) v_aN) (law_partings_ev hz (m := ms0))) v_aN) rfl) v_aN)) (rows_like hz (m := ms0)))⟩
end K01
namespace K01
open PySem L2 VL PyProof.Rows
theorem ok__law_order {P : Program} {w : World} {K : PySem.W.Frag} {mg : Str → Option Value} {base : Heap} {f : Addr} {fd : FuncData} {f__law_draw : Addr} {d__law_draw : FuncData} {p__law_draw : List Str} (T : Tx mg) (F : Fun K "_law_order" "_law_order" s__law_order f fd) (C__law_draw : FcM P w K mg base "_law_draw" 3 f__law_draw d__law_draw p__law_draw [.dat] .dat fn__law_draw) :
    FnV P w K mg base CX0 4 f fd ["_law_m", "_law_many"] (spM K [.dat] .dat fn__law_order) :=
  fn_M F sc__law_order rfl (fun i kk h => match i, h with | 0, h => by cases h; rfl | n + 1, h => by cases h) (fun W cdv A outer s H E hgd hr => b__law_order T C__law_draw W cdv A outer s H E hgd hr) (.inl rfl)
theorem all_mk (hev : LawEv) {l : PySem.W.OpenLaw} {w : World} {K : PySem.W.Frag} {h : Heap} {mg : Str → Option Value} {fa f1 f2 f3 f4 f5 f6 f7 f8 f9 f10 f11 f12 f13 f14 f15 f16 f17 f18 f19 f20 f21 f22 f23 f24 f25 f26 f27 f28 f29 f30 f31 f32 : Addr} (X : K.In h) (G : h.Ns mainGlobals mg) (hfa : mg "law" = some (.ref fa))
    {od1 an1 od2 an2 od3 an3 od4 an4 od5 an5 od6 an6 od7 an7 od8 an8 od9 an9 od10 an10 od11 an11 od12 an12 od13 an13 od14 an14 od15 an15 od16 an16 od17 an17 od18 an18 od19 an19 od20 an20 od21 an21 od22 an22 od23 an23 od24 an24 od25 an25 od26 an26 od27 an27 od28 an28 od29 an29 od30 an30 od31 an31 od32 an32 : Option Addr} {sl1 sl2 sl3 sl4 sl5 sl6 sl7 sl8 sl9 sl10 sl11 sl12 sl13 sl14 sl15 sl16 sl17 sl18 sl19 sl20 sl21 sl22 sl23 sl24 sl25 sl26 sl27 sl28 sl29 sl30 sl31 sl32 : Array (Option Value)} {oc1 kV1 dc1 pm1 cd1 ct1 oc2 kV2 dc2 pm2 cd2 ct2 oc3 kV3 dc3 pm3 cd3 ct3 oc4 kV4 dc4 pm4 cd4 ct4 oc5 kV5 dc5 pm5 cd5 ct5 oc6 kV6 dc6 pm6 cd6 ct6 oc7 kV7 dc7 pm7 cd7 ct7 oc8 kV8 dc8 pm8 cd8 ct8 oc9 kV9 dc9 pm9 cd9 ct9 oc10 kV10 dc10 pm10 cd10 ct10 oc11 kV11 dc11 pm11 cd11 ct11 oc12 kV12 dc12 pm12 cd12 ct12 oc13 kV13 dc13 pm13 cd13 ct13 oc14 kV14 dc14 pm14 cd14 ct14 oc15 kV15 dc15 pm15 cd15 ct15 oc16 kV16 dc16 pm16 cd16 ct16 oc17 kV17 dc17 pm17 cd17 ct17 oc18 kV18 dc18 pm18 cd18 ct18 oc19 kV19 dc19 pm19 cd19 ct19 oc20 kV20 dc20 pm20 cd20 ct20 oc21 kV21 dc21 pm21 cd21 ct21 oc22 kV22 dc22 pm22 cd22 ct22 oc23 kV23 dc23 pm23 cd23 ct23 oc24 kV24 dc24 pm24 cd24 ct24 oc25 kV25 dc25 pm25 cd25 ct25 oc26 kV26 dc26 pm26 cd26 ct26 oc27 kV27 dc27 pm27 cd27 ct27 oc28 kV28 dc28 pm28 cd28 ct28 oc29 kV29 dc29 pm29 cd29 ct29 oc30 kV30 dc30 pm30 cd30 ct30 oc31 kV31 dc31 pm31 cd31 ct31 oc32 kV32 dc32 pm32 cd32 ct32 : Value} {t1 t2 : _}
    (a1 : PySem.W.nsIn K mainGlobals "_law_mixed" = some (some (.ref f1))) (l1 : K.lookup f1 = some ⟨oc1, od1, .func (PySem.W.fnOf "_law_mixed" "_law_mixed" (defArgs s__law_mixed) (defBody s__law_mixed) (defScope s__law_mixed) .none kV1 dc1 pm1 an1 cd1 ct1), sl1⟩) (c1 : PySem.W.codeIn K cd1 "_law_mixed" = true) (k1 : PySem.W.keepIn K (.ref f1) = true)
    (a2 : PySem.W.nsIn K mainGlobals "_law_draw" = some (some (.ref f2))) (l2 : K.lookup f2 = some ⟨oc2, od2, .func (PySem.W.fnOf "_law_draw" "_law_draw" (defArgs s__law_draw) (defBody s__law_draw) (defScope s__law_draw) .none kV2 dc2 pm2 an2 cd2 ct2), sl2⟩) (c2 : PySem.W.codeIn K cd2 "_law_draw" = true) (k2 : PySem.W.keepIn K (.ref f2) = true)
    (a3 : PySem.W.nsIn K mainGlobals "_law_numbered" = some (some (.ref f3))) (l3 : K.lookup f3 = some ⟨oc3, od3, .func (PySem.W.fnOf "_law_numbered" "_law_numbered" (defArgs s__law_numbered) (defBody s__law_numbered) (defScope s__law_numbered) .none kV3 dc3 pm3 an3 cd3 ct3), sl3⟩) (c3 : PySem.W.codeIn K cd3 "_law_numbered" = true) (k3 : PySem.W.keepIn K (.ref f3) = true)
    (a4 : PySem.W.nsIn K mainGlobals "_law_any_parting" = some (some (.ref f4))) (l4 : K.lookup f4 = some ⟨oc4, od4, .func (PySem.W.fnOf "_law_any_parting" "_law_any_parting" (defArgs s__law_any_parting) (defBody s__law_any_parting) (defScope s__law_any_parting) .none kV4 dc4 pm4 an4 cd4 ct4), sl4⟩) (c4 : PySem.W.codeIn K cd4 "_law_any_parting" = true) (k4 : PySem.W.keepIn K (.ref f4) = true)
    (a5 : PySem.W.nsIn K mainGlobals "_law_coarser" = some (some (.ref f5))) (l5 : K.lookup f5 = some ⟨oc5, od5, .func (PySem.W.fnOf "_law_coarser" "_law_coarser" (defArgs s__law_coarser) (defBody s__law_coarser) (defScope s__law_coarser) .none kV5 dc5 pm5 an5 cd5 ct5), sl5⟩) (c5 : PySem.W.codeIn K cd5 "_law_coarser" = true) (k5 : PySem.W.keepIn K (.ref f5) = true)
    (a6 : PySem.W.nsIn K mainGlobals "is_whole" = some (some (.ref f6))) (l6 : K.lookup f6 = some ⟨oc6, od6, .func (PySem.W.fnOf "is_whole" "is_whole" (defArgs s_is_whole) (defBody s_is_whole) (defScope s_is_whole) .none kV6 dc6 pm6 an6 cd6 ct6), sl6⟩) (c6 : PySem.W.codeIn K cd6 "is_whole" = true) (k6 : PySem.W.keepIn K (.ref f6) = true)
    (a7 : PySem.W.nsIn K mainGlobals "is_within" = some (some (.ref f7))) (l7 : K.lookup f7 = some ⟨oc7, od7, .func (PySem.W.fnOf "is_within" "is_within" (defArgs s_is_within) (defBody s_is_within) (defScope s_is_within) .none kV7 dc7 pm7 an7 cd7 ct7), sl7⟩) (c7 : PySem.W.codeIn K cd7 "is_within" = true) (k7 : PySem.W.keepIn K (.ref f7) = true)
    (a8 : PySem.W.nsIn K mainGlobals "need_parting" = some (some (.ref f8))) (l8 : K.lookup f8 = some ⟨oc8, od8, .func (PySem.W.fnOf "need_parting" "need_parting" (defArgs s_need_parting) (defBody s_need_parting) (defScope s_need_parting) .none kV8 dc8 pm8 an8 cd8 ct8), sl8⟩) (c8 : PySem.W.codeIn K cd8 "need_parting" = true) (k8 : PySem.W.keepIn K (.ref f8) = true)
    (a9 : PySem.W.nsIn K mainGlobals "size_of" = some (some (.ref f9))) (l9 : K.lookup f9 = some ⟨oc9, od9, .func (PySem.W.fnOf "size_of" "size_of" (defArgs s_size_of) (defBody s_size_of) (defScope s_size_of) .none kV9 dc9 pm9 an9 cd9 ct9), sl9⟩) (c9 : PySem.W.codeIn K cd9 "size_of" = true) (k9 : PySem.W.keepIn K (.ref f9) = true)
    (a10 : PySem.W.nsIn K mainGlobals "blocks_of" = some (some (.ref f10))) (l10 : K.lookup f10 = some ⟨oc10, od10, .func (PySem.W.fnOf "blocks_of" "blocks_of" (defArgs s_blocks_of) (defBody s_blocks_of) (defScope s_blocks_of) .none kV10 dc10 pm10 an10 cd10 ct10), sl10⟩) (c10 : PySem.W.codeIn K cd10 "blocks_of" = true) (k10 : PySem.W.keepIn K (.ref f10) = true)
    (a11 : PySem.W.nsIn K mainGlobals "renumbered" = some (some (.ref f11))) (l11 : K.lookup f11 = some ⟨oc11, od11, .func (PySem.W.fnOf "renumbered" "renumbered" (defArgs s_renumbered) (defBody s_renumbered) (defScope s_renumbered) .none kV11 dc11 pm11 an11 cd11 ct11), sl11⟩) (c11 : PySem.W.codeIn K cd11 "renumbered" = true) (k11 : PySem.W.keepIn K (.ref f11) = true)
    (a12 : PySem.W.nsIn K mainGlobals "parting_of" = some (some (.ref f12))) (l12 : K.lookup f12 = some ⟨oc12, od12, .func (PySem.W.fnOf "parting_of" "parting_of" (defArgs s_parting_of) (defBody s_parting_of) (defScope s_parting_of) .none kV12 dc12 pm12 an12 cd12 ct12), sl12⟩) (c12 : PySem.W.codeIn K cd12 "parting_of" = true) (k12 : PySem.W.keepIn K (.ref f12) = true)
    (a13 : PySem.W.nsIn K mainGlobals "is_parting" = some (some (.ref f13))) (l13 : K.lookup f13 = some ⟨oc13, od13, .func (PySem.W.fnOf "is_parting" "is_parting" (defArgs s_is_parting) (defBody s_is_parting) (defScope s_is_parting) .none kV13 dc13 pm13 an13 cd13 ct13), sl13⟩) (c13 : PySem.W.codeIn K cd13 "is_parting" = true) (k13 : PySem.W.keepIn K (.ref f13) = true)
    (a14 : PySem.W.nsIn K mainGlobals "_law_like" = some (some (.ref f14))) (l14 : K.lookup f14 = some ⟨oc14, od14, .func (PySem.W.fnOf "_law_like" "_law_like" (defArgs s__law_like) (defBody s__law_like) (defScope s__law_like) .none kV14 dc14 pm14 an14 cd14 ct14), sl14⟩) (c14 : PySem.W.codeIn K cd14 "_law_like" = true) (k14 : PySem.W.keepIn K (.ref f14) = true)
    (a15 : PySem.W.nsIn K mainGlobals "_law_hung" = some (some (.ref f15))) (l15 : K.lookup f15 = some ⟨oc15, od15, .func (PySem.W.fnOf "_law_hung" "_law_hung" (defArgs s__law_hung) (defBody s__law_hung) (defScope s__law_hung) .none kV15 dc15 pm15 an15 cd15 ct15), sl15⟩) (c15 : PySem.W.codeIn K cd15 "_law_hung" = true) (k15 : PySem.W.keepIn K (.ref f15) = true)
    (a16 : PySem.W.nsIn K mainGlobals "need_fit" = some (some (.ref f16))) (l16 : K.lookup f16 = some ⟨oc16, od16, .func (PySem.W.fnOf "need_fit" "need_fit" (defArgs s_need_fit) (defBody s_need_fit) (defScope s_need_fit) .none kV16 dc16 pm16 an16 cd16 ct16), sl16⟩) (c16 : PySem.W.codeIn K cd16 "need_fit" = true) (k16 : PySem.W.keepIn K (.ref f16) = true)
    (a17 : PySem.W.nsIn K mainGlobals "is_finer" = some (some (.ref f17))) (l17 : K.lookup f17 = some ⟨oc17, od17, .func (PySem.W.fnOf "is_finer" "is_finer" (defArgs s_is_finer) (defBody s_is_finer) (defScope s_is_finer) .none kV17 dc17 pm17 an17 cd17 ct17), sl17⟩) (c17 : PySem.W.codeIn K cd17 "is_finer" = true) (k17 : PySem.W.keepIn K (.ref f17) = true)
    (a18 : PySem.W.nsIn K mainGlobals "coarsest_below" = some (some (.ref f18))) (l18 : K.lookup f18 = some ⟨oc18, od18, .func (PySem.W.fnOf "coarsest_below" "coarsest_below" (defArgs s_coarsest_below) (defBody s_coarsest_below) (defScope s_coarsest_below) .none kV18 dc18 pm18 an18 cd18 ct18), sl18⟩) (c18 : PySem.W.codeIn K cd18 "coarsest_below" = true) (k18 : PySem.W.keepIn K (.ref f18) = true)
    (a19 : PySem.W.nsIn K mainGlobals "joined_labels" = some (some (.ref f19))) (l19 : K.lookup f19 = some ⟨oc19, od19, .func (PySem.W.fnOf "joined_labels" "joined_labels" (defArgs s_joined_labels) (defBody s_joined_labels) (defScope s_joined_labels) .none kV19 dc19 pm19 an19 cd19 ct19), sl19⟩) (c19 : PySem.W.codeIn K cd19 "joined_labels" = true) (k19 : PySem.W.keepIn K (.ref f19) = true)
    (a20 : PySem.W.nsIn K mainGlobals "finest_above" = some (some (.ref f20))) (l20 : K.lookup f20 = some ⟨oc20, od20, .func (PySem.W.fnOf "finest_above" "finest_above" (defArgs s_finest_above) (defBody s_finest_above) (defScope s_finest_above) .none kV20 dc20 pm20 an20 cd20 ct20), sl20⟩) (c20 : PySem.W.codeIn K cd20 "finest_above" = true) (k20 : PySem.W.keepIn K (.ref f20) = true)
    (a21 : PySem.W.nsIn K mainGlobals "_law_is_finer" = some (some (.ref f21))) (l21 : K.lookup f21 = some ⟨oc21, od21, .func (PySem.W.fnOf "_law_is_finer" "_law_is_finer" (defArgs s__law_is_finer) (defBody s__law_is_finer) (defScope s__law_is_finer) .none kV21 dc21 pm21 an21 cd21 ct21), sl21⟩) (c21 : PySem.W.codeIn K cd21 "_law_is_finer" = true) (k21 : PySem.W.keepIn K (.ref f21) = true)
    (a22 : PySem.W.nsIn K mainGlobals "_law_order" = some (some (.ref f22))) (l22 : K.lookup f22 = some ⟨oc22, od22, .func (PySem.W.fnOf "_law_order" "_law_order" (defArgs s__law_order) (defBody s__law_order) (defScope s__law_order) .none kV22 dc22 pm22 an22 cd22 ct22), sl22⟩) (c22 : PySem.W.codeIn K cd22 "_law_order" = true) (k22 : PySem.W.keepIn K (.ref f22) = true)
    (a23 : PySem.W.nsIn K mainGlobals "need_doors" = some (some (.ref f23))) (l23 : K.lookup f23 = some ⟨oc23, od23, .func (PySem.W.fnOf "need_doors" "need_doors" (defArgs s_need_doors) (defBody s_need_doors) (defScope s_need_doors) .none kV23 dc23 pm23 an23 cd23 ct23), sl23⟩) (c23 : PySem.W.codeIn K cd23 "need_doors" = true) (k23 : PySem.W.keepIn K (.ref f23) = true)
    (a24 : PySem.W.nsIn K mainGlobals "parting_of_some" = some (some (.ref f24))) (l24 : K.lookup f24 = some ⟨oc24, od24, .func (PySem.W.fnOf "parting_of_some" "parting_of_some" (defArgs s_parting_of_some) (defBody s_parting_of_some) (defScope s_parting_of_some) .none kV24 dc24 pm24 an24 cd24 ct24), sl24⟩) (c24 : PySem.W.codeIn K cd24 "parting_of_some" = true) (k24 : PySem.W.keepIn K (.ref f24) = true)
    (a25 : PySem.W.nsIn K mainGlobals "beside" = some (some (.ref f25))) (l25 : K.lookup f25 = some ⟨oc25, od25, .func (PySem.W.fnOf "beside" "beside" (defArgs s_beside) (defBody s_beside) (defScope s_beside) .none kV25 dc25 pm25 an25 cd25 ct25), sl25⟩) (c25 : PySem.W.codeIn K cd25 "beside" = true) (k25 : PySem.W.keepIn K (.ref f25) = true)
    (a26 : PySem.W.nsIn K mainGlobals "_law_partings" = some (some (.ref f26))) (l26 : K.lookup f26 = some ⟨oc26, od26, .func (PySem.W.fnOf "_law_partings" "_law_partings" (defArgs s__law_partings) (defBody s__law_partings) (defScope s__law_partings) .none kV26 dc26 pm26 an26 cd26 ct26), sl26⟩) (c26 : PySem.W.codeIn K cd26 "_law_partings" = true) (k26 : PySem.W.keepIn K (.ref f26) = true)
    (a27 : PySem.W.nsIn K mainGlobals "need_number" = some (some (.ref f27))) (l27 : K.lookup f27 = some ⟨oc27, od27, .func (PySem.W.fnOf "need_number" "need_number" (defArgs s_need_number) (defBody s_need_number) (defScope s_need_number) .none kV27 dc27 pm27 an27 cd27 ct27), sl27⟩) (c27 : PySem.W.codeIn K cd27 "need_number" = true) (k27 : PySem.W.keepIn K (.ref f27) = true)
    (a28 : PySem.W.nsIn K mainGlobals "all_of" = some (some (.ref f28))) (l28 : K.lookup f28 = some ⟨oc28, od28, .func (PySem.W.fnOf "all_of" "all_of" (defArgs s_all_of) (defBody s_all_of) (defScope s_all_of) .none kV28 dc28 pm28 an28 cd28 ct28), sl28⟩) (c28 : PySem.W.codeIn K cd28 "all_of" = true) (k28 : PySem.W.keepIn K (.ref f28) = true)
    (a29 : PySem.W.nsIn K mainGlobals "all_partings" = some (some (.ref f29))) (l29 : K.lookup f29 = some ⟨oc29, od29, .func (PySem.W.fnOf "all_partings" "all_partings" (defArgs s_all_partings) (defBody s_all_partings) (defScope s_all_partings) .none kV29 dc29 pm29 an29 cd29 ct29), sl29⟩) (c29 : PySem.W.codeIn K cd29 "all_partings" = true) (k29 : PySem.W.keepIn K (.ref f29) = true)
    (a30 : PySem.W.nsIn K mainGlobals "_law_folded" = some (some (.ref f30))) (l30 : K.lookup f30 = some ⟨oc30, od30, .func (PySem.W.fnOf "_law_folded" "_law_folded" (defArgs s__law_folded) (defBody s__law_folded) (defScope s__law_folded) .none kV30 dc30 pm30 an30 cd30 ct30), sl30⟩) (c30 : PySem.W.codeIn K cd30 "_law_folded" = true) (k30 : PySem.W.keepIn K (.ref f30) = true)
    (a31 : PySem.W.nsIn K mainGlobals "_law_begun" = some (some (.ref f31))) (l31 : K.lookup f31 = some ⟨oc31, od31, .func (PySem.W.fnOf "_law_begun" "_law_begun" (defArgs s__law_begun) (defBody s__law_begun) (defScope s__law_begun) .none kV31 dc31 pm31 an31 cd31 ct31), sl31⟩) (c31 : PySem.W.codeIn K cd31 "_law_begun" = true) (k31 : PySem.W.keepIn K (.ref f31) = true)
    (a32 : PySem.W.nsIn K mainGlobals "law" = some (some (.ref f32))) (l32 : K.lookup f32 = some ⟨oc32, od32, .func (PySem.W.fnOf "law" "law" (defArgs s_law) (defBody s_law) (defScope s_law) .none kV32 dc32 pm32 an32 cd32 ct32), sl32⟩) (c32 : PySem.W.codeIn K cd32 "law" = true) (k32 : PySem.W.keepIn K (.ref f32) = true)
    (z1 : PySem.W.nsIn K mainGlobals "all" = some none)
    (z2 : PySem.W.nsIn K mainGlobals "bool" = some none)
    (z3 : PySem.W.nsIn K mainGlobals "enumerate" = some none)
    (z4 : PySem.W.nsIn K mainGlobals "int" = some none)
    (z5 : PySem.W.nsIn K mainGlobals "isinstance" = some none)
    (z6 : PySem.W.nsIn K mainGlobals "len" = some none)
    (z7 : PySem.W.nsIn K mainGlobals "list" = some none)
    (z8 : PySem.W.nsIn K mainGlobals "max" = some none)
    (z9 : PySem.W.nsIn K mainGlobals "range" = some none)
    (z10 : PySem.W.nsIn K mainGlobals "repr" = some none)
    (z11 : PySem.W.nsIn K mainGlobals "tuple" = some none)
    (z12 : PySem.W.nsIn K mainGlobals "zip" = some none)
    (y1 : PySem.W.nsIn K mainGlobals "MOST_DOORS" = some (some (.int 60 t1)))
    (y2 : PySem.W.nsIn K mainGlobals "MOST_LISTED" = some (some (.int 8 t2)))
    : ∃ fd : FuncData, (∀ (s : Shared) (v : Value), BindsTo s fd ⟨[v], []⟩ [("_law_script", v)]) ∧ ∀ base : Heap, K.In base → base.Ns mainGlobals mg → FnV l.prog w K mg base CX0 6 fa fd ["_law_script"] (spLaw K 63) := by
  have e := hfa.symm.trans (PySem.W.mg_of X G a32)
  cases e
  have F__law_mixed := fun_mk (st := s__law_mixed) l1 c1 k1
  have m__law_mixed := PySem.W.mg_of X G a1
  have B__law_mixed := F__law_mixed.binds (ps := ["_law_cell", "_law_n"]) fun _ _ _ _ _ _ us hl => match us, hl with | [_, _], _ => rfl
  have F__law_draw := fun_mk (st := s__law_draw) l2 c2 k2
  have m__law_draw := PySem.W.mg_of X G a2
  have B__law_draw := F__law_draw.binds (ps := ["_law_m", "_law_limit"]) fun _ _ _ _ _ _ us hl => match us, hl with | [_, _], _ => rfl
  have F__law_numbered := fun_mk (st := s__law_numbered) l3 c3 k3
  have m__law_numbered := PySem.W.mg_of X G a3
  have B__law_numbered := F__law_numbered.binds (ps := ["_law_labels"]) fun _ _ _ _ _ _ us hl => match us, hl with | [_], _ => rfl
  have F__law_any_parting := fun_mk (st := s__law_any_parting) l4 c4 k4
  have m__law_any_parting := PySem.W.mg_of X G a4
  have B__law_any_parting := F__law_any_parting.binds (ps := ["_law_m", "_law_many"]) fun _ _ _ _ _ _ us hl => match us, hl with | [_, _], _ => rfl
  have F__law_coarser := fun_mk (st := s__law_coarser) l5 c5 k5
  have m__law_coarser := PySem.W.mg_of X G a5
  have B__law_coarser := F__law_coarser.binds (ps := ["_law_m", "_law_parting"]) fun _ _ _ _ _ _ us hl => match us, hl with | [_, _], _ => rfl
  have F_is_whole := fun_mk (st := s_is_whole) l6 c6 k6
  have m_is_whole := PySem.W.mg_of X G a6
  have B_is_whole := F_is_whole.binds (ps := ["value"]) fun _ _ _ _ _ _ us hl => match us, hl with | [_], _ => rfl
  have F_is_within := fun_mk (st := s_is_within) l7 c7 k7
  have m_is_within := PySem.W.mg_of X G a7
  have B_is_within := F_is_within.binds (ps := ["value", "low", "high"]) fun _ _ _ _ _ _ us hl => match us, hl with | [_, _, _], _ => rfl
  have F_need_parting := fun_mk (st := s_need_parting) l8 c8 k8
  have m_need_parting := PySem.W.mg_of X G a8
  have B_need_parting := F_need_parting.binds (ps := ["parting"]) fun _ _ _ _ _ _ us hl => match us, hl with | [_], _ => rfl
  have F_size_of := fun_mk (st := s_size_of) l9 c9 k9
  have m_size_of := PySem.W.mg_of X G a9
  have B_size_of := F_size_of.binds (ps := ["parting"]) fun _ _ _ _ _ _ us hl => match us, hl with | [_], _ => rfl
  have F_blocks_of := fun_mk (st := s_blocks_of) l10 c10 k10
  have m_blocks_of := PySem.W.mg_of X G a10
  have B_blocks_of := F_blocks_of.binds (ps := ["parting"]) fun _ _ _ _ _ _ us hl => match us, hl with | [_], _ => rfl
  have F_renumbered := fun_mk (st := s_renumbered) l11 c11 k11
  have m_renumbered := PySem.W.mg_of X G a11
  have B_renumbered := F_renumbered.binds (ps := ["labels"]) fun _ _ _ _ _ _ us hl => match us, hl with | [_], _ => rfl
  have F_parting_of := fun_mk (st := s_parting_of) l12 c12 k12
  have m_parting_of := PySem.W.mg_of X G a12
  have B_parting_of := F_parting_of.binds (ps := ["blocks"]) fun _ _ _ _ _ _ us hl => match us, hl with | [_], _ => rfl
  have F_is_parting := fun_mk (st := s_is_parting) l13 c13 k13
  have m_is_parting := PySem.W.mg_of X G a13
  have B_is_parting := F_is_parting.binds (ps := ["value"]) fun _ _ _ _ _ _ us hl => match us, hl with | [_], _ => rfl
  have F__law_like := fun_mk (st := s__law_like) l14 c14 k14
  have m__law_like := PySem.W.mg_of X G a14
  have B__law_like := F__law_like.binds (ps := ["_law_got", "_law_due"]) fun _ _ _ _ _ _ us hl => match us, hl with | [_, _], _ => rfl
  have F__law_hung := fun_mk (st := s__law_hung) l15 c15 k15
  have m__law_hung := PySem.W.mg_of X G a15
  have B__law_hung := F__law_hung.binds (ps := ["_law_parting", "_law_other"]) fun _ _ _ _ _ _ us hl => match us, hl with | [_, _], _ => rfl
  have F_need_fit := fun_mk (st := s_need_fit) l16 c16 k16
  have m_need_fit := PySem.W.mg_of X G a16
  have B_need_fit := F_need_fit.binds (ps := ["parting", "other"]) fun _ _ _ _ _ _ us hl => match us, hl with | [_, _], _ => rfl
  have F_is_finer := fun_mk (st := s_is_finer) l17 c17 k17
  have m_is_finer := PySem.W.mg_of X G a17
  have B_is_finer := F_is_finer.binds (ps := ["parting", "other"]) fun _ _ _ _ _ _ us hl => match us, hl with | [_, _], _ => rfl
  have F_coarsest_below := fun_mk (st := s_coarsest_below) l18 c18 k18
  have m_coarsest_below := PySem.W.mg_of X G a18
  have B_coarsest_below := F_coarsest_below.binds (ps := ["parting", "other"]) fun _ _ _ _ _ _ us hl => match us, hl with | [_, _], _ => rfl
  have F_joined_labels := fun_mk (st := s_joined_labels) l19 c19 k19
  have m_joined_labels := PySem.W.mg_of X G a19
  have B_joined_labels := F_joined_labels.binds (ps := ["parting", "other"]) fun _ _ _ _ _ _ us hl => match us, hl with | [_, _], _ => rfl
  have F_finest_above := fun_mk (st := s_finest_above) l20 c20 k20
  have m_finest_above := PySem.W.mg_of X G a20
  have B_finest_above := F_finest_above.binds (ps := ["parting", "other"]) fun _ _ _ _ _ _ us hl => match us, hl with | [_, _], _ => rfl
  have F__law_is_finer := fun_mk (st := s__law_is_finer) l21 c21 k21
  have m__law_is_finer := PySem.W.mg_of X G a21
  have B__law_is_finer := F__law_is_finer.binds (ps := ["_law_one", "_law_two"]) fun _ _ _ _ _ _ us hl => match us, hl with | [_, _], _ => rfl
  have F__law_order := fun_mk (st := s__law_order) l22 c22 k22
  have m__law_order := PySem.W.mg_of X G a22
  have B__law_order := F__law_order.binds (ps := ["_law_m", "_law_many"]) fun _ _ _ _ _ _ us hl => match us, hl with | [_, _], _ => rfl
  have F_need_doors := fun_mk (st := s_need_doors) l23 c23 k23
  have m_need_doors := PySem.W.mg_of X G a23
  have B_need_doors := F_need_doors.binds (ps := ["doors", "many"]) fun _ _ _ _ _ _ us hl => match us, hl with | [_, _], _ => rfl
  have F_parting_of_some := fun_mk (st := s_parting_of_some) l24 c24 k24
  have m_parting_of_some := PySem.W.mg_of X G a24
  have B_parting_of_some := F_parting_of_some.binds (ps := ["parting", "doors"]) fun _ _ _ _ _ _ us hl => match us, hl with | [_, _], _ => rfl
  have F_beside := fun_mk (st := s_beside) l25 c25 k25
  have m_beside := PySem.W.mg_of X G a25
  have B_beside := F_beside.binds (ps := ["parting", "other"]) fun _ _ _ _ _ _ us hl => match us, hl with | [_, _], _ => rfl
  have F__law_partings := fun_mk (st := s__law_partings) l26 c26 k26
  have m__law_partings := PySem.W.mg_of X G a26
  have B__law_partings := F__law_partings.binds (ps := ["_law_many"]) fun _ _ _ _ _ _ us hl => match us, hl with | [_], _ => rfl
  have F_need_number := fun_mk (st := s_need_number) l27 c27 k27
  have m_need_number := PySem.W.mg_of X G a27
  have B_need_number := F_need_number.binds (ps := ["value", "low", "high"]) fun _ _ _ _ _ _ us hl => match us, hl with | [_, _, _], _ => rfl
  have F_all_of := fun_mk (st := s_all_of) l28 c28 k28
  have m_all_of := PySem.W.mg_of X G a28
  have B_all_of := F_all_of.binds (ps := ["number"]) fun _ _ _ _ _ _ us hl => match us, hl with | [_], _ => rfl
  have F_all_partings := fun_mk (st := s_all_partings) l29 c29 k29
  have m_all_partings := PySem.W.mg_of X G a29
  have B_all_partings := F_all_partings.binds (ps := ["number"]) fun _ _ _ _ _ _ us hl => match us, hl with | [_], _ => rfl
  have F__law_folded := fun_mk (st := s__law_folded) l30 c30 k30
  have m__law_folded := PySem.W.mg_of X G a30
  have B__law_folded := F__law_folded.binds (ps := ["_law_script"]) fun _ _ _ _ _ _ us hl => match us, hl with | [_], _ => rfl
  have F__law_begun := fun_mk (st := s__law_begun) l31 c31 k31
  have m__law_begun := PySem.W.mg_of X G a31
  have B__law_begun := F__law_begun.binds (ps := ["_law_script"]) fun _ _ _ _ _ _ us hl => match us, hl with | [_], _ => rfl
  have F_law := fun_mk (st := s_law) l32 c32 k32
  have m_law := PySem.W.mg_of X G a32
  have T : Tx mg := ⟨PySem.W.mg_none_of X G z1, PySem.W.mg_none_of X G z2, PySem.W.mg_none_of X G z3, PySem.W.mg_none_of X G z4, PySem.W.mg_none_of X G z5, PySem.W.mg_none_of X G z6, PySem.W.mg_none_of X G z7, PySem.W.mg_none_of X G z8, PySem.W.mg_none_of X G z9, PySem.W.mg_none_of X G z10, PySem.W.mg_none_of X G z11, PySem.W.mg_none_of X G z12, ⟨_, PySem.W.mg_of X G y1⟩, ⟨_, PySem.W.mg_of X G y2⟩⟩
  refine ⟨PySem.W.fnOf "law" "law" (defArgs s_law) (defBody s_law) (defScope s_law) .none kV32 dc32 pm32 an32 cd32 ct32, fun s v => .of_eq rfl, fun base _ _ => ?_⟩
  have C__law_mixed : Fc l.prog w K mg base "_law_mixed" 1 f1 _ ["_law_cell", "_law_n"] [.dat, .dat] .dat fn__law_mixed := ⟨(ok__law_mixed (P := l.prog) (w := w) (base := base) T F__law_mixed ).mono (by decide), m__law_mixed, k1, B__law_mixed⟩
  have C__law_draw : FcM l.prog w K mg base "_law_draw" 3 f2 _ ["_law_m", "_law_limit"] [.dat] .dat fn__law_draw := ⟨(ok__law_draw (P := l.prog) (w := w) (base := base) T F__law_draw C__law_mixed).mono (by decide), m__law_draw, k2, B__law_draw⟩
  have C__law_numbered : Fc l.prog w K mg base "_law_numbered" 1 f3 _ ["_law_labels"] [.dat] .nd fn__law_numbered := ⟨(ok__law_numbered (P := l.prog) (w := w) (base := base) T F__law_numbered ).mono (by decide), m__law_numbered, k3, B__law_numbered⟩
  have C__law_any_parting : FcM l.prog w K mg base "_law_any_parting" 4 f4 _ ["_law_m", "_law_many"] [.dat] .nd fn__law_any_parting := ⟨(ok__law_any_parting (P := l.prog) (w := w) (base := base) T F__law_any_parting C__law_draw C__law_numbered).mono (by decide), m__law_any_parting, k4, B__law_any_parting⟩
  have C__law_coarser : FcM l.prog w K mg base "_law_coarser" 4 f5 _ ["_law_m", "_law_parting"] [.dat] .nd fn__law_coarser := ⟨(ok__law_coarser (P := l.prog) (w := w) (base := base) T F__law_coarser C__law_draw C__law_numbered).mono (by decide), m__law_coarser, k5, B__law_coarser⟩
  have C_is_whole : Fc l.prog w K mg base "is_whole" 1 f6 _ ["value"] [.dat] .dat fn_is_whole := ⟨(ok_is_whole (P := l.prog) (w := w) (base := base) T F_is_whole ).mono (by decide), m_is_whole, k6, B_is_whole⟩
  have C_is_within : Fc l.prog w K mg base "is_within" 2 f7 _ ["value", "low", "high"] [.dat, .dat, .dat] .dat fn_is_within := ⟨(ok_is_within (P := l.prog) (w := w) (base := base) T F_is_within C_is_whole).mono (by decide), m_is_within, k7, B_is_within⟩
  have C_need_parting : Fc l.prog w K mg base "need_parting" 3 f8 _ ["parting"] [.dat] .dat fn_need_parting := ⟨(ok_need_parting (P := l.prog) (w := w) (base := base) T F_need_parting C_is_within).mono (by decide), m_need_parting, k8, B_need_parting⟩
  have C_size_of : Fc l.prog w K mg base "size_of" 4 f9 _ ["parting"] [.dat] .dat fn_size_of := ⟨(ok_size_of (P := l.prog) (w := w) (base := base) T F_size_of C_need_parting).mono (by decide), m_size_of, k9, B_size_of⟩
  have C_blocks_of : Fc l.prog w K mg base "blocks_of" 5 f10 _ ["parting"] [.dat] .dat fn_blocks_of := ⟨(ok_blocks_of (P := l.prog) (w := w) (base := base) T F_blocks_of C_size_of).mono (by decide), m_blocks_of, k10, B_blocks_of⟩
  have C_renumberedS : Fc l.prog w K mg base "renumbered" 1 f11 _ ["labels"] [.dat] .dat fn_renumberedS := ⟨(ok_renumberedS (P := l.prog) (w := w) (base := base) T F_renumbered ).mono (by decide), m_renumbered, k11, B_renumbered⟩
  have C_parting_of : Fc l.prog w K mg base "parting_of" 2 f12 _ ["blocks"] [.dat] .dat fn_parting_of := ⟨(ok_parting_of (P := l.prog) (w := w) (base := base) T F_parting_of C_is_whole C_renumberedS).mono (by decide), m_parting_of, k12, B_parting_of⟩
  have C_is_parting : Fc l.prog w K mg base "is_parting" 4 f13 _ ["value"] [.dat] .dat fn_is_parting := ⟨(ok_is_parting (P := l.prog) (w := w) (base := base) T F_is_parting C_need_parting).mono (by decide), m_is_parting, k13, B_is_parting⟩
  have C__law_like : Fc l.prog w K mg base "_law_like" 1 f14 _ ["_law_got", "_law_due"] [.dat, .dat] .dat fn__law_like := ⟨(ok__law_like (P := l.prog) (w := w) (base := base) T F__law_like ).mono (by decide), m__law_like, k14, B__law_like⟩
  have C__law_hung : Fc l.prog w K mg base "_law_hung" 1 f15 _ ["_law_parting", "_law_other"] [.dat, .dat] .dat fn__law_hung := ⟨(ok__law_hung (P := l.prog) (w := w) (base := base) T F__law_hung ).mono (by decide), m__law_hung, k15, B__law_hung⟩
  have C__law_numberedT : Fc l.prog w K mg base "_law_numbered" 1 f3 _ ["_law_labels"] [.pl] .nd fn__law_numberedT := ⟨(ok__law_numberedT (P := l.prog) (w := w) (base := base) T F__law_numbered ).mono (by decide), m__law_numbered, k3, B__law_numbered⟩
  have C_need_fit : Fc l.prog w K mg base "need_fit" 4 f16 _ ["parting", "other"] [.dat, .dat] .dat fn_need_fit := ⟨(ok_need_fit (P := l.prog) (w := w) (base := base) T F_need_fit C_need_parting).mono (by decide), m_need_fit, k16, B_need_fit⟩
  have C_is_finer : Fc l.prog w K mg base "is_finer" 5 f17 _ ["parting", "other"] [.nd, .dat] .dat fn_is_finer := ⟨(ok_is_finer (P := l.prog) (w := w) (base := base) T F_is_finer C_need_parting C_need_fit).mono (by decide), m_is_finer, k17, B_is_finer⟩
  have C_renumberedT : Fc l.prog w K mg base "renumbered" 1 f11 _ ["labels"] [.pl] .dat fn_renumberedT := ⟨(ok_renumberedT (P := l.prog) (w := w) (base := base) T F_renumbered ).mono (by decide), m_renumbered, k11, B_renumbered⟩
  have C_coarsest_below : Fc l.prog w K mg base "coarsest_below" 5 f18 _ ["parting", "other"] [.dat, .dat] .dat fn_coarsest_below := ⟨(ok_coarsest_below (P := l.prog) (w := w) (base := base) T F_coarsest_below C_need_parting C_need_fit C_renumberedT).mono (by decide), m_coarsest_below, k18, B_coarsest_below⟩
  have C_renumbered : Fc l.prog w K mg base "renumbered" 1 f11 _ ["labels"] [.dat] .dat fn_renumbered := ⟨(ok_renumbered (P := l.prog) (w := w) (base := base) T F_renumbered ).mono (by decide), m_renumbered, k11, B_renumbered⟩
  have C_joined_labels : Fc l.prog w K mg base "joined_labels" 1 f19 _ ["parting", "other"] [.dat, .dat] .dat fn_joined_labels := ⟨(ok_joined_labels (P := l.prog) (w := w) (base := base) T F_joined_labels ).mono (by decide), m_joined_labels, k19, B_joined_labels⟩
  have C_finest_above : Fc l.prog w K mg base "finest_above" 5 f20 _ ["parting", "other"] [.dat, .dat] .dat fn_finest_above := ⟨(ok_finest_above (P := l.prog) (w := w) (base := base) T F_finest_above C_need_parting C_need_fit C_renumbered C_joined_labels).mono (by decide), m_finest_above, k20, B_finest_above⟩
  have C__law_is_finer : Fc l.prog w K mg base "_law_is_finer" 1 f21 _ ["_law_one", "_law_two"] [.dat, .dat] .dat fn__law_is_finer := ⟨(ok__law_is_finer (P := l.prog) (w := w) (base := base) T F__law_is_finer ).mono (by decide), m__law_is_finer, k21, B__law_is_finer⟩
  have C__law_order : FcM l.prog w K mg base "_law_order" 4 f22 _ ["_law_m", "_law_many"] [.dat] .dat fn__law_order := ⟨(ok__law_order (P := l.prog) (w := w) (base := base) T F__law_order C__law_draw).mono (by decide), m__law_order, k22, B__law_order⟩
  have C_need_doors : Fc l.prog w K mg base "need_doors" 3 f23 _ ["doors", "many"] [.dat, .dat] .dat fn_need_doors := ⟨(ok_need_doors (P := l.prog) (w := w) (base := base) T F_need_doors C_is_within).mono (by decide), m_need_doors, k23, B_need_doors⟩
  have C_parting_of_some : Fc l.prog w K mg base "parting_of_some" 4 f24 _ ["parting", "doors"] [.dat, .dat] .dat fn_parting_of_some := ⟨(ok_parting_of_some (P := l.prog) (w := w) (base := base) T F_parting_of_some C_need_parting C_need_doors C_renumbered).mono (by decide), m_parting_of_some, k24, B_parting_of_some⟩
  have C_beside : Fc l.prog w K mg base "beside" 5 f25 _ ["parting", "other"] [.dat, .dat] .dat fn_beside := ⟨(ok_beside (P := l.prog) (w := w) (base := base) T F_beside C_size_of C_need_parting).mono (by decide), m_beside, k25, B_beside⟩
  have C__law_partings : Fc l.prog w K mg base "_law_partings" 1 f26 _ ["_law_many"] [.dat] .dat fn__law_partings := ⟨(ok__law_partings (P := l.prog) (w := w) (base := base) T F__law_partings ).mono (by decide), m__law_partings, k26, B__law_partings⟩
  have C_need_number : Fc l.prog w K mg base "need_number" 3 f27 _ ["value", "low", "high"] [.dat, .dat, .dat] .dat fn_need_number := ⟨(ok_need_number (P := l.prog) (w := w) (base := base) T F_need_number C_is_within).mono (by decide), m_need_number, k27, B_need_number⟩
  have C_all_of : Fc l.prog w K mg base "all_of" 1 f28 _ ["number"] [.dat] .dat fn_all_of := ⟨(ok_all_of (P := l.prog) (w := w) (base := base) T F_all_of ).mono (by decide), m_all_of, k28, B_all_of⟩
  have C_all_partings : Fc l.prog w K mg base "all_partings" 4 f29 _ ["number"] [.dat] .dat fn_all_partings := ⟨(ok_all_partings (P := l.prog) (w := w) (base := base) T F_all_partings C_need_number C_all_of).mono (by decide), m_all_partings, k29, B_all_partings⟩
  have C__law_folded : Fc l.prog w K mg base "_law_folded" 1 f30 _ ["_law_script"] [.dat] .dat fn__law_folded := ⟨(ok__law_folded (P := l.prog) (w := w) (base := base) T F__law_folded ).mono (by decide), m__law_folded, k30, B__law_folded⟩
  have V__law_begun := ok__law_begun (P := l.prog) (w := w) (base := base) T F__law_begun C__law_folded
  exact ok_law hev T F_law V__law_begun m__law_begun k31 B__law_begun C__law_draw C__law_any_parting C__law_coarser C_need_parting C_size_of C_blocks_of C_parting_of C_is_parting C__law_like C__law_hung C__law_numbered C__law_numberedT C_is_finer C_coarsest_below C_finest_above C__law_is_finer C__law_order C_parting_of_some C_beside C__law_partings C_all_partings

end K01
open PySem PySem.W PyProof.Rows
set_option maxRecDepth 100000 in
set_option maxHeartbeats 0 in
theorem PySem.Challenge.cw_fittingdoors_k01_whole_partings_beside_o_holds : PySem.Challenge.rw_fittingdoors_k01_whole_partings_beside_o.Holds := by
  w_on; o_law; k_head; (case hw => w_witness2)
  k_fill
  refine VL.law_walk (l := PySem.Challenge.rw_fittingdoors_k01_whole_partings_beside_o) (n := 63) (k := 6) (x := "_law_script") rfl (by decide) rfl ⟨rfl, by decide, by decide⟩ (fun w h Y => PySem.W.kIn_of Y) (fun w => by rfl) ?F
  case F =>
    intro w mg fa h KX G hmg
    refine' K01.all_mk K01.law_ev KX G hmg ?a1 ?l1 ?c1 ?k1 ?a2 ?l2 ?c2 ?k2 ?a3 ?l3 ?c3 ?k3 ?a4 ?l4 ?c4 ?k4 ?a5 ?l5 ?c5 ?k5 ?a6 ?l6 ?c6 ?k6 ?a7 ?l7 ?c7 ?k7 ?a8 ?l8 ?c8 ?k8 ?a9 ?l9 ?c9 ?k9 ?a10 ?l10 ?c10 ?k10 ?a11 ?l11 ?c11 ?k11 ?a12 ?l12 ?c12 ?k12 ?a13 ?l13 ?c13 ?k13 ?a14 ?l14 ?c14 ?k14 ?a15 ?l15 ?c15 ?k15 ?a16 ?l16 ?c16 ?k16 ?a17 ?l17 ?c17 ?k17 ?a18 ?l18 ?c18 ?k18 ?a19 ?l19 ?c19 ?k19 ?a20 ?l20 ?c20 ?k20 ?a21 ?l21 ?c21 ?k21 ?a22 ?l22 ?c22 ?k22 ?a23 ?l23 ?c23 ?k23 ?a24 ?l24 ?c24 ?k24 ?a25 ?l25 ?c25 ?k25 ?a26 ?l26 ?c26 ?k26 ?a27 ?l27 ?c27 ?k27 ?a28 ?l28 ?c28 ?k28 ?a29 ?l29 ?c29 ?k29 ?a30 ?l30 ?c30 ?k30 ?a31 ?l31 ?c31 ?k31 ?a32 ?l32 ?c32 ?k32 ?z1 ?z2 ?z3 ?z4 ?z5 ?z6 ?z7 ?z8 ?z9 ?z10 ?z11 ?z12 ?y1 ?y2
    (case a1 => k_is); (case l1 => k_is); (case c1 => k_is); (case k1 => k_is); (case a2 => k_is); (case l2 => k_is); (case c2 => k_is); (case k2 => k_is); (case a3 => k_is); (case l3 => k_is); (case c3 => k_is); (case k3 => k_is); (case a4 => k_is); (case l4 => k_is); (case c4 => k_is); (case k4 => k_is); (case a5 => k_is); (case l5 => k_is); (case c5 => k_is); (case k5 => k_is); (case a6 => k_is); (case l6 => k_is); (case c6 => k_is); (case k6 => k_is); (case a7 => k_is); (case l7 => k_is); (case c7 => k_is); (case k7 => k_is); (case a8 => k_is); (case l8 => k_is); (case c8 => k_is); (case k8 => k_is); (case a9 => k_is); (case l9 => k_is); (case c9 => k_is); (case k9 => k_is); (case a10 => k_is); (case l10 => k_is); (case c10 => k_is); (case k10 => k_is); (case a11 => k_is); (case l11 => k_is); (case c11 => k_is); (case k11 => k_is); (case a12 => k_is); (case l12 => k_is); (case c12 => k_is); (case k12 => k_is); (case a13 => k_is); (case l13 => k_is); (case c13 => k_is); (case k13 => k_is); (case a14 => k_is); (case l14 => k_is); (case c14 => k_is); (case k14 => k_is); (case a15 => k_is); (case l15 => k_is); (case c15 => k_is); (case k15 => k_is); (case a16 => k_is); (case l16 => k_is); (case c16 => k_is); (case k16 => k_is); (case a17 => k_is); (case l17 => k_is); (case c17 => k_is); (case k17 => k_is); (case a18 => k_is); (case l18 => k_is); (case c18 => k_is); (case k18 => k_is); (case a19 => k_is); (case l19 => k_is); (case c19 => k_is); (case k19 => k_is); (case a20 => k_is); (case l20 => k_is); (case c20 => k_is); (case k20 => k_is); (case a21 => k_is); (case l21 => k_is); (case c21 => k_is); (case k21 => k_is); (case a22 => k_is); (case l22 => k_is); (case c22 => k_is); (case k22 => k_is); (case a23 => k_is); (case l23 => k_is); (case c23 => k_is); (case k23 => k_is); (case a24 => k_is); (case l24 => k_is); (case c24 => k_is); (case k24 => k_is); (case a25 => k_is); (case l25 => k_is); (case c25 => k_is); (case k25 => k_is); (case a26 => k_is); (case l26 => k_is); (case c26 => k_is); (case k26 => k_is); (case a27 => k_is); (case l27 => k_is); (case c27 => k_is); (case k27 => k_is); (case a28 => k_is); (case l28 => k_is); (case c28 => k_is); (case k28 => k_is); (case a29 => k_is); (case l29 => k_is); (case c29 => k_is); (case k29 => k_is); (case a30 => k_is); (case l30 => k_is); (case c30 => k_is); (case k30 => k_is); (case a31 => k_is); (case l31 => k_is); (case c31 => k_is); (case k31 => k_is); (case a32 => k_is); (case l32 => k_is); (case c32 => k_is); (case k32 => k_is); (case z1 => k_is); (case z2 => k_is); (case z3 => k_is); (case z4 => k_is); (case z5 => k_is); (case z6 => k_is); (case z7 => k_is); (case z8 => k_is); (case z9 => k_is); (case z10 => k_is); (case z11 => k_is); (case z12 => k_is); (case y1 => k_is); (case y2 => k_is)
